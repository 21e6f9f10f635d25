import PyProof.Rows.All
import Wide.All
import OpenK.AllK
import Wide.FinOn
import PyProof.Rows.SetObj
import HandS.ForMost
import HandS.Set
import HandS.SetFor
import HandS.SetKeys
import HandS.Strs
import PyProof.Rows.SortShellAny
import HandS.SetBool
import HandS.TupSets
import HandS.TupLe
import HandS.SortOrd
import PyProof.ListStr
import KE.GoesMore
import HandS.Iter
import HandS.Walk
import HandS.Sort
import PyProof.DictMoreH
import HandS.OwnEq
import PyProof.InstNe
import PyProof.Rows.StrMeet
import PyProof.Rows.TmSorted
import HandS.DictTup
import HandS.DictComp
import HandS.More
import HandS.Conv
import KE.KeyNested
import KE.KExcIs
import PyProof.ReprRoads
import PyProof.ReprLen
import HandS.Evl
import HandS.HeadEnd
import HandS.Defaults
import KE.DataCmp
import KE.DataMinMax
import HandS.SortKw
import HandS.Wide
import HandS.WideBits
import HandS.Flow
import HandS.Style
import HandS.IsInst
import HandS.Head0
import HandS.Head1
import HandS.Head2
import HandS.HeadHook2
import HandS.HeadHook3
import HandS.HeadHook4
import HandS.Deep
import HandS.NoneIn
import PySem.Challenge.RW_everpurse_k28_across_dry_rounds_and_pape
set_option Elab.async false
set_option linter.all false
set_option maxRecDepth 100000
set_option maxHeartbeats 0
/-! sets of texts: set(xs), sorted of it, its length -/
namespace SX
open PySem PySem.Spec PyProof.Rows L2
def tx (e : Int × Value) : Str := match e.2 with
  | .str x _ => x
  | _ => Str.empty
def GoodT (P : Program) (w : World) (e : Int × Value) : Prop := ∃ x tk, e.2 = Value.str x tk ∧ e.1 = (PySem.strKind P w).hash x
/-- at a: the set of just the texts of L -/
structure TSet (P : Program) (w : World) (h : Heap) (a : Addr) (L : List Str) : Prop where
  nd : L.Nodup
  ex : ∃ (o : Obj) (es : Array (Int × Value)) (ep : Nat) (t : SetTable), h.get? a = some o ∧ o.ExactSet ∧ o.data = .set es ep t ∧ (∀ e ∈ es.toList, GoodT P w e) ∧ (es.toList.map tx).Perm L ∧ L.length < scanBound ∧ t.fits es.size = true ∧ Ris t.place.toList ∧
    (w.params.followText "set-order" = true ∨ t.led = true)
/-- a text put in -/
def ins (L : List Str) (x : Str) : List Str := if x ∈ L then L else x :: L
def ded (xs : List Str) : List Str := xs.foldl ins []
theorem mem_ins {L : List Str} {x y : Str} : y ∈ ins L x ↔ y ∈ L ∨ y = x := by
  unfold ins
  by_cases c : x ∈ L
  · rw [if_pos c]
    exact ⟨.inl, fun z => z.elim id fun e => e ▸ c⟩
  · rw [if_neg c, List.mem_cons]
    exact Or.comm
theorem mem_ded (xs : List Str) (y : Str) : y ∈ ded xs ↔ y ∈ xs := by
  have k : ∀ (xs L : List Str), y ∈ xs.foldl ins L ↔ y ∈ L ∨ y ∈ xs := fun xs => by
    induction xs with
    | nil => intro L; simp
    | cons x xs ih =>
      intro L
      rw [List.foldl_cons, ih, mem_ins, List.mem_cons, or_assoc]
  rw [ded, k]
  simp
theorem len_ded {xs : List Str} (h : xs.Nodup) : (ded xs).length = xs.length := by
  have k : ∀ (xs L : List Str), xs.Nodup → (∀ x ∈ xs, x ∉ L) → (xs.foldl ins L).length = L.length + xs.length := fun xs => by
    induction xs with
    | nil => intro L _ _; rfl
    | cons x xs ih =>
      intro L hn hd
      obtain ⟨h1, h2⟩ := List.nodup_cons.mp hn
      have hx : ins L x = x :: L := if_neg (hd x List.mem_cons_self)
      rw [List.foldl_cons, ih _ h2 (fun y hy z => ?_), hx, List.length_cons, List.length_cons]
      · omega
      · rcases mem_ins.mp z with q | q
        · exact hd y (List.mem_cons_of_mem _ hy) q
        · exact h1 (q ▸ hy)
  have := k xs [] h fun _ _ => List.not_mem_nil
  rw [ded, this]
  simp
theorem ded_next {xs : List Str} {i : Nat} {x : Str} (h : xs[i]? = some x) : ded (xs.take (i + 1)) = ins (ded (xs.take i)) x := by
  rw [List.take_add_one, h]
  unfold ded
  rw [List.foldl_append]
  rfl
theorem ins_le (L : List Str) (x : Str) : (ins L x).length ≤ L.length + 1 := by
  unfold ins
  split
  · omega
  · exact Nat.le_refl _
theorem ded_le (xs : List Str) : (ded xs).length ≤ xs.length := by
  have k : ∀ (xs L : List Str), (xs.foldl ins L).length ≤ L.length + xs.length := fun xs => by
    induction xs with
    | nil => intro L; exact Nat.le_refl _
    | cons x xs ih =>
      intro L
      have a := ih (ins L x)
      have b := ins_le L x
      rw [List.foldl_cons, List.length_cons]
      omega
  have := k xs []
  simpa [ded] using this
section
variable {P : Program} {w : World} {h h' : Heap} {a : Addr} {L : List Str}
theorem TSet.at (R : TSet P w h a L) (k : ∀ o, h.get? a = some o → h'.get? a = some o) : TSet P w h' a L := by
  obtain ⟨nd, o, es, ep, t, ho, r⟩ := R
  exact ⟨nd, o, es, ep, t, k o ho, r⟩
theorem elems {l : List (Int × Value)} (g : ∀ e ∈ l, GoodT P w e) : ElemsOf (PySem.strKind P w) l := fun e he => by
  obtain ⟨x, tk, h1, h2⟩ := g e he
  exact ⟨⟨x, by rw [h1]; exact strKind_is P w x tk, h2⟩, by rw [h1] <;> rfl⟩
theorem is_tx {e : Int × Value} (g : GoodT P w e) (x : Str) : (PySem.strKind P w).is x e.2 = true ↔ tx e = x := by
  obtain ⟨y, tk, h1, _⟩ := g
  unfold tx
  rw [h1]
  have q := KeyKind.is_eq_decide (strKind_is P w y tk) x
  rw [q, decide_eq_true_eq]
  exact eq_comm
end
section
variable {P : Program} {w : World} {A : Around} {E : Value → Shared → Prop} {s : Shared} {a : Addr} {L : List Str}
theorem add_tail {g : Bool → Sem Unit} (hg : ∀ (b : Bool) (s₁ : Shared) (Q' : Unit → Shared → Prop), Q' () s₁ → wpAny (model P w) A (g b) Q' E s₁) {o : Obj} {es es1 : Array (Int × Value)} {ep : Nat} {t t2 : SetTable} {M : List Str}
    (ho : s.heap.get? a = some o) (hex : o.ExactSet) (hd : o.data = .set es ep t) (nd : M.Nodup) (good : ∀ e ∈ es1.toList, GoodT P w e) (pm : (es1.toList.map tx).Perm M) (few : M.length < scanBound) (fit : t2.fits es1.size = true)
    (ris : Ris t2.place.toList) (led : w.params.followText "set-order" = true ∨ t2.led = true) {wasDummy : Bool} {R : Option Bool → Shared → Prop} (hR : ∀ h', Heap.SameBut a s.heap h' → TSet P w h' a M → R (some true) { s with heap := h' }) :
    wpAny (model P w) A (do
        storeSet a es1 t2
        if (!wasDummy && t2.tooFull) = true then do
            g (relayAll t2 es1 (SetTable.grown es1.size)).2.2
            storeSet a (relayAll t2 es1 (SetTable.grown es1.size)).1 (relayAll t2 es1 (SetTable.grown es1.size)).2.1
            pure (some true)
          else pure (some true)) R E s := by
  have size1 : es1.size = M.length := by rw [← pm.length_eq, List.length_map, Array.length_toList]
  refine wpAny_bind (wpAny_storeSet_of ho hd ?_ (fits_of_scanBound (by rw [size1]; exact few)))
  have at1 := store_at (es' := es1) (t' := t2) ho hd
  have but1 := Heap.SameBut.update s.heap a (Obj.putSet es1 t2)
  split
  · have p2 := relayAll_perm t2 es1 (SetTable.grown es1.size)
    have f2 := relayAll_fits t2 es1 (SetTable.grown es1.size)
    have r2 := relayAll_ris t2 es1 (SetTable.grown es1.size)
    have l2 := relayAll_led t2 es1 (SetTable.grown es1.size)
    generalize relayAll t2 es1 (SetTable.grown es1.size) = Z at p2 f2 r2 l2 ⊢
    obtain ⟨es2, t3, gave⟩ := Z
    dsimp only at p2 f2 r2 l2 ⊢
    have size2 : es2.size = M.length := by rw [← size1, ← Array.length_toList, p2.length_eq, Array.length_toList]
    refine wpAny_bind (hg _ _ _ ?_)
    refine wpAny_bind (wpAny_storeSet_of at1 rfl ?_ (fits_of_scanBound (by rw [size2]; exact few)))
    have at2 := store_at (es' := es2) (t' := t3) at1 rfl
    refine wpAny_pure (hR _ (but1.trans (Heap.SameBut.update _ a _)) ⟨nd, _, es2, _, t3, at2, hex, rfl, fun e he => good e (p2.mem_iff.mp he), (p2.map tx).trans pm, few, f2, r2, led.imp id fun z => by rw [l2]; exact z⟩)
  · exact wpAny_pure (hR _ but1 ⟨nd, _, es1, _, t2, at1, hex, rfl, good, pm, few, fit, ris, led⟩)
theorem add_hashed {x : Str} {tk : Tok} {Q : Bool → Shared → Prop} (R : TSet P w s.heap a L) (room : L.length + 1 < scanBound)
    (hQ : ∀ b h', Heap.SameBut a s.heap h' → TSet P w h' a (ins L x) → Q b { s with heap := h' }) : wpAny (model P w) A (setAddHashed a (.str x tk) ((PySem.strKind P w).hash x)) Q E s := by
  obtain ⟨nd, o, es, ep, t, ho, hex, hd, good, pm, few, fit, ris, led⟩ := R
  have key : (PySem.strKind P w).is x (.str x tk) = true := strKind_is P w x tk
  have scan : (Value.str x tk).scannable = true := rfl
  have hel : ElemsOf (PySem.strKind P w) es.toList := elems good
  have size0 : es.size = L.length := by rw [← pm.length_eq, List.length_map, Array.length_toList]
  have mem : x ∈ L ↔ ∃ e ∈ es.toList, (PySem.strKind P w).is x e.2 = true := by
    rw [← pm.mem_iff, List.mem_map]
    exact ⟨fun ⟨e, he, q⟩ => ⟨e, he, (is_tx (good e he) x).2 q⟩, fun ⟨e, he, q⟩ => ⟨e, he, (is_tx (good e he) x).1 q⟩⟩
  unfold setAddHashed setAddHashedIn
  refine wpAny_holding (wpAny_bind (wpAny_setState_of ho hd fit ?_))
  dsimp only
  rw [byScan_of scan (by rw [size0]; exact few) hel]
  simp only [↓reduceIte]
  unfold setAddByScan
  refine wpAny_bind (wpAny_bind (wpAny_rule (wpAny_bind (wpAny_setScan_of key ho hd fit hel ?_))))
  cases hfi : List.findIdx? (fun e => (PySem.strKind P w).is x e.2) es.toList with
  | some j =>
    dsimp only
    obtain ⟨hj, pj, _⟩ := List.findIdx?_eq_some_iff_getElem.mp hfi
    have hin : x ∈ L := mem.2 ⟨es.toList[j], List.getElem_mem hj, pj⟩
    refine wpAny_pure (wpAny_pure (hQ _ s.heap (Heap.SameBut.refl a s.heap) ?_))
    rw [show ins L x = L from if_pos hin]
    exact ⟨nd, o, es, ep, t, ho, hex, hd, good, pm, few, fit, ris, led⟩
  | none =>
    dsimp only
    have hout : x ∉ L := fun z => by
      obtain ⟨e, he, q⟩ := mem.1 z
      have c := List.findIdx?_eq_none_iff.mp hfi e he
      rw [q] at c
      cases c
    have eins : ins L x = x :: L := if_neg hout
    have way : ∀ (b : Bool) {s₁ : Shared} {Q' : Unit → Shared → Prop}, Q' () s₁ → wpAny (model P w) A (match b with | true => rule "set.scan.the-table-gave-way" | false => pure ()) Q' E s₁ :=
      fun b s₁ Q' q => by cases b <;> first | exact wpAny_pure q | exact wpAny_rule q
    have p1 := layNew_perm t es ((PySem.strKind P w).hash x) (.str x tk)
    have f1 := layNew_fits t es ((PySem.strKind P w).hash x) (.str x tk)
    have r1 := layNew_ris t es ((PySem.strKind P w).hash x) (.str x tk) ris
    have l1 := layNew_led t es ((PySem.strKind P w).hash x) (.str x tk)
    generalize layNew t es ((PySem.strKind P w).hash x) (.str x tk) = Z at p1 f1 r1 l1 ⊢
    obtain ⟨es1, t1, wasDummy, gave⟩ := Z
    dsimp only at p1 f1 r1 l1 ⊢
    rw [Array.toList_push] at p1
    have pc : es1.toList.Perm (((PySem.strKind P w).hash x, Value.str x tk) :: es.toList) := p1.trans (List.perm_append_singleton _ _)
    have pk : (es1.toList.map tx).Perm (x :: L) := (pc.map tx).trans (List.Perm.cons x pm)
    have good1 : ∀ e ∈ es1.toList, GoodT P w e := fun e he => (List.mem_cons.mp (pc.mem_iff.mp he)).elim (fun z => z ▸ ⟨x, tk, rfl, rfl⟩) (good e)
    have nd1 : (x :: L).Nodup := List.nodup_cons.mpr ⟨hout, nd⟩
    have few1 : (x :: L).length < scanBound := room
    have led1 : w.params.followText "set-order" = true ∨ t1.led = true := led.imp id fun z => by rw [l1]; exact z
    rw [eins] at hQ
    refine wpAny_bind (way _ ?_)
    split
    · refine wpAny_bind ?_
      rw [hashByValue_scannable 8 scan]
      refine wpAny_pure ?_
      refine add_tail ?_ ho hex hd nd1 good1 pk few1 ?_ ?_ ?_ ?_
      · intro b s₁ Q' q; cases b <;> first | exact wpAny_pure q | exact wpAny_rule q
      · first | (split <;> first | exact f1 | exact SetTable.fits_plain_off f1) | exact f1
      · first | (split <;> exact r1) | exact r1
      · first | (split <;> exact led1) | exact led1
      · intro h' sb r; dsimp only; exact wpAny_pure (hQ _ h' sb r)
    · refine wpAny_bind (wpAny_pure ?_)
      simp only [↓reduceIte]
      refine add_tail ?_ ho hex hd nd1 good1 pk few1 f1 r1 led1 ?_
      · intro b s₁ Q' q; cases b <;> first | exact wpAny_pure q | exact wpAny_rule q
      · intro h' sb r; dsimp only; exact wpAny_pure (hQ _ h' sb r)
end
end SX
namespace SX
open PySem PySem.Spec PyProof.Rows L2
section
variable {P : Program} {w : World} {A : Around} {E : Value → Shared → Prop} {s : Shared}
abbrev freshSet (w : World) : Obj := { cls := .type "set", dict := none, data := .set #[] 0 (.fresh 0 0 (!w.params.followText "set-order")) }
theorem new_at {h : Heap} {a : Addr} (ho : h.get? a = some (freshSet w)) : TSet P w h a [] :=
  ⟨List.nodup_nil, _, #[], 0, _, ho, ⟨rfl, rfl, rfl⟩, rfl, (fun e he => by simp at he), (by simp), (by decide), (by rfl), List.Pairwise.nil, by
    show _ ∨ (!w.params.followText "set-order") = true
    cases w.params.followText "set-order"
    · exact .inr rfl
    · exact .inl rfl⟩
theorem update_loop {I : Addr} {fp wr : List Addr} {G : Array GenState → Array GenState → Prop} {n : Nat} {Pv : Nat → Value → Prop} {St : Nat → Shared → Prop} {R : Result → Shared → Prop} (W : WalksS P w A.in1 I fp wr G n Pv St) (S : Addr) (out : S ∉ fp) (xs : List Str)
    (hn : n = xs.length) (few : xs.length + 1 < scanBound) (val : ∀ i v, Pv i v → ∃ x t, xs[i]? = some x ∧ v = .str x t) : ∀ (k i : Nat) (s : Shared), n - i = k → i ≤ n → St i s → TSet P w s.heap S (ded (xs.take i)) →
      (∀ s', Moved (S :: wr) G s s' → TSet P w s'.heap S (ded xs) → R (.ok (.ret .none)) s') → codeAny (model P w) A (.builtin "set.update.loop" ⟨[.ref S, .ref I], []⟩) R s := by
  have out2 : S ∉ wr := fun h => out (W.sub _ h)
  have more : ∀ b ∈ wr, b ∈ S :: wr := fun b hb => List.mem_cons_of_mem _ hb
  intro k
  induction k with
  | zero =>
    intro i s hk hi hst hS hR
    have e : xs.take i = xs := List.take_of_length_le (by omega)
    have ein : i = n := by omega
    subst ein
    rw [e] at hS
    refine codeAny_builtin F.entry_set_update_loop ?_
    rw [Around.under_plainId F.plain_set_update_loop _]
    show wpAny _ A.in1 (pyNext (.ref I) >>= _) _ _ s
    refine wpAny_bind (W.done s _ _ hst fun s' hm => ?_)
    exact wpAny_pure (hR s' (hm.mono more) (hS.at fun o q => hm.heap S o out2 q))
  | succ k ih =>
    intro i s hk hi hst hS hR
    have lt : i < n := by omega
    refine codeAny_builtin F.entry_set_update_loop ?_
    rw [Around.under_plainId F.plain_set_update_loop _]
    show wpAny _ A.in1 (pyNext (.ref I) >>= _) _ _ s
    refine wpAny_bind (W.item i s _ _ lt hst fun v s' hP hst' hm => ?_)
    obtain ⟨x, t, hx, rfl⟩ := val i v hP
    have here : TSet P w s'.heap S (ded (xs.take i)) := hS.at fun o q => hm.heap S o out2 q
    have small : (ded (xs.take i)).length + 1 < scanBound := by
      have q := ded_le (xs.take i)
      rw [List.length_take] at q
      omega
    show wpAny _ A.in1 (holding [Value.str x t] (setAdd S (.str x t)) >>= _) _ _ s'
    refine wpAny_bind (wpAny_holding ?_)
    unfold setAdd
    refine wpAny_holding (wpAny_bind ((PySem.strKind P w).pyHash (k := x) (strKind_is _ _ _ _) ?_))
    refine add_hashed (s := { s' with toks := s'.toks + 1 }) here small fun b h' but put => ?_
    rw [← ded_next hx] at put
    refine wpAny_pure ⟨plainId_quiet F.plain_set_update_loop _, ih (i + 1) _ (by omega) lt (W.frame _ s' _ _ hst' (Nat.le_succ _) fun c hc o q => ?_) put fun s'' hm2 last => ?_⟩
    · rw [but.2 c fun z : c = S => out (z ▸ hc)]
      exact q
    · refine hR s'' (Moved.trans W.gtrans ((hm.mono more).then_heap (Nat.le_succ _) fun c o hc q => ?_) hm2) last
      rw [but.2 c fun z : c = S => hc (z ▸ List.mem_cons_self)]
      exact q
theorem call_set {l : Addr} {items : Array Value} (xs : List Str) {Q : Value → Shared → Prop} (hh : A.handled = none) (hl : s.heap.IsList l items) (hit : StrsAre items.toList xs) (few : xs.length + 1 < scanBound)
    (h : ∀ (h' : Heap) (tk : Nat), TSet P w h' s.heap.objs.size (ded xs) → (∀ b o, s.heap.get? b = some o → h'.get? b = some o) → Q (.ref s.heap.objs.size) { s with heap := h', toks := tk }) : wpAny (model P w) A (call (.type "set") [.ref l]) Q E s := by
  have size : items.size = xs.length := by
    have q := StrsAre.len_eq hit
    rwa [Array.length_toList] at q
  obtain ⟨c, tl, hmro⟩ := F.called_set.mro
  have made := F.called_set.made
  have sub := F.called_set.sub
  refine wpAny_call (codeAny_of_tree ?_)
  show wpAny _ _ (callAny (.type "set") _) _ _ _
  refine wpAny_pure ⟨Code.quiet_builtin _ (by decide +kernel), codeAny_builtin F.entry_type_call ?_⟩
  rw [Around.under_plain (weight_type_call_type "set" [.ref l] []) rfl]
  have n1 := F.called_set.notType
  have n2 := F.called_set.canCreate
  have n3 := F.typeCall_set_1 (.ref l)
  repeat (any_goals (first | assumption | wp_step))
  refine codeAny_mono (code_set_led1 (.ref l) (E := E) (Q₁ := fun obj s₁ => obj = .ref s.heap.objs.size ∧ s₁ = { s with heap := s.heap.push (freshSet w) }) ⟨rfl, rfl⟩) fun r s₁ hr => ?_
  cases r with
  | error e => exact hr
  | ok fl =>
    cases fl with
    | ret obj =>
      obtain ⟨rfl, rfl⟩ := hr
      have atS : (s.heap.push (freshSet w)).get? s.heap.objs.size = some (freshSet w) := Heap.get?_push_size _ rfl
      have tyS : Shared.TypeIs { s with heap := s.heap.push (freshSet w) } (.ref s.heap.objs.size) "set" := ⟨_, atS, rfl⟩
      have look := F.called_set.init.lookup
      have bind := F.called_set.init.bind (.ref s.heap.objs.size)
      repeat (any_goals (first | assumption | wp_step))
      refine codeAny_mono (codeAny_call_builtin (R := wants (fun r s₂ => r = .none ∧ ∃ h' tk, s₂ = { s with heap := h', toks := tk } ∧ TSet P w h' s.heap.objs.size (ded xs) ∧ (∀ b o, s.heap.get? b = some o → h'.get? b = some o)) E) F.called_set.init.plain F.entry_set_init (check_set_init_1 tyS ?_)) fun r₂ s₂ hr₂ => ?_
      · obtain ⟨ol, hol, hcl, nl, hdl⟩ := hl
        obtain ⟨ocls, odict, odata, oslots⟩ := ol
        simp only at hcl hdl
        subst hcl hdl
        have hol2 : (s.heap.push (freshSet w)).get? l = some { cls := .type "list", dict := odict, data := .seq items nl, slots := oslots } := Heap.get?_push_of_some _ hol
        have b1 := F.sub_list_set
        have b2 := F.sub_list_frozenset
        have b3 : (Value.type "list" == Value.type "dict") = false := by decide
        have lst : (s.heap.push (freshSet w)).IsList l items := ⟨_, hol2, rfl, nl, rfl⟩
        unfold Builtin.«set.__init__» noKeywords Builtin.Frozenset.updateFrom
        generalize hPI : pyIter = PI
        wp_walk
        subst hPI
        refine wpAny_pyIter_list lst ?_
        refine wpAny_bind (wpAny_runValue ?_)
        have low : l < s.heap.objs.size := Heap.lt_size hol
        have calm : A.in1.in1.in1.handled = none := by simp [hh]
        have neI : l ≠ (s.heap.push (freshSet w)).objs.size := by rw [Heap.size_push]; exact Nat.ne_of_lt (Nat.lt_succ_of_lt low)
        have outS : s.heap.objs.size ∉ [(s.heap.push (freshSet w)).objs.size, l] := by
          rw [Heap.size_push]
          simp only [List.mem_cons, List.mem_singleton, List.not_mem_nil, or_false, not_or]
          exact ⟨Nat.ne_of_lt (Nat.lt_succ_self _), Nat.ne_of_gt low⟩
        have val : ∀ (i : Nat) (v : Value), items[i]? = some v → ∃ x t, xs[i]? = some x ∧ v = .str x t := fun i v hv => by
          have hi : i < xs.length := by rw [← size]; exact (Array.getElem?_eq_some_iff.mp hv).1
          obtain ⟨t, e⟩ := SS.strs_at hit i v (by rw [Array.getElem?_toList]; exact hv)
          exact ⟨xs[i], t, List.getElem?_eq_getElem hi, by rw [e, List.getD_eq_getElem?_getD, List.getElem?_eq_getElem hi] <;> rfl⟩
        refine update_loop ((Walks.list calm _ l neI items).toS) s.heap.objs.size outS xs size few val (items.size - 0) 0 _ (by omega) (Nat.zero_le _) ⟨⟨_, Heap.get?_push_size _ rfl, rfl, rfl⟩, (lst.push _)⟩ (new_at (Heap.get?_push_of_some _ atS)) ?_
        intro s' hm put
        obtain ⟨h', g2, d', tk', os'⟩ := s'
        have eg : g2 = s.gens := hm.gens
        have ed : d' = s.drawn := hm.drawn
        have eo : os' = s.os := hm.os
        subst eg ed eo
        show wpAny _ _ _ _ _ _
        refine wpAny_pure ?_
        show wpAny _ _ (ret Value.none) _ _ _
        refine wpAny_pure ⟨rfl, h', tk', rfl, put, fun b o q => ?_⟩
        have b0 : b < s.heap.objs.size := Heap.lt_size q
        refine hm.heap b o ?_ (Heap.get?_push_of_some _ (Heap.get?_push_of_some _ q))
        simp only [List.mem_cons, List.mem_singleton, List.not_mem_nil, or_false, not_or]
        exact ⟨Nat.ne_of_lt b0, by rw [Heap.size_push]; exact Nat.ne_of_lt (Nat.lt_succ_of_lt b0)⟩
      · cases r₂ with
        | error e => exact hr₂
        | ok fl₂ =>
          cases fl₂ with
          | ret r =>
            obtain ⟨rfl, h', tk, rfl, put, keep⟩ := hr₂
            repeat (any_goals (first | assumption | wp_step))
            exact h _ _ put keep
          | _ => exact hr₂.elim
    | _ => exact hr.elim
end
end SX
namespace SX
open PySem PySem.Spec PyProof.Rows L2
theorem strs_tx (P : Program) (w : World) : ∀ l : List (Int × Value), (∀ e ∈ l, GoodT P w e) → StrsAre (l.map (·.2)) (l.map tx)
  | [], _ => .nil
  | e :: l, g => by
    obtain ⟨x, tk, h1, _⟩ := g e List.mem_cons_self
    have q : tx e = x := by
      unfold tx
      rw [h1]
    rw [List.map_cons, List.map_cons, q, h1]
    exact .cons x tk (strs_tx P w l fun u hu => g u (List.mem_cons_of_mem _ hu))
section
variable {P : Program} {w : World} {A : Around} {E : Value → Shared → Prop} {s : Shared} {a : Addr} {L : List Str}
/-- sorted(a set of texts) -/
theorem sorted_tset {Q : Value → Shared → Prop} (R : TSet P w s.heap a L) (hh : A.handled = none)
    (hQ : ∀ s' p (out : Array Value) (c : Nat) (ys : List Str), (∀ b o, s.heap.get? b = some o → s'.heap.get? b = some o) → s'.gens = s.gens → s'.os = s.os → s.heap.objs.size ≤ p → s'.heap.get? p = some (seqObj "list" out c) → StrsAre out.toList ys → sortedS ys = true → ys.Perm L → Q (.ref p) s') :
    wpAny (model P w) A (call (.builtin "sorted") [.ref a]) Q E s := by
  obtain ⟨nd, o, es, ep, t, ho, hex, hd, good, pm, few, fit, ris, led⟩ := R
  have size0 : es.size = L.length := by rw [← pm.length_eq, List.length_map, Array.length_toList]
  refine Calls.call_function_entry kind_sorted plain_sorted entry_sorted (args_sorted1 _) ?_
  unfold Builtin.«sorted»
  refine wpAny_bind (m := checkCount "sorted" 1 1 _) (wpAny_pure ?_)
  refine wpAny_bind (collect_set (A := A.in1) hh ⟨o, ho, hex.1, hd⟩ fit (by rw [size0]; exact few) ris led fun s1 vs k1 hz g1 o1 p1 => ?_)
  have len : vs.length = L.length := by rw [p1.length_eq, List.length_map, Array.length_toList, size0]
  have room : vs.length ≤ sizeLine := by rw [len]; exact fits_of_scanBound few
  obtain ⟨zs, hS, pz⟩ : ∃ zs : List Str, StrsAre vs zs ∧ zs.Perm L := by
    obtain ⟨l, e1, p2⟩ : ∃ l : List (Int × Value), l.map (·.2) = vs ∧ l.Perm es.toList := by
      have k : ∀ (vs : List Value) (l : List (Int × Value)), vs.Perm (l.map (·.2)) → ∃ l' : List (Int × Value), l'.map (·.2) = vs ∧ l'.Perm l := by
        intro vs
        induction vs with
        | nil =>
          intro l h
          have z : l = [] := by simpa using h.nil_eq.symm
          exact ⟨[], rfl, by rw [z]⟩
        | cons v vs ih =>
          intro l h
          obtain ⟨e, he, q⟩ := List.mem_map.mp (h.mem_iff.mp List.mem_cons_self)
          have h2 : (v :: vs).Perm (v :: (l.erase e).map (·.2)) := by
            have h3 := (List.perm_cons_erase he).map (·.2)
            rw [List.map_cons, q] at h3
            exact h.trans h3
          obtain ⟨l', e1, p2⟩ := ih (l.erase e) h2.cons_inv
          exact ⟨e :: l', by rw [List.map_cons, e1, q], (List.Perm.cons e p2).trans (List.perm_cons_erase he).symm⟩
      exact k vs es.toList p1
    refine ⟨l.map tx, ?_, (p2.map tx).trans pm⟩
    rw [← e1]
    exact strs_tx P w l fun e he => good e (p2.mem_iff.mp he)
  refine wpAny_bind (wpAny_newList ?_ room)
  have atL : (s1.heap.push (seqObj "list" vs.toArray 0)).get? s1.heap.objs.size = some (seqObj "list" vs.toArray 0) := Heap.get?_push_size _ rfl
  refine wpAny_bind (wpAny_holding (wpAny_call_entry slot_list_sort ⟨_, atL, rfl⟩ entry_list_sort (list_sort_treeKAny strKind_oneLt atL hS.keysOf (fun v₁ v₂ rest e => keyKind_strs (by rw [← e]; exact hS)) room fun st' hp hs => ⟨_, rfl, ?_⟩) (args_list_sort _)))
  obtain ⟨ys, y1, y2, y3⟩ := sorted_out_str hS hp hs
  obtain ⟨c, hc⟩ := sortedHeap_at (vs := vs) (out := (arrOf st').map (·.2)) atL
  refine wpAny_pure ⟨_, rfl, hQ _ s1.heap.objs.size _ c ys (fun b u e => ?_) g1 o1 hz hc y1 y3 (y2.trans pz)⟩
  have q := k1 b u e
  have lt := Heap.lt_size q
  show (sortedHeap (s1.heap.push (seqObj "list" vs.toArray 0)) s1.heap.objs.size vs _).get? b = some u
  rw [sortedHeap_old (Nat.ne_of_lt lt) (by rw [size_push']; exact Nat.lt_succ_of_lt lt)]
  exact Heap.get?_push_of_some _ q
end
/-! ### the rules -/
/-- the set of texts at a -/
def SetT (P : Program) (w : World) (a : Addr) (L : List Str) : HO := .ext fun h => TSet P w h a L
theorem setT_new {P : Program} {w : World} {H : Hp} {h : Heap} {a : Addr} {L : List Str} (R : TSet P w h a L) : ObjOk P w H h a (SetT P w a L) := by
  have ⟨_, o, _, _, _, ho, _⟩ := R
  exact ⟨R, ⟨o, ho⟩, fun h1 h2 p k => TSet.at p k⟩
section
variable {X : Cx}
theorem setT_get {pins : List (Addr × Obj)} {σ : L2.St} {H : Hp} {s : Shared} {a : Addr} {L : List Str} (I : Inv X pins σ H s) (ha : H a = some (SetT X.prog X.w a L)) : TSet X.prog X.w s.heap a L := (I.hok a _ ha).1
/-- set(xs), xs a list of texts -/
def rSetL (P : Program) (w : World) (K : PySem.W.Frag) : List V → Hp → VK → Prop := fun vs H Q => ∃ (l : Addr) (xs : List Str), vs = [V.ref l] ∧ SqL K H l (xs.map V.str) ∧ xs.length + 1 < scanBound ∧ ∀ p, H p = none → Q (.ref p) (upd H p (SetT P w p (ded xs)))
theorem cr_setL (hc : X.calm = true) : CallR X (.type "set") (rSetL X.prog X.w X.K) := by
  intro pins s σ H vs us Q I r h
  obtain ⟨l, xs, rfl, hs, few, q⟩ := h
  obtain ⟨its, rv, hl, _⟩ := I.list hs
  rw [Vals.ref1 r]
  refine call_set xs (I.ok.hd hc) hl.isList (by simpa using strsAre_of rv) few fun h' tk put keep => ?_
  exact ⟨.ref _, _, I.laid (t' := tk) keep (Nat.le_refl _) (setT_new put), rfl, q _ (I.hok.fresh (Nat.le_refl _))⟩
/-- len(a set of texts) -/
def rLenT (P : Program) (w : World) : List V → Hp → VK → Prop := fun vs H Q => ∃ (a : Addr) (L : List Str), vs = [V.ref a] ∧ H a = some (SetT P w a L) ∧ Q (.int L.length) H
theorem cr_lenT : CallR X (.builtin "len") (rLenT X.prog X.w) := by
  intro pins s σ H vs us Q I r h
  obtain ⟨a, L, rfl, ha, q⟩ := h
  obtain ⟨nd, o, es, ep, t, ho, hex, hd, good, pm, few, fit, ris, led⟩ := setT_get I ha
  have size0 : es.size = L.length := by rw [← pm.length_eq, List.length_map, Array.length_toList]
  rw [Vals.ref1 r]
  have lt : L.length < 2 ^ 24 := Nat.lt_of_lt_of_le few (by unfold scanBound; decide)
  refine call_len_set ho hex hd fit (by rw [size0]; omega) ⟨.int L.length, H, I.tok _, ⟨_, by rw [size0]⟩, q⟩
/-- sorted(a set of texts) -/
def rSortT (P : Program) (w : World) : List V → Hp → VK → Prop := fun vs H Q => ∃ (a : Addr) (L : List Str), vs = [V.ref a] ∧ H a = some (SetT P w a L) ∧ ∀ (ys : List Str) (p : Addr), sortedS ys = true → ys.Perm L → L.Nodup → H p = none → Q (.ref p) (upd H p (.lst (ys.map V.str)))
theorem cr_sortT (hc : X.calm = true) : CallR X (.builtin "sorted") (rSortT X.prog X.w) := by
  intro pins s σ H vs us Q I r h
  obtain ⟨a, L, rfl, ha, q⟩ := h
  have R := setT_get I ha
  rw [Vals.ref1 r]
  refine sorted_tset R (I.ok.hd hc) fun s' p out c ys k g o hp hg hi hs pm => ?_
  have few : L.length < scanBound := R.ex.elim fun o z => z.elim fun es z => z.elim fun ep z => z.elim fun t z => z.2.2.2.2.2.1
  have len : (ys.map V.str).length ≤ sizeLine := by rw [List.length_map, pm.length_eq]; exact fits_of_scanBound few
  have hn : H p = none := I.hok.fresh hp
  have J : Inv X pins σ (upd H p (.lst (ys.map V.str))) { s with heap := s'.heap, gens := s'.gens, drawn := s'.drawn, toks := s'.toks } :=
    I.call (ch := []) (Un.laid k hp hn) (I.hok.laid k hp ⟨len, out.toList, c, vals_of_strs hi, hg⟩) (by rw [g]; exact I.bare) (fun _ z => nomatch z)
  have e : s' = { s with heap := s'.heap, gens := s'.gens, drawn := s'.drawn, toks := s'.toks } := by
    cases s'
    cases s
    cases o
    rfl
  rw [e]
  exact ⟨.ref p, _, J, rfl, q ys p hs pm R.nd hn⟩
end
end SX
/-! {e for x in xs}, e a text -/
namespace SX
open PySem PySem.Spec PyProof.Rows L2 PpSet
section
variable {X : Cx}
theorem fresh_tset {P : Program} {w : World} {h : Heap} : TSet P w (h.push (freshSet w)) h.objs.size [] := new_at (Heap.get?_push_size _ rfl)
theorem add_text {pins : List (Addr × Obj)} {σ : L2.St} {H : Hp} {s : Shared} {E : Value → Shared → Prop} {D : Addr} {L : List Str} {y : Str} {ty : Tok} {Q : Value → Shared → Prop} (I : Inv X pins σ H s) (hD : H D = some (SetT X.prog X.w D L)) (room : L.length + 1 < scanBound)
    (h : ∀ s', Inv X pins σ (upd H D (SetT X.prog X.w D (ins L y))) s' → Q .none s') : wpAny (model X.prog X.w) X.A (call (.builtin "set.add") [.ref D, .str y ty]) Q E s := by
  have R := setT_get I hD
  obtain ⟨_, o, es, ep, t, ho, hex, hd, good, pm, few, fit, _⟩ := id R
  have tyD : s.TypeIs (.ref D) "set" := ⟨o, ho, hex.1⟩
  refine wpAny_call_entry F.slot_set_add tyD F.entry_set_add ?_ (F.args_set_add_2 _ _)
  unfold Builtin.«set.add» Builtin.Frozenset.oneOther
  simp only [List.isEmpty_nil, bind_assoc]
  unfold Builtin.Frozenset.addrOf setAdd
  refine wpAny_bind (wpAny_pure ?_)
  try dsimp only
  refine wpAny_bind (wpAny_pure ?_)
  try dsimp only
  refine wpAny_bind (wpAny_holding (wpAny_bind ((PySem.strKind X.prog X.w).pyHash (strKind_is X.prog X.w y ty) ?_)))
  refine add_hashed (s := { s with toks := s.toks + 1 }) R room fun b h' but put => ?_
  show wpAny _ _ (ret Value.none) _ _ _
  have at2 : ∃ u, h'.get? D = some u := put.ex.elim fun o z => z.elim fun es z => z.elim fun ep z => z.elim fun t z => ⟨o, z.1⟩
  exact wpAny_pure ⟨_, rfl, h _ (I.write (e := D) (t' := s.toks + 1) (by rw [hD]; trivial) (.inl rfl) (fun c u hc hu => (but.2 c hc).trans hu) at2 (setT_new put))⟩
/-- D: the new set -/
def tScT (P : Program) (w : World) (wi : TI) (g : TG) (tt : TT) (te : TE) (vs : List Nat) : TE := fun σ H Q => wi σ H fun J H1 => ∀ D, H1 D = none → ∃ W : Nat → Nat → Hp → Prop, (∃ m, W 0 m (upd H1 D (SetT P w D []))) ∧ ∀ i m H, W i m H →
  (J.stop i H ∧ Q (.ref D) H) ∨ (J.go i H ∧ ∃ Nx : Hp → Prop, (∀ H', Nx H' → ∃ m', m' < m ∧ W (i + 1) m' H') ∧ ∀ x H', J.yld i H x H' → g x (wipe σ vs) H' fun σ2 H2 => wipe σ2 vs = wipe σ vs ∧ tt σ2 H2 fun b H3 =>
    if b = true then te σ2 H3 fun y H4 => ∃ (c : Str) (L : List Str), y = .str c ∧ H4 D = some (SetT P w D L) ∧ L.length + 1 < scanBound ∧ Nx (upd H4 D (SetT P w D (ins L c))) else Nx H3)
abbrev cellsAt (X : Cx) (scope : Scope) (s : Shared) := cellsFrom (s.heap.objs.size + 1) scope.names (cloFrom X.env.cells scope.names [])
theorem sct_core {pins : List (Addr × Obj)} {s : Shared} {σ : L2.St} {H : Hp} {Q : VK} {elt tg iter : Expr} {ifs : List Expr} {scope : Scope} {own : List (PySem.Str × Nat)} {pos pos' : Pos} {wi : TI} {g : TG} {tt : TT} {te : TE} {use : Option (Value → Sem Unit)} {Qf : Value → Shared → Prop}
    (calm : X.calm = true) (nd : X.N.Nodup) (I : Inv X pins σ H s) (hi : PI X tg iter wi) (ok : BlkOk X.N X.env.scope scope own) (hg : ∀ (s : Shared) (H : Hp) (C : Addr) (cl : List (PySem.Str × Addr)) (ap : List Addr), PG (X.blk s H scope (compEnvC scope cl C X.env) ap) tg g)
    (ht : ∀ (s : Shared) (H : Hp) (C : Addr) (cl : List (PySem.Str × Addr)) (ap : List Addr), PTs (X.blk s H scope (compEnvC scope cl C X.env) ap) ifs tt) (he : ∀ (s : Shared) (H : Hp) (C : Addr) (cl : List (PySem.Str × Addr)) (ap : List Addr), PE (X.blk s H scope (compEnvC scope cl C X.env) ap) elt te)
    (hs : ∀ x, foldedSetIterable iter X.env x = pure x) (h : tScT X.prog X.w wi g tt te (own.map (·.2)) σ H Q)
    (back : ∀ D C s' m H', Inv X pins σ H' s' → Q (.ref D) H' → s'.heap.Ns C m → FpOk X pins H' C → compPost (model X.prog X.w) X.A X.xe use Qf (.ref D) C (.ok .next) s') :
    wpAny (model X.prog X.w) X.A (comprehension (.SetComp elt [⟨tg, iter, ifs, 0⟩] scope pos) scope X.env pos' (newSet (.type "set")) false (eval iter X.env) use) Qf X.xe s := by
  have free : ∀ y ∈ scope.names, y.2 = .free → ∃ c, X.env.cells.lookup y.1 = some c := fun y hy e => (ok.free y hy e).elim (fun k => I.ok.has _ (.inl k)) fun k => I.ok.has _ (.inr k)
  refine wpAny_comprehension_free (use := use) rfl hs (closure_ok free) ok.kind (fun y hy e => by rw [ok.uniq y hy, e]) (thn (hi.run pins s σ H _ I h) fun xv sA hx => thn hx fun itv sB h2 => ?_)
  obtain ⟨it, ap, tn, J, HB, e, IB, T, stB, apB, q⟩ := h2
  subst e
  refine newSet_ok (newEnv_comp ?_)
  generalize eD : sB.heap.objs.size = D
  have noD : HB D = none := IB.hok.fresh (Nat.le_of_eq eD)
  obtain ⟨W, ⟨m0, w0⟩, turn⟩ := q D noD
  generalize eC : ({ sB with heap := sB.heap.push (freshSet X.w) } : Shared) = sC
  have IC : Inv X pins σ (upd HB D (SetT X.prog X.w D [])) sC := by
    rw [← eC]
    refine IB.laid (t' := sB.toks) (fun b o q => Heap.get?_push_of_some _ q) (Nat.le_of_eq eD) ?_
    rw [← eD]
    exact setT_new fresh_tset
  have hC : sC.heap = sB.heap.push (freshSet X.w) := by rw [← eC]
  have low : ∀ b ∈ ap, b < sB.heap.objs.size := fun b hb => (T.obj _ _ stB b hb).elim fun o z => Heap.lt_size z.1
  have apC : ∀ b ∈ ap, FpOk X pins (upd HB D (SetT X.prog X.w D [])) b ∧ b < sC.heap.objs.size := fun b hb => by
    have lt := low b hb
    refine ⟨⟨?_, (apB b hb).2⟩, by rw [hC, Heap.size_push]; exact Nat.lt_succ_of_lt lt⟩
    rw [upd_ne (by rw [← eD]; exact Nat.ne_of_lt lt)]
    exact (apB b hb).1
  have stC : tn 0 sC.heap := T.keep _ _ _ stB fun b _ o q => by rw [hC]; exact Heap.get?_push_of_some _ q
  have ID := block_start IC ok nd apC
  have pg := hg sC (upd HB D (SetT X.prog X.w D [])) sC.heap.objs.size (cellsAt X scope sC) ap
  have pt := ht sC (upd HB D (SetT X.prog X.w D [])) sC.heap.objs.size (cellsAt X scope sC) ap
  have pe := he sC (upd HB D (SetT X.prog X.w D [])) sC.heap.objs.size (cellsAt X scope sC) ap
  show codeAny _ _ (.compStart (.SetComp elt [⟨tg, iter, ifs, 0⟩] scope pos) 0 (.ref it) (.ref D) (compEnvC scope (cellsAt X scope sC) sC.heap.objs.size X.env)) (compPost (model X.prog X.w) X.A X.xe use Qf (.ref D) sC.heap.objs.size) { sC with heap := pushCells (sC.heap.push { cls := .type "dict", data := .dict #[] }) scope.names }
  have noAp : ∀ b ∈ ap, (upd HB D (SetT X.prog X.w D [])) b = none := fun b hb => (apC b hb).1.1
  generalize ece : compEnvC scope (cellsAt X scope sC) sC.heap.objs.size X.env = ce at ID pg pt pe ⊢
  have locC : ce.locals = sC.heap.objs.size := by subst ece; rfl
  generalize eHC : upd HB D (SetT X.prog X.w D []) = HC at IC ID pg pt pe w0 noAp apC
  generalize esD : ({ sC with heap := pushCells (sC.heap.push { cls := .type "dict", data := .dict #[] }) scope.names } : Shared) = sD at ID ⊢
  have stD : tn 0 sD.heap := T.keep _ _ _ stC fun b _ o q => by rw [← esD]; exact pushCells_keeps _ _ _ _ (Heap.get?_push_of_some _ q)
  have still : ∀ {σ' : L2.St} {H' : Hp} {s' : Shared}, Inv (X.blk sC HC scope ce ap) [] σ' H' s' → (∀ b ∈ ap, H' b = none) → ∀ b ∈ ap, FpOk (X.blk sC HC scope ce ap) [] H' b := fun {σ' H' s'} J2 hn b hb =>
    ⟨hn b hb, (J2.ok.exf b hb).1, J2.ok.exfs b hb, .inl hb, fun x c q => (J2.ok.exf b hb).2 x c q, fun p hp => absurd (show p ∈ ([] : List (Addr × Obj)) ++ [] from hp) (by simp)⟩
  have loop : codeAny (model X.prog X.w) X.A (.compLoop (.SetComp elt [⟨tg, iter, ifs, 0⟩] scope pos) 0 (.ref it) (.ref D) ce) (compPost (model X.prog X.w) X.A X.xe use Qf (.ref D) sC.heap.objs.size) sD := by
    refine compLoopS_any (fun n s' => ∃ i H', Inv (X.blk sC HC scope ce ap) [] (wipe σ (own.map (·.2))) H' s' ∧ tn i s'.heap ∧ (∀ b ∈ ap, H' b = none) ∧ W i n H') ?_ m0 ⟨0, HC, ID, stD, noAp, w0⟩
    rintro n sE ⟨i, HE, IE, stE, noE, wE⟩
    rcases turn i n HE wE with ⟨stop, qq⟩ | ⟨go, Nx, hNx, step⟩
    · refine thnF (T.done (X.blk sC HC scope ce ap) rfl rfl rfl calm i [] sE _ HE (fun _ _ => False) IE (still IE noE) stE stop) fun r sF ⟨hr, IF⟩ => ?_
      subst hr
      have IG : Inv X pins σ HE sF := IC.call' (ch := ap) IF.os IF.base IF.hok IF.bare fun b hb => ⟨(apC b hb).1.2.2.2.1, (apC b hb).1.2.1, (apC b hb).1.2.2.2.2.1, (apC b hb).1.2.2.2.2.2⟩
      have nC : HE sC.heap.objs.size = none := by
        have z : HE ce.locals = none := IF.free
        rwa [locC] at z
      obtain ⟨m, hn, _⟩ := IF.loc
      have hn2 : sF.heap.Ns ce.locals m := hn
      rw [locC] at hn2
      exact back D sC.heap.objs.size sF m HE IG qq hn2 (IC.fpOk (Nat.le_refl _) nC)
    · refine thnF (T.item (X.blk sC HC scope ce ap) rfl rfl rfl calm i [] sE _ HE (fun _ _ => False) IE (still IE noE) stE go) fun r sF ⟨u, hr, hF⟩ => ?_
      subst hr
      refine thnF hF fun _ sG ⟨x, HG, IG, rG, yG, stG, noG⟩ => ?_
      refine thnF (pg.run _ sG _ HG x u _ (IG.pinned (still IG noG) (T.obj _ _ stG)) rG (step x HG yG)) fun _ sH ⟨σH, HH, IH, hwH, qH⟩ => ?_
      refine thnF (pt.run _ sH σH HH _ IH qH) fun b sI ⟨HI, II, qI⟩ => ?_
      have done : ∀ {s' : Shared} {H' : Hp}, Inv (X.blk sC HC scope ce ap) ([] ++ pinsAt ap sG.heap) σH H' s' → Nx H' → ∃ m, m < n ∧ ∃ i H', Inv (X.blk sC HC scope ce ap) [] (wipe σ (own.map (·.2))) H' s' ∧ tn i s'.heap ∧ (∀ b ∈ ap, H' b = none) ∧ W i m H' := fun {s' H'} J2 nx => by
        obtain ⟨m', lt, w'⟩ := hNx H' nx
        have pinned : ∀ b ∈ ap, ∀ o, sG.heap.get? b = some o → s'.heap.get? b = some o ∧ H' b = none := fun b hb o q =>
          let z := J2.pin (b, o) (List.mem_append_right _ (List.mem_append_right _ (mem_pinsAt hb q)))
          ⟨z.1, z.2.1⟩
        refine ⟨m', lt, i + 1, H', (J2.unpinned (pins := [])).weak (by rw [← hwH, wipe_length]) (fun j v q => ?_), T.keep _ _ _ stG fun b hb o q => (pinned b hb o q).1, fun b hb => ?_, w'⟩
        · rw [← hwH] at q
          exact (wipe_some q).1
        · obtain ⟨o, q, _⟩ := T.obj _ _ stG b hb
          exact (pinned b hb o q).2
      cases b with
      | false =>
        simp only [Bool.false_eq_true, if_false] at qI ⊢
        exact done II qI
      | true =>
        simp only [if_true] at qI ⊢
        refine thnF (pe.run _ sI σH HI _ II qI) fun z sJ ⟨yv, HJ, IJ, rJ, c, L0, ey, hDJ, few, nx⟩ => ?_
        subst ey
        obtain ⟨tk, rfl⟩ := rJ
        exact add_text (X := X.blk sC HC scope ce ap) IJ hDJ few fun sK IK => done IK nx
  exact codeAny_compStart_set loop (T.self X.A 0 _ _ _ stD loop)
theorem pe_scT {elt tg iter : Expr} {ifs : List Expr} {scope : Scope} {own : List (PySem.Str × Nat)} {pos : Pos} {wi : TI} {g : TG} {tt : TT} {te : TE} (calm : X.calm = true) (nd : X.N.Nodup) (hi : PI X tg iter wi) (ok : BlkOk X.N X.env.scope scope own)
    (hg : ∀ (s : Shared) (H : Hp) (C : Addr) (cl : List (PySem.Str × Addr)) (ap : List Addr), PG (X.blk s H scope (compEnvC scope cl C X.env) ap) tg g) (ht : ∀ (s : Shared) (H : Hp) (C : Addr) (cl : List (PySem.Str × Addr)) (ap : List Addr), PTs (X.blk s H scope (compEnvC scope cl C X.env) ap) ifs tt)
    (he : ∀ (s : Shared) (H : Hp) (C : Addr) (cl : List (PySem.Str × Addr)) (ap : List Addr), PE (X.blk s H scope (compEnvC scope cl C X.env) ap) elt te) (hs : ∀ x, foldedSetIterable iter X.env x = pure x := by intro _; rfl) :
    PE X (.SetComp elt [⟨tg, iter, ifs, 0⟩] scope pos) (tScT X.prog X.w wi g tt te (own.map (·.2))) := by
  refine ⟨fun pins s σ H Q I h => ?_⟩
  rw [eval_SetComp]
  refine sct_core calm nd I hi ok hg ht he hs h fun D C s' m H' J2 q hn f => ⟨m, hn, fun h2 but => ?_⟩
  obtain ⟨z0, z1, z2, z3, z4, z5⟩ := f
  exact ⟨.ref D, H', J2.turned (t' := s'.toks) (fun b o hb e => (but.2 b hb).trans e) z0 z1 z3 z4 z5, rfl, q⟩
end
/-- over a list that the block leaves as it is -/
theorem sc_list {P : Program} {w : World} {K : PySem.W.Frag} {a : Addr} {xs : List V} {g : TG} {tt : TT} {te : TE} {vs : List Nat} {σ : L2.St} {H1 : Hp} {D : Addr} {Qd : Hp → Prop} (Pv : Nat → Hp → Prop) (h0 : Pv 0 (upd H1 D (SetT P w D []))) (hl : ∀ i H, i ≤ xs.length → Pv i H → SqL K H a xs)
    (hs : ∀ i x H, xs[i]? = some x → Pv i H → g x (wipe σ vs) H fun σ2 H2 => wipe σ2 vs = wipe σ vs ∧ tt σ2 H2 fun b H3 =>
      if b = true then te σ2 H3 fun y H4 => ∃ (c : Str) (L : List Str), y = .str c ∧ H4 D = some (SetT P w D L) ∧ L.length + 1 < scanBound ∧ Pv (i + 1) (upd H4 D (SetT P w D (ins L c))) else Pv (i + 1) H3) (hd : ∀ H, Pv xs.length H → Qd H) :
    ∃ W : Nat → Nat → Hp → Prop, (∃ m, W 0 m (upd H1 D (SetT P w D []))) ∧ ∀ i m H, W i m H →
      ((Itl K a).stop i H ∧ Qd H) ∨ ((Itl K a).go i H ∧ ∃ Nx : Hp → Prop, (∀ H', Nx H' → ∃ m', m' < m ∧ W (i + 1) m' H') ∧ ∀ x H', (Itl K a).yld i H x H' → g x (wipe σ vs) H' fun σ2 H2 => wipe σ2 vs = wipe σ vs ∧ tt σ2 H2 fun b H3 =>
        if b = true then te σ2 H3 fun y H4 => ∃ (c : Str) (L : List Str), y = .str c ∧ H4 D = some (SetT P w D L) ∧ L.length + 1 < scanBound ∧ Nx (upd H4 D (SetT P w D (ins L c))) else Nx H3) := by
  refine ⟨fun i m H => m = xs.length - i ∧ i ≤ xs.length ∧ Pv i H, ⟨xs.length, by simp, Nat.zero_le _, h0⟩, ?_⟩
  rintro i m H ⟨rfl, hi, p⟩
  have q := hl i H hi p
  by_cases lt : i < xs.length
  · refine .inr ⟨⟨xs, xs[i], q, by simp [lt]⟩, Pv (i + 1), fun H' p' => ⟨xs.length - (i + 1), by omega, rfl, lt, p'⟩, ?_⟩
    rintro x H' ⟨e, y⟩
    subst e
    exact hs i x _ (y xs q) p
  · obtain rfl : i = xs.length := by omega
    exact .inl ⟨⟨xs, q, Nat.le_refl _⟩, hd H p⟩
end SX
/-! tuples of keys and of tuples of keys, as members of sets -/
namespace NT
open PySem PySem.Spec PyProof.Rows L2
abbrev It1 : Type := Key ⊕ List Key
section
variable {P : Program} {w : World}
/-- an item: a key, or a tuple of keys -/
def IsIt (P : Program) (w : World) (h : Heap) : It1 → Value → Prop
  | .inl k, v => (mixKind P w).is k v = true
  | .inr ks, v => ∃ a, v = .ref a ∧ IsTupleKey (mixKind P w) h ks a
def itHash (P : Program) (w : World) : It1 → Int
  | .inl k => (mixKind P w).hash k
  | .inr ks => tupleKeyHash (mixKind P w) ks
inductive Its (P : Program) (w : World) (h : Heap) : List It1 → List Value → Prop
  | nil : Its P w h [] []
  | cons {k : It1} {v : Value} {ks : List It1} {vs : List Value} : IsIt P w h k v → Its P w h ks vs → Its P w h (k :: ks) (v :: vs)
/-- the tuple at a, of the shape sh -/
def IsN (P : Program) (w : World) (sh : List Bool) (h : Heap) (ks : List It1) (a : Addr) : Prop := ks.map Sum.isLeft = sh ∧ ∃ o items n, h.get? a = some o ∧ o.cls = .type "tuple" ∧ o.data = .seq items n ∧ Its P w h ks items.toList
def nHash (P : Program) (w : World) (ks : List It1) : Int := reduceHash (Builtin.Tuple.tupleHashOf (ks.map (itHash P w)))
theorem IsIt.keep {h h' : Heap} {k : It1} {v : Value} (x : IsIt P w h k v) (hk : ∀ b o, h.get? b = some o → o.cls = .type "tuple" → h'.get? b = some o) : IsIt P w h' k v := by
  cases k with
  | inl k => exact x
  | inr ks =>
    obtain ⟨a, e, o, items, n, ho, hc, r⟩ := x
    exact ⟨a, e, o, items, n, hk a o ho hc, hc, r⟩
theorem Its.keep {h h' : Heap} {ks : List It1} {vs : List Value} (x : Its P w h ks vs) (hk : ∀ b o, h.get? b = some o → o.cls = .type "tuple" → h'.get? b = some o) : Its P w h' ks vs := by
  induction x with
  | nil => exact .nil
  | cons a _ ih => exact .cons (a.keep hk) ih
theorem IsN.keep {sh : List Bool} {h h' : Heap} {ks : List It1} {a : Addr} (x : IsN P w sh h ks a) (hk : ∀ b o, h.get? b = some o → o.cls = .type "tuple" → h'.get? b = some o) : IsN P w sh h' ks a := by
  obtain ⟨e, o, items, n, ho, hc, hd, hi⟩ := x
  exact ⟨e, o, items, n, hk a o ho hc, hc, hd, hi.keep hk⟩
theorem IsIt.inj {h : Heap} {k k' : It1} {v : Value} (x : IsIt P w h k v) (y : IsIt P w h k' v) (s : k.isLeft = k'.isLeft) : k = k' := by
  cases k with
  | inl k =>
    cases k' with
    | inl k' => exact congrArg _ ((mixKind P w).inj v k k' x y)
    | inr ks' => cases s
  | inr ks =>
    cases k' with
    | inl k' => cases s
    | inr ks' =>
      obtain ⟨a, e, p⟩ := x
      obtain ⟨b, e2, q⟩ := y
      rw [e] at e2
      cases e2
      exact congrArg _ (p.inj q)
theorem Its.inj {h : Heap} {ks ks' : List It1} {vs : List Value} (x : Its P w h ks vs) (y : Its P w h ks' vs) (s : ks.map Sum.isLeft = ks'.map Sum.isLeft) : ks = ks' := by
  induction x generalizing ks' with
  | nil => cases y; rfl
  | cons a _ ih =>
    cases y with
    | cons b t =>
      rw [List.map_cons, List.map_cons, List.cons.injEq] at s
      rw [a.inj b s.1, ih t s.2]
theorem IsN.inj {sh : List Bool} {h : Heap} {ks ks' : List It1} {a : Addr} (x : IsN P w sh h ks a) (y : IsN P w sh h ks' a) : ks = ks' := by
  obtain ⟨e, o, items, n, ho, _, hd, hi⟩ := x
  obtain ⟨e', o', items', n', ho', _, hd', hi'⟩ := y
  rw [ho] at ho'
  cases ho'
  rw [hd] at hd'
  cases hd'
  exact hi.inj hi' (e.trans e'.symm)
theorem IsN.typeIs {sh : List Bool} {s : Shared} {ks : List It1} {a : Addr} (x : IsN P w sh s.heap ks a) : s.TypeIs (.ref a) "tuple" := by
  obtain ⟨_, o, _, _, ho, hc, _⟩ := x
  exact ⟨o, ho, hc⟩
end
section
variable {P : Program} {w : World} {A : Around} {E : Value → Shared → Prop} {s : Shared} {sh : List Bool}
theorem it_hash {k : It1} {v : Value} {Q : Int → Shared → Prop} (hu : A.units < cLine) (hk : IsIt P w s.heap k v) (h : ∀ tk, s.toks ≤ tk → Q (itHash P w k) { s with toks := tk }) : wpAny (model P w) A (pyHash v) Q E s := by
  cases k with
  | inl k => exact (mixKind P w).pyHash hk (h _ (Nat.le_succ _))
  | inr ks =>
    obtain ⟨a, rfl, q⟩ := hk
    exact wpAny_pyHash_tuple hu q (h _ (Nat.le_add_right _ _))
theorem n_hash {ks : List It1} {a : Addr} {Q : Int → Shared → Prop} (hu : A.units + 1 < cLine) (hk : IsN P w sh s.heap ks a) (h : ∀ tk, s.toks ≤ tk → Q (nHash P w ks) { s with toks := tk }) : wpAny (model P w) A (pyHash (.ref a)) Q E s := by
  have ty := hk.typeIs
  obtain ⟨_, o, items, n, ho, _, hd, hi⟩ := hk
  unfold pyHash
  first | unfold pyHashByItsType | skip
  first | refine wpAny_bind (wpAny_cRoomFor_or (.inr (by omega)) ?_) | skip
  refine wpAny_bind (wpAny_specialOf ty F.slot_tuple_hash.lookup ?_)
  show wpAny _ _ (if (some (Value.builtin "tuple.__hash__") == some Value.none) = true then _ else _) Q E s
  rw [if_neg (by rw [beq_builtin_none]; exact Bool.false_ne_true)]
  refine wpAny_bind (wpAny_specialOf ty F.slot_tuple_hash.lookup ?_)
  show wpAny _ _ (callSpecialIfBoundUnlessNone? (.ref a) "__hash__" _ >>= _) Q E s
  refine wpAny_bind (wpAny_callSpecialIfBoundUnlessNone?_slot ty F.slot_tuple_hash (wpAny_call_entry F.slot_tuple_hash ty F.entry_tuple_hash ?_ (F.args_tuple_hash_1 _)))
  show wpAny _ _ (Builtin.Tuple.tupleItemsOf (.ref a) >>= _) _ _ s
  refine wpAny_bind (wpAny_tupleItemsOf ho hd (wpAny_bind ?_))
  rw [← Array.forIn_toList]
  refine wpAny_forIn_list _ (fun rest (b : Array Int) s' => ∃ done left tk, ks = done ++ left ∧ Its P w s.heap left rest ∧ b.toList = done.map (itHash P w) ∧ s' = { s with toks := tk } ∧ s.toks ≤ tk) _ ?_ ?_ _ _ ⟨[], ks, s.toks, rfl, hi, rfl, rfl, Nat.le_refl _⟩
  · rintro x rest b s' ⟨done, left, tk, rfl, hl, hb, rfl, le⟩
    cases hl with
    | @cons k _ ks' _ one more =>
      have fit : A.in1.units < cLine := by
        first | (show A.units + 1 < cLine; omega) | (simp [Around.in1]; omega)
      refine wpAny_bind (it_hash (s := { s with toks := tk }) ?_ one fun tk2 le2 => ?_)
      · first | exact fit | omega
      have step : ∃ d l t, done ++ k :: ks' = d ++ l ∧ Its P w s.heap l rest ∧ (b.push (itHash P w k)).toList = d.map (itHash P w) ∧ ({ s with toks := tk2 } : Shared) = { s with toks := t } ∧ s.toks ≤ t := ⟨done ++ [k], ks', tk2, by simp, more, by simp [hb], rfl, Nat.le_trans le le2⟩
      first
        | exact wpAny_pure step
        | exact wpAny_bind (wpAny_pure (wpAny_pure step))
  · rintro b s' ⟨done, left, tk, rfl, hl, hb, rfl, le⟩
    cases hl
    rw [List.append_nil] at h
    show wpAny _ _ (retInt (Builtin.Tuple.tupleHashOf b.toList)) _ _ _
    rw [hb]
    refine wpAny_ret_mkInt ?_
    show wpAny _ _ (if (decide (-(2 : Int) ^ 63 ≤ Builtin.Tuple.tupleHashOf (done.map (itHash P w))) && decide (Builtin.Tuple.tupleHashOf (done.map (itHash P w)) < 2 ^ 63)) = true then _ else _) Q E _
    have h2 := h (tk + 1) (Nat.le_succ_of_le le)
    unfold nHash reduceHash at h2
    by_cases c : (decide (-(2 : Int) ^ 63 ≤ Builtin.Tuple.tupleHashOf (done.map (itHash P w))) && decide (Builtin.Tuple.tupleHashOf (done.map (itHash P w)) < 2 ^ 63)) = true
    · rw [if_pos c]
      rw [if_pos c] at h2
      exact wpAny_pure (by simpa [Nat.add_assoc] using h2)
    · rw [if_neg c]
      rw [if_neg c] at h2
      exact wpAny_bind (wpAny_rule (wpAny_pure (by simpa [Nat.add_assoc] using h2)))
end
end NT
namespace NT
open PySem PySem.Spec PyProof.Rows L2
section
variable {P : Program} {w : World} {A : Around} {E : Value → Shared → Prop} {s : Shared} {sh : List Bool}
theorem it_eq {k k' : It1} {u v : Value} {Q : Bool → Shared → Prop} (hu : A.units < cLine) (x : IsIt P w s.heap k u) (y : IsIt P w s.heap k' v) (same : k.isLeft = k'.isLeft) (h : Q (decide (k = k')) s) : wpAny (model P w) A (eqBool u v) Q E s := by
  cases k with
  | inl k =>
    cases k' with
    | inl k' =>
      refine (mixKind P w).eqBool x y ?_
      have e : decide ((Sum.inl k : It1) = .inl k') = decide (k = k') := by simp
      rwa [e] at h
    | inr ks' => cases same
  | inr ks =>
    cases k' with
    | inl k' => cases same
    | inr ks' =>
      obtain ⟨a, rfl, p⟩ := x
      obtain ⟨b, rfl, q⟩ := y
      refine wpAny_eqBool_tuple hu p q ?_
      have e : decide ((Sum.inr ks : It1) = .inr ks') = decide (ks = ks') := by simp
      rwa [e] at h
theorem n_eq_tree {x y : List It1} {a b : Addr} {F : Fin → Shared → Prop} (hu : A.units < cLine) (hx : IsN P w sh s.heap x a) (hy : IsN P w sh s.heap y b) (h : F (.done (.ret (.bool (decide (x = y))))) s) : wpAny (model P w) A (Builtin.«tuple.__eq__» ⟨[.ref a, .ref b], []⟩) F E s := by
  have tyB := hy.typeIs
  obtain ⟨sx, oa, xs, na, hoa, _, hda, hia⟩ := hx
  obtain ⟨sy, ob, ys, nb, hob, _, hdb, hib⟩ := hy
  show wpAny _ _ (isInstance (.ref b) (.type "tuple") >>= _) _ _ s
  refine wpAny_bind (wpAny_isInstance tyB isSubtype_tuple_tuple ?_)
  simp only [Bool.not_true, Bool.false_eq_true, if_false]
  refine wpAny_bind (wpAny_tupleItemsOf hoa hda (wpAny_bind (wpAny_tupleItemsOf hob hdb (wpAny_bind ?_))))
  refine wpAny_forIn_list _ (fun rest r s' => r.1 = none ∧ s' = s ∧ ∃ x' y' xs' ys', rest = List.zip xs' ys' ∧ Its P w s.heap x' xs' ∧ Its P w s.heap y' ys' ∧ x'.map Sum.isLeft = y'.map Sum.isLeft ∧ decide (x' = y') = decide (x = y) ∧ (xs'.length == ys'.length) = (xs.size == ys.size)) _ ?_ ?_ _ _
    ⟨rfl, rfl, x, y, xs.toList, ys.toList, rfl, hia, hib, sx.trans sy.symm, rfl, by simp⟩
  · rintro ⟨u, v⟩ rest r s' ⟨hr, rfl, x', y', xs', ys', hz, hx', hy', hs', hdec, hlen⟩
    cases hx' with
    | nil => simp at hz
    | @cons k1 u' x'' xs'' h1 hx'' =>
      cases hy' with
      | nil => simp at hz
      | @cons k2 v' y'' ys'' h2 hy'' =>
        simp only [List.zip_cons_cons, List.cons.injEq, Prod.mk.injEq] at hz
        obtain ⟨⟨rfl, rfl⟩, rfl⟩ := hz
        rw [List.map_cons, List.map_cons, List.cons.injEq] at hs'
        refine wpAny_bind (it_eq (k := k1) (k' := k2) hu h1 h2 hs'.1 ?_)
        by_cases hk : k1 = k2
        · subst hk
          rw [decide_eq_true rfl]
          simp only [Bool.not_true, Bool.false_eq_true, if_false]
          refine wpAny_pure ⟨rfl, rfl, x'', y'', xs'', ys'', rfl, hx'', hy'', hs'.2, ?_, by simpa using hlen⟩
          rw [← hdec]
          by_cases hxy : x'' = y''
          · simp [hxy]
          · simp [hxy]
        · rw [decide_eq_false hk]
          simp only [Bool.not_false, if_true]
          have no : decide (x = y) = false := by rw [← hdec]; simp [hk]
          rw [no] at h
          exact wpAny_bind (wpAny_pure (wpAny_pure (wpAny_pure h)))
  · rintro ⟨r1, r2⟩ s' ⟨hr, rfl, x', y', xs', ys', hz, hx', hy', hs', hdec, hlen⟩
    simp only at hr
    subst hr
    refine wpAny_pure ?_
    have last : (xs.size == ys.size) = decide (x = y) := by
      rw [← hdec, ← hlen]
      cases hx' with
      | nil =>
        cases hy' with
        | nil => simp
        | cons _ _ => simp
      | cons _ _ =>
        cases hy' with
        | nil => simp
        | cons _ _ => simp at hz
    show F (.done (.ret (.bool (xs.size == ys.size)))) s'
    rw [last]
    exact h
theorem n_eq {x y : List It1} {a b : Addr} {Q : Bool → Shared → Prop} (hu : A.units + 8 < cLine) (hx : IsN P w sh s.heap x a) (hy : IsN P w sh s.heap y b) (h : Q (decide (x = y)) s) : wpAny (model P w) A (eqBool (.ref a) (.ref b)) Q E s := by
  unfold eqBool
  try with_reducible refine wpAny_holding ?_
  show wpAny _ _ (if (Value.ref a == Value.ref b) = true then _ else _) Q E s
  by_cases hab : (Value.ref a == Value.ref b) = true
  · rw [if_pos hab]
    have e : a = b := by
      have z := eq_of_beq hab
      injection z
    subst e
    obtain rfl := hx.inj hy
    exact wpAny_bind (wpAny_rule (wpAny_pure (by simpa using h)))
  · rw [if_neg hab]
    refine wpAny_bind (wpAny_richCompare_same_room (op := .Eq) hx.typeIs hy.typeIs F.slot_tuple_eq (wpAny_call_entry F.slot_tuple_eq hx.typeIs F.entry_tuple_eq (n_eq_tree ?_ hx hy ⟨_, rfl, (fun e => nomatch e), wpAny_truthy_bool h⟩) (F.args_tuple_eq_2 _ _)) (by omega))
    show A.units + 1 < cLine
    omega
/-! ### small questions -/
theorem it_quiet (n : Nat) {k : It1} {v : Value} {Q : Bool → Shared → Prop} (x : IsIt P w s.heap k v) (h : Q true s) : wpAny (model P w) A (eqIsQuiet (n + 1) v) Q E s := by
  cases k with
  | inl k =>
    rw [eqIsQuiet_byValue _ ((mixKind P w).byValue _ _ x)]
    exact wpAny_pure h
  | inr ks =>
    obtain ⟨a, rfl, q⟩ := x
    have ty := q.typeIs
    obtain ⟨o, items, m, ho, _, hd, hi⟩ := q
    unfold eqIsQuiet
    refine wpAny_bind (wpAny_specialOf ty F.slot_tuple_eq.lookup ?_)
    show wpAny _ _ (isInstance (.ref a) (.type "tuple") >>= _) _ _ s
    refine wpAny_bind (wpAny_isInstance ty isSubtype_tuple_tuple ?_)
    simp only [Bool.not_true, Bool.false_eq_true, if_false]
    refine wpAny_bind (wpAny_seqItems ho hd (wpAny_bind ?_))
    show wpAny _ _ (forIn items _ _) _ _ s
    rw [← Array.forIn_toList]
    refine wpAny_forIn_list _ (fun rest r s' => r.1 = none ∧ s' = s ∧ ∀ u ∈ rest, carriedByValue u = true) _ ?_ ?_ _ _ ⟨rfl, rfl, hi.byValue⟩
    · rintro u rest r s' ⟨hr, rfl, all⟩
      rw [eqIsQuiet_byValue _ (all u List.mem_cons_self)]
      refine wpAny_bind (wpAny_pure ?_)
      simp only [Bool.not_true, Bool.false_eq_true, if_false]
      exact wpAny_pure ⟨rfl, rfl, fun z hz => all z (List.mem_cons_of_mem _ hz)⟩
    · rintro ⟨r1, r2⟩ s' ⟨hr, rfl, _⟩
      simp only at hr
      subst hr
      exact wpAny_pure h
theorem its_mem {h : Heap} {ks : List It1} {vs : List Value} (x : Its P w h ks vs) : ∀ v ∈ vs, ∃ k, IsIt P w h k v := by
  induction x with
  | nil => intro v hv; cases hv
  | cons a _ ih =>
    intro v hv
    rcases List.mem_cons.mp hv with e | hv
    · exact ⟨_, e ▸ a⟩
    · exact ih v hv
theorem n_quiet {x : List It1} {a : Addr} {Q : Bool → Shared → Prop} (hx : IsN P w sh s.heap x a) (h : Q true s) : wpAny (model P w) A (eqIsQuiet 8 (.ref a)) Q E s := by
  have ty := hx.typeIs
  obtain ⟨_, o, items, m, ho, _, hd, hi⟩ := hx
  unfold eqIsQuiet
  refine wpAny_bind (wpAny_specialOf ty F.slot_tuple_eq.lookup ?_)
  show wpAny _ _ (isInstance (.ref a) (.type "tuple") >>= _) _ _ s
  refine wpAny_bind (wpAny_isInstance ty isSubtype_tuple_tuple ?_)
  simp only [Bool.not_true, Bool.false_eq_true, if_false]
  refine wpAny_bind (wpAny_seqItems ho hd (wpAny_bind ?_))
  show wpAny _ _ (forIn items _ _) _ _ s
  rw [← Array.forIn_toList]
  refine wpAny_forIn_list _ (fun rest r s' => r.1 = none ∧ s' = s ∧ ∀ u ∈ rest, ∃ k, IsIt P w s.heap k u) _ ?_ ?_ _ _ ⟨rfl, rfl, its_mem hi⟩
  · rintro u rest r s' ⟨hr, rfl, all⟩
    obtain ⟨k, hk⟩ := all u List.mem_cons_self
    refine wpAny_bind (it_quiet 6 hk ?_)
    simp only [Bool.not_true, Bool.false_eq_true, if_false]
    exact wpAny_pure ⟨rfl, rfl, fun z hz => all z (List.mem_cons_of_mem _ hz)⟩
  · rintro ⟨r1, r2⟩ s' ⟨hr, rfl, _⟩
    simp only at hr
    subst hr
    exact wpAny_pure h
theorem keys_mem {ks : List Key} {vs : List Value} (x : PySem.ItemsAre (mixKind P w) ks vs) : ∀ v ∈ vs, ∃ k, (mixKind P w).is k v = true := by
  induction x with
  | nil => intro v hv; cases hv
  | cons a _ ih =>
    intro v hv
    rcases List.mem_cons.mp hv with e | hv
    · exact ⟨_, e ▸ a⟩
    · exact ih v hv
theorem key_cls (n : Nat) {k : Key} {v : Value} (x : (mixKind P w).is k v = true) : ofAClassStatement n v = pure false := by
  have b := (mixKind P w).byValue k v x
  cases v with
  | ref a => simp [carriedByValue] at b
  | _ => cases n <;> first | rfl | (unfold ofAClassStatement; rfl)
theorem it_cls (n : Nat) {k : It1} {v : Value} {Q : Bool → Shared → Prop} (x : IsIt P w s.heap k v) (h : Q false s) : wpAny (model P w) A (ofAClassStatement (n + 1) v) Q E s := by
  cases k with
  | inl k =>
    rw [key_cls (P := P) (w := w) _ x]
    exact wpAny_pure h
  | inr ks =>
    obtain ⟨a, rfl, q⟩ := x
    have ty := q.typeIs
    obtain ⟨o, items, m, ho, _, hd, hi⟩ := q
    unfold ofAClassStatement
    refine wpAny_bind (wpAny_typeOf ty ?_)
    dsimp only
    have e : (("tuple" : String) == "tuple") = true := by decide
    simp only [e, if_true, Bool.not_true, Bool.false_eq_true, if_false]
    try refine wpAny_bind (wpAny_pure ?_)
    try simp only [Bool.not_true, Bool.false_eq_true, if_false]
    show wpAny _ _ (seqItems? (.ref a) >>= _) _ _ s
    refine wpAny_bind (wpAny_seqItems ho hd ?_)
    dsimp only
    refine wpAny_bind ?_
    show wpAny _ _ (forIn items _ _) _ _ s
    rw [← Array.forIn_toList]
    have all0 := keys_mem hi
    refine wpAny_forIn_list _ (fun rest r s' => r.1 = none ∧ s' = s ∧ ∀ u ∈ rest, ∃ k, (mixKind P w).is k u = true) _ ?_ ?_ _ _ ⟨rfl, rfl, all0⟩
    · rintro u rest r s' ⟨hr, rfl, all⟩
      obtain ⟨k, hk⟩ := all u List.mem_cons_self
      rw [key_cls (P := P) (w := w) _ hk]
      refine wpAny_bind (wpAny_pure ?_)
      simp only [Bool.false_eq_true, if_false]
      exact wpAny_pure ⟨rfl, rfl, fun z hz => all z (List.mem_cons_of_mem _ hz)⟩
    · rintro ⟨r1, r2⟩ s' ⟨hr, rfl, _⟩
      simp only at hr
      subst hr
      exact wpAny_pure h
theorem n_cls {x : List It1} {a : Addr} {Q : Bool → Shared → Prop} (hx : IsN P w sh s.heap x a) (h : Q false s) : wpAny (model P w) A (ofAClassStatement 8 (.ref a)) Q E s := by
  have ty := hx.typeIs
  obtain ⟨_, o, items, m, ho, _, hd, hi⟩ := hx
  unfold ofAClassStatement
  refine wpAny_bind (wpAny_typeOf ty ?_)
  dsimp only
  have e : (("tuple" : String) == "tuple") = true := by decide
  simp only [e, if_true, Bool.not_true, Bool.false_eq_true, if_false]
  try refine wpAny_bind (wpAny_pure ?_)
  try simp only [Bool.not_true, Bool.false_eq_true, if_false]
  show wpAny _ _ (seqItems? (.ref a) >>= _) _ _ s
  refine wpAny_bind (wpAny_seqItems ho hd ?_)
  dsimp only
  refine wpAny_bind ?_
  show wpAny _ _ (forIn items _ _) _ _ s
  rw [← Array.forIn_toList]
  refine wpAny_forIn_list _ (fun rest r s' => r.1 = none ∧ s' = s ∧ ∀ u ∈ rest, ∃ k, IsIt P w s.heap k u) _ ?_ ?_ _ _ ⟨rfl, rfl, its_mem hi⟩
  · rintro u rest r s' ⟨hr, rfl, all⟩
    obtain ⟨k, hk⟩ := all u List.mem_cons_self
    refine wpAny_bind (it_cls 6 hk ?_)
    simp only [Bool.false_eq_true, if_false]
    exact wpAny_pure ⟨rfl, rfl, fun z hz => all z (List.mem_cons_of_mem _ hz)⟩
  · rintro ⟨r1, r2⟩ s' ⟨hr, rfl, _⟩
    simp only at hr
    subst hr
    exact wpAny_pure h
theorem key_byv (n : Nat) {k : Key} {v : Value} (x : (mixKind P w).is k v = true) : ∃ b, hashByValue n v = pure b := by
  rcases keyIs_shape x with ⟨i, t, rfl, rfl⟩ | ⟨x, t, rfl, rfl⟩
  · exact ⟨true, by cases n <;> rfl⟩
  · exact ⟨false, by cases n <;> rfl⟩
theorem it_byv (n : Nat) {k : It1} {v : Value} {Q : Bool → Shared → Prop} (x : IsIt P w s.heap k v) (h : ∀ b, Q b s) : wpAny (model P w) A (hashByValue (n + 1) v) Q E s := by
  cases k with
  | inl k =>
    obtain ⟨b, e⟩ := key_byv (P := P) (w := w) (n + 1) x
    rw [e]
    exact wpAny_pure (h b)
  | inr ks =>
    obtain ⟨a, rfl, q⟩ := x
    have ty := q.typeIs
    obtain ⟨o, items, m, ho, _, hd, hi⟩ := q
    unfold hashByValue
    refine wpAny_bind (wpAny_specialOf ty F.slot_tuple_hash.lookup ?_)
    show wpAny _ _ (seqItems? (.ref a) >>= _) _ _ s
    refine wpAny_bind (wpAny_seqItems ho hd (wpAny_bind ?_))
    show wpAny _ _ (forIn items _ _) _ _ s
    rw [← Array.forIn_toList]
    have all0 := keys_mem hi
    refine wpAny_forIn_list _ (fun rest r s' => r.1 = none ∧ s' = s ∧ (∀ u ∈ rest, ∃ k, (mixKind P w).is k u = true)) _ ?_ ?_ _ _ ⟨rfl, rfl, all0⟩
    · rintro u rest r s' ⟨hr, rfl, all⟩
      obtain ⟨k, hk⟩ := all u List.mem_cons_self
      obtain ⟨b, e⟩ := key_byv (P := P) (w := w) n hk
      rw [e]
      refine wpAny_bind (wpAny_pure ?_)
      cases b with
      | true =>
        simp only [Bool.not_true, Bool.false_eq_true, if_false]
        exact wpAny_pure ⟨rfl, rfl, fun z hz => all z (List.mem_cons_of_mem _ hz)⟩
      | false =>
        simp only [Bool.not_false, if_true]
        exact wpAny_pure (wpAny_pure (h _))
    · rintro ⟨r1, r2⟩ s' ⟨hr, rfl, _⟩
      simp only at hr
      subst hr
      exact wpAny_pure (h _)
theorem n_byv {x : List It1} {a : Addr} {Q : Bool → Shared → Prop} (hx : IsN P w sh s.heap x a) (h : ∀ b, Q b s) : wpAny (model P w) A (hashByValue 8 (.ref a)) Q E s := by
  have ty := hx.typeIs
  obtain ⟨_, o, items, m, ho, _, hd, hi⟩ := hx
  unfold hashByValue
  refine wpAny_bind (wpAny_specialOf ty F.slot_tuple_hash.lookup ?_)
  show wpAny _ _ (seqItems? (.ref a) >>= _) _ _ s
  refine wpAny_bind (wpAny_seqItems ho hd (wpAny_bind ?_))
  show wpAny _ _ (forIn items _ _) _ _ s
  rw [← Array.forIn_toList]
  refine wpAny_forIn_list _ (fun rest r s' => r.1 = none ∧ s' = s ∧ (∀ u ∈ rest, ∃ k, IsIt P w s.heap k u)) _ ?_ ?_ _ _ ⟨rfl, rfl, its_mem hi⟩
  · rintro u rest r s' ⟨hr, rfl, all⟩
    obtain ⟨k, hk⟩ := all u List.mem_cons_self
    refine wpAny_bind (it_byv 6 hk fun b => ?_)
    cases b with
    | true =>
      simp only [Bool.not_true, Bool.false_eq_true, if_false]
      exact wpAny_pure ⟨rfl, rfl, fun z hz => all z (List.mem_cons_of_mem _ hz)⟩
    | false =>
      simp only [Bool.not_false, if_true]
      exact wpAny_pure (wpAny_pure (h _))
  · rintro ⟨r1, r2⟩ s' ⟨hr, rfl, _⟩
    simp only at hr
    subst hr
    exact wpAny_pure (h _)
end
end NT
/-! the set of a list of such tuples, no two alike: it has as many members -/
namespace NT
open PySem PySem.Spec PyProof.Rows L2
abbrev Mem : Type := Addr × List It1
def rowsN (P : Program) (w : World) (L : List Mem) : List (Int × Value) := L.map fun p => (nHash P w p.2, Value.ref p.1)
abbrev hashes (P : Program) (w : World) (L : List Mem) : List Int := L.map fun p => nHash P w p.2
structure SetN (P : Program) (w : World) (sh : List Bool) (h : Heap) (a : Addr) (L : List Mem) (es : Array (Int × Value)) (ep : Nat) (t : SetTable) : Prop where
  ob : ∃ o, h.get? a = some o ∧ o.ExactSet ∧ o.data = .set es ep t
  rows : es.toList = rowsN P w L
  tab : TabOk t (hashes P w L)
  tup : ∀ p ∈ L, IsN P w sh h p.2 p.1
  led : w.params.followText "set-order" = true ∨ t.led = true
  room : L.length * 5 < t.mask * 3
  few : L.length < 64
section
variable {P : Program} {w : World} {A : Around} {E : Value → Shared → Prop} {s : Shared} {sh : List Bool} {a : Addr} {L : List Mem} {es : Array (Int × Value)} {ep : Nat} {t : SetTable}
theorem rows_len (hr : es.toList = rowsN P w L) : es.size = L.length := by
  have z := congrArg List.length hr
  rwa [rowsN, Array.length_toList, List.length_map] at z
theorem rows_at (hr : es.toList = rowsN P w L) {i : Nat} {p : Mem} (h : L[i]? = some p) : es[i]? = some (nHash P w p.2, Value.ref p.1) := by
  rw [← Array.getElem?_toList, hr, rowsN, List.getElem?_map, h]
  rfl
theorem SetN.fits (R : SetN P w sh s.heap a L es ep t) : t.fits es.size = true := by
  have z1 := R.tab.sz
  rw [List.length_map] at z1
  have z2 := rows_len R.rows
  have z3 := R.room
  unfold SetTable.fits SetTable.fill
  rw [R.tab.dm, Bool.and_eq_true, beq_iff_eq, decide_eq_true_eq]
  show t.place.size = es.size ∧ t.place.size + 0 ≤ t.mask
  omega
theorem SetN.firm (R : SetN P w sh s.heap a L es ep t) : ¬ t.gaveWay = true := by
  unfold SetTable.gaveWay
  rw [mask_odd R.tab.mok]
  decide
theorem seen_none {k : List It1} {b : Addr} {Q : Bool → Shared → Prop} (hk : IsN P w sh s.heap k b) {ys : List Value} (hy : ∀ y ∈ ys, ∃ k' c, y = Value.ref c ∧ IsN P w sh s.heap k' c) (h : Q false s) : wpAny (model P w) A (searchCouldBeSeen (.ref b) ys) Q E s := by
  unfold searchCouldBeSeen
  refine wpAny_bind ?_
  refine wpAny_forIn_list _ (fun rest r s' => r.1 = none ∧ s' = s ∧ ∀ y ∈ rest, ∃ k' c, y = Value.ref c ∧ IsN P w sh s.heap k' c) _ ?_ ?_ _ _ ⟨rfl, rfl, hy⟩
  · rintro v rest r s' ⟨hr, rfl, all⟩
    obtain ⟨k', c, rfl, hc⟩ := all v List.mem_cons_self
    have left : ∀ y ∈ rest, ∃ k' c, y = Value.ref c ∧ IsN P w sh s'.heap k' c := fun u hu => all u (List.mem_cons_of_mem _ hu)
    dsimp only
    by_cases very : (b == c || (carriedByValue (.ref b) && carriedByValue (.ref c))) = true
    · exact wp_if_pos very (wpAny_pure ⟨rfl, rfl, left⟩)
    · refine wp_if_neg very (wpAny_bind (n_quiet hk ?_))
      simp only [Bool.not_true, Bool.false_eq_true, if_false]
      refine wpAny_bind (n_quiet hc ?_)
      simp only [Bool.not_true, Bool.false_eq_true, if_false]
      refine wpAny_bind (n_cls hk ?_)
      simp only [Bool.false_eq_true, if_false]
      refine wpAny_bind (n_cls hc ?_)
      simp only [Bool.false_eq_true, if_false]
      exact wpAny_pure ⟨rfl, rfl, left⟩
  · rintro ⟨r1, r2⟩ s' ⟨hr, rfl, _⟩
    simp only at hr
    subst hr
    exact wpAny_pure h
abbrev start (m : Nat) (h : Int) : SetTable.Probe := runAt m (SetTable.bits h % (m + 1)) (SetTable.bits h)
/-- the search for what is not there, from the c-th step on -/
theorem search_from (R : SetN P w sh s.heap a L es ep t) {x : Addr} {k : List It1} (hx : IsN P w sh s.heap k x) (hu : A.units + 8 < cLine) (new : ∀ p ∈ L, p.2 ≠ k) {N : Nat} (lt : N < 10 * SetTable.turns t.mask) (hN : way t.mask (nHash P w k) N ∉ t.place.toList)
    (full : ∀ c, c < N → way t.mask (nHash P w k) c ∈ t.place.toList) {Q : SetFound → Shared → Prop} (free : Q (.free (way t.mask (nHash P w k) N) false) s) :
    ∀ (f c : Nat) (stand : Option SetTable.Probe), stand.getD (t.probeStart (nHash P w k)) = nth t.mask (start t.mask (nHash P w k)) c → c ≤ N → N - c < f → wpAny (model P w) A (setSearchFrom a (.ref x) (nHash P w k) true f stand) Q E s
  | 0, c, stand, _, _, hf => absurd hf (Nat.not_lt_zero _)
  | f + 1, c, stand, hst, hc, hf => by
    obtain ⟨o, ho, hex, hd⟩ := R.ob
    rw [setSearchFrom_succ]
    refine wpAny_bind (wpAny_setState_of ho hd R.fits ?_)
    dsimp only
    refine wp_if_neg R.firm ?_
    try refine wpAny_bind (wpAny_pure ?_)
    have noDummy : (nth t.mask (start t.mask (nHash P w k)) c).dummy = none := by
      have key : ∀ (n : Nat) (p : SetTable.Probe), p.dummy = none → (nth t.mask p n).dummy = none := by
        intro n
        induction n with
        | zero => intro p z; exact z
        | succ n ih =>
          intro p z
          refine ih (adv t.mask p) ?_
          unfold adv
          split <;> exact z
      exact key c _ rfl
    have shift : ∀ q, nth t.mask (nth t.mask (start t.mask (nHash P w k)) c) q = nth t.mask (start t.mask (nHash P w k)) (c + q) := fun q => (nth_add t.mask c _ q).symm
    have atj : ∀ q, (nth t.mask (nth t.mask (start t.mask (nHash P w k)) c) q).j = way t.mask (nHash P w k) (c + q) := fun q => congrArg SetTable.Probe.j (shift q)
    have spec := go_spec t R.tab.ris R.tab.dm (fun i => (es[i]?.map (·.1)).getD 0) (nHash P w k) (10 * SetTable.turns t.mask) (N - c) _ noDummy (by omega) (fun q hq => by rw [atj]; exact full (c + q) (by omega)) (by rw [atj, show c + (N - c) = N by omega]; exact hN)
    rcases spec with ⟨q, i, hq, hi, hh, hno, hpr⟩ | ⟨hno, hpr⟩
    · have probe : t.probe (fun i => (es[i]?.map (·.1)).getD 0) (nHash P w k) (stand.getD (t.probeStart (nHash P w k))) = some (.candidate (way t.mask (nHash P w k) (c + q)) i (nth t.mask (start t.mask (nHash P w k)) (c + (q + 1)))) := by
        rw [hst, ← atj, ← shift]
        exact hpr
      rw [probe]
      dsimp only
      rw [atj] at hi
      have il : i < L.length := by
        have z1 : i < t.place.toList.length := (List.getElem?_eq_some_iff.mp hi).1
        have z2 := R.tab.sz
        rw [List.length_map] at z2
        rw [Array.length_toList] at z1
        omega
      have hp : L[i]? = some L[i] := List.getElem?_eq_getElem il
      generalize L[i] = p at hp
      have mem : p ∈ L := List.mem_of_getElem? hp
      have ne : p.2 ≠ k := new p mem
      have rest : wpAny (model P w) A (searchRest a (.ref x) (nHash P w k) true f es t (way t.mask (nHash P w k) (c + q)) i (nth t.mask (start t.mask (nHash P w k)) (c + (q + 1)))) Q E s := by
        unfold searchRest
        rw [rows_at R.rows hp]
        dsimp only
        refine wpAny_bind (wpAny_holding (n_eq hu (R.tup p mem) hx ?_))
        refine wpAny_bind (wpAny_setState_of ho hd R.fits ?_)
        dsimp only
        refine wp_if_neg (by simp [ne]) ?_
        try refine wpAny_bind (wpAny_pure ?_)
        rw [sameMem]
        dsimp only
        have slot : t.slot (way t.mask (nHash P w k) (c + q)) = .live i := slot_live R.tab.ris hi
        simp only [if_true, slot, rows_at R.rows hp]
        refine wpAny_bind (wpAny_isSame_ref_self (wpAny_bind (wpAny_pure ?_)))
        simp only [if_true]
        refine wp_if_neg (by simp [ne]) ?_
        exact search_from R hx hu new lt hN full free f (c + (q + 1)) _ rfl (by omega) (by omega)
      by_cases hl : t.led = true
      · refine wp_if_neg (by simp [hl]) ?_
        try refine wpAny_bind (wpAny_pure ?_)
        exact rest
      · refine wp_if_pos (by simp [hl]) ?_
        refine wpAny_bind (seen_none hx (fun y hy => ?_) ?_)
        · obtain ⟨e, he, ee⟩ := List.mem_map.mp hy
          have he1 : e ∈ es ∧ e.1 = nHash P w k := by simpa using he
          have he2 : e ∈ es.toList := by simpa using he1.1
          rw [R.rows] at he2
          obtain ⟨p2, hp2, e2⟩ := List.mem_map.mp he2
          exact ⟨p2.2, p2.1, by rw [← ee, ← e2], R.tup p2 hp2⟩
        · refine wp_if_neg (by decide) ?_
          try refine wpAny_bind (wpAny_pure ?_)
          exact rest
    · have probe : t.probe (fun i => (es[i]?.map (·.1)).getD 0) (nHash P w k) (stand.getD (t.probeStart (nHash P w k))) = some (.empty (way t.mask (nHash P w k) N) none) := by
        have e2 : way t.mask (nHash P w k) N = (nth t.mask (nth t.mask (start t.mask (nHash P w k)) c) (N - c)).j := by rw [atj, show c + (N - c) = N by omega]
        rw [hst, e2]
        exact hpr
      rw [probe]
      dsimp only
      exact wpAny_pure free
theorem search_new (R : SetN P w sh s.heap a L es ep t) {x : Addr} {k : List It1} (hx : IsN P w sh s.heap k x) (hu : A.units + 8 < cLine) (new : ∀ p ∈ L, p.2 ≠ k) {Q : SetFound → Shared → Prop}
    (free : ∀ N, way t.mask (nHash P w k) N ∉ t.place.toList → (∀ c, c < N → way t.mask (nHash P w k) c ∈ t.place.toList) → Q (.free (way t.mask (nHash P w k) N) false) s) : wpAny (model P w) A (setSearch a (.ref x) (nHash P w k) true) Q E s := by
  have room := R.room
  obtain ⟨N, lt, hN, full⟩ := R.tab.first (by rw [List.length_map]; omega) (nHash P w k)
  have small : N < 100000 := by
    have : 10 * SetTable.turns t.mask ≤ 1420 := by
      unfold SetTable.turns
      rcases R.tab.mok with e | e | e <;> omega
    omega
  unfold setSearch
  exact search_from R hx hu new lt hN full (free N hN full) 100000 0 none rfl (Nat.zero_le _) (by omega)
end
end NT
namespace NT
open PySem PySem.Spec PyProof.Rows L2
section
variable {P : Program} {w : World} {A : Around} {E : Value → Shared → Prop} {s : Shared} {sh : List Bool} {a : Addr} {L : List Mem} {es : Array (Int × Value)} {ep : Nat} {t : SetTable}
theorem n_same {h h' : Heap} {k : List It1} {b : Addr} {o : Obj} (hb : IsN P w sh h k b) (ho : h.get? a = some o) (hex : o.ExactSet) (but : Heap.SameBut a h h') : IsN P w sh h' k b := hb.keep fun c u e hc => by
  by_cases ne : c = a
  · subst ne
    rw [ho] at e
    cases e
    rw [hex.1] at hc
    exact absurd hc (by decide)
  · exact (but.2 c ne).trans e
theorem order_mem (L : List Mem) (es : Array (Int × Value)) (order : Array Nat) (hr : es.toList = rowsN P w L) (hp : order.toList.Perm (List.range L.length)) :
    ∃ M, (order.filterMap (es[·]?)).toList = rowsN P w M ∧ M.Perm L ∧ hashes P w M = order.toList.map fun i => (es.map (·.1)).getD i 0 := by
  have size := rows_len hr
  have key : ∀ l : List Nat, (∀ i ∈ l, i < L.length) → ∃ M : List Mem, l.filterMap (fun i => es[i]?) = rowsN P w M ∧ M = l.filterMap (fun i => L[i]?) ∧ hashes P w M = l.map fun i => (es.map (·.1)).getD i 0 := by
    intro l
    induction l with
    | nil => intro _; exact ⟨[], rfl, rfl, rfl⟩
    | cons i l ih =>
      intro hl
      have hi := hl i List.mem_cons_self
      obtain ⟨M, e1, e2, e3⟩ := ih fun j hj => hl j (List.mem_cons_of_mem _ hj)
      have ent := rows_at hr (List.getElem?_eq_getElem hi)
      refine ⟨L[i] :: M, ?_, ?_, ?_⟩
      · rw [List.filterMap_cons_some ent, e1]
        rfl
      · rw [List.filterMap_cons_some (List.getElem?_eq_getElem hi), e2]
      · have e5 : (es.map (·.1))[i]? = some (nHash P w (L[i]).2) := by
          rw [Array.getElem?_map, ent]
          rfl
        have e4 : (es.map (·.1)).getD i 0 = nHash P w (L[i]).2 := by simp [Array.getD_eq_getD_getElem?, e5]
        show nHash P w (L[i]).2 :: hashes P w M = _
        rw [List.map_cons, e3, e4]
  obtain ⟨M, e1, e2, e3⟩ := key order.toList fun i hi => List.mem_range.mp (hp.mem_iff.mp hi)
  refine ⟨M, by first | (rw [Array.toList_filterMap]; exact e1) | simpa using e1, ?_, e3⟩
  have all : ∀ n, n ≤ L.length → (List.range n).filterMap (fun i => L[i]?) = L.take n := by
    intro n
    induction n with
    | zero => intro _; rfl
    | succ n ih =>
      intro hn
      have lt : n < L.length := hn
      rw [List.range_succ, List.filterMap_append, ih (Nat.le_of_lt lt), List.take_succ, List.getElem?_eq_getElem lt, List.filterMap_cons_some (List.getElem?_eq_getElem lt)]
      rfl
  have p1 : M.Perm ((List.range L.length).filterMap fun i => L[i]?) := by
    rw [e2]
    exact hp.filterMap _
  rwa [all L.length (Nat.le_refl _), List.take_length] at p1
theorem relay {o : Obj} (ho : s.heap.get? a = some o) (hex : o.ExactSet) (hd : o.data = .set es ep t) (hr : es.toList = rowsN P w L) (sz : t.place.size = es.size) (dm : t.dummies = #[]) (small : es.size ≤ t.mask) (tup : ∀ p ∈ L, IsN P w sh s.heap p.2 p.1)
    (led : w.params.followText "set-order" = true ∨ t.led = true) (few : L.length < 64) {wanted m : Nat} (hw : SetTable.sizeAbove wanted - 1 = m) (hm : MaskOk m) (hw2 : SetTable.sizeAbove wanted ≤ 128) (room : L.length * 5 < m * 3) {Q : Unit → Shared → Prop}
    (hQ : ∀ h' L' es' ep' t', Heap.SameBut a s.heap h' → SetN P w sh h' a L' es' ep' t' → L'.Perm L → Q () { s with heap := h' }) : wpAny (model P w) A (setRelay a wanted) Q E s := by
  have size := rows_len hr
  have fit : t.fits es.size = true := by
    unfold SetTable.fits SetTable.fill
    rw [dm, Bool.and_eq_true, beq_iff_eq, decide_eq_true_eq]
    show t.place.size = es.size ∧ t.place.size + 0 ≤ t.mask
    omega
  obtain ⟨t', order, e, hp, T, em, el, _, _⟩ := relaid_ok t (hs := es.map (·.1)) (wanted := wanted) hw hm (by rw [Array.size_map, size]; omega)
  rw [Array.size_map, size] at hp
  obtain ⟨M, r1, r2, r3⟩ := order_mem L es order hr hp
  rw [← r3] at T
  have size2 : (order.filterMap (es[·]?)).size = es.size := by rw [rows_len r1, r2.length_eq, size]
  rw [setRelay_eq]
  refine wpAny_bind (wpAny_setState_of ho hd fit ?_)
  dsimp only
  refine wp_if_neg (by rw [sizeLine_eq]; omega) ?_
  try refine wpAny_bind (wpAny_pure ?_)
  rw [e]
  dsimp only
  refine wpAny_bind ?_
  refine wp_if_neg (by rw [size2]; simp) ?_
  try refine wpAny_bind (wpAny_pure ?_)
  refine wpAny_pure ?_
  dsimp only
  refine wpAny_storeSet_of ho hd ?_ (by rw [size2, size, sizeLine_eq]; omega)
  have but : Heap.SameBut a s.heap (s.heap.update a (Obj.putSet (order.filterMap (es[·]?)) t')) := Heap.SameBut.update ..
  refine hQ _ M (order.filterMap (es[·]?)) (ep + 1) t' but ⟨⟨_, store_at ho hd, ⟨hex.1, hex.2.1, hex.2.2⟩, rfl⟩, r1, T, fun p hpm => n_same (tup p (r2.mem_iff.mp hpm)) ho hex but, by rw [el]; exact led, ?_, by rw [r2.length_eq]; exact few⟩ r2
  rw [r2.length_eq, em]
  exact room
theorem put_mem (L : List Mem) (p : Nat) (x : Mem) : (L.take p ++ x :: L.drop p).Perm (x :: L) := by
  have z : (L.take p ++ x :: L.drop p).Perm (x :: (L.take p ++ L.drop p)) := List.perm_middle
  rwa [List.take_append_drop] at z
theorem add_new (R : SetN P w sh s.heap a L es ep t) {x : Addr} {k : List It1} (hx : IsN P w sh s.heap k x) (hu : A.units + 8 < cLine) (new : ∀ p ∈ L, p.2 ≠ k) (few : L.length + 1 < 64) {Q : Bool → Shared → Prop}
    (hQ : ∀ b h' L' es' ep' t', Heap.SameBut a s.heap h' → SetN P w sh h' a L' es' ep' t' → L'.Perm ((x, k) :: L) → Q b { s with heap := h' }) : wpAny (model P w) A (setAddHashed a (.ref x) (nHash P w k)) Q E s := by
  obtain ⟨o, ho, hex, hd⟩ := R.ob
  have size := rows_len R.rows
  have room := R.room
  unfold setAddHashed
  refine wpAny_holding ?_
  rw [show (100000 : Nat) = 99999 + 1 from rfl, setAddHashedIn_succ]
  refine wpAny_bind (wpAny_setState_of ho hd R.fits ?_)
  dsimp only
  refine wp_if_neg (by simp [byScan, Value.scannable]) ?_
  try refine wpAny_bind (wpAny_pure ?_)
  refine wpAny_bind (search_new R hx hu new fun N hN full => ?_)
  dsimp only
  refine wpAny_bind (wpAny_setState_of ho hd R.fits ?_)
  dsimp only
  obtain ⟨q1, q2, q3, q4, q5, _, _, _, q9⟩ := R.tab.put hN full
  generalize t.put (way t.mask (nHash P w k) N) = pt at q1 q3 q4 q5 q9 ⊢
  obtain ⟨t1, p⟩ := pt
  dsimp only at q1 q3 q4 q5 q9 ⊢
  subst q1
  have rows1 : (SetTable.insertAt es (SetTable.below t.place (way t.mask (nHash P w k) N)) (nHash P w k, Value.ref x)).toList = rowsN P w (L.take (SetTable.below t.place (way t.mask (nHash P w k) N)) ++ (x, k) :: L.drop (SetTable.below t.place (way t.mask (nHash P w k) N))) := by
    rw [SetTable.toList_insertAt, R.rows]
    unfold rowsN
    rw [List.map_append, List.map_cons, List.map_take, List.map_drop]
  have tab1 : TabOk t1 (hashes P w (L.take (SetTable.below t.place (way t.mask (nHash P w k) N)) ++ (x, k) :: L.drop (SetTable.below t.place (way t.mask (nHash P w k) N)))) := by
    have z : hashes P w (L.take (SetTable.below t.place (way t.mask (nHash P w k) N)) ++ (x, k) :: L.drop (SetTable.below t.place (way t.mask (nHash P w k) N))) = (hashes P w L).take (SetTable.below t.place (way t.mask (nHash P w k) N)) ++ nHash P w k :: (hashes P w L).drop (SetTable.below t.place (way t.mask (nHash P w k) N)) := by
      unfold hashes
      rw [List.map_append, List.map_cons, List.map_take, List.map_drop]
    rw [z]
    exact q3
  generalize SetTable.below t.place (way t.mask (nHash P w k) N) = p at q2 tab1 rows1 ⊢
  have pm := put_mem L p (x, k)
  have len : (L.take p ++ (x, k) :: L.drop p).length = L.length + 1 := pm.length_eq
  have size1 := rows_len rows1
  rw [len] at size1
  generalize SetTable.insertAt es p (nHash P w k, Value.ref x) = es1 at rows1 size1 ⊢
  generalize L.take p ++ (x, k) :: L.drop p = M at pm len tab1 rows1
  -- the table, plain or no longer
  have tail : ∀ t2 : SetTable, TabOk t2 (hashes P w M) → t2.mask = t.mask → t2.led = t.led → t2.fill = L.length + 1 → wpAny (model P w) A (do
      storeSet a es1 t2
      if !false && t2.tooFull then setRelay a (SetTable.grown (es.size + 1))
      return true) Q E s := fun t2 tab2 mask2 led2 fill2 => by
    refine wpAny_bind (wpAny_storeSet_of ho hd ?_ (by rw [size1, sizeLine_eq]; omega))
    have but : Heap.SameBut a s.heap (s.heap.update a (Obj.putSet es1 t2)) := Heap.SameBut.update ..
    have at1 := store_at (es' := es1) (t' := t2) ho hd
    generalize s.heap.update a (Obj.putSet es1 t2) = h1 at but at1 ⊢
    have tup1 : ∀ p ∈ M, IsN P w sh h1 p.2 p.1 := fun p hp => by
      rcases List.mem_cons.mp (pm.mem_iff.mp hp) with e | hp
      · rw [e]
        exact n_same hx ho hex but
      · exact n_same (R.tup p hp) ho hex but
    have led3 : w.params.followText "set-order" = true ∨ t2.led = true := by rw [led2]; exact R.led
    by_cases full2 : t2.tooFull = true
    · first
        | (refine wpAny_bind ?_; refine wp_if_pos (by simp [full2]) ?_)
        | (refine wp_if_pos (by simp [full2]) ?_; refine wpAny_bind ?_)
      have much : (L.length + 1) * 5 ≥ t2.mask * 3 := by
        have z := full2
        unfold SetTable.tooFull at z
        rw [decide_eq_true_eq, fill2] at z
        exact z
      rw [size]
      have sz2 : t2.place.size = es1.size := by
        have z := tab2.sz
        rw [List.length_map, len] at z
        rw [z, size1]
      have two : (t.mask = 7 ∧ L.length = 4) ∨ (t.mask = 31 ∧ L.length = 18) := by
        rcases R.tab.mok with e | e | e
        · left; rw [mask2, e] at much; rw [e] at room; exact ⟨e, by omega⟩
        · right; rw [mask2, e] at much; rw [e] at room; exact ⟨e, by omega⟩
        · exfalso; rw [mask2, e] at much; omega
      have go : ∀ m, SetTable.sizeAbove (SetTable.grown (L.length + 1)) - 1 = m → MaskOk m → SetTable.sizeAbove (SetTable.grown (L.length + 1)) ≤ 128 → (L.length + 1) * 5 < m * 3 →
          wpAny (model P w) A (setRelay a (SetTable.grown (L.length + 1))) (fun _ s' => wpAny (model P w) A (pure true) Q E s') E { s with heap := h1 } := fun m z1 z2 z3 z4 => by
        refine relay (s := { s with heap := h1 }) at1 ⟨hex.1, hex.2.1, hex.2.2⟩ rfl rows1 sz2 tab2.dm (by rw [size1, mask2]; rcases two with ⟨e, e2⟩ | ⟨e, e2⟩ <;> omega) tup1 led3 (by rw [len]; exact few) z1 z2 z3 (by rw [len]; exact z4) ?_
        intro h2 L2 es2 ep2 t3 but2 R2 pm2
        exact wpAny_pure (hQ true h2 L2 es2 ep2 t3 (but.trans but2) R2 (pm2.trans pm))
      rcases two with ⟨_, e2⟩ | ⟨_, e2⟩
      · exact go 31 (by rw [e2, size_20]) (.inr (.inl rfl)) (by rw [e2, size_20]; decide) (by omega)
      · exact go 127 (by rw [e2, size_76]) (.inr (.inr rfl)) (by rw [e2, size_76]; decide) (by omega)
    · first
        | refine wp_if_neg (by simp [full2]) ?_
        | (refine wpAny_bind ?_; refine wp_if_neg (by simp [full2]) ?_; refine wpAny_pure ?_)
      refine wpAny_pure (hQ true h1 M es1 (ep + 1) t2 but ⟨⟨_, at1, ⟨hex.1, hex.2.1, hex.2.2⟩, rfl⟩, rows1, tab2, tup1, led3, ?_, by rw [len]; exact few⟩ pm)
      have z := full2
      unfold SetTable.tooFull at z
      rw [decide_eq_true_eq, fill2] at z
      rw [len]
      omega
  rw [List.length_map] at q9
  have off : TabOk ({ t1 with plain := false } : SetTable) (hashes P w M) := ⟨tab1.ris, tab1.dm, tab1.sz, tab1.mok, tab1.bd, tab1.reach⟩
  by_cases pl : t1.plain = true
  · first
      | (refine wpAny_bind ?_; refine wp_if_pos pl ?_; refine n_byv hx fun b => ?_)
      | refine wp_if_pos pl (wpAny_bind (n_byv hx fun b => ?_))
    cases b with
    | true => exact tail t1 tab1 q4 q5 q9
    | false => exact tail _ off q4 q5 q9
  · first
      | (refine wpAny_bind ?_; refine wp_if_neg pl ?_; refine wpAny_pure ?_)
      | refine wp_if_neg pl (wpAny_bind (wpAny_pure ?_))
    exact tail t1 tab1 q4 q5 q9
end
end NT
namespace NT
open PySem PySem.Spec PyProof.Rows L2
section
variable {P : Program} {w : World} {A : Around} {E : Value → Shared → Prop} {s : Shared} {sh : List Bool}
theorem SetN.keep {h h' : Heap} {a : Addr} {L : List Mem} {es : Array (Int × Value)} {ep : Nat} {t : SetTable} (R : SetN P w sh h a L es ep t) (k : ∀ o, h.get? a = some o → h'.get? a = some o) (ht : ∀ p ∈ L, IsN P w sh h' p.2 p.1) : SetN P w sh h' a L es ep t := by
  obtain ⟨o, ho, r⟩ := R.ob
  exact ⟨⟨o, k o ho, r⟩, R.rows, R.tab, ht, R.led, R.room, R.few⟩
theorem fresh_n {h : Heap} {a : Addr} (ho : h.get? a = some (SX.freshSet w)) : SetN P w sh h a [] #[] 0 (.fresh 0 0 (!w.params.followText "set-order")) where
  ob := ⟨_, ho, ⟨rfl, rfl, rfl⟩, rfl⟩
  rows := rfl
  tab := ⟨List.Pairwise.nil, rfl, rfl, .inl rfl, fun x hx => (by cases hx), fun i h j hi => (by simp at hi)⟩
  tup := fun p hp => (by cases hp)
  led := by
    show _ ∨ (!w.params.followText "set-order") = true
    cases w.params.followText "set-order"
    · exact .inr rfl
    · exact .inl rfl
  room := by
    show 0 * 5 < 7 * 3
    decide
  few := by
    show 0 < 64
    decide
theorem update_n {I : Addr} {fp wr : List Addr} {G : Array GenState → Array GenState → Prop} {n : Nat} {Pv : Nat → Value → Prop} {St : Nat → Shared → Prop} {R : Result → Shared → Prop} (W : WalksS P w A.in1 I fp wr G n Pv St) (S : Addr) (out : S ∉ fp) (ks : List Mem) (hn : n = ks.length) (few : ks.length < 64)
    (nd : (ks.map (·.2)).Nodup) (val : ∀ i v, Pv i v → ∃ p, ks[i]? = some p ∧ v = .ref p.1) (h0 : Heap) (hk : ∀ p ∈ ks, IsN P w sh h0 p.2 p.1) (noS : h0.get? S = none) (noW : ∀ b ∈ wr, h0.get? b = none) (hu : A.in1.units + 8 < cLine) :
    ∀ (k i : Nat) (s : Shared), n - i = k → i ≤ n → St i s → (∀ b o, h0.get? b = some o → s.heap.get? b = some o) → (∃ L es ep t, SetN P w sh s.heap S L es ep t ∧ L.Perm (ks.take i)) →
      (∀ s' L es ep t, Moved (S :: wr) G s s' → SetN P w sh s'.heap S L es ep t → L.length = n → (∀ b o, h0.get? b = some o → s'.heap.get? b = some o) → R (.ok (.ret .none)) s') → codeAny (model P w) A (.builtin "set.update.loop" ⟨[.ref S, .ref I], []⟩) R s := by
  have out2 : S ∉ wr := fun h => out (W.sub _ h)
  have more : ∀ b ∈ wr, b ∈ S :: wr := fun b hb => List.mem_cons_of_mem _ hb
  have keepM : ∀ {s s' : Shared}, Moved wr G s s' → (∀ b o, h0.get? b = some o → s.heap.get? b = some o) → ∀ b o, h0.get? b = some o → s'.heap.get? b = some o := fun hm old b o e => hm.heap b o (fun hb => by rw [noW b hb] at e; cases e) (old b o e)
  have nkeep : ∀ {h' : Heap} {p : Mem}, p ∈ ks → (∀ b o, h0.get? b = some o → h'.get? b = some o) → IsN P w sh h' p.2 p.1 := fun hp old => (hk _ hp).keep fun b o e _ => old b o e
  intro k
  induction k with
  | zero =>
    intro i s hk' hi hst old ⟨L, es, ep, t, hS, pm⟩ hR
    have hin : i = n := by omega
    subst hin
    have sub : ∀ p ∈ L, p ∈ ks := fun p hp => List.mem_of_mem_take (pm.mem_iff.mp hp)
    refine codeAny_builtin F.entry_set_update_loop ?_
    rw [Around.under_plainId F.plain_set_update_loop _]
    show wpAny _ A.in1 (pyNext (.ref I) >>= _) _ _ s
    refine wpAny_bind (W.done s _ _ hst fun s' hm => ?_)
    have old2 := keepM hm old
    refine wpAny_pure (hR s' L es ep t (hm.mono more) (hS.keep (fun o e => hm.heap S o out2 e) fun p hp => nkeep (sub p hp) old2) ?_ old2)
    rw [pm.length_eq, List.length_take]
    omega
  | succ k ih =>
    intro i s hk' hi hst old ⟨L, es, ep, t, hS, pm⟩ hR
    have lt : i < n := by omega
    have sub : ∀ p ∈ L, p ∈ ks := fun p hp => List.mem_of_mem_take (pm.mem_iff.mp hp)
    refine codeAny_builtin F.entry_set_update_loop ?_
    rw [Around.under_plainId F.plain_set_update_loop _]
    show wpAny _ A.in1 (pyNext (.ref I) >>= _) _ _ s
    refine wpAny_bind (W.item i s _ _ lt hst fun v s' hP hst' hm => ?_)
    obtain ⟨p, hp, rfl⟩ := val i v hP
    have old2 := keepM hm old
    have here : SetN P w sh s'.heap S L es ep t := hS.keep (fun o e => hm.heap S o out2 e) fun q hq => nkeep (sub q hq) old2
    have hx : IsN P w sh s'.heap p.2 p.1 := nkeep (List.mem_of_getElem? hp) old2
    have new : ∀ q ∈ L, q.2 ≠ p.2 := fun q hq e => by
      have hq2 := pm.mem_iff.mp hq
      obtain ⟨j, hj, ej⟩ := List.getElem_of_mem hq2
      rw [List.length_take] at hj
      rw [List.getElem_take] at ej
      have hi2 : i < ks.length := by omega
      have ei : ks[i] = p := by
        rw [List.getElem?_eq_getElem hi2] at hp
        exact Option.some.inj hp
      have c : j = i := (List.getElem?_inj (i := j) (j := i) (by rw [List.length_map]; omega) nd).mp (by
        rw [List.getElem?_map, List.getElem?_map, List.getElem?_eq_getElem (by omega), List.getElem?_eq_getElem hi2, ej, ei]
        exact congrArg some e)
      omega
    show wpAny _ A.in1 (holding [Value.ref p.1] (setAdd S (.ref p.1)) >>= _) _ _ s'
    refine wpAny_bind (wpAny_holding ?_)
    unfold setAdd
    refine wpAny_holding (wpAny_bind (n_hash (by omega) hx fun tk le => ?_))
    have lenL : L.length = i := by
      rw [pm.length_eq, List.length_take]
      omega
    refine add_new (s := { s' with toks := tk }) here hx hu new (by omega) fun b h' L' es' ep' t' but put pm2 => ?_
    have pm3 : L'.Perm (ks.take (i + 1)) := by
      rw [take_next hp]
      exact (pm2.trans (List.Perm.cons p pm)).trans (List.perm_append_singleton p (ks.take i)).symm
    have old3 : ∀ b o, h0.get? b = some o → h'.get? b = some o := fun b o e => (but.2 b (fun z => by rw [z, noS] at e; cases e)).trans (old2 b o e)
    refine wpAny_pure ⟨plainId_quiet F.plain_set_update_loop _, ih (i + 1) _ (by omega) lt (W.frame _ s' _ _ hst' le fun b hb o e => ?_) old3 ⟨L', es', ep', t', put, pm3⟩ fun s'' L2 es2 ep2 t2 hm2 last len2 old4 => ?_⟩
    · rw [but.2 b (fun z : b = S => out (z ▸ hb))]
      exact e
    · refine hR s'' L2 es2 ep2 t2 (Moved.trans W.gtrans ((hm.mono more).then_heap le fun b o hb e => ?_) hm2) last len2 old4
      rw [but.2 b (fun z : b = S => hb (z ▸ List.mem_cons_self))]
      exact e
/-- at a: a set of n members -/
def LenAt (h : Heap) (a : Addr) (n : Nat) : Prop := ∃ (o : Obj) (es : Array (Int × Value)) (ep : Nat) (t : SetTable), h.get? a = some o ∧ o.ExactSet ∧ o.data = .set es ep t ∧ t.fits es.size = true ∧ es.size = n ∧ n < 64
theorem call_set_n {l : Addr} {items : Array Value} (ks : List Mem) {Q : Value → Shared → Prop} (hh : A.handled = none) (hl : s.heap.IsList l items) (hit : items.toList = ks.map fun p => Value.ref p.1) (few : ks.length < 64) (nd : (ks.map (·.2)).Nodup)
    (hk : ∀ p ∈ ks, IsN P w sh s.heap p.2 p.1) (hu : A.units + 16 < cLine) (h : ∀ (h' : Heap) (tk : Nat), LenAt h' s.heap.objs.size ks.length → (∀ b o, s.heap.get? b = some o → h'.get? b = some o) → Q (.ref s.heap.objs.size) { s with heap := h', toks := tk }) :
    wpAny (model P w) A (call (.type "set") [.ref l]) Q E s := by
  have size : items.size = ks.length := by
    have q := congrArg List.length hit
    rwa [Array.length_toList, List.length_map] at q
  obtain ⟨c, tl, hmro⟩ := F.called_set.mro
  have made := F.called_set.made
  have sub := F.called_set.sub
  refine wpAny_call (codeAny_of_tree ?_)
  show wpAny _ _ (callAny (.type "set") _) _ _ _
  refine wpAny_pure ⟨Code.quiet_builtin _ (by decide +kernel), codeAny_builtin F.entry_type_call ?_⟩
  rw [Around.under_plain (weight_type_call_type "set" [.ref l] []) rfl]
  have n1 := F.called_set.notType
  have n2 := F.called_set.canCreate
  have n3 := F.typeCall_set_1 (.ref l)
  repeat (any_goals (first | assumption | wp_step))
  refine codeAny_mono (code_set_led1 (.ref l) (E := E) (Q₁ := fun obj s₁ => obj = .ref s.heap.objs.size ∧ s₁ = { s with heap := s.heap.push (SX.freshSet w) }) ⟨rfl, rfl⟩) fun r s₁ hr => ?_
  cases r with
  | error e => exact hr
  | ok fl =>
    cases fl with
    | ret obj =>
      obtain ⟨rfl, rfl⟩ := hr
      have atS : (s.heap.push (SX.freshSet w)).get? s.heap.objs.size = some (SX.freshSet w) := Heap.get?_push_size _ rfl
      have tyS : Shared.TypeIs { s with heap := s.heap.push (SX.freshSet w) } (.ref s.heap.objs.size) "set" := ⟨_, atS, rfl⟩
      have look := F.called_set.init.lookup
      have bind := F.called_set.init.bind (.ref s.heap.objs.size)
      repeat (any_goals (first | assumption | wp_step))
      refine codeAny_mono (codeAny_call_builtin (R := wants (fun r s₂ => r = .none ∧ ∃ h' tk, s₂ = { s with heap := h', toks := tk } ∧ LenAt h' s.heap.objs.size ks.length ∧ (∀ b o, s.heap.get? b = some o → h'.get? b = some o)) E) F.called_set.init.plain F.entry_set_init (check_set_init_1 tyS ?_)) fun r₂ s₂ hr₂ => ?_
      · obtain ⟨ol, hol, hcl, nl, hdl⟩ := hl
        obtain ⟨ocls, odict, odata, oslots⟩ := ol
        simp only at hcl hdl
        subst hcl hdl
        have hol2 : (s.heap.push (SX.freshSet w)).get? l = some { cls := .type "list", dict := odict, data := .seq items nl, slots := oslots } := Heap.get?_push_of_some _ hol
        have b1 := F.sub_list_set
        have b2 := F.sub_list_frozenset
        have b3 : (Value.type "list" == Value.type "dict") = false := by decide
        have lst : (s.heap.push (SX.freshSet w)).IsList l items := ⟨_, hol2, rfl, nl, rfl⟩
        unfold Builtin.«set.__init__» noKeywords Builtin.Frozenset.updateFrom
        generalize hPI : pyIter = PI
        wp_walk
        subst hPI
        refine wpAny_pyIter_list lst ?_
        refine wpAny_bind (wpAny_runValue ?_)
        have low : l < s.heap.objs.size := Heap.lt_size hol
        have calm : A.in1.in1.in1.handled = none := by simp [hh]
        have neI : l ≠ (s.heap.push (SX.freshSet w)).objs.size := by rw [Heap.size_push]; exact Nat.ne_of_lt (Nat.lt_succ_of_lt low)
        have outS : s.heap.objs.size ∉ [(s.heap.push (SX.freshSet w)).objs.size, l] := by
          rw [Heap.size_push]
          simp only [List.mem_cons, List.mem_singleton, List.not_mem_nil, or_false, not_or]
          exact ⟨Nat.ne_of_lt (Nat.lt_succ_self _), Nat.ne_of_gt low⟩
        have val : ∀ (i : Nat) (v : Value), items[i]? = some v → ∃ p, ks[i]? = some p ∧ v = .ref p.1 := fun i v hv => by
          have q : items.toList[i]? = some v := by rw [Array.getElem?_toList]; exact hv
          rw [hit, List.getElem?_map] at q
          cases e : ks[i]? with
          | none => rw [e] at q; cases q
          | some p =>
            rw [e] at q
            exact ⟨p, rfl, (Option.some.inj q).symm⟩
        have none_of : ∀ b, s.heap.objs.size ≤ b → s.heap.get? b = none := fun b hb => by
          cases q : s.heap.get? b with
          | none => rfl
          | some o => exact absurd (Nat.lt_of_lt_of_le (Heap.lt_size q) hb) (Nat.lt_irrefl _)
        have room : A.in1.in1.in1.units + 8 < cLine := by
          show A.units + 1 + 1 + 1 + 8 < cLine
          omega
        refine update_n ((Walks.list calm _ l neI items).toS) s.heap.objs.size outS ks size few nd val s.heap hk (none_of _ (Nat.le_refl _)) (fun b hb => none_of b (by rw [List.mem_singleton.mp hb, Heap.size_push]; exact Nat.le_succ _)) room (items.size - 0) 0 _ (by omega) (Nat.zero_le _)
          ⟨⟨_, Heap.get?_push_size _ rfl, rfl, rfl⟩, (lst.push _)⟩ (fun b o e => Heap.get?_push_of_some _ (Heap.get?_push_of_some _ e)) ⟨[], #[], 0, _, fresh_n (Heap.get?_push_of_some _ atS), List.Perm.refl _⟩ ?_
        intro s' L es ep t hm put len old
        obtain ⟨h', g2, d', tk', os'⟩ := s'
        have eg : g2 = s.gens := hm.gens
        have ed : d' = s.drawn := hm.drawn
        have eo : os' = s.os := hm.os
        subst eg ed eo
        show wpAny _ _ _ _ _ _
        refine wpAny_pure ?_
        show wpAny _ _ (ret Value.none) _ _ _
        obtain ⟨o, ho, hex, hd⟩ := put.ob
        have fit := put.fits (s := ⟨h', s.gens, s.drawn, tk', s.os⟩)
        exact wpAny_pure ⟨rfl, h', tk', rfl, ⟨o, es, ep, t, ho, hex, hd, fit, by rw [rows_len put.rows, len, size], few⟩, old⟩
      · cases r₂ with
        | error e => exact hr₂
        | ok fl₂ =>
          cases fl₂ with
          | ret r =>
            obtain ⟨rfl, h', tk, rfl, put, keep⟩ := hr₂
            repeat (any_goals (first | assumption | wp_step))
            exact h _ _ put keep
          | _ => exact hr₂.elim
    | _ => exact hr.elim
end
end NT
namespace NT
open PySem PySem.Spec PyProof.Rows L2
/-- an item as it is tracked -/
def ItV (H : Hp) : It1 → V → Prop
  | .inl k, v => v = kV k
  | .inr ks, v => ∃ e, v = .ref e ∧ H e = some (.tup (ks.map kV))
/-- the tuple at a, tracked -/
def NAt (H : Hp) (sh : List Bool) (a : Addr) (ks : List It1) : Prop := ks.map Sum.isLeft = sh ∧ ∃ xs, H a = some (.tup xs) ∧ Paired (ItV H) ks xs
theorem ItV.same {H H' : Hp} (s : ∀ b xs, H b = some (.tup xs) → H' b = some (.tup xs)) {k : It1} {v : V} (x : ItV H k v) : ItV H' k v := by
  cases k with
  | inl k => exact x
  | inr ks =>
    obtain ⟨e, r, q⟩ := x
    exact ⟨e, r, s _ _ q⟩
theorem NAt.same {H H' : Hp} {sh : List Bool} {a : Addr} {ks : List It1} (x : NAt H sh a ks) (s : ∀ b xs, H b = some (.tup xs) → H' b = some (.tup xs)) : NAt H' sh a ks := by
  obtain ⟨e, xs, h, p⟩ := x
  refine ⟨e, xs, s _ _ h, ?_⟩
  clear e h
  induction p with
  | nil => exact .nil
  | cons a _ ih => exact .cons (a.same s) ih
section
variable {X : Cx} {pins : List (Addr × Obj)} {σ : L2.St} {H : Hp} {s : Shared}
theorem its_of (I : Inv X pins σ H s) : ∀ {ks : List It1} {xs : List V} {us : List Value}, Paired (ItV H) ks xs → Vals xs us → Its X.prog X.w s.heap ks us
  | [], _, _, .nil, .nil => .nil
  | k :: ks, _, _, .cons a p, .cons r q => by
    refine .cons ?_ (its_of I p q)
    cases k with
    | inl k =>
      have e : _ = kV k := a
      rw [e] at r
      exact kV_is r
    | inr l =>
      obtain ⟨e, rfl, h⟩ := a
      cases r
      exact ⟨e, rfl, key_of I.hok h⟩
theorem isN_of (I : Inv X pins σ H s) {sh : List Bool} {a : Addr} {ks : List It1} (x : NAt H sh a ks) : IsN X.prog X.w sh s.heap ks a := by
  obtain ⟨e, xs, h, p⟩ := x
  obtain ⟨us, rv, ⟨o, ho, hc, n, hd⟩, _⟩ := I.tuple (SqT.of h)
  exact ⟨e, o, _, n, ho, hc, hd, its_of I p (by simpa using rv)⟩
/-- at a: a set of n members -/
def LenO (a : Addr) (n : Nat) : HO := .ext fun h => LenAt h a n
theorem lenO_new {P : Program} {w : World} {H : Hp} {h : Heap} {a : Addr} {n : Nat} (R : LenAt h a n) : ObjOk P w H h a (LenO a n) := by
  have ⟨o, _, _, _, ho, _⟩ := R
  exact ⟨R, ⟨o, ho⟩, fun h1 h2 ⟨o, es, ep, t, q, r⟩ k => ⟨o, es, ep, t, k o q, r⟩⟩
/-- set(xs), xs a list of such tuples, no two alike -/
def rSetN (K : PySem.W.Frag) (sh : List Bool) : List V → Hp → VK → Prop := fun vs H Q => ∃ (l : Addr) (ks : List Mem), vs = [V.ref l] ∧ SqL K H l (ks.map fun p => V.ref p.1) ∧ ks.length < 64 ∧ (ks.map (·.2)).Nodup ∧ (∀ p ∈ ks, NAt H sh p.1 p.2) ∧ ∀ p, H p = none → Q (.ref p) (upd H p (LenO p ks.length))
theorem refs_of : ∀ {ks : List Mem} {us : List Value}, Vals (ks.map fun p => V.ref p.1) us → us = ks.map fun p => Value.ref p.1
  | [], _, .nil => rfl
  | p :: ks, _, .cons r q => by
    cases r
    rw [refs_of q]
    rfl
theorem cr_setN {sh : List Bool} (hc : X.calm = true) (hu : X.A.units + 64 < cLine) : CallR X (.type "set") (rSetN X.K sh) := by
  intro pins s σ H vs us Q I r h
  obtain ⟨l, ks, rfl, hs, few, nd, hk, q⟩ := h
  obtain ⟨its, rv, hl, _⟩ := I.list hs
  rw [Vals.ref1 r]
  refine call_set_n (P := X.prog) (w := X.w) (sh := sh) ks (I.ok.hd hc) hl.isList (by simpa using refs_of rv) few nd (fun p hp => isN_of I (hk p hp)) (by omega) fun h' tk put keep => ?_
  exact ⟨.ref _, _, I.laid (t' := tk) keep (Nat.le_refl _) (lenO_new put), rfl, q _ (I.hok.fresh (Nat.le_refl _))⟩
def rLenN : List V → Hp → VK → Prop := fun vs H Q => ∃ (a : Addr) (n : Nat), vs = [V.ref a] ∧ H a = some (LenO a n) ∧ Q (.int n) H
theorem cr_lenN : CallR X (.builtin "len") rLenN := by
  intro pins s σ H vs us Q I r h
  obtain ⟨a, n, rfl, ha, q⟩ := h
  obtain ⟨o, es, ep, t, ho, hex, hd, fit, size, few⟩ := (I.hok a _ ha).1
  rw [Vals.ref1 r]
  exact call_len_set ho hex hd fit (by rw [size]; omega) ⟨.int n, H, I.tok _, ⟨_, by rw [size]⟩, q⟩
end
end NT
/-! the order of such tuples -/
namespace NT
open PySem PySem.Spec PyProof.Rows L2
structure STO {α : Type} (lt : α → α → Bool) : Prop where
  irr : ∀ a, lt a a = false
  tr : ∀ a b c, lt a b = true → lt b c = true → lt a c = true
  tot : ∀ a b, a ≠ b → lt a b = true ∨ lt b a = true
def lexL {α : Type} [DecidableEq α] (lt : α → α → Bool) : List α → List α → Bool
  | [], [] => false
  | [], _ :: _ => true
  | _ :: _, [] => false
  | a :: l, b :: m => if a = b then lexL lt l m else lt a b
section
variable {α : Type} [DecidableEq α] {lt : α → α → Bool}
theorem STO.asym (S : STO lt) {a b : α} (h : lt a b = true) : lt b a = false := by
  cases e : lt b a with
  | false => rfl
  | true =>
    have := S.tr a b a h e
    rw [S.irr] at this
    cases this
theorem lex_irr (S : STO lt) : ∀ l : List α, lexL lt l l = false
  | [] => rfl
  | a :: l => by
    unfold lexL
    rw [if_pos rfl]
    exact lex_irr S l
theorem lex_tr (S : STO lt) : ∀ l m n : List α, lexL lt l m = true → lexL lt m n = true → lexL lt l n = true
  | [], [], _, h, _ => by cases h
  | [], _ :: _, [], _, h => by cases h
  | [], _ :: _, _ :: _, _, _ => rfl
  | _ :: _, [], _, h, _ => by cases h
  | _ :: _, _ :: _, [], _, h => by cases h
  | a :: l, b :: m, c :: n, h1, h2 => by
    unfold lexL at h1 h2 ⊢
    by_cases e1 : a = b
    · subst e1
      rw [if_pos rfl] at h1
      by_cases e2 : a = c
      · subst e2
        rw [if_pos rfl] at h2 ⊢
        exact lex_tr S l m n h1 h2
      · rw [if_neg e2] at h2 ⊢
        exact h2
    · rw [if_neg e1] at h1
      by_cases e2 : b = c
      · subst e2
        rw [if_neg e1]
        exact h1
      · rw [if_neg e2] at h2
        have h3 := S.tr a b c h1 h2
        have e3 : a ≠ c := fun z => by
          subst z
          rw [S.irr] at h3
          cases h3
        rw [if_neg e3]
        exact h3
theorem lex_tot (S : STO lt) : ∀ l m : List α, l ≠ m → lexL lt l m = true ∨ lexL lt m l = true
  | [], [], h => absurd rfl h
  | [], _ :: _, _ => .inl rfl
  | _ :: _, [], _ => .inr rfl
  | a :: l, b :: m, h => by
    unfold lexL
    by_cases e : a = b
    · subst e
      rw [if_pos rfl, if_pos rfl]
      exact lex_tot S l m fun z => h (by rw [z])
    · rw [if_neg e, if_neg (Ne.symm e)]
      exact S.tot a b e
theorem lex_sto (S : STO lt) : STO (lexL lt) := ⟨lex_irr S, lex_tr S, lex_tot S⟩
theorem STO.swo (S : STO lt) : SrtO.Swo lt := ⟨fun x y h => S.asym h, fun x y z h1 h2 => by
  cases e : lt z x with
  | false => rfl
  | true =>
    exfalso
    by_cases e1 : x = y
    · subst e1
      rw [e] at h2
      cases h2
    · rcases S.tot x y e1 with q | q
      · have := S.tr z x y e q
        rw [h2] at this
        cases this
      · rw [h1] at q
        cases q⟩
end
def keyLt : Key → Key → Bool
  | .inl i, .inl j => decide (i < j)
  | .inr x, .inr y => decide (x.cps.toList < y.cps.toList)
  | .inl _, .inr _ => true
  | .inr _, .inl _ => false
theorem str_ext {x y : Str} (h : x.cps.toList = y.cps.toList) : x = y := by
  cases x with
  | mk a =>
    cases y with
    | mk b => exact congrArg _ (Array.toList_inj.mp h)
theorem key_sto : STO keyLt := by
  refine ⟨fun a => ?_, fun a b c h1 h2 => ?_, fun a b h => ?_⟩
  · cases a with
    | inl i => exact decide_eq_false (Int.lt_irrefl i)
    | inr x => exact decide_eq_false (List.lt_irrefl _)
  · cases a <;> cases b <;> cases c <;> simp only [keyLt, decide_eq_true_eq, Bool.false_eq_true] at h1 h2 ⊢
    · omega
    · exact List.lt_trans h1 h2
  · cases a with
    | inl i =>
      cases b with
      | inl j =>
        have : i ≠ j := fun z => h (by rw [z])
        simp only [keyLt, decide_eq_true_eq]
        omega
      | inr y => exact .inl rfl
    | inr x =>
      cases b with
      | inl j => exact .inr rfl
      | inr y =>
        simp only [keyLt, decide_eq_true_eq]
        have ne : x.cps.toList ≠ y.cps.toList := fun z => h (by rw [str_ext z])
        rcases Std.lt_trichotomy x.cps.toList y.cps.toList with q | q | q
        · exact .inl q
        · exact absurd q ne
        · exact .inr q
def itLt : It1 → It1 → Bool
  | .inl k, .inl l => keyLt k l
  | .inr k, .inr l => lexL keyLt k l
  | .inl _, .inr _ => true
  | .inr _, .inl _ => false
theorem it_sto : STO itLt := by
  have L := lex_sto key_sto
  refine ⟨fun a => ?_, fun a b c h1 h2 => ?_, fun a b h => ?_⟩
  · cases a with
    | inl i => exact key_sto.irr i
    | inr x => exact L.irr x
  · cases a <;> cases b <;> cases c <;> simp only [itLt, Bool.false_eq_true] at h1 h2 ⊢
    · exact key_sto.tr _ _ _ h1 h2
    · exact L.tr _ _ _ h1 h2
  · cases a with
    | inl i =>
      cases b with
      | inl j => exact key_sto.tot i j fun z => h (by rw [z])
      | inr y => exact .inl rfl
    | inr x =>
      cases b with
      | inl j => exact .inr rfl
      | inr y => exact L.tot x y fun z => h (by rw [z])
abbrev nLt : List It1 → List It1 → Bool := lexL itLt
theorem n_sto : STO nLt := lex_sto it_sto
end NT
namespace NT
open PySem PySem.Spec PyProof.Rows L2 PySem.W PySem.SeqAt
/-- three texts, then a text and numbers -/
structure Mn where
  a : Str
  b : Str
  c : Str
  w : Str
  ns : List Int
deriving DecidableEq
def Mn.eff (m : Mn) : List Key := .inr m.w :: m.ns.map .inl
def Mn.key (m : Mn) : List It1 := [.inl (.inr m.a), .inl (.inr m.b), .inl (.inr m.c), .inr m.eff]
abbrev mnShape : List Bool := [true, true, true, false]
theorem map_inl : ∀ {l l' : List Int}, l.map (Sum.inl : Int → Key) = l'.map .inl → l = l'
  | [], [], _ => rfl
  | [], _ :: _, h => by cases h
  | _ :: _, [], h => by cases h
  | x :: l, y :: l', h => by
    rw [List.map_cons, List.map_cons, List.cons.injEq] at h
    rw [Sum.inl.inj h.1, map_inl h.2]
theorem eff_inj {m m' : Mn} (h : m.eff = m'.eff) : m.w = m'.w ∧ m.ns = m'.ns := by
  unfold Mn.eff at h
  rw [List.cons.injEq] at h
  exact ⟨Sum.inr.inj h.1, map_inl h.2⟩
theorem key_inj {m m' : Mn} (h : m.key = m'.key) : m = m' := by
  unfold Mn.key at h
  simp only [List.cons.injEq, Sum.inl.injEq, Sum.inr.injEq, and_true] at h
  obtain ⟨h1, h2, h3, h4⟩ := h
  obtain ⟨h5, h6⟩ := eff_inj h4
  cases m
  cases m'
  simp_all
theorem shape_key (m : Mn) : m.key.map Sum.isLeft = mnShape := rfl
section
variable {P : Program} {w : World} {A : Around} {s : Shared}
/-- the items of an effect -/
theorem eff_items {m : Mn} {vs : List Value} (x : PySem.ItemsAre (mixKind P w) m.eff vs) : ∃ t us, vs = .str m.w t :: us ∧ IntsAre us m.ns := by
  unfold Mn.eff at x
  cases x with
  | @cons _ v _ us h1 h2 =>
    rw [mixKind_is] at h1
    rcases keyIs_shape h1 with ⟨i, t, e, _⟩ | ⟨y, t, e, rfl⟩
    · cases e
    · cases e
      refine ⟨t, us, rfl, ?_⟩
      generalize m.ns = ns at h2
      induction ns generalizing us with
      | nil =>
        cases h2
        exact .nil
      | cons n ns ih =>
        cases h2 with
        | cons h3 h4 =>
          rw [mixKind_is] at h3
          rcases keyIs_shape h3 with ⟨i, t, e, rfl⟩ | ⟨y, t, e, _⟩
          · cases e
            exact .cons n t (ih h4)
          · cases e
/-- lexAt over two lists is their order -/
theorem lexAt_eq {α : Type} [DecidableEq α] {lt : α → α → Bool} {e r : Nat → Bool} : ∀ (l m : List α) (i : Nat), (∀ (j : Nat) (x y : α), l[j]? = some x → m[j]? = some y → e (i + j) = decide (x = y) ∧ r (i + j) = lt x y) → Ob.lexAt e r (decide (l.length < m.length)) i (min l.length m.length) = lexL lt l m
  | [], [], _, _ => by simp [Ob.lexAt, lexL]
  | [], _ :: _, _, _ => by simp [Ob.lexAt, lexL]
  | _ :: _, [], _, _ => by simp [Ob.lexAt, lexL]
  | x :: l, y :: m, i, h => by
    obtain ⟨h1, h2⟩ := h 0 x y rfl rfl
    rw [Nat.add_zero] at h1 h2
    have e1 : min (x :: l).length (y :: m).length = min l.length m.length + 1 := by simp only [List.length_cons]; omega
    have e2 : decide ((x :: l).length < (y :: m).length) = decide (l.length < m.length) := by simp only [List.length_cons]; congr 1; exact propext ⟨fun h => by omega, fun h => by omega⟩
    rw [e1, Ob.lexAt_succ, h1, h2, e2]
    unfold lexL
    by_cases c : x = y
    · rw [if_pos (decide_eq_true c), if_pos c]
      refine lexAt_eq l m (i + 1) fun j u v hu hv => ?_
      have := h (j + 1) u v (by simpa using hu) (by simpa using hv)
      rwa [show i + (j + 1) = i + 1 + j by omega] at this
    · rw [if_neg (by simpa using c), if_neg c]
theorem items_at {m : Mn} {items : Array Value} (x : PySem.ItemsAre (mixKind P w) m.eff items.toList) : ∃ t, items.size = m.eff.length ∧ items[0]? = some (.str m.w t) ∧ ∀ (j : Nat) (n : Int), m.ns[j]? = some n → ∃ u, items[j + 1]? = some (.int n u) := by
  obtain ⟨t, us, e, hi⟩ := eff_items x
  refine ⟨t, ?_, ?_, fun j n hn => ?_⟩
  · have z := congrArg List.length e
    have z2 := hi.length
    rw [Array.length_toList, List.length_cons] at z
    unfold Mn.eff
    rw [List.length_cons, List.length_map]
    omega
  · rw [← Array.getElem?_toList, e]
    rfl
  · rw [← Array.getElem?_toList, e, List.getElem?_cons_succ]
    clear e x
    generalize m.ns = ns at hi hn
    induction hi generalizing j with
    | nil => simp at hn
    | cons k u _ ih =>
      cases j with
      | zero =>
        simp at hn
        subst hn
        exact ⟨u, rfl⟩
      | succ j =>
        rw [List.getElem?_cons_succ] at hn ⊢
        exact ih j hn
theorem rc_eff {m m' : Mn} {x y : Addr} (hx : IsTupleKey (mixKind P w) s.heap m.eff x) (hy : IsTupleKey (mixKind P w) s.heap m'.eff y) (hu : A.units < cLine) : Ob.RcOp .Lt A s (.ref x) (.ref y) (lexL keyLt m.eff m'.eff) := by
  obtain ⟨o, items, n, ho, hc, hd, hi⟩ := hx
  obtain ⟨o2, items2, n2, ho2, hc2, hd2, hi2⟩ := hy
  obtain ⟨t, z1, f1, g1⟩ := items_at hi
  obtain ⟨t2, z2, f2, g2⟩ := items_at hi2
  have two : ∀ j (h1 : j < items.size) (h2 : j < items2.size), (∃ (k k' : Str) (u v : Tok), m.eff[j]? = some (.inr k) ∧ m'.eff[j]? = some (.inr k') ∧ items[j] = .str k u ∧ items2[j] = .str k' v) ∨ (∃ (k k' : Int) (u v : Tok), m.eff[j]? = some (.inl k) ∧ m'.eff[j]? = some (.inl k') ∧ items[j] = .int k u ∧ items2[j] = .int k' v) := by
    intro j h1 h2
    cases j with
    | zero =>
      refine .inl ⟨m.w, m'.w, t, t2, rfl, rfl, ?_, ?_⟩
      · rw [Array.getElem?_eq_getElem h1] at f1
        exact Option.some.inj f1
      · rw [Array.getElem?_eq_getElem h2] at f2
        exact Option.some.inj f2
    | succ j =>
      have l1 : j < m.ns.length := by
        rw [z1] at h1
        unfold Mn.eff at h1
        rw [List.length_cons, List.length_map] at h1
        omega
      have l2 : j < m'.ns.length := by
        rw [z2] at h2
        unfold Mn.eff at h2
        rw [List.length_cons, List.length_map] at h2
        omega
      obtain ⟨u, e1⟩ := g1 j _ (List.getElem?_eq_getElem l1)
      obtain ⟨v, e2⟩ := g2 j _ (List.getElem?_eq_getElem l2)
      rw [Array.getElem?_eq_getElem h1] at e1
      rw [Array.getElem?_eq_getElem h2] at e2
      refine .inr ⟨m.ns[j], m'.ns[j], u, v, ?_, ?_, Option.some.inj e1, Option.some.inj e2⟩
      · unfold Mn.eff
        rw [List.getElem?_cons_succ, List.getElem?_map, List.getElem?_eq_getElem l1]
        rfl
      · unfold Mn.eff
        rw [List.getElem?_cons_succ, List.getElem?_map, List.getElem?_eq_getElem l2]
        rfl
  have main := Ob.RcOp.tuples_lt (A := A) (s := s) (l := x) (b := y) (items := items) (items2 := items2) (e := fun j => decide (m.eff[j]? = m'.eff[j]?)) (r := fun j => match m.eff[j]?, m'.eff[j]? with | some p, some q => keyLt p q | _, _ => false) ⟨o, ho, hc, n, hd⟩ ⟨o2, ho2, hc2, n2, hd2⟩ hu
    (fun j h1 h2 => ?_) (fun j h1 h2 he => ?_)
  · rw [z1, z2, lexAt_eq (lt := keyLt) m.eff m'.eff 0 fun j p q hp hq => ?_] at main
    · exact main
    · rw [Nat.zero_add]
      try dsimp only
      rw [hp, hq]
      exact ⟨by simp, rfl⟩
  · try dsimp only
    rcases two j h1 h2 with ⟨k, k', u, v, a1, a2, a3, a4⟩ | ⟨k, k', u, v, a1, a2, a3, a4⟩
    · rw [a1, a2, a3, a4]
      have q := SeqAt.EqAt.str_str (A := A.in1) (s := s) k u k' v
      have e : (k == k') = decide ((some (Sum.inr k) : Option Key) = some (.inr k')) := by
        by_cases c : k = k'
        · simp [c]
        · simp [c]
      rw [← e]
      exact q
    · rw [a1, a2, a3, a4]
      have q := SeqAt.EqAt.int_int (A := A.in1) (s := s) k u k' v
      have e : (k == k') = decide ((some (Sum.inl k) : Option Key) = some (.inl k')) := by
        by_cases c : k = k'
        · simp [c]
        · simp [c]
      rw [← e]
      exact q
  · try dsimp only
    rcases two j h1 h2 with ⟨k, k', u, v, a1, a2, a3, a4⟩ | ⟨k, k', u, v, a1, a2, a3, a4⟩
    · rw [a1, a2, a3, a4]
      exact fun prog w E Q h => (PyProof.Rows.lt_str h : wpAny (model prog w) A.in1 (compareOp .Lt (.str k u) (.str k' v)) Q E s)
    · rw [a1, a2, a3, a4]
      exact fun prog w E Q h => (PyProof.Rows.lt_int h : wpAny (model prog w) A.in1 (compareOp .Lt (.int k u) (.int k' v)) Q E s)
end
end NT
namespace NT
open PySem PySem.Spec PyProof.Rows L2 PySem.W PySem.SeqAt SrtO
/-- v is such a tuple -/
def IsM (P : Program) (w : World) (h : Heap) (v : Value) (m : Mn) : Prop := ∃ a, v = .ref a ∧ IsN P w mnShape h m.key a
theorem IsM.keep {P : Program} {w : World} {h h' : Heap} {v : Value} {m : Mn} (x : IsM P w h v m) (hk : ∀ b o, h.get? b = some o → o.cls = .type "tuple" → h'.get? b = some o) : IsM P w h' v m := by
  obtain ⟨a, e, q⟩ := x
  exact ⟨a, e, q.keep hk⟩
theorem IsM.inj {P : Program} {w : World} {h : Heap} {v : Value} {m m' : Mn} (x : IsM P w h v m) (y : IsM P w h v m') : m = m' := by
  obtain ⟨a, rfl, q⟩ := x
  obtain ⟨b, e, q2⟩ := y
  cases e
  exact key_inj (q.inj q2)
/-- its parts -/
theorem IsM.parts {P : Program} {w : World} {h : Heap} {v : Value} {m : Mn} (x : IsM P w h v m) : ∃ (a e : Addr) (o : Obj) (n : Nat) (t1 t2 t3 : Tok), v = .ref a ∧ h.get? a = some o ∧ o.cls = .type "tuple" ∧ o.data = .seq #[.str m.a t1, .str m.b t2, .str m.c t3, .ref e] n ∧ IsTupleKey (mixKind P w) h m.eff e := by
  obtain ⟨a, rfl, _, o, items, n, ho, hc, hd, hi⟩ := x
  have tx : ∀ {x : Str} {v : Value}, IsIt P w h (.inl (.inr x)) v → ∃ t, v = .str x t := fun {x v} q => by
    have q2 : (mixKind P w).is (.inr x) v = true := q
    rw [mixKind_is] at q2
    rcases keyIs_shape q2 with ⟨i, t, e, _⟩ | ⟨y, t, e, rfl⟩
    · cases e
    · cases e
      exact ⟨t, rfl⟩
  unfold Mn.key at hi
  generalize hl : items.toList = l at hi
  cases hi with
  | cons q1 hi =>
    cases hi with
    | cons q2 hi =>
      cases hi with
      | cons q3 hi =>
        cases hi with
        | cons q4 hi =>
          cases hi
          obtain ⟨t1, rfl⟩ := tx q1
          obtain ⟨t2, rfl⟩ := tx q2
          obtain ⟨t3, rfl⟩ := tx q3
          obtain ⟨e, rfl, q⟩ := q4
          refine ⟨a, e, o, n, t1, t2, t3, rfl, ho, hc, ?_, q⟩
          rw [hd]
          congr 1
          exact Array.toList_inj.mp (by rw [hl])
/-- which one, off the heap -/
noncomputable def keyAt (P : Program) (w : World) (h : Heap) (v : Value) : List It1 := by
  classical exact if q : ∃ m, IsM P w h v m then (Classical.choose q).key else []
theorem keyAt_of {P : Program} {w : World} {h : Heap} {v : Value} {m : Mn} (x : IsM P w h v m) : keyAt P w h v = m.key := by
  have q : ∃ m, IsM P w h v m := ⟨m, x⟩
  unfold keyAt
  rw [dif_pos q, (Classical.choose_spec q).inj x]
section
variable {P : Program} {w : World} {A : Around} {E : Value → Shared → Prop} {s : Shared}
theorem nlt_key (m m' : Mn) : nLt m.key m'.key = if m.a = m'.a then (if m.b = m'.b then (if m.c = m'.c then (if m.eff = m'.eff then false else lexL keyLt m.eff m'.eff) else decide (m.c.cps.toList < m'.c.cps.toList)) else decide (m.b.cps.toList < m'.b.cps.toList)) else decide (m.a.cps.toList < m'.a.cps.toList) := by
  unfold nLt Mn.key
  simp only [lexL, Sum.inl.injEq, Sum.inr.injEq]
  rfl
theorem cmp_m {vs : List Value} {k : Value → Mn} (hu : A.units + 8 < cLine) (hv : ∀ v ∈ vs, IsM P w s.heap v (k v)) : Cmp P w A s (tuples' true) (fun p => p.1 ∈ vs) (lt2 fun v u => nLt (k v).key (k u).key) := by
  intro p q hm hm'
  show wpAny (model P w) A (keyLt' (tuples' true) p.1 q.1) (fun r s' => s' = s ∧ r = nLt (k p.1).key (k q.1).key) (fun _ _ => False) s
  have h1 := hv _ hm
  have h2 := hv _ hm'
  generalize k p.1 = m at h1 ⊢
  generalize k q.1 = m' at h2 ⊢
  rw [nlt_key]
  obtain ⟨a, e, o, n, t1, t2, t3, e1, ho, hc, hd, he⟩ := h1.parts
  obtain ⟨a', e', o', n', u1, u2, u3, e1', ho', hc', hd', he'⟩ := h2.parts
  rw [e1, e1']
  refine kat_lt ho hd ho' hd' ?_
  show KatLex P w A true (decide (4 < 4)) _ [(.str m.a t1, .str m'.a u1), (.str m.b t2, .str m'.b u2), (.str m.c t3, .str m'.c u3), (.ref e, .ref e')] 0 s
  refine kat_cons (SeqAt.EqAt.str_str m.a t1 m'.a u1 P w _ _ (kat_go (fun z => ?_) (fun z => ?_)))
  · have za : m.a = m'.a := by simpa using z
    rw [if_pos za]
    refine kat_yes (kat_cons (SeqAt.EqAt.str_str m.b t2 m'.b u2 P w _ _ (kat_go (fun z => ?_) (fun z => ?_))))
    · have zb : m.b = m'.b := by simpa using z
      rw [if_pos zb]
      refine kat_yes (kat_cons (SeqAt.EqAt.str_str m.c t3 m'.c u3 P w _ _ (kat_go (fun z => ?_) (fun z => ?_))))
      · have zc : m.c = m'.c := by simpa using z
        rw [if_pos zc]
        refine kat_yes (kat_cons (wpAny_eqBool_tuple (by omega) he he' (kat_go (fun z => ?_) (fun z => ?_))))
        · have ze : m.eff = m'.eff := of_decide_eq_true z
          rw [if_pos ze]
          exact kat_yes (kat_nil ⟨rfl, rfl⟩)
        · have ze : ¬ m.eff = m'.eff := of_decide_eq_false z
          rw [if_neg ze]
          exact kat_no (kat_one _ _ (rc_eff he he' (by omega) P w _ _ (show s = s ∧ _ = _ from ⟨rfl, rfl⟩)))
      · have zc : ¬ m.c = m'.c := by simpa using z
        rw [if_neg zc]
        exact kat_no (kat_one _ _ (PyProof.Rows.lt_str (show s = s ∧ _ = _ from ⟨rfl, rfl⟩)))
    · have zb : ¬ m.b = m'.b := by simpa using z
      rw [if_neg zb]
      exact kat_no (kat_one _ _ (PyProof.Rows.lt_str (show s = s ∧ _ = _ from ⟨rfl, rfl⟩)))
  · have za : ¬ m.a = m'.a := by simpa using z
    rw [if_neg za]
    exact kat_no (oneLt_str ⟨rfl, rfl⟩)
theorem firsts_m {h : Heap} : ∀ {vs : List Value}, (∀ v ∈ vs, ∃ m, IsM P w h v m) → ∃ fs : List Value, KatTups h vs fs ∧ fs.length = vs.length ∧ ∀ f ∈ fs, ∃ x t, f = Value.str x t
  | [], _ => ⟨[], KatTups.nil, rfl, fun _ z => by simp at z⟩
  | v :: vs, hp => by
    obtain ⟨fs, h1, h2, h3⟩ := firsts_m (vs := vs) fun u hu => hp u (List.mem_cons_of_mem _ hu)
    obtain ⟨m, q⟩ := hp v List.mem_cons_self
    obtain ⟨a, e, o, n, t1, t2, t3, rfl, ho, hc, hd, _⟩ := q.parts
    refine ⟨.str m.a t1 :: fs, KatTups.cons ho hc hd rfl h1, by rw [List.length_cons, List.length_cons, h2], fun f hf => ?_⟩
    rcases List.mem_cons.mp hf with rfl | hf
    · exact ⟨m.a, t1, rfl⟩
    · exact h3 f hf
/-- sorted(l), such tuples -/
theorem sorted_m {l : Addr} {vs : List Value} {k : Value → Mn} {Q : Value → Shared → Prop} (hl : s.heap.IsList l vs.toArray) (hz : vs.length ≤ sizeLine) (hu : A.units + 16 < cLine) (hv : ∀ v ∈ vs, IsM P w s.heap v (k v))
    (h : ∀ (h' : Heap) (d : Addr) (out : List Value), Srtd (fun v u => nLt (k v).key (k u).key) out → out.Perm vs → (∀ b o, s.heap.get? b = some o → h'.get? b = some o) → s.heap.objs.size ≤ d → (∃ n, h'.get? d = some (seqObj "list" out.toArray n)) → Q (.ref d) { s with heap := h' }) :
    wpAny (model P w) A (call (.builtin "sorted") [.ref l]) Q E s := by
  have O : Swo fun v u : Value => nLt (k v).key (k u).key := by
    have S := n_sto.swo
    exact ⟨fun x y z => S.asym _ _ z, fun x y z q1 q2 => S.tr _ _ _ q1 q2⟩
  refine sorted_ord O hl hz (fun h2 h₁ a ha old => ?_) fun out hs hb => h _ _ out hs hb.perm (fun b o e => sortedAll_old e) (Nat.le_succ _) (sortedAll_at s.heap vs out.toArray)
  intro h' keep
  have na : ∀ o, h₁.get? a = some o → o.cls ≠ .type "tuple" := fun o e c => by
    rw [ha] at e
    cases e
    exact absurd (Value.type.inj c) (by decide)
  have hv2 : ∀ v ∈ vs, IsM P w h' v (k v) := fun v hm => (hv v hm).keep fun b o e c => keep b o (old b o e).1 (old b o e).2
  obtain ⟨fs, f1, f2, f3⟩ := firsts_m (P := P) (w := w) fun v hm => ⟨_, hv2 v hm⟩
  refine ⟨tuples' true, fun Q E hq => ?_, cmp_m (by show A.units + 1 + 1 + 8 < cLine; omega) hv2⟩
  refine kat_kind (T := .type "str") f1 (by omega) (fun f hm => ?_) (by rfl) ?_
  · obtain ⟨x, t, rfl⟩ := f3 f hm
    exact Looks.now
  · have e : (Value.type "str" != Value.type "tuple") = true := by first | decide +kernel | rfl | decide
    rw [e]
    exact hq
end
end NT
namespace NT
open PySem PySem.Spec PyProof.Rows L2 SrtO
abbrev MnAt (H : Hp) (a : Addr) (m : Mn) : Prop := NAt H mnShape a m.key
theorem MnAt.inj {H : Hp} {a : Addr} {m m' : Mn} (x : MnAt H a m) (y : MnAt H a m') : m = m' := by
  obtain ⟨_, xs, h, p⟩ := x
  obtain ⟨_, ys, h', p'⟩ := y
  rw [h] at h'
  cases h'
  unfold Mn.key at p p'
  cases p with
  | cons a1 p => cases p with
    | cons a2 p => cases p with
      | cons a3 p => cases p with
        | cons a4 p =>
          cases p
          cases p' with
          | cons b1 p' => cases p' with
            | cons b2 p' => cases p' with
              | cons b3 p' => cases p' with
                | cons b4 p' =>
                  cases p'
                  have e1 : kV (.inr m.a) = kV (.inr m'.a) := (show _ = _ from a1).symm.trans b1
                  have e2 : kV (.inr m.b) = kV (.inr m'.b) := (show _ = _ from a2).symm.trans b2
                  have e3 : kV (.inr m.c) = kV (.inr m'.c) := (show _ = _ from a3).symm.trans b3
                  obtain ⟨e, he, q⟩ := a4
                  obtain ⟨e', he', q'⟩ := b4
                  rw [he] at he'
                  cases he'
                  rw [q] at q'
                  have e4 : m.eff = m'.eff := kVs_inj (by injection (Option.some.inj q'))
                  obtain ⟨e5, e6⟩ := eff_inj e4
                  have i1 := Sum.inr.inj (kV_inj e1)
                  have i2 := Sum.inr.inj (kV_inj e2)
                  have i3 := Sum.inr.inj (kV_inj e3)
                  cases m
                  cases m'
                  simp_all
abbrev AM : Type := Addr × Mn
def sortedM (qs : List Mn) : Prop := qs.Pairwise fun p q => nLt q.key p.key = false
/-- sorted(xs), xs a list of such tuples -/
def rSortM (K : PySem.W.Frag) : List V → Hp → VK → Prop := fun vs H Q => ∃ (l : Addr) (ps : List AM), vs = [V.ref l] ∧ SqL K H l (ps.map fun p => V.ref p.1) ∧ (∀ p ∈ ps, MnAt H p.1 p.2) ∧
  ∀ (qs : List AM) (d : Addr), qs.Perm ps → sortedM (qs.map (·.2)) → H d = none → Q (.ref d) (upd H d (.lst (qs.map fun p => V.ref p.1)))
def adr : Value → Addr
  | .ref a => a
  | _ => 0
theorem refs_am : ∀ {ps : List AM} {us : List Value}, Vals (ps.map fun p => V.ref p.1) us → us = ps.map fun p => Value.ref p.1
  | [], _, .nil => rfl
  | p :: ps, _, .cons r q => by
    cases r
    rw [refs_am q]
    rfl
theorem vals_am : ∀ ps : List AM, Vals (ps.map fun p => V.ref p.1) (ps.map fun p => Value.ref p.1)
  | [] => .nil
  | p :: ps => .cons rfl (vals_am ps)
theorem cr_sortM {X : Cx} (hu : X.A.units + 64 < cLine) : CallR X (.builtin "sorted") (rSortM X.K) := by
  intro pins s σ H vs us Q I r h
  obtain ⟨l, ps, rfl, hs, hm, q⟩ := h
  obtain ⟨its, rv, hl, hz⟩ := I.list hs
  have hz0 := hz
  rw [Vals.ref1 r]
  have eits : its = ps.map fun p => Value.ref p.1 := refs_am rv
  let dflt : Mn := ⟨Str.empty, Str.empty, Str.empty, Str.empty, []⟩
  let k : Value → Mn := fun v => ((ps.find? fun p => p.1 == adr v).map (·.2)).getD dflt
  have kp : ∀ p ∈ ps, k (.ref p.1) = p.2 := fun p hp => by
    show ((ps.find? fun p' => p'.1 == p.1).map (·.2)).getD dflt = p.2
    cases e : ps.find? fun p' => p'.1 == p.1 with
    | none =>
      have := List.find?_eq_none.mp e p hp
      simp at this
    | some p' =>
      have e1 : p'.1 = p.1 := by simpa using List.find?_some e
      have m' := hm p' (List.mem_of_find?_eq_some e)
      rw [e1] at m'
      exact (m'.inj (hm p hp))
  have hv : ∀ v ∈ its, IsM X.prog X.w s.heap v (k v) := fun v hvm => by
    rw [eits] at hvm
    obtain ⟨p, hp, rfl⟩ := List.mem_map.mp hvm
    rw [kp p hp]
    exact ⟨p.1, rfl, isN_of I (hm p hp)⟩
  have len : its.length ≤ sizeLine := by
    rw [eits, List.length_map]
    rwa [List.length_map] at hz0
  refine sorted_m (P := X.prog) (w := X.w) hl.isList len (by omega) hv fun h' d out hs2 pm old le ⟨n, at2⟩ => ?_
  have refs : ∀ v ∈ out, v = .ref (adr v) := fun v hvm => by
    have z := pm.mem_iff.mp hvm
    rw [eits] at z
    obtain ⟨p, _, rfl⟩ := List.mem_map.mp z
    rfl
  let qs : List AM := out.map fun v => (adr v, k v)
  have eq1 : (qs.map fun p => Value.ref p.1) = out := by
    show (out.map fun v => (adr v, k v)).map _ = out
    rw [List.map_map]
    have z : out.map ((fun p : AM => Value.ref p.1) ∘ fun v => (adr v, k v)) = out.map id := List.map_congr_left fun v hvm => (refs v hvm).symm
    rw [z, List.map_id]
  have pq : qs.Perm ps := by
    have z := pm.map fun v => ((adr v, k v) : AM)
    have z2 : its.map (fun v => ((adr v, k v) : AM)) = ps := by
      rw [eits, List.map_map]
      have z3 : ps.map ((fun v => ((adr v, k v) : AM)) ∘ fun p => Value.ref p.1) = ps.map id := List.map_congr_left fun p hp => by
        show ((p.1, k (.ref p.1)) : AM) = p
        rw [kp p hp]
      rw [z3, List.map_id]
    rw [z2] at z
    exact z
  have sq : sortedM (qs.map (·.2)) := by
    unfold sortedM
    rw [List.pairwise_map, List.pairwise_map]
    exact hs2
  have hn : H d = none := I.hok.fresh le
  have lenq : (qs.map fun p => V.ref p.1).length ≤ sizeLine := by
    rw [List.length_map, pq.length_eq]
    rwa [List.length_map] at hz0
  have vq : Vals (qs.map fun p => V.ref p.1) out := by
    have z := vals_am qs
    rwa [eq1] at z
  exact ⟨.ref d, upd H d (.lst (qs.map fun p => V.ref p.1)), I.laid (t' := s.toks) old le ⟨lenq, out, n, vq, at2⟩, rfl, q qs d pq sq hn⟩
/-- two sorted lists of the same ones are one -/
theorem sortedM_eq {l m : List Mn} (hl : sortedM l) (hm : sortedM m) (p : l.Perm m) : l = m := by
  induction l generalizing m with
  | nil => exact p.nil_eq
  | cons x l ih =>
    cases m with
    | nil => exact absurd p.symm.nil_eq (by simp)
    | cons y m =>
      obtain ⟨h1, h2⟩ := List.pairwise_cons.mp hl
      obtain ⟨g1, g2⟩ := List.pairwise_cons.mp hm
      have e : x = y := by
        have hx := p.mem_iff.mp (List.mem_cons_self (a := x) (l := l))
        have hy := p.mem_iff.mpr (List.mem_cons_self (a := y) (l := m))
        rcases List.mem_cons.mp hx with e | hx
        · exact e
        · rcases List.mem_cons.mp hy with e | hy
          · exact e.symm
          · have a := g1 x hx
            have b := h1 y hy
            by_cases c : x.key = y.key
            · exact key_inj c
            · rcases n_sto.tot x.key y.key c with z | z
              · rw [a] at z
                cases z
              · rw [b] at z
                cases z
      subst e
      rw [ih h2 g2 p.cons_inv]
end NT
/-! list(a text) -/
namespace NT
open PySem PySem.Spec PyProof.Rows L2
def signs (x : Str) : List Str := x.cps.toList.map fun c => ⟨#[c]⟩
theorem vals_signs {x : Str} {acc : Array Value} (h : ItemsOf (SignAt x) acc x.cps.size) : Vals ((signs x).map V.str) acc.toList := by
  obtain ⟨h1, h2⟩ := h
  have k : ∀ (l : List Nat) (us : List Value), l.length = us.length → (∀ (i : Nat) (c : Nat) (u : Value), l[i]? = some c → us[i]? = some u → ∃ t, u = .str ⟨#[c]⟩ t) → Vals ((l.map fun c => (⟨#[c]⟩ : Str)).map V.str) us := by
    intro l
    induction l with
    | nil =>
      intro us e _
      cases us with
      | nil => exact .nil
      | cons u us => cases e
    | cons c l ih =>
      intro us e q
      cases us with
      | nil => cases e
      | cons u us =>
        obtain ⟨t, rfl⟩ := q 0 c u rfl rfl
        refine .cons ⟨t, rfl⟩ (ih us (by simpa using e) fun i c' u' a b => q (i + 1) c' u' (by simpa using a) (by simpa using b))
  refine k x.cps.toList acc.toList (by simp [h1]) fun i c u a b => ?_
  rw [Array.getElem?_toList] at a b
  obtain ⟨c', t, e1, e2⟩ := h2 i u b
  rw [a] at e1
  cases e1
  exact ⟨t, e2⟩
def rListS : List V → Hp → VK → Prop := fun vs H Q => ∃ x : Str, vs = [.str x] ∧ x.cps.size ≤ sizeLine ∧ ∀ l, H l = none → Q (.ref l) (upd H l (.lst ((signs x).map V.str)))
theorem cr_listS {X : Cx} (hc : X.calm = true) : CallR X (.type "list") rListS := by
  intro pins s σ H vs us Q I r h
  obtain ⟨x, rfl, hz, q⟩ := h
  obtain ⟨u, rfl, rx⟩ := vals1 r
  obtain ⟨t, rfl⟩ := rx
  refine call_list_str (I.ok.hd hc) x t (hn := hz) fun h' tk acc c old at2 items => ?_
  have len : ((signs x).map V.str).length ≤ sizeLine := by
    unfold signs
    rw [List.length_map, List.length_map, Array.length_toList]
    exact hz
  exact ⟨.ref s.heap.objs.size, upd H s.heap.objs.size (.lst ((signs x).map V.str)), I.laid (t' := tk) old (Nat.le_refl _) ⟨len, acc.toList, c, vals_signs items, at2⟩, rfl, q _ (I.hok.fresh (Nat.le_refl _))⟩
end NT
/-! a range as a value and walked; enumerate and zip of tuples; setdefault where the keys are tuples -/
namespace SX
open PySem PySem.Spec PyProof.Rows L2
section
variable {X : Cx} {tg : Expr}
theorem cr_range1 : CallR X (.type "range") (fun vs H Q => ∃ j, vs = [V.int j] ∧ ∀ p, H p = none → Q (.ref p) (upd H p (.rng 0 j))) := by
  intro pins s σ H vs us Q I r h
  obtain ⟨j, rfl, q⟩ := h
  cases r with
  | cons r1 r2 =>
    cases r2
    obtain ⟨t, rfl⟩ := r1
    refine call_range_1 ⟨.ref s.heap.objs.size, upd H s.heap.objs.size (.rng 0 j), I.laid (o := .rng 0 j) (t' := s.toks + 2) (fun _ _ e => Heap.get?_push_of_some _ e) (Nat.le_refl _) ?_, rfl, q _ (I.hok.fresh (Nat.le_refl _))⟩
    exact ⟨_, _, _, Heap.get?_push_size _ rfl⟩
def iRng (te : TE) : TI := fun σ H R => te σ H fun x H1 => ∃ (a : Addr) (lo hi : Int), x = .ref a ∧ H1 a = some (.rng lo hi) ∧ (-(2 ^ 62) ≤ lo ∧ lo < 2 ^ 62 ∧ -(2 ^ 62) ≤ hi ∧ hi < 2 ^ 62) ∧ R (Itr lo (hi - lo).toNat) H1
theorem pi_rng {l : Expr} {te : TE} (hl : PE X l te) : PI X tg l (iRng te) := by
  refine ⟨fun pins s σ H R I h => thn (hl.run pins s σ H _ I h) fun v s1 ⟨x, H1, I1, r1, a, lo, hi, e, ha, ⟨b1, b2, b3, b4⟩, q⟩ => ?_⟩
  subst e
  cases r1
  obtain ⟨t, u, v, ho⟩ := I1.hok a _ ha
  refine wpAny_pyIter_range ho (small_one b1 b2 b3 b4) ?_
  refine ⟨s1.heap.objs.size, [s1.heap.objs.size], _, _, H1, rfl, I1.kept (t' := s1.toks) fun b o e => Heap.get?_push_of_some _ e, turn_range _ lo (hi - lo).toNat, ?_, fun b hb => ?_, q⟩
  · have e1 : lo + ((0 : Nat) : Int) * 1 = lo := by simp
    have e2 : (((hi - lo).toNat : Nat) : Int) - ((0 : Nat) : Int) = Builtin.Range.rangeSize lo hi 1 := by rw [rangeSize_one]; split <;> omega
    show IsRangeIter _ _ (lo + ((0 : Nat) : Int) * 1) ((((hi - lo).toNat : Nat) : Int) - ((0 : Nat) : Int)) 1
    rw [e1, e2]
    exact Heap.get?_push_size _ rfl
  · obtain rfl : b = s1.heap.objs.size := by simpa using hb
    exact I1.fpOk (Nat.le_refl _) (I1.hok.fresh (Nat.le_refl _))
end
/-! ### enumerate of a tuple -/
theorem meets_enum1 {v : Value} {o : Obj} {G : Heap → Prop} (B : Begins v o G) :
    Meets (Builtin.«enumerate.__new__» ⟨[.type "enumerate", v], []⟩) (fun _ R s => G s.heap ∧ R (.ok (.ret (.ref (s.heap.push o).objs.size)))
      { s with heap := (s.heap.push o).push { cls := .type "enumerate", data := .fields #[.none, .bool false, .ref s.heap.objs.size, rawInt 0, .none, .none] } }) :=
  .of_wp fun prog w A R s h => by
    obtain ⟨hp, g, d, tk, os⟩ := s; obtain ⟨hg, h⟩ := h
    have hsub := sub_enumerate
    have q1 : ∀ {A' : Around} {E : Value → Shared → Prop} {Q : Value → Shared → Prop}, Q (.ref hp.objs.size) ⟨hp.push o, g, d, tk, os⟩ → wpAny (model prog w) A' (pyIter v) Q E ⟨hp, g, d, tk, os⟩ := fun q => B.iter prog w _ _ ⟨hp, g, d, tk, os⟩ _ hg q
    wp_walk using q1
    refine wpAny_stack_any fun st => wpAny_pure ?_
    split
    · rename_i c _ _ _ _ _
      cases (c == Value.type "enumerate") <;> (wp_walk using q1; exact ⟨_, rfl, h⟩)
    · wp_walk using q1
      exact ⟨_, rfl, h⟩
theorem call_enum1 {prog : Program} {w : World} {A : Around} {E : Value → Shared → Prop} {s : Shared} {v : Value} {o : Obj} {G : Heap → Prop} {Q : Value → Shared → Prop} (B : Begins v o G) (hg : G s.heap)
    (h : ∀ h', IsEnum h' (s.heap.objs.size + 1) s.heap.objs.size 0 .none → h'.get? s.heap.objs.size = some o → (∀ b o, s.heap.get? b = some o → h'.get? b = some o) → Q (.ref (s.heap.objs.size + 1)) { s with heap := h' }) :
    wpAny (model prog w) A (call (.type "enumerate") [v]) Q E s := by
  refine callType_new F.called_enumerate (by decide) (F.typeCall_enumerate_1 _) (F.newCall_enumerate_1 _) (fun obj => F.args_object_init_2 obj _) F.entry_enumerate_new (meets_enum1 B) ⟨hg, ?_⟩
  have z : (s.heap.push o).objs.size = s.heap.objs.size + 1 := Heap.size_push ..
  show _ ∧ _
  rw [z]
  have he : IsEnum ((s.heap.push o).push { cls := .type "enumerate", data := .fields #[.none, .bool false, .ref s.heap.objs.size, rawInt 0, .none, .none] }) (s.heap.objs.size + 1) s.heap.objs.size 0 .none := by
    have t := Heap.get?_push_size (s.heap.push o) (o := { cls := .type "enumerate", data := .fields #[.none, .bool false, .ref s.heap.objs.size, rawInt 0, .none, .none] }) rfl
    rw [z] at t; exact t
  exact ⟨⟨_, he, rfl⟩, h _ he (Heap.get?_push_of_some _ (Heap.get?_push_size _ B.free)) fun b o x => Heap.get?_push_of_some _ (Heap.get?_push_of_some _ x)⟩
/-- a tuple, each item in a new pair behind its number -/
def IteT (K : PySem.W.Frag) (a : Addr) : It :=
  ⟨fun i H => ∃ (xs : List V) (x : V), SqT K H a xs ∧ xs[i]? = some x,
   fun i H v H' => ∃ T x, v = .ref T ∧ H T = none ∧ H' = upd H T (.tup [.int (i : Nat), x]) ∧ ∀ xs, SqT K H a xs → xs[i]? = some x,
   fun i H => ∃ xs : List V, SqT K H a xs ∧ xs.length ≤ i⟩
theorem wpAny_pyNext_enum_endT {prog : Program} {w : World} {A : Around} {E : Value → Shared → Prop} {s : Shared} {e it l : Addr} {i : Nat} {items : Array Value} {old : Value} {Q : Option Value → Shared → Prop} (hh : A.handled = none) (he : IsEnum s.heap e it i old)
    (hit : s.heap.IsTupleIter it l i) (ht : s.heap.IsTuple l items) (hx : items[i]? = none) (hQ : ∀ h', Heap.ExtBut it s.heap h' → Q none { s with heap := h' }) : wpAny (model prog w) A (pyNext (.ref e)) Q E s := by
  have hT : s.TypeIs (.ref e) "enumerate" := ⟨_, he, rfl⟩
  unfold pyNext
  refine wpAny_bind (wpAny_attempt (wpAny_callSpecial?_slot (name := Str.ofString "__next__") hT F.slot_enumerate_next (wpAny_call_entry F.slot_enumerate_next hT F.entry_enumerate_next ?_ (F.args_enumerate_next_1 _))))
  show wpAny _ _ (field (.ref e) 2 >>= _) _ _ _
  refine wpAny_bind (wpAny_field he rfl (x := .ref it) rfl (wpAny_bind (wpAny_nextOf_tuple_end hh hit ht hx fun h' x he' ⟨o, ho, hc⟩ => ?_)))
  exact wpAny_bind (wpAny_isInstance (T := "StopIteration") (b := true) ⟨o, ho, hc⟩ isSubtype_stop (wpAny_pure (hQ _ he')))
theorem turn_enumT {P : Program} {w : World} {K : PySem.W.Frag} {elts : List Expr} {kk : Nat} {tpos : Pos} (a e it : Addr) (hea : a ≠ e) (hia : a ≠ it) (hei : e ≠ it) :
    Turn P w K (.Tuple elts kk tpos) (IteT K a) [e, it] e (fun i h => (∃ old, IsEnum h e it ((i : Nat) : Int) old) ∧ h.IsTupleIter it a i) where
  mem := by simp
  obj := fun i h st b hb => by
    obtain ⟨⟨old, he⟩, ⟨o, ho, hc, hd⟩⟩ := st
    have e' : b = e ∨ b = it := by simpa using hb
    rcases e' with z | z <;> rw [z]
    · exact ⟨_, he, fun v q => nomatch q⟩
    · exact ⟨o, ho, fun v q => by rw [hd] at q; cases q⟩
  keep := fun i h h' st k => let ⟨⟨old, he⟩, hi⟩ := st; ⟨⟨old, k e (by simp) _ he⟩, hi.at fun o q => k it (by simp) o q⟩
  item := by
    intro X hP hw hK hc i pins s σ H E I hf st hg
    subst hP hw hK
    obtain ⟨⟨old, he⟩, hit⟩ := st
    obtain ⟨xs, x, hq, hx⟩ := hg
    obtain ⟨its, rv, p, hz⟩ := I.tuple hq
    obtain ⟨u, hu, ru⟩ := rv.get hx
    have hel : e < s.heap.objs.size := Heap.lt_size he
    have hil : it < s.heap.objs.size := by obtain ⟨_, q, _⟩ := hit; exact Heap.lt_size q
    have D := Draws.tuple (prog := X.prog) (w := X.w) (A := X.A.in1) (I.ok.hd hc) it a hia its.toArray
    have pt : s.heap.IsTuple a its.toArray := p
    have lt : i < its.toArray.size := by
      rw [List.size_toArray]
      exact (List.getElem?_eq_some_iff.mp hu).1
    refine wpAny_pyNext_enum_itemD D he ⟨hit, pt⟩ lt hei (by simp [hei, Ne.symm hea]) fun y h' tk hy ho hst hT hsz hk => ?_
    have hy' : y = u := by
      have y1 : its.toArray[i]? = some y := hy
      rw [List.getElem?_toArray, hu] at y1
      exact (Option.some.inj y1).symm
    subst hy'
    refine ⟨_, rfl, wpAny_letOwnedTupleGo_enum (s := { s with heap := h', toks := tk + 1 }) ho fun h2 he2 sb => ?_⟩
    have hT2 : h2.get? s.heap.objs.size = some { cls := .type "tuple", data := .seq #[.int i tk, y] } := (sb.2 _ (Nat.ne_of_gt hel)).trans hT
    have new : ObjOk X.prog X.w (upd H s.heap.objs.size (.tup [.int (i : Nat), x])) h2 s.heap.objs.size (.tup [.int (i : Nat), x]) :=
      ⟨by show 2 ≤ sizeLine; decide, [.int i tk, y], .cons ⟨_, rfl⟩ (.cons ru .nil), ⟨_, hT2, rfl, _, rfl⟩⟩
    have I1 : Inv X pins σ (upd H s.heap.objs.size (.tup [.int (i : Nat), x])) { s with heap := h2, toks := tk + 1 } :=
      I.turnedNew (t' := tk + 1) (ch := [e, it]) (fun b ob hb q => (sb.2 b (fun z => hb (by simp [z]))).trans (hk b ob (fun z => hb (by simp [z])) (fun z => hb (by simp [z])) q)) hf (Nat.le_refl _) new
    refine ⟨.ref s.heap.objs.size, _, I1, rfl, ⟨_, x, rfl, I.hok.fresh (Nat.le_refl _), rfl, fun ys hy => by rw [I.tuple_inj hy hq]; exact hx⟩, ⟨⟨y, ?_⟩, hst.1.at fun o q => (sb.2 it (Ne.symm hei)).trans q⟩, fun b hb => ?_⟩
    · rw [show ((i + 1 : Nat) : Int) = (i : Int) + 1 by omega]
      exact he2
    · have hb' : b < s.heap.objs.size := by
        have e' : b = e ∨ b = it := by simpa using hb
        rcases e' with z | z <;> rw [z]
        · exact hel
        · exact hil
      rw [upd_ne (Nat.ne_of_lt hb')]
      exact (hf b hb).1
  done := by
    intro X hP hw hK hc i pins s σ H E I hf st hg
    subst hP hw hK
    obtain ⟨⟨old, he⟩, hit⟩ := st
    obtain ⟨xs, hq, hx⟩ := hg
    obtain ⟨its, rv, p, hz⟩ := I.tuple hq
    obtain ⟨f0, f1, f2, f3, f4, f5⟩ := hf it (by simp)
    have pt : s.heap.IsTuple a its.toArray := p
    have hl := rv.length
    exact wpAny_pyNext_enum_endT (I.ok.hd hc) he hit pt (by simp; omega) fun h' eb => ⟨rfl, I.turned (t' := s.toks) (fun b o hb q => eb b o hb q) f0 f1 f3 f4 f5⟩
  self := fun A i s Q E st h => let ⟨⟨_, he⟩, _⟩ := st; wpAny_pyIter_enum he h
def iEnumT (K : PySem.W.Frag) (ta : TA) : TI := fun σ H R => ta σ H fun vs H1 => ∃ a xs, vs = [.ref a] ∧ SqT K H1 a xs ∧ R (IteT K a) H1
theorem pi_enumT {X : Cx} {e : Expr} {ta : TA} {p pos tpos : Pos} {elts : List Expr} {kk : Nat} (hg : Gl X "enumerate") (hm : X.mg "enumerate" = none) (ha : PA X [e] ta) (hs : starEach [e] X.env = [(false, eval e X.env)] := by rfl) :
    PI X (.Tuple elts kk tpos) (.Call (.Name "enumerate" p) [e] [] pos) (iEnumT X.K ta) := by
  refine ⟨fun pins s σ H R I h => Call_ (ld_blt I hg hm boot_enumerate (PyProof.Rows.callWith_type1 (thn (ha.run pos pins s σ H _ I h) fun us s1 ⟨vs, H1, I1, r1, a, xs, ex, hq, q⟩ => ?_) hs rfl))⟩
  subst ex
  cases r1 with
  | cons r rr =>
    cases rr
    cases r
    obtain ⟨its, rv, p', hz⟩ := I1.tuple hq
    have pt : s1.heap.IsTuple a its.toArray := p'
    have la : a < s1.heap.objs.size := by obtain ⟨o, z, _⟩ := pt; exact Heap.lt_size z
    refine call_enum1 (begins_tuple a its.toArray) pt fun h' he hit hk => wpAny_pyIter_enum he ?_
    have I2 : Inv X pins σ H1 { s1 with heap := h' } := I1.kept (t' := s1.toks) hk
    refine ⟨s1.heap.objs.size + 1, [s1.heap.objs.size + 1, s1.heap.objs.size], _, _, H1, rfl, I2, turn_enumT a (s1.heap.objs.size + 1) s1.heap.objs.size (Nat.ne_of_lt (Nat.lt_succ_of_lt la)) (Nat.ne_of_lt la) (Nat.succ_ne_self _), ⟨⟨.none, he⟩, ⟨_, hit, rfl, rfl⟩⟩, fun b hb => ?_, q⟩
    have e' : b = s1.heap.objs.size + 1 ∨ b = s1.heap.objs.size := by simpa using hb
    have hle : s1.heap.objs.size ≤ b := by
      rcases e' with z | z
      · rw [z]; exact Nat.le_succ _
      · rw [z]; exact Nat.le_refl _
    exact I1.fpOk hle (I1.hok.fresh hle)
theorem walk_enumT {K : PySem.W.Frag} {a : Addr} {xs : List V} : Walk (IteT K a) xs.length (fun H => SqT K H a xs) (YPair (fun i => some (.int (i : Nat))) (fun i => xs[i]?)) := by
  refine ⟨fun i _ hi q => ⟨xs, xs[i], q, by simp [hi]⟩, fun _ q => ⟨xs, q, Nat.le_refl _⟩, fun i H v H' _ q y => ?_⟩
  obtain ⟨T, x, h1, h2, h3, h4⟩ := y
  exact ⟨T, _, x, h1, h2, h3, rfl, h4 xs q⟩
/-! ### zip of two tuples -/
/-- the tuples at a and b, item by item, in new pairs -/
def ItzT (K : PySem.W.Frag) (a b : Addr) : It :=
  ⟨fun i H => ∃ (xs ys : List V) (x y : V), SqT K H a xs ∧ SqT K H b ys ∧ xs[i]? = some x ∧ ys[i]? = some y,
    fun i H v H' => ∃ T x y, v = .ref T ∧ H T = none ∧ H' = upd H T (.tup [x, y]) ∧ (∀ xs, SqT K H a xs → xs[i]? = some x) ∧ ∀ ys, SqT K H b ys → ys[i]? = some y,
    fun i H => ∃ xs ys : List V, SqT K H a xs ∧ SqT K H b ys ∧ xs.length = ys.length ∧ xs.length = i⟩
theorem turn_zipT {P : Program} {w : World} {K : PySem.W.Frag} {elts : List Expr} {kk : Nat} {tpos : Pos} {a b z TI TO i1 i2 : Addr} (S : ZipSep2 z TI TO i1 i2 [i1, a] [i2, b]) (n1 : a ≠ i1) (n2 : b ≠ i2) :
    Turn P w K (.Tuple elts kk tpos) (ItzT K a b) [z, TI, TO, i1, i2] z (fun i h => IsZip h z TI TO .none ∧ IsTupOf2 h TI (.ref i1) (.ref i2) ∧ (∃ x y, IsTupOf2 h TO x y) ∧ h.IsTupleIter i1 a i ∧ h.IsTupleIter i2 b i) where
  mem := by simp
  obj := fun i h st c hc => by
    obtain ⟨hz, hTI, ⟨x, y, hTO⟩, ⟨o1, e1, _, d1⟩, ⟨o2, e2, _, d2⟩⟩ := st
    have e' : c = z ∨ c = TI ∨ c = TO ∨ c = i1 ∨ c = i2 := by simpa using hc
    rcases e' with q | q | q | q | q <;> rw [q]
    · exact ⟨_, hz, fun v q => nomatch q⟩
    · exact ⟨_, hTI, fun v q => nomatch q⟩
    · exact ⟨_, hTO, fun v q => nomatch q⟩
    · exact ⟨o1, e1, fun v q => by rw [d1] at q; cases q⟩
    · exact ⟨o2, e2, fun v q => by rw [d2] at q; cases q⟩
  keep := fun i h h' st k => by
    obtain ⟨hz, hTI, ⟨x, y, hTO⟩, h1, h2⟩ := st
    exact ⟨k z (by simp) _ hz, k TI (by simp) _ hTI, ⟨x, y, k TO (by simp) _ hTO⟩, h1.at fun o q => k i1 (by simp) o q, h2.at fun o q => k i2 (by simp) o q⟩
  item := by
    intro X hP hw hK hc i pins s σ H E I hf st hg
    subst hP hw hK
    obtain ⟨hz, hTI, ⟨x0, y0, hTO⟩, h1, h2⟩ := st
    obtain ⟨xs, ys, x, y, hqx, hqy, hx, hy⟩ := hg
    obtain ⟨its, rv, p, _⟩ := I.tuple hqx
    obtain ⟨its2, rv2, p2, _⟩ := I.tuple hqy
    obtain ⟨u, hu, ru⟩ := rv.get hx
    obtain ⟨u2, hu2, ru2⟩ := rv2.get hy
    have pa : s.heap.IsTuple a its.toArray := p
    have pb : s.heap.IsTuple b its2.toArray := p2
    have D1 := Draws.tuple (prog := X.prog) (w := X.w) (A := X.A.in1) (I.ok.hd hc) i1 a n1 its.toArray
    have D2 := Draws.tuple (prog := X.prog) (w := X.w) (A := X.A.in1) (I.ok.hd hc) i2 b n2 its2.toArray
    have hzl : z < s.heap.objs.size := Heap.lt_size hz
    have lt1 : i < its.toArray.size := by rw [List.size_toArray]; exact (List.getElem?_eq_some_iff.mp hu).1
    have lt2 : i < its2.toArray.size := by rw [List.size_toArray]; exact (List.getElem?_eq_some_iff.mp hu2).1
    refine wpAny_pyNext_zipD2_item S D1 D2 hz hTI hTO ⟨h1, pa⟩ ⟨h2, pb⟩ lt1 lt2 fun v1 v2 h' tk e1 e2 z' TO' s1' s2' hT hsz hk => ?_
    have v1u : v1 = u := by
      have q : its.toArray[i]? = some v1 := e1
      rw [List.getElem?_toArray, hu] at q
      exact (Option.some.inj q).symm
    have v2u : v2 = u2 := by
      have q : its2.toArray[i]? = some v2 := e2
      rw [List.getElem?_toArray, hu2] at q
      exact (Option.some.inj q).symm
    subst v1u v2u
    refine ⟨_, rfl, wpAny_letOwnedTupleGo_zip (s := { s with heap := h', toks := tk }) z' fun h'' z'' sb => ?_⟩
    have hT2 : h''.get? s.heap.objs.size = some { cls := .type "tuple", data := .seq #[v1, v2] } := (sb.2 _ (Nat.ne_of_gt hzl)).trans hT
    have new : ObjOk X.prog X.w (upd H s.heap.objs.size (.tup [x, y])) h'' s.heap.objs.size (.tup [x, y]) :=
      ⟨by show 2 ≤ sizeLine; decide, [v1, v2], .cons ru (.cons ru2 .nil), ⟨_, hT2, rfl, _, rfl⟩⟩
    have I1 : Inv X pins σ (upd H s.heap.objs.size (.tup [x, y])) { s with heap := h'', toks := tk } :=
      I.turnedNew (t' := tk) (ch := [z, TI, TO, i1, i2]) (fun c o hb q => (sb.2 c (fun q' => hb (by simp [q']))).trans (hk c o (fun q' => hb (by simp [q'])) (fun q' => hb (by simp [q'])) (fun q' => hb (by simp [q'])) (fun q' => hb (by simp [q'])) q)) hf (Nat.le_refl _) new
    refine ⟨.ref s.heap.objs.size, _, I1, rfl, ⟨_, x, y, rfl, I.hok.fresh (Nat.le_refl _), rfl, fun l hl => by rw [I.tuple_inj hl hqx]; exact hx, fun l hl => by rw [I.tuple_inj hl hqy]; exact hy⟩, ⟨z'', ?_, ⟨v1, v2, ?_⟩, ?_, ?_⟩, fun c hcm => ?_⟩
    · exact (sb.2 _ S.TIz).trans (hk _ _ S.TIz S.TITO S.TIi1 S.TIi2 hTI)
    · exact (sb.2 _ S.TOz).trans TO'
    · exact s1'.1.at fun o q => (sb.2 _ (Ne.symm S.zi1)).trans q
    · exact s2'.1.at fun o q => (sb.2 _ (Ne.symm S.zi2)).trans q
    · have hlt : c < s.heap.objs.size := by
        have e' : c = z ∨ c = TI ∨ c = TO ∨ c = i1 ∨ c = i2 := by simpa using hcm
        rcases e' with q | q | q | q | q <;> rw [q]
        · exact hzl
        · exact Heap.lt_size hTI
        · exact Heap.lt_size hTO
        · obtain ⟨_, e1, _⟩ := h1; exact Heap.lt_size e1
        · obtain ⟨_, e2, _⟩ := h2; exact Heap.lt_size e2
      rw [upd_ne (Nat.ne_of_lt hlt)]
      exact (hf c hcm).1
  done := by
    intro X hP hw hK hc i pins s σ H E I hf st hg
    subst hP hw hK
    obtain ⟨hz, hTI, ⟨x0, y0, hTO⟩, h1, h2⟩ := st
    obtain ⟨xs, ys, hqx, hqy, hl, hi⟩ := hg
    obtain ⟨its, rv, p, _⟩ := I.tuple hqx
    obtain ⟨its2, rv2, p2, _⟩ := I.tuple hqy
    have l1 := rv.length
    have l2 := rv2.length
    have pa : s.heap.IsTuple a its.toArray := p
    have pb : s.heap.IsTuple b its2.toArray := p2
    have D1 := Draws.tuple (prog := X.prog) (w := X.w) (A := X.A.in1) (I.ok.hd hc) i1 a n1 its.toArray
    have D2 := Draws.tuple (prog := X.prog) (w := X.w) (A := X.A.in1) (I.ok.hd hc) i2 b n2 its2.toArray
    have z1 : i = its.toArray.size := by rw [List.size_toArray]; omega
    have z2 : i = its2.toArray.size := by rw [List.size_toArray]; omega
    exact wpAny_pyNext_zipD2_end S D1 D2 hz hTI hTO ⟨h1, pa⟩ ⟨h2, pb⟩ (Nat.le_of_eq z1) (Nat.le_of_eq z2) (.inl z1) fun h' tk hk => ⟨rfl, I.turnedL (t' := tk) (ch := [z, TI, TO, i1, i2]) (fun c o hb q =>
      hk c o (fun q' => hb (by simp [q'])) (fun q' => hb (by simp [q'])) (fun q' => hb (by simp [q'])) (fun q' => hb (by simp [q'])) q) hf⟩
  self := fun A i s Q E st h => wpAny_pyIter_zip st.1 h
def iZipT (K : PySem.W.Frag) (ta : TA) : TI := fun σ H R => ta σ H fun vs H1 => ∃ a b xs ys, vs = [.ref a, .ref b] ∧ SqT K H1 a xs ∧ SqT K H1 b ys ∧ R (ItzT K a b) H1
theorem pi_zipT {X : Cx} {e e2 : Expr} {ta : TA} {p pos tpos : Pos} {elts : List Expr} {kk : Nat} (hg : Gl X "zip") (hm : X.mg "zip" = none) (ha : PA X [e, e2] ta)
    (hs : starEach [e, e2] X.env = (false, eval e X.env) :: starEach [e2] X.env := by rfl) (hpl : (backTo pos (starEach [e2] X.env)).any (·.1) = false := by rfl) :
    PI X (.Tuple elts kk tpos) (.Call (.Name "zip" p) [e, e2] [] pos) (iZipT X.K ta) := by
  refine ⟨fun pins s σ H R I h => Call_ (ld_blt I hg hm PyProof.Rows.boot_zip (PyProof.Rows.callWith_type1 (thn (ha.run pos pins s σ H _ I h) fun us s1 ⟨vs, H1, I1, r1, a, b, xs, ys, ex, hqx, hqy, q⟩ => ?_) hs hpl))⟩
  subst ex
  cases r1 with
  | cons r rr =>
    cases rr with
    | cons r' rr =>
      cases rr
      cases r
      cases r'
      obtain ⟨its, rv, p1, _⟩ := I1.tuple hqx
      obtain ⟨its2, rv2, p2, _⟩ := I1.tuple hqy
      have pa : s1.heap.IsTuple a its.toArray := p1
      have pb : s1.heap.IsTuple b its2.toArray := p2
      have la : a < s1.heap.objs.size := by obtain ⟨o, z, _⟩ := pa; exact Heap.lt_size z
      have lb : b < s1.heap.objs.size := by obtain ⟨o, z, _⟩ := pb; exact Heap.lt_size z
      refine zip_begins2 (begins_tuple a its.toArray) (begins_tuple b its2.toArray) pa pb fun h' hz hTI hTO h1 h2 hsz hk => wpAny_pyIter_zip hz ?_
      have I2 : Inv X pins σ H1 { s1 with heap := h' } := I1.kept (t' := s1.toks) hk
      have S : ZipSep2 (s1.heap.objs.size + 4) (s1.heap.objs.size + 2) (s1.heap.objs.size + 3) s1.heap.objs.size (s1.heap.objs.size + 1) [s1.heap.objs.size, a] [s1.heap.objs.size + 1, b] := by
        have A := PySem.W.ktu_apart s1.heap.objs.size a b la lb
        exact ⟨A.TIz, A.TOz, A.TITO, A.TIi1, by simp, by simp [Ne.symm A.i1z, Ne.symm A.l1z], by simp [A.TOi1, Ne.symm A.l1TO], A.TIi2, by simp, by simp [Ne.symm A.i2z, Ne.symm A.l2z], by simp [A.TOi2, Ne.symm A.l2TO], by simp [A.i12, Nat.ne_of_gt lb], by simp [Ne.symm A.i12, Ne.symm A.l1i2]⟩
      refine ⟨s1.heap.objs.size + 4, [s1.heap.objs.size + 4, s1.heap.objs.size + 2, s1.heap.objs.size + 3, s1.heap.objs.size, s1.heap.objs.size + 1], _, _, H1, rfl, I2, turn_zipT S (Nat.ne_of_lt la) (Nat.ne_of_lt (Nat.lt_succ_of_lt lb)), ⟨hz, hTI, ⟨_, _, hTO⟩, ⟨_, h1, rfl, rfl⟩, ⟨_, h2, rfl, rfl⟩⟩, fun c hcm => ?_, q⟩
      have e' : c = s1.heap.objs.size + 4 ∨ c = s1.heap.objs.size + 2 ∨ c = s1.heap.objs.size + 3 ∨ c = s1.heap.objs.size ∨ c = s1.heap.objs.size + 1 := by simpa using hcm
      have hle : s1.heap.objs.size ≤ c := by
        rcases e' with z | z | z | z | z
        · rw [z]; exact Nat.le_add_right _ _
        · rw [z]; exact Nat.le_add_right _ _
        · rw [z]; exact Nat.le_add_right _ _
        · rw [z]; exact Nat.le_refl _
        · rw [z]; exact Nat.le_add_right _ _
      exact I1.fpOk hle (I1.hok.fresh hle)
theorem walk_zipT {K : PySem.W.Frag} {a b : Addr} {xs ys : List V} (hl : xs.length = ys.length) : Walk (ItzT K a b) xs.length (fun H => SqT K H a xs ∧ SqT K H b ys) (YPair (fun i => xs[i]?) (fun i => ys[i]?)) := by
  refine ⟨fun i _ hi q => ⟨xs, ys, xs[i], ys[i], q.1, q.2, by simp [hi], by simp [← hl, hi]⟩, fun _ q => ⟨xs, ys, q.1, q.2, hl, rfl⟩, fun i H v H' _ q y => ?_⟩
  obtain ⟨T, x, z, h1, h2, h3, h4, h5⟩ := y
  exact ⟨T, x, z, h1, h2, h3, h4 xs q.1, h5 ys q.2⟩
/-! ### d.setdefault, the keys tuples -/
section
variable {X : Cx} {pins : List (Addr × Obj)} {σ : L2.St} {H : Hp} {s : Shared} {a b : Addr} {r : Value} {d : V} {k : List Key} {A : Around} {E : Value → Shared → Prop}
theorem d_setdT {kvs : List (List Key × V)} {Q : Value → Shared → Prop} (hu : A.units + 1 < cLine) (I : Inv X pins σ H s) (e : H a = some (.dT kvs)) (eb : H b = some (.tup (k.map kV))) (rd : RelV d r) (hl : kvs.length < sizeLine)
    (h1 : ∀ v, valV kvs k = some v → ∀ (w' : Value) (s' : Shared), Inv X pins σ H s' → RelV v w' → Q w' s') (h2 : valV kvs k = none → ∀ (w' : Value) (s' : Shared), Inv X pins σ (upd H a (.dT (putK kvs k d))) s' → RelV d w' → Q w' s') :
    wpAny (model X.prog X.w) A (call (.builtin "dict.setdefault") [.ref a, .ref b, r]) Q E s := by
  obtain ⟨z, hd, xs, rel, dd⟩ := dt_of I.hok e
  refine call_setdefault_heap (tupleKind_room_in1 hu) (key_of I.hok eb) hd dd (fun p hp => ?_) (fun hn h' dd' hs => ?_) (by rw [← Paired.length rel]; exact z)
  · have q := rel.val k
    rw [hp] at q
    cases q0 : valV kvs k with
    | none => rw [q0] at q; exact (show False from q).elim
    | some v0 => rw [q0] at q; exact h1 v0 q0 _ _ (I.tok _) q
  · have q := rel.val k
    rw [hn] at q
    cases q0 : valV kvs k with
    | some v0 => rw [q0] at q; exact (show False from q).elim
    | none =>
      have hz : (putK kvs k d).length ≤ sizeLine := by have := length_putK kvs k d; omega
      obtain ⟨q, es, ep, hq, g2, g3, g4, _, g5⟩ := dd'
      refine h2 q0 _ _ (d_write I (by rw [e]; exact True.intro) hs ⟨q, hq⟩ ⟨hz, hd, _, (rel.put k eb rd).keeps fun c ys ec => ?_, q, es, ep, hq, g2, g3, g4, g5⟩) rd
      rw [upd_ne (ne_of ec e (fun z => nomatch z))]
      exact ec
end
/-- d.setdefault((..), z) -/
def tDSetdT (td ty tx : TE) : TE := fun σ H Q => td σ H fun x H1 => ∃ a, x = .ref a ∧ IsD H1 a ∧ ty σ H1 fun y H2 => tx σ H2 fun z H3 => ∃ (kvs : List (List Key × V)) (k : List Key) (b : Addr), H3 a = some (.dT kvs) ∧ y = .ref b ∧ H3 b = some (.tup (k.map kV)) ∧ kvs.length < sizeLine ∧
  (∀ v, valV kvs k = some v → Q v H3) ∧ (valV kvs k = none → Q z (upd H3 a (.dT (putK kvs k z))))
theorem pe_dsetdT {X : Cx} {o e f : Expr} {td ty tx : TE} {apos cpos : Pos} (hu : X.A.units + 1 < cLine) (ho : PE X o td) (he : PE X e ty) (hf : PE X f tx) (m : M2 X o "setdefault" apos e f cpos) : PE X (.Call (.Attribute o "setdefault" apos) [e, f] [] cpos) (tDSetdT td ty tx) := by
  refine ⟨fun pins s σ H Q I h => ?_⟩
  refine wpAny_Call_method m.base m.few m.line PySem.F.plainAttrs_dict PySem.F.slot_dict_setdefault PySem.F.type_dict_setdefault (thn (ho.run pins s σ H _ I h) fun u s1 ⟨x, H1, I1, rx, a, ex, d, q1⟩ => ?_)
  subst ex
  obtain rfl : u = Value.ref a := rx
  obtain ⟨t1, t2, _⟩ := isD_at I1 d
  refine ⟨t1, t2, ?_⟩
  rw [m.trees]
  refine Calls.callWith_builtin rfl (Calls.evalArgs_plain (Calls.spliced_cons (thn (he.run pins s1 σ H1 _ I1 q1) fun iv s2 ⟨y, H2, I2, ry, q2⟩ =>
    Calls.spliced_cons (thn (hf.run pins s2 σ H2 _ I2 q2) fun fv s3 ⟨z, H3, I3, rz, kvs, k, b, ea, ey, eb, hl, q3, q4⟩ => Calls.spliced_nil ?_))))
  subst ey
  obtain rfl : iv = Value.ref b := ry
  exact d_setdT hu I3 ea eb rz hl (fun v hv w' s4 I4 rw' => ⟨v, _, I4, rw', q3 v hv⟩) fun hn w' s4 I4 rw' => ⟨z, _, I4, rw', q4 hn⟩
end SX
/-! x != y of two objects of one class with an own == -/
namespace SX
open PySem PySem.Spec PyProof.Rows L2
section
variable {X : Cx} {n : Nat}
theorem own_eq_call {CX : CXT} {f : Addr} {fd : FuncData} {ps : List Str} {R : Addr → Addr → Hp → Prop} {E : XK} (F : FnOk X.prog X.w X.K X.mg X.base CX n f fd ps (spEq R)) (hb : Binds X.K fd ps []) (hx : Passes CX X E)
    {A : Around} {pins : List (Addr × Obj)} {s : Shared} {σ : L2.St} {H : Hp} {a b : Addr} (sb : Sub X n A) (I : Inv X pins σ H s) (hr : R a b H) :
    wpAny (model X.prog X.w) A (call (.ref f) [.ref a, .ref b]) (fun r s' => r = .bool true ∧ ∃ H', Inv X pins σ H' s' ∧ Ext H H') X.xe s := by
  have hsp : spEq R [.ref a, .ref b] H (fun v H' => v = .bl true ∧ Ext H H') E := ⟨a, b, rfl, hr, fun H' e => ⟨rfl, e⟩⟩
  have e0 : Env0 X.prog X.w X.K X.mg X.base A X.stack s H := by
    have e := I.env0
    exact ⟨by rw [sb.fr]; exact e.frames, e.mod, e.bs, e.bsz, e.funs, e.frf, e.hok, e.bare⟩
  have hl := F.len _ _ _ _ hsp
  have r2 : Vals [V.ref a, V.ref b] [Value.ref a, Value.ref b] := .cons rfl (.cons rfl .nil)
  refine wpAny_call (codeAny_mono (F.run A X.stack s H ⟨[.ref a, .ref b], []⟩ [.ref a, .ref b] [.ref a, .ref b] _ E sb.room e0 (by
    have := hb s [.ref a, .ref b] I.kIn (by simpa using hl)
    simpa using this) r2 hsp) fun r s' hq => ?_)
  cases r with
  | error e => exact hx pins σ H s e s' I hq
  | ok fl =>
    cases fl with
    | ret w =>
      obtain ⟨z, H', I', rz, ez, ex⟩ := I.after hq
      subst ez
      cases rz
      exact ⟨rfl, H', I', ex⟩
    | next => exact False.elim hq
    | brk => exact False.elim hq
    | cont => exact False.elim hq
theorem check_slotK {M : Model} {id owner nm : String} {A : Around} {x : Addr} {rest : List Value} {Q : Unit → Shared → Prop} {E : Value → Shared → Prop} {s : Shared} (hk : builtinKind id = some .slot) (hs : splitId id = some (owner, nm)) (ha : argsOk id ⟨.ref x :: rest, []⟩)
    (hi : PySem.W.Looks M s.heap (isInstance (.ref x) (.type owner)) true) (hq : Q () s) : wpAny M A (checkBuiltinCall id ⟨.ref x :: rest, []⟩) Q E s := by
  simp only [checkBuiltinCall, hk, hs]
  refine wpAny_bind (hi.here ?_)
  rw [if_neg (by simp)]
  cases hsig : Manifest.signature? id with
  | none => exact wpAny_pure hq
  | some sig =>
    simp only [argsOk, hsig] at ha
    have h2 : Bind.checkArgs id sig ⟨.ref x :: rest, []⟩ = pure () := ha
    show wpAny M A (Bind.checkArgs id sig ⟨.ref x :: rest, []⟩) Q E _
    rw [h2]; exact wpAny_pure hq
def rNeG (D : Eqv) : R2 := fun x y H Q => D x y H ∧ ∀ H', Ext H H' → Q (.bl false) H'
theorem op_neOwn {CX : CXT} {C f : Addr} {fd : FuncData} {ps : List Str} {R : Addr → Addr → Hp → Prop} {E : XK} (F : FnOk X.prog X.w X.K X.mg X.base CX n f fd ps (spEq R))
    (hs : PySem.W.findIn X.K (.ref C) "__eq__" = some (some (.ref f))) (hn : PySem.W.findIn X.K (.ref C) "__ne__" = some (some (.builtin "object.__ne__"))) (ho : PySem.W.subIn X.K (.ref C) (.type "object") = some true) (hf : PySem.W.isFn X.K (.ref f) = true)
    (hb : Binds X.K fd ps []) (hx : Passes CX X E) (hr : Room (n + 1) X.A) : OpR X (compareOp .NotEq) (rNeG (DIns C R)) := by
  intro pins s σ H x y v u Q I rx ry hq
  obtain ⟨⟨a, b, dx, dy, fs, gs, rfl, rfl, ha, hb', hR⟩, q⟩ := hq
  cases rx
  cases ry
  obtain ⟨mA, J, _⟩ := ins_get I.hok ha
  obtain ⟨mB, J', _⟩ := ins_get I.hok hb'
  obtain ⟨od, J, _⟩ := J.look
  obtain ⟨od', J', _⟩ := J'.look
  obtain ⟨m, hF⟩ := I.fr
  have KI := I.ok.mod.kin.keeps hF.keep
  have S : Slot "object" "__ne__" "object.__ne__" := PySem.F.cmp_object.ne
  show wpAny _ _ (richCompare .NotEq (.ref a) (.ref b)) _ _ s
  unfold richCompare
  simp only [oneThing_ref]
  refine wpAny_holding (wpAny_bind (wpAny_cRoomFor hr.units0 ?_))
  rw [cmpInfo_NotEq]
  dsimp only
  refine wpAny_bind (J.type.here (wpAny_bind (J'.type.here ?_)))
  rw [show (Value.ref C != Value.ref C) = false from by simp]
  simp only [Bool.false_eq_true, if_false]
  refine wpAny_bind (wpAny_pure ?_)
  simp only [Bool.false_eq_true, if_false]
  have body : wpAny (model X.prog X.w) X.A.in1 (Builtin.«object.__ne__» ⟨[.ref a, .ref b], []⟩) (fun fin s' => ∃ r, fin = .done (.ret r) ∧ r = .bool false ∧ ∃ H', Inv X pins σ H' s' ∧ Ext H H') X.xe s := by
    unfold Builtin.«object.__ne__»
    have room1 : Room n X.A.in1 := hr.in1
    have hcall : wpAny (model X.prog X.w) X.A.in1 (callSpecialIfBound? (.ref a) (Str.ofString "__eq__") [.ref b]) (fun r s' => ∃ z, r = some z ∧ z = .bool true ∧ ∃ H', Inv X pins σ H' s' ∧ Ext H H') X.xe s :=
      PySem.W.ifBound_K KI J hs hf (wpAny_mono (own_eq_call F hb hx (A := X.A.in1) ⟨room1, rfl⟩ I hR) (fun v s' hv => ⟨v, rfl, hv⟩) fun _ _ e => e)
    repeat (first
      | with_reducible refine wpAny_cRoomFor room1.units0 ?_
      | (refine wpAny_bind (m := callSpecialIfBound? (.ref a) (Str.ofString "__eq__") [.ref b]) (wpAny_mono hcall (fun r s' hr => ?_) fun _ _ e => e)
         obtain ⟨z, rfl, rfl, hq⟩ := hr
         repeat (first | exact ⟨_, rfl, rfl, hq⟩ | exact wpAny_pure ⟨_, rfl, rfl, hq⟩ | exact wpAny_truthy_bool ⟨_, rfl, rfl, hq⟩ | (refine wpAny_bind (m := truthy (.bool _)) (wpAny_truthy_bool ?_)) | wp_step))
      | wp_step)
  have one : wpAny (model X.prog X.w) X.A (tryCompare (.ref a) "__ne__" (.ref b)) (fun r s' => ∃ v, r = some v ∧ v = .bool false ∧ ∃ H', Inv X pins σ H' s' ∧ Ext H H') X.xe s := by
    simp only [tryCompare, callSpecialIfBound?, bindSpecialIfBound?]
    refine wpAny_bind ?_
    refine wpAny_holding (wpAny_bind (wpAny_bind (wpAny_bind (J.type.here ((PySem.W.looks_findIn KI hn).here ?_)))))
    simp only [S.bind]
    refine wpAny_bind (wpAny_askSetting (wpAny_ite ?_))
    have fin : wpAny (model X.prog X.w) X.A (call (.builtin "object.__ne__") ([.ref a] ++ [.ref b])) (fun v s' => v = .bool false ∧ ∃ H', Inv X pins σ H' s' ∧ Ext H H') X.xe s := by
      refine wpAny_call (codeAny_call_builtin S.plain PySem.F.cmpEntry_ne (check_slotK PySem.F.cmpKind_ne PySem.F.cmpSplit_ne (PySem.F.cmpArgs_ne _ _) (J.type.andThen (PySem.W.looks_subIn KI ho)) ?_))
      refine wpAny_mono body (fun fin s' z => ?_) fun _ _ e => e
      obtain ⟨r, rfl, rfl, h⟩ := z
      exact ⟨rfl, h⟩
    have fin2 : wpAny (model X.prog X.w) X.A (call (.builtin "object.__ne__") ([.ref a] ++ [.ref b]) >>= fun v => pure (some v)) (fun r s' => r = some (.bool false) ∧ ∃ H', Inv X pins σ H' s' ∧ Ext H H') X.xe s :=
      wpAny_bind (wpAny_mono fin (fun v s' h' => wpAny_pure ⟨by rw [h'.1], h'.2⟩) fun _ _ h' => h')
    have fin3 := wpAny_mono fin2 (Q' := fun a s' => wpAny (model X.prog X.w) X.A (match a with
        | some Value.notImplemented => pure none
        | none => pure none
        | some v => pure (some v)) (fun r s' => ∃ v, r = some v ∧ v = .bool false ∧ ∃ H', Inv X pins σ H' s' ∧ Ext H H') X.xe s') (fun r s' h' => by
      obtain ⟨rfl, h'⟩ := h'
      exact wpAny_pure ⟨_, rfl, rfl, h'⟩) fun _ _ e => e
    split
    · exact wpAny_bind (wpAny_pure (wpAny_pure fin3))
    · exact wpAny_tryCatch (wpAny_bind (wpAny_pure (wpAny_pure fin3)))
  refine wpAny_bind (wpAny_mono one (fun r s' z => ?_) fun _ _ e => e)
  obtain ⟨v, rfl, rfl, H', I', e⟩ := z
  exact wpAny_pure ⟨.bl false, H', I', rfl, q H' e⟩
end
end SX
/-! two sorted lists of the same words are one -/
namespace SX
open PySem PySem.Spec PyProof.Rows L2
def leS (a b : Str) : Prop := ltCps b.cps.toList a.cps.toList = false
theorem leS_iff {a b : Str} : leS a b ↔ a.cps.toList ≤ b.cps.toList := by
  unfold leS
  rw [ltCps_eq, decide_eq_false_iff_not]
  exact List.not_lt
theorem leS_trans {a b c : Str} (h : leS a b) (k : leS b c) : leS a c := leS_iff.mpr (List.le_trans (leS_iff.mp h) (leS_iff.mp k))
theorem leS_anti {a b : Str} (h : leS a b) (k : leS b a) : a = b := by
  have e := List.le_antisymm (leS_iff.mp h) (leS_iff.mp k)
  obtain ⟨x⟩ := a
  obtain ⟨y⟩ := b
  have e' : x.toList = y.toList := e
  rw [Array.toList_inj.mp e']
theorem rising_pw : ∀ (l : List Str) (p : Str), risingS p l = true → (p :: l).Pairwise leS
  | [], p, _ => List.pairwise_singleton ..
  | x :: r, p, h => by
    have h' : (!ltCps x.cps.toList p.cps.toList && risingS x r) = true := h
    rw [Bool.and_eq_true] at h'
    have px : leS p x := by
      unfold leS
      simpa using h'.1
    have ih := rising_pw r x h'.2
    refine List.pairwise_cons.mpr ⟨fun y hy => ?_, ih⟩
    rcases List.mem_cons.mp hy with rfl | hy
    · exact px
    · exact leS_trans px ((List.pairwise_cons.mp ih).1 y hy)
theorem sorted_pw : ∀ {l : List Str}, sortedS l = true → l.Pairwise leS
  | [], _ => .nil
  | x :: r, h => rising_pw r x h
theorem pw_eq {l m : List Str} (hl : l.Pairwise leS) (hm : m.Pairwise leS) (p : l.Perm m) : l = m := by
  induction l generalizing m with
  | nil => exact p.nil_eq
  | cons x l ih =>
    cases m with
    | nil => exact absurd p.symm.nil_eq (by simp)
    | cons y m =>
      obtain ⟨h1, h2⟩ := List.pairwise_cons.mp hl
      obtain ⟨g1, g2⟩ := List.pairwise_cons.mp hm
      have e : x = y := by
        rcases List.mem_cons.mp (p.mem_iff.mp (List.mem_cons_self (a := x) (l := l))) with e | hx
        · exact e
        · rcases List.mem_cons.mp (p.mem_iff.mpr (List.mem_cons_self (a := y) (l := m))) with e | hy
          · exact e.symm
          · exact leS_anti (h1 y hy) (g1 x hx)
      subst e
      rw [ih h2 g2 p.cons_inv]
theorem sortedS_eq {l m : List Str} (hl : sortedS l = true) (hm : sortedS m = true) (p : l.Perm m) : l = m := pw_eq (sorted_pw hl) (sorted_pw hm) p
theorem sortedS_same {l m : List Str} (hl : sortedS l = true) (hm : sortedS m = true) (nl : l.Nodup) (nm : m.Nodup) (h : ∀ x, x ∈ l ↔ x ∈ m) : l = m := sortedS_eq hl hm ((List.perm_ext_iff_of_nodup nl nm).mpr h)
end SX
namespace SX
open PySem PySem.Spec PyProof.Rows L2 L2.DX
/-! ### d.items() as a value, tuple(d.items()); d == {}, d != {} -/
section
variable {prog : Program} {w : World} {A : Around} {E : Value → Shared → Prop} {s : Shared} {r d : Addr} {es : Array DictEntry} {ep : Nat}
theorem code_tuple_items {Q₁ : Value → Shared → Prop} (hh : A.handled = none) (hv : s.heap.IsItemsView r d) (hm : DT.Raw s.heap d es ep) (hn : es.size ≤ sizeLine)
    (h : ∀ (h' : Heap) (tk : Nat) (as : List Addr), (∀ b o, s.heap.get? b = some o → h'.get? b = some o) → s.heap.objs.size < h'.objs.size → as.length = es.size → DT.Made es s.heap.objs.size h' as →
      Q₁ (.ref h'.objs.size) { s with heap := h'.push { cls := .type "tuple", data := .seq (as.map Value.ref).toArray }, toks := tk }) :
    codeAny (model prog w) A (.call (.builtin "tuple.__new__") ⟨[.type "tuple", .ref r], []⟩) (wants Q₁ E) s := by
  refine codeAny_of_tree ?_
  show wpAny _ A.in1 (do checkBuiltinCall "tuple.__new__" ⟨[.type "tuple", .ref r], []⟩; again (.builtin "tuple.__new__" ⟨[.type "tuple", .ref r], []⟩)) _ _ s
  refine wpAny_bind (wpAny_of_eq (F.newCall_tuple_1 _) (wpAny_pure ⟨plainId_quiet F.plain_tuple_new _, codeAny_builtin F.entry_tuple_new ?_⟩))
  rw [Around.under_plainId F.plain_tuple_new _]
  have hsub := sub_tuple_self
  have hinit := init_tuple_lookup
  have hmh := madeHere_tuple
  have hTI : s.TypeIs (.ref r) "dict_items" := hv.typeIs
  have hh1 : A.in1.handled = none := hh
  wp_walk using wpAny_typeOf hTI, DT.collectI (A := A.in1) (es := es) (ep := ep) hh1 hv hm hn
  intro h' tk as hk hlt hl hG
  show wpAny _ _ (Builtin.Tuple.tupleExact (as.map Value.ref).toArray >>= fun v => ret v) _ _ _
  unfold Builtin.Tuple.tupleExact
  refine wpAny_bind (wpAny_newObj_type ?_ (by show (as.map Value.ref).toArray.size ≤ sizeLine; rw [List.size_toArray, List.length_map, hl]; exact hn))
  refine wpAny_pure ?_
  exact h h' tk as hk hlt hl hG
theorem call_tuple_items {Q : Value → Shared → Prop} (hh : A.handled = none) (hv : s.heap.IsItemsView r d) (hm : DT.Raw s.heap d es ep) (hn : es.size ≤ sizeLine)
    (hQ : ∀ (h' : Heap) (tk : Nat) (as : List Addr), (∀ b o, s.heap.get? b = some o → h'.get? b = some o) → s.heap.objs.size < h'.objs.size → as.length = es.size → DT.Made es s.heap.objs.size h' as →
      Q (.ref h'.objs.size) { s with heap := h'.push { cls := .type "tuple", data := .seq (as.map Value.ref).toArray }, toks := tk }) :
    wpAny (model prog w) A (call (.type "tuple") [.ref r]) Q E s := by
  refine callType_codes (Q₁ := fun obj s₁ => s₁.TypeIs obj "tuple" ∧ Q obj s₁) F.called_tuple (F.typeCall_tuple_1 _) F.entry_object_init
    (code_tuple_items (A := A.in1) hh hv hm hn fun h' tk as hk hlt hl hG => ⟨⟨_, Heap.get?_push_size _ rfl, rfl⟩, hQ h' tk as hk hlt hl hG⟩) fun obj s₁ h₁ => ?_
  exact ⟨h₁.1, F.args_object_init_2 obj _, object_init_meets F.called_tuple.init.lookup F.called_tuple.made (by decide) prog w A.in1 _ s₁ ⟨h₁.1, rfl, h₁.2⟩⟩
end
section
variable {X : Cx}
def rItemsK : V → List V → Hp → VK → Prop := fun x xs H Q => ∃ (a : Addr) (kvs : List (L2.Key × V)), x = .ref a ∧ xs = [] ∧ H a = some (.dK kvs) ∧ ∀ p, H p = none → Q (.ref p) (upd H p (itemsO p a))
theorem mt_itemsK : MtR X "dict.items" rItemsK := by
  intro pins s σ H x xs v us Q I rx rxs h
  obtain ⟨a, kvs, rfl, rfl, ha, q⟩ := h
  cases rx
  cases rxs
  obtain ⟨z, hd, vs, rel, o, es, ep, ho, hx, hdat, _⟩ := dk_of I.hok ha
  refine DT.callItems (es := es) (ep := ep) hd ⟨o, ho, hx, hdat⟩ ?_
  have hf : H s.heap.objs.size = none := I.hok.fresh (Nat.le_refl _)
  exact ⟨.ref s.heap.objs.size, upd H s.heap.objs.size (itemsO s.heap.objs.size a), I.laid (t' := s.toks) (fun b u e => Heap.get?_push_of_some _ e) (Nat.le_refl _) (itemsO_ok (Heap.get?_push_size _ rfl)), rfl, q _ hf⟩
theorem pairs_get {P : Program} {w : World} : ∀ {es : List DictEntry} {vs : List (L2.Key × Value)} {j : Nat} {e : DictEntry}, Pairs (mixKind P w) es vs → es[j]? = some e → ∃ p, vs[j]? = some p ∧ keyIs p.1 e.key = true ∧ e.val = p.2
  | [], _, j, e, .nil, h => by simp at h
  | _ :: _, _ :: _, 0, e, .cons a b _, h => by
    simp at h
    subst h
    exact ⟨_, rfl, a, b⟩
  | _ :: _, _ :: _, j + 1, e, .cons _ _ t, h => by
    obtain ⟨p, h1, h2⟩ := pairs_get (j := j) t (by simpa using h)
    exact ⟨p, by simpa using h1, h2⟩
/-- tuple(the view of the items of a dict) -/
def rTupItems : List V → Hp → VK → Prop := fun vs H Q => ∃ (p a : Addr) (kvs : List (L2.Key × V)), vs = [.ref p] ∧ H p = some (itemsO p a) ∧ H a = some (.dK kvs) ∧
  ∀ (H' : Hp) (t : Addr) (as : List Addr), (∀ b o, H b = some o → H' b = some o) → as.length = kvs.length → H' t = some (.tup (as.map V.ref)) → (∀ (j : Nat) (b : Addr) (e : L2.Key × V), as[j]? = some b → kvs[j]? = some e → H' b = some (.tup [kV e.1, e.2])) → Q (.ref t) H'
theorem cr_tupItems (hc : X.calm = true) : CallR X (.type "tuple") rTupItems := by
  intro pins s σ H xs us Q I r h
  obtain ⟨p, a, kvs, rfl, hp, ha, q⟩ := h
  obtain rfl := Vals.ref1 r
  have view : s.heap.IsItemsView p a := (show ObjOk X.prog X.w H s.heap p (itemsO p a) from I.hok p _ hp).1
  obtain ⟨z, hd, vs, rel, o, es, ep, ho, hx, hdat, hks, hpr, hnd⟩ := dk_of I.hok ha
  have l1 : kvs.length = vs.length := Paired.length rel
  have l2 : es.size = vs.length := by rw [← Array.length_toList]; exact hpr.length
  have hz : es.size ≤ sizeLine := by rw [l2, ← l1]; exact z
  have hh : X.A.handled = none := I.ok.hd hc
  refine call_tuple_items (es := es) (ep := ep) hh view ⟨o, ho, hx, hdat⟩ hz fun h' tk as hk hlt hl hG => ?_
  have lak : as.length = kvs.length := by omega
  have nd : as.Nodup := List.Pairwise.imp (fun h => Nat.ne_of_lt h) hG.rise
  have pr : ∀ (j : Nat) (b : Addr), as[j]? = some b → ∃ (e : L2.Key × V) (u1 u2 : Value), kvs[j]? = some e ∧ RelV (kV e.1) u1 ∧ RelV e.2 u2 ∧ h'.get? b = some { cls := .type "tuple", data := .seq #[u1, u2] } := by
    intro j b hj
    obtain ⟨en, he, hg⟩ := hG.pairs j b hj
    rw [← Array.getElem?_toList] at he
    obtain ⟨pv, hv, e1, e2⟩ := pairs_get hpr he
    obtain ⟨e0, he0, r1, r2⟩ := pget rel hv
    exact ⟨e0, en.key, en.val, he0, by rw [r1]; exact keyIs_rel e1, by rw [e2]; exact r2, hg⟩
  generalize hh2 : h'.push { cls := .type "tuple", data := .seq (as.map Value.ref).toArray } = h2
  have ka : ∀ b o, h'.get? b = some o → h2.get? b = some o := fun b o e => by rw [← hh2]; exact Heap.get?_push_of_some _ e
  have kb : ∀ b o, s.heap.get? b = some o → h2.get? b = some o := fun b o e => ka b o (hk b o e)
  have hT : h2.get? h'.objs.size = some { cls := .type "tuple", data := .seq (as.map Value.ref).toArray } := by
    rw [← hh2]
    exact Heap.get?_push_size _ rfl
  have hn0 : H h'.objs.size = none := I.hok.fresh (Nat.le_of_lt hlt)
  have I1 : Inv X pins σ H { s with heap := h2, toks := tk } := I.kept (t' := tk) kb
  have I2 : Inv X pins σ (upd H h'.objs.size (.tup (as.map V.ref))) { s with heap := h2, toks := tk } :=
    I1.take (h' := h2) (t' := tk) (fun b ob _ e => e) (I.fpOk (Nat.le_of_lt hlt) hn0) ⟨by rw [List.length_map, hl]; exact hz, as.map Value.ref, vals_maps (fun z : Addr => V.ref z) (fun z => Value.ref z) as (fun _ _ => rfl), _, hT, rfl, 0, rfl⟩
  obtain ⟨H2, I3, g, qt⟩ := takeT (P := fun b vs => ∃ (j : Nat) (e : L2.Key × V), as[j]? = some b ∧ kvs[j]? = some e ∧ vs = [kV e.1, e.2]) I as _ I2 nd fun b hb => by
    obtain ⟨j, hj⟩ := List.mem_iff_getElem?.mp hb
    obtain ⟨e, u1, u2, he, r1, r2, hg⟩ := pr j b hj
    have hbl : s.heap.objs.size ≤ b := Nat.le_of_lt (hG.above b hb)
    refine ⟨hbl, ?_, [kV e.1, e.2], ⟨j, e, hj, he, rfl⟩, fun H3 => ⟨(by rw [sizeLine_eq]; show 2 ≤ 16777216; omega), [u1, u2], .cons r1 (.cons r2 .nil), ⟨_, ka _ _ hg, rfl, 0, rfl⟩⟩⟩
    rw [upd_ne (Nat.ne_of_lt (Heap.lt_size hg))]
    exact I.hok.fresh hbl
  have gr : ∀ b o, H b = some o → H2 b = some o := fun b o e => g b o (by rw [upd_ne (ne_of_none e hn0)]; exact e)
  refine ⟨.ref h'.objs.size, H2, I3, rfl, q H2 h'.objs.size as gr lak (g _ _ upd_same) fun j b e hj he => ?_⟩
  obtain ⟨vs', ⟨i, e', i1, i2, ev⟩, hH⟩ := qt b (List.mem_of_getElem? hj)
  have eij : i = j := (List.getElem?_inj (List.getElem?_eq_some_iff.mp i1).1 nd).mp (i1.trans hj.symm)
  subst eij
  have ee : e' = e := Option.some.inj (i2.symm.trans he)
  rw [ev, ee] at hH
  exact hH
/-- d == {}, d != {} -/
def rEqD0 : R2 := fun x y H Q => ∃ a b ks, x = .ref a ∧ y = .ref b ∧ H a = some (.dK ks) ∧ H b = some (.dK []) ∧ Q (.bl ks.isEmpty) H
def rNeD0 : R2 := fun x y H Q => ∃ a b ks, x = .ref a ∧ y = .ref b ∧ H a = some (.dK ks) ∧ H b = some (.dK []) ∧ Q (.bl (!ks.isEmpty)) H
theorem hits_none {A : Around} {s : Shared} {κ : Type} [DecidableEq κ] : PySem.W.KeqHits (K := κ) A s [] [] true := .nil
theorem op_eqD0 (hu : X.A.units < cLine) : OpR X (compareOp .Eq) rEqD0 := by
  intro pins s σ H x y v u Q I rx ry h
  obtain ⟨a, b, ks, rfl, rfl, ea, eb, q⟩ := h
  obtain rfl : v = Value.ref a := rx
  obtain rfl : u = Value.ref b := ry
  obtain ⟨_, ya, va, ra, da⟩ := (show ObjOk X.prog X.w H s.heap a (.dK ks) from I.hok a _ ea)
  obtain ⟨_, yb, vb, rb, db⟩ := (show ObjOk X.prog X.w H s.heap b (.dK []) from I.hok b _ eb)
  cases rb
  refine PySem.W.keq_eq (knd := mixKind X.prog X.w) (r := true) ya yb da db hu (fun hl => ?_) (fin_bl I q ?_)
  · cases ra with
    | nil => exact .nil
    | cons _ _ => exact absurd hl (by simp)
  · cases ra <;> simp
theorem op_neD0 (hu : X.A.units < cLine) : OpR X (compareOp .NotEq) rNeD0 := by
  intro pins s σ H x y v u Q I rx ry h
  obtain ⟨a, b, ks, rfl, rfl, ea, eb, q⟩ := h
  obtain rfl : v = Value.ref a := rx
  obtain rfl : u = Value.ref b := ry
  obtain ⟨_, ya, va, ra, da⟩ := (show ObjOk X.prog X.w H s.heap a (.dK ks) from I.hok a _ ea)
  obtain ⟨_, yb, vb, rb, db⟩ := (show ObjOk X.prog X.w H s.heap b (.dK []) from I.hok b _ eb)
  cases rb
  refine PySem.W.keq_ne (knd := mixKind X.prog X.w) (r := true) ya yb da db hu (fun hl => ?_) (fin_bl I q ?_)
  · cases ra with
    | nil => exact .nil
    | cons _ _ => exact absurd hl (by simp)
  · cases ra <;> simp
end
end SX
namespace SX
open PySem PySem.Spec PyProof.Rows L2 L2.DX
/-! ### a dict whose keys are tuples of pairs (a text, an int) -/
abbrev Row : Type := List (Str × Int)
def nk (k : Row) : NestedKey := .tup (k.map fun p => .tup [.text p.1, .num p.2])
theorem nk_inj {k k' : Row} (h : nk k = nk k') : k = k' := by
  unfold nk at h
  injection h with h
  induction k generalizing k' with
  | nil => cases k' with
    | nil => rfl
    | cons _ _ => simp at h
  | cons p k ih => cases k' with
    | nil => simp at h
    | cons q k' =>
      simp only [List.map_cons, List.cons.injEq, NestedKey.tup.injEq, NestedKey.text.injEq, NestedKey.num.injEq, and_true] at h
      rw [ih h.2, show p = q from Prod.ext h.1.1 h.1.2]
theorem nk_depth (k : Row) : (nk k).depth ≤ 8 := by
  unfold nk
  simp only [NestedKey.depth]
  have : ∀ k : Row, NestedKey.depthAll (k.map fun p => NestedKey.tup [.text p.1, .num p.2]) ≤ 1 := by
    intro k
    induction k with
    | nil => simp [NestedKey.depthAll]
    | cons p k ih =>
      rw [List.map_cons]
      simp only [NestedKey.depthAll, NestedKey.depth]
      omega
  have := this k
  omega
/-- the tuple at t is the key k -/
def KeyAt (H : Hp) (t : Addr) (k : Row) : Prop := ∃ as : List Addr, H t = some (.tup (as.map V.ref)) ∧ as.length = k.length ∧ ∀ (j : Nat) (b : Addr) (e : Str × Int), as[j]? = some b → k[j]? = some e → H b = some (.tup [.str e.1, .int e.2])
theorem KeyAt.tups {H H' : Hp} {t : Addr} {k : Row} (x : KeyAt H t k) (s : ∀ b xs, H b = some (.tup xs) → H' b = some (.tup xs)) : KeyAt H' t k := by
  obtain ⟨as, h1, h2, h3⟩ := x
  exact ⟨as, s _ _ h1, h2, fun j b e hj he => s _ _ (h3 j b e hj he)⟩
section
variable {X : Cx} {pins : List (Addr × Obj)} {σ : L2.St} {H : Hp} {s : Shared}
theorem nested_all (I : Inv X pins σ H s) : ∀ (as : List Addr) (k : Row), as.length = k.length → (∀ (j : Nat) (b : Addr) (e : Str × Int), as[j]? = some b → k[j]? = some e → H b = some (.tup [.str e.1, .int e.2])) →
    NestedAll s.heap (k.map fun p => NestedKey.tup [.text p.1, .num p.2]) (as.map Value.ref)
  | [], [], _, _ => .nil
  | a :: as, e :: k, hl, h => by
    refine .cons ?_ (nested_all I as k (by simpa using hl) fun j b e hj he => h (j + 1) b e (by simpa using hj) (by simpa using he))
    obtain ⟨us, rv, ⟨o, ho, hc, n, hd⟩, _⟩ := I.tuple (SqT.of (h 0 a e rfl rfl))
    cases rv with
    | cons r1 rv =>
      cases rv with
      | cons r2 rv =>
        cases rv
        obtain ⟨t1, rfl⟩ := r1
        obtain ⟨t2, rfl⟩ := r2
        exact .tup ho hc hd (.cons (.text _ _) (.cons (.int _ _) .nil))
theorem nested_at (I : Inv X pins σ H s) {t : Addr} {k : Row} (x : KeyAt H t k) : (nestedKind X.prog X.w).is s.heap (nk k) t := by
  obtain ⟨as, h1, h2, h3⟩ := x
  refine ⟨?_, nk_depth k⟩
  obtain ⟨us, rv, ⟨o, ho, hc, n, hd⟩, _⟩ := I.tuple (SqT.of h1)
  have e : us = as.map Value.ref := by
    have : ∀ (as : List Addr) (us : List Value), Vals (as.map V.ref) us → us = as.map Value.ref := by
      intro as
      induction as with
      | nil => intro us r; cases r; rfl
      | cons a as ih => intro us r; cases r with
        | cons r1 r2 =>
          cases r1
          rw [ih _ r2]
          rfl
    exact this as us rv
  exact .tup ho hc hd (by rw [e]; simpa using nested_all I as k h2 h3)
end
def SeenO (P : Program) (w : World) (a : Addr) (xs : List (NestedKey × Addr × Value)) : HO := .ext fun h => ∃ o es ep, h.get? a = some o ∧ o.ExactDict ∧ o.data = .dict es ep ∧ es.toList = xs.map (entryOfKey (nestedKind P w)) ∧ (xs.map (·.1)).Nodup
theorem seenO_new {P : Program} {w : World} {H : Hp} {h : Heap} {a : Addr} {xs : List (NestedKey × Addr × Value)} (R : ∃ o es ep, h.get? a = some o ∧ o.ExactDict ∧ o.data = .dict es ep ∧ es.toList = xs.map (entryOfKey (nestedKind P w)) ∧ (xs.map (·.1)).Nodup) : ObjOk P w H h a (SeenO P w a xs) := by
  have ⟨o, es, ep, ho, _⟩ := R
  exact ⟨R, ⟨o, ho⟩, fun h1 h2 ⟨o, es, ep, q, r⟩ k => ⟨o, es, ep, k o q, r⟩⟩
/-- at d a dict whose keys are the rows of L -/
structure SeenAt (P : Program) (w : World) (H : Hp) (d : Addr) (L : List Row) : Prop where
  ex : ∃ xs, H d = some (SeenO P w d xs) ∧ (d == sysModules) = false ∧ xs.length = L.length ∧ L.length ≤ sizeLine ∧ L.Nodup ∧ (∀ x ∈ xs, ∃ k ∈ L, x.1 = nk k ∧ KeyAt H x.2.1 k) ∧ ∀ k ∈ L, ∃ x ∈ xs, x.1 = nk k
theorem SeenAt.same {P : Program} {w : World} {H H' : Hp} {d : Addr} {L : List Row} (x : SeenAt P w H d L) (hd : H' d = H d) (s : ∀ b xs, H b = some (.tup xs) → H' b = some (.tup xs)) : SeenAt P w H' d L := by
  obtain ⟨xs, h1, h2, h3, h4, h5, h6, h7⟩ := x.ex
  exact ⟨xs, by rw [hd]; exact h1, h2, h3, h4, h5, fun x hx => let ⟨k, a, b, c⟩ := h6 x hx; ⟨k, a, b, c.tups s⟩, h7⟩
section
variable {X : Cx} {pins : List (Addr × Obj)} {σ : L2.St} {H : Hp} {s : Shared}
theorem SeenAt.of (I : Inv X pins σ H s) {d : Addr} {xs : List (NestedKey × Addr × Value)} (h : H d = some (SeenO X.prog X.w d xs)) {L : List Row} (h6 : ∀ x ∈ xs, ∃ k ∈ L, x.1 = nk k ∧ KeyAt H x.2.1 k) : s.heap.DictOfH (nestedKind X.prog X.w) d xs := by
  obtain ⟨o, es, ep, g1, g2, g3, g4, g5⟩ := (I.hok d _ h).1
  exact ⟨o, es, ep, g1, g2, g3, g4, fun x hx => let ⟨k, _, b, c⟩ := h6 x hx; by rw [b]; exact nested_at I c, g5⟩
/-- {} for such keys -/
def tDNewS (P : Program) (w : World) : TE := fun _ H Q => ∀ p, H p = none → (p == sysModules) = false → Q (.ref p) (upd H p (SeenO P w p []))
theorem pe_dnewS {pos : Pos} : PE X (.Dict [] [] pos) (tDNewS X.prog X.w) := ⟨fun pins s σ H Q I h =>
  wpAny_Dict_empty ⟨.ref s.heap.objs.size, _, I.laid (a := s.heap.objs.size) (o := SeenO X.prog X.w s.heap.objs.size []) (t' := s.toks) (fun _ _ q => Heap.get?_push_of_some _ q) (Nat.le_refl _)
    (seenO_new ⟨_, #[], 0, Heap.get?_push_size _ rfl, ⟨rfl, rfl, rfl⟩, rfl, rfl, List.nodup_nil⟩), rfl, h _ (I.hok.fresh (Nat.le_refl _)) (beq_eq_false_iff_ne.mpr (Ne.symm (Nat.ne_of_lt I.big)))⟩⟩
theorem seen_new {P : Program} {w : World} {H : Hp} {p : Addr} (h : H p = some (SeenO P w p [])) (hs : (p == sysModules) = false) : SeenAt P w H p [] :=
  ⟨[], h, hs, rfl, Nat.zero_le _, List.nodup_nil, fun _ h => absurd h (List.not_mem_nil), fun _ h => absurd h (List.not_mem_nil)⟩
theorem at_none {xs : List (NestedKey × Addr × Value)} {k : NestedKey} : (atKey xs k).isSome = true ↔ ∃ x ∈ xs, x.1 = k := by
  unfold atKey
  rw [Option.isSome_map, List.find?_isSome]
  simp
/-- k not in d -/
def rNotInS (P : Program) (w : World) : R2 := fun x y H Q => ∃ t d k L, x = .ref t ∧ y = .ref d ∧ KeyAt H t k ∧ SeenAt P w H d L ∧ Q (.bl (!decide (k ∈ L))) H
theorem op_notInS (hu : X.A.units + 64 < cLine) : OpR X (compareOp .NotIn) (rNotInS X.prog X.w) := by
  intro pins s σ H x y v u Q I rx ry h
  obtain ⟨t, d, k, L, rfl, rfl, hk, hs, q⟩ := h
  obtain rfl : v = Value.ref t := rx
  obtain rfl : u = Value.ref d := ry
  obtain ⟨xs, h1, h2, h3, h4, h5, h6, h7⟩ := hs.ex
  refine wpAny_notIn_heap (knd := nestedKind X.prog X.w) (show X.A.in1.units + 8 < cLine by show X.A.units + 1 + 8 < cLine; omega) (nested_at I hk) h2 (SeenAt.of I h1 h6) ?_
  refine fin_bl (I.tok _) q ?_
  congr 1
  rw [Bool.eq_iff_iff, decide_eq_true_iff, at_none]
  constructor
  · intro hm
    exact h7 k hm
  · rintro ⟨x, hx, e⟩
    obtain ⟨k', hk', e', _⟩ := h6 x hx
    rw [← nk_inj (e'.symm.trans e)]
    exact hk'
/-- d[k] = True -/
def sSeenPut (P : Program) (w : World) (td ty tv : TE) : TS := fun D σ H => tv σ H fun v H1 => td σ H1 fun x H2 => ty σ H2 fun y H3 => ∃ d t k L, x = .ref d ∧ y = .ref t ∧ KeyAt H3 t k ∧ SeenAt P w H3 d L ∧ k ∉ L ∧ L.length < sizeLine ∧
  ∀ H4, SeenAt P w H4 d (k :: L) → (∀ b, b ≠ d → H4 b = H3 b) → D.nx σ H4
theorem ps_seenPut {o i value : Expr} {td ty tv : TE} {pos pos' : Pos} (hu : X.A.units + 64 < cLine) (ho : PE X o td) (hi : PE X i ty) (hv : PE X value tv) (hs : swapsWith value (some (.Subscript o i pos')) pos.line X.env = pure false) :
    PS X (.Assign [.Subscript o i pos'] value pos) (sSeenPut X.prog X.w td ty tv) := by
  refine ⟨fun pins s σ H D I h => ?_⟩
  refine wpAny_Assign_Subscript (thn (hv.run pins s σ H _ I h) fun r s1 ⟨v, H1, I1, rv, q1⟩ => thn (ho.run pins s1 σ H1 _ I1 q1) fun u s2 ⟨x, H2, I2, rx, q2⟩ => thn (hi.run pins s2 σ H2 _ I2 q2) fun iv s3 ⟨y, H3, I3, ry, d, t, k, L, ex, ey, hk, sn, hn, hl, q3⟩ => ?_) hs
  subst ex ey
  obtain rfl : u = Value.ref d := rx
  obtain rfl : iv = Value.ref t := ry
  obtain ⟨xs, h1, h2, h3, h4, h5, h6, h7⟩ := sn.ex
  have none0 : atKey xs (nk k) = none := by
    cases q : atKey xs (nk k) with
    | none => rfl
    | some p =>
      obtain ⟨x, hx, e⟩ := at_none.mp (by rw [q]; rfl : (atKey xs (nk k)).isSome = true)
      obtain ⟨k', hk', e', _⟩ := h6 x hx
      exact absurd (by rw [← nk_inj (e'.symm.trans e)]; exact hk') hn
  refine wpAny_setItem_heap (knd := nestedKind X.prog X.w) (hsz := by rw [h3]; exact h4) (show X.A.in1.units + 8 < cLine by show X.A.units + 1 + 8 < cLine; omega) (nested_at I3 hk) (SeenAt.of I3 h1 h6) fun h' dd' hs' => ?_
  rw [storedH_new none0] at dd'
  obtain ⟨q, es, ep, hq, g2, g3, g4, _, g5⟩ := dd'
  have I4 := d_write (t' := s3.toks + (nestedKind X.prog X.w).draws (nk k)) (ob := SeenO X.prog X.w d (xs ++ [(nk k, t, r)])) I3 (by rw [h1]; exact True.intro) hs' ⟨q, hq⟩ (seenO_new ⟨q, es, ep, hq, g2, g3, g4, g5⟩)
  have up : ∀ b ys, H3 b = some (.tup ys) → upd H3 d (SeenO X.prog X.w d (xs ++ [(nk k, t, r)])) b = some (.tup ys) := fun b ys e => by
    rw [upd_ne (ne_of e h1 (fun z => nomatch z))]
    exact e
  refine ⟨σ, _, I4, q3 _ ⟨xs ++ [(nk k, t, r)], upd_same, h2, by simp [h3], by rw [List.length_cons]; exact hl, ?_, ?_, ?_⟩ fun b hb => upd_ne hb⟩
  · exact List.nodup_cons.mpr ⟨hn, h5⟩
  · intro x hx
    rcases List.mem_append.mp hx with hx | hx
    · obtain ⟨k', a, b, c⟩ := h6 x hx
      exact ⟨k', List.mem_cons_of_mem _ a, b, c.tups up⟩
    · rw [List.mem_singleton.mp hx]
      exact ⟨k, List.mem_cons_self, rfl, hk.tups up⟩
  · intro k' hk'
    rcases List.mem_cons.mp hk' with rfl | hk'
    · exact ⟨_, List.mem_append_right _ List.mem_cons_self, rfl⟩
    · obtain ⟨x, hx, e⟩ := h7 k' hk'
      exact ⟨x, List.mem_append_left _ hx, e⟩
end
end SX
namespace EVX
open PySem PySem.Spec PyProof.Rows L2
def kD : Key → PyData
  | .inl i => .int i
  | .inr x => .str x
mutual
inductive Dq (K : PySem.W.Frag) (H : Hp) : V → PyData → Prop
  | non : Dq K H .non .none
  | bl (b : Bool) : Dq K H (.bl b) (.bool b)
  | int (i : Int) : Dq K H (.int i) (.int i)
  | str (x : Str) : Dq K H (.str x) (.str x)
  | lst {a : Addr} {xs : List V} {ds : List PyData} : SqL K H a xs → DqAll K H xs ds → Dq K H (.ref a) (.list ds)
  | tup {a : Addr} {xs : List V} {ds : List PyData} : SqT K H a xs → DqAll K H xs ds → Dq K H (.ref a) (.tuple ds)
  | dic {a : Addr} {kvs : List (Key × V)} {es : List (PyData × PyData)} : H a = some (.dK kvs) → DqKv K H kvs es → Dq K H (.ref a) (.dict es)
inductive DqAll (K : PySem.W.Frag) (H : Hp) : List V → List PyData → Prop
  | nil : DqAll K H [] []
  | cons {v : V} {vs : List V} {d : PyData} {ds : List PyData} : Dq K H v d → DqAll K H vs ds → DqAll K H (v :: vs) (d :: ds)
inductive DqKv (K : PySem.W.Frag) (H : Hp) : List (Key × V) → List (PyData × PyData) → Prop
  | nil : DqKv K H [] []
  | cons {k : Key} {v : V} {kvs : List (Key × V)} {d : PyData} {es : List (PyData × PyData)} : Dq K H v d → DqKv K H kvs es → DqKv K H ((k, v) :: kvs) ((kD k, d) :: es)
end
mutual
theorem Dq.same {K : PySem.W.Frag} {H H' : Hp} (s : Same H H') : ∀ (d : PyData) (v : V), Dq K H v d → Dq K H' v d
  | .none, _, h => by cases h; exact .non
  | .bool _, _, h => by cases h; exact .bl _
  | .int _, _, h => by cases h; exact .int _
  | .str _, _, h => by cases h; exact .str _
  | .list ds, _, h => by
    cases h with
    | lst h1 h2 => exact .lst (s.seq h1) (DqAll.same s ds _ h2)
  | .tuple ds, _, h => by
    cases h with
    | tup h1 h2 => exact .tup (Evl.ex_t s h1) (DqAll.same s ds _ h2)
  | .dict es, _, h => by
    cases h with
    | dic h1 h2 => exact .dic (s _ _ h1) (DqKv.same s es _ h2)
theorem DqAll.same {K : PySem.W.Frag} {H H' : Hp} (s : Same H H') : ∀ (ds : List PyData) (vs : List V), DqAll K H vs ds → DqAll K H' vs ds
  | [], _, h => by cases h; exact .nil
  | d :: ds, _, h => by
    cases h with
    | cons h1 h2 => exact .cons (Dq.same s d _ h1) (DqAll.same s ds _ h2)
theorem DqKv.same {K : PySem.W.Frag} {H H' : Hp} (s : Same H H') : ∀ (es : List (PyData × PyData)) (kvs : List (Key × V)), DqKv K H kvs es → DqKv K H' kvs es
  | [], _, h => by cases h; exact .nil
  | (_, d) :: es, _, h => by
    cases h with
    | cons h1 h2 => exact .cons (Dq.same s d _ h1) (DqKv.same s es _ h2)
end
/-- the modules' dict stands in the written part -/
def SysIn (K : PySem.W.Frag) : Prop := ∃ o, K.lookup sysModules = some o ∧ o.cls = .type "dict"
section
variable {X : Cx} {pins : List (Addr × Obj)} {σ : L2.St} {H : Hp} {s : Shared}
theorem key_reads {k : Key} {v : Value} {h : Heap} (e : keyIs k v = true) : Reads h v (kD k) [] := by
  rcases keyIs_shape e with ⟨i, t, rfl, rfl⟩ | ⟨x, t, rfl, rfl⟩
  · exact .int i t
  · exact .str x t
theorem not_sys_l (I : Inv X pins σ H s) (S : SysIn X.K) {a : Addr} {o : Obj} (e : s.heap.get? a = some o) (c : o.cls ≠ .type "dict") : sysModules ≠ a := fun z => by
  obtain ⟨u, hu, cu⟩ := S
  have q := I.kIn _ _ hu
  rw [z, e] at q
  cases q
  exact c cu
mutual
theorem Dq.reads (I : Inv X pins σ H s) (S : SysIn X.K) : ∀ (d : PyData) (v : V) (u : Value), Dq X.K H v d → RelV v u → ∃ as, Reads s.heap u d as ∧ sysModules ∉ as
  | .none, _, _, h, r => by
    cases h
    cases r
    exact ⟨_, .none, by simp⟩
  | .bool b, _, _, h, r => by
    cases h
    cases r
    exact ⟨_, .bool b, by simp⟩
  | .int i, _, _, h, r => by
    cases h
    obtain ⟨t, rfl⟩ := r
    exact ⟨_, .int i t, by simp⟩
  | .str x, _, _, h, r => by
    cases h
    obtain ⟨t, rfl⟩ := r
    exact ⟨_, .str x t, by simp⟩
  | .list ds, _, _, h, r => by
    cases h with
    | @lst a xs _ hs ha =>
      cases r
      obtain ⟨its, rv, ⟨o, n, ho, hc, _, hd⟩, _⟩ := I.list hs
      obtain ⟨as, hr, hn⟩ := DqAll.reads I S ds _ its ha rv
      exact ⟨_, .list ho hc hd hr, by
        simp only [List.mem_cons, not_or]
        exact ⟨not_sys_l I S ho (by rw [hc]; decide), hn⟩⟩
  | .tuple ds, _, _, h, r => by
    cases h with
    | @tup a xs _ hs ha =>
      cases r
      obtain ⟨its, rv, ⟨o, ho, hc, n, hd⟩, _⟩ := I.tuple hs
      obtain ⟨as, hr, hn⟩ := DqAll.reads I S ds _ its ha rv
      exact ⟨_, .tuple ho hc hd hr, hn⟩
  | .dict es, _, _, h, r => by
    cases h with
    | @dic a kvs _ ha hk =>
      cases r
      obtain ⟨_, hsys, vs, rv, o, ee, ep, ho, hc, hd, _, hp, _⟩ := I.hok a _ ha
      obtain ⟨as, bs, h1, h2, h3, h4⟩ := DqKv.reads I S es kvs vs _ hk rv hp
      refine ⟨_, .dict ho hc.1 hd h1 h2, ?_⟩
      simp only [List.mem_append, List.mem_cons, not_or]
      exact ⟨⟨fun z => by rw [← z] at hsys; simp at hsys, h3⟩, h4⟩
theorem DqAll.reads (I : Inv X pins σ H s) (S : SysIn X.K) : ∀ (ds : List PyData) (vs : List V) (us : List Value), DqAll X.K H vs ds → Vals vs us → ∃ as, ReadsAll s.heap us ds as ∧ sysModules ∉ as
  | [], _, _, h, r => by
    cases h
    cases r
    exact ⟨_, .nil, by simp⟩
  | d :: ds, _, _, h, r => by
    cases h with
    | cons h1 h2 =>
      cases r with
      | cons r1 r2 =>
        obtain ⟨as, q1, n1⟩ := Dq.reads I S d _ _ h1 r1
        obtain ⟨bs, q2, n2⟩ := DqAll.reads I S ds _ _ h2 r2
        exact ⟨_, .cons q1 q2, by simp only [List.mem_append, not_or]; exact ⟨n1, n2⟩⟩
theorem DqKv.reads (I : Inv X pins σ H s) (S : SysIn X.K) : ∀ (es : List (PyData × PyData)) (kvs : List (Key × V)) (vs : List (Key × Value)) (ee : List DictEntry), DqKv X.K H kvs es → KV kvs vs → Pairs (mixKind X.prog X.w) ee vs →
    ∃ as bs, ReadsAll s.heap (ee.map (·.key)) (es.map (·.1)) as ∧ ReadsAll s.heap (ee.map (·.val)) (es.map (·.2)) bs ∧ sysModules ∉ as ∧ sysModules ∉ bs
  | [], _, _, _, h, r, p => by
    cases h
    cases r
    cases p
    exact ⟨_, _, .nil, .nil, by simp, by simp⟩
  | (_, d) :: es, _, _, _, h, r, p => by
    cases h with
    | cons h1 h2 =>
      cases r with
      | cons r1 r2 =>
        cases p with
        | cons p1 p2 p3 =>
          obtain ⟨bs, q1, n1⟩ := Dq.reads I S d _ _ h1 r1.2
          obtain ⟨as2, bs2, q2, q3, n2, n3⟩ := DqKv.reads I S es _ _ _ h2 r2 p3
          obtain ⟨r11, _⟩ := r1
          dsimp only at r11
          rw [← r11] at p1
          rw [← p2] at q1
          refine ⟨_, _, .cons (key_reads p1) q2, .cons q1 q3, ?_, ?_⟩
          · simpa using n2
          · simp only [List.mem_append, not_or]
            exact ⟨n1, n3⟩
end
/-- repr(x), x data -/
def rRepr (K : PySem.W.Frag) : List V → Hp → VK → Prop := fun xs H Q => ∃ v d, xs = [v] ∧ Dq K H v d ∧ d.showable = true ∧ d.shown.length ≤ sizeLine ∧ d.depth ≤ 60 ∧ Q (.str d.shown) H
theorem call_repr (hu : X.A.units + 64 < cLine) (hg : X.A.guards = some []) (S : SysIn X.K) : CallR X (.builtin "repr") (rRepr X.K) := by
  intro pins s σ H xs us Q I r h
  obtain ⟨v, d, rfl, hd, hs, hl, hp, q⟩ := h
  obtain ⟨u, rfl, rv⟩ := vals1 r
  obtain ⟨as, hr, hn⟩ := Dq.reads I S d v u hd rv
  cases hr with
  | none =>
    rw [PyData.shown_none] at q
    exact PySem.P.repr_of_none ⟨.str _, H, I.tok _, ⟨_, rfl⟩, q⟩
  | bool b =>
    rw [PyData.shown_bool] at q
    exact PySem.P.repr_of_bool ⟨.str _, H, I.tok _, ⟨_, rfl⟩, q⟩
  | int i t =>
    rw [PyData.shown_int] at q
    exact PySem.P.repr_of_int (by simpa [PyData.showable] using hs) ⟨.str _, H, I.tok _, ⟨_, rfl⟩, q⟩
  | str x t =>
    rw [PyData.shown_str] at q hl
    exact PySem.P.repr_of_str ⟨.str _, H, I.tok _, ⟨_, rfl⟩, q⟩ hl
  | list h1 h2 h3 h4 => exact repr_of_reads' (.list h1 h2 h3 h4) hs (fun _ => hn) hg (by omega) (fun _ _ e => e) (fun h' u tk k => ⟨.str _, H, I.kept (t' := tk) k, ⟨_, rfl⟩, q⟩) hl
  | tuple h1 h2 h3 h4 => exact repr_of_reads' (.tuple h1 h2 h3 h4) hs (fun _ => hn) hg (by omega) (fun _ _ e => e) (fun h' u tk k => ⟨.str _, H, I.kept (t' := tk) k, ⟨_, rfl⟩, q⟩) hl
  | dict h1 h2 h3 h4 h5 => exact repr_of_reads' (.dict h1 h2 h3 h4 h5) hs (fun _ => hn) hg (by omega) (fun _ _ e => e) (fun h' u tk k => ⟨.str _, H, I.kept (t' := tk) k, ⟨_, rfl⟩, q⟩) hl
end
end EVX
/-! defs that may ask for repr: their promise holds where no repr is under way -/
namespace EVX
open PySem PySem.Spec PyProof.Rows L2
structure FnG (P : Program) (w : World) (K : PySem.W.Frag) (mg : Str → Option Value) (base : Heap) (k : Nat) (f : Addr) (fd : FuncData) (ps : List Str) (sp : Sp) : Prop where
  len : ∀ vs H Q E, sp vs H Q E → vs.length = ps.length
  run : ∀ (A : Around) (outer : List Env) (s : Shared) (H : Hp) (args : Args) (us : List Value) (vs : List V) (Q : VK) (E : XK), Room k A → A.guards = some [] → Env0 P w K mg base A outer s H → BindsTo s fd args (ps.zip us) → Vals vs us → sp vs H Q E →
    codeAny (model P w) A (.call (.ref f) args) (CR CX0 outer P w H s Q E) s
section
variable {P : Program} {w : World} {K : PySem.W.Frag} {mg : Str → Option Value} {base : Heap} {k : Nat} {f : Addr} {fd : FuncData} {ps : List Str} {sp : Sp}
theorem FnG.of (F : FnOk P w K mg base CX0 k f fd ps sp) : FnG P w K mg base k f fd ps sp := ⟨F.len, fun A outer s H args us vs Q E hr _ => F.run A outer s H args us vs Q E hr⟩
theorem okG {name qual : Str} {params : Arguments} {body : List Stmt} {scope : Scope} {dvs : List V} {kws : List (Str × V)} {N : List Str} (F : FunD K name qual params body scope dvs kws f fd) (S : FnScope N ps scope) (len : ∀ vs H Q E, sp vs H Q E → vs.length = ps.length)
    (hb : ∀ (cdv : Value) (A : Around) (outer : List Env) (s : Shared) (H : Hp) (vs : List V) (Q : VK) (E : XK), Room k (A.deeper (envOfC qual scope s.heap.objs.size f cdv)) → (A.deeper (envOfC qual scope s.heap.objs.size f cdv)).guards = some [] → sp vs H Q E →
      ∃ t, PSs (cxOf CX0 P w K mg base N qual scope f cdv A outer s H E).nox body t ∧ t { nx := fun _ H' => Q .non H', rt := Q } (start N vs) H) : FnG P w K mg base (k + 1) f fd ps sp := by
  obtain ⟨oc, od, dV, kV, doc, pm, an, cdv, ct, osl, rfl, lk, hcd, _, _⟩ := F.ex
  refine ⟨len, fun A outer s H args us vs Q E hr hG e0 hbn rv h => ?_⟩
  have ln := len _ _ _ _ h
  have KS : K.In s.heap := e0.mod.kin.keeps fun c o e => (e0.bs c o e).1
  refine codeAny_call_function hr.depth (KS _ _ lk) rfl S.co S.gen rfl (PySem.W.codeRec_of KS hcd) (hbn _ _ _ _ ?_)
  refine wpAny_newFunctionEnv_cells S.kind (fun ⟨n, v⟩ hy => ?_) fun env he s1 x => ?_
  · rcases S.par n (List.of_mem_zip hy).1 with q | q
    · exact Or.inl q
    · exact Or.inr ⟨q, PySem.W.cellsFrom_some _ _ _ (Or.inl q)⟩
  · subst he
    have lim : s.heap.NoLimit := e0.mod.nolimit.keeps fun c o e => (e0.bs c o e).1
    refine ⟨lim.keeps x.toInCall.keep, codeAny_func ?_⟩
    obtain ⟨t, ht, q⟩ := hb cdv A outer s H vs Q E (hr.deeper _) hG h
    have J : Inv (cxOf CX0 P w K mg base N qual scope f cdv A outer s H E) [] (start N vs) H s1 := inv_start S hr.hd e0 ln rv x
    refine wpAny_mono (ht.nox.run [] s1 (start N vs) H _ J q) (fun fl s2 hs => ?_) fun _ _ z => z
    cases fl with
    | ret u =>
      obtain ⟨v, _, H2, I2, r2, q2⟩ := hs
      exact ⟨v, H2, I2.os, I2.bare, I2.base, I2.hok, r2, q2⟩
    | next =>
      obtain ⟨_, H2, I2, q2⟩ := hs
      exact ⟨V.non, H2, I2.os, I2.bare, I2.base, I2.hok, rfl, q2⟩
    | brk =>
      obtain ⟨_, _, _, z⟩ := hs
      exact False.elim z
    | cont =>
      obtain ⟨_, _, _, z⟩ := hs
      exact False.elim z
end
section
variable {X : Cx} {k : Nat} {f : Addr} {fd : FuncData} {ps : List Str} {sp : Sp} {x : Str} {p pos : Pos} {e : Expr} {es : List Expr} {t : TA}
theorem run_G {pins : List (Addr × Obj)} {σ : L2.St} {H : Hp} {s : Shared} {Q : VK} {us : List Value} {vs : List V} (F : FnG X.prog X.w X.K X.mg X.base k f fd ps sp) (hr : Room k X.A) (hG : X.A.guards = some []) (hb : Binds X.K fd ps [])
    (I : Inv X pins σ H s) (r : Vals vs us) (h : sp vs H Q E0) : wpAny (model X.prog X.w) X.A (call (.ref f) us) (EP X pins σ Q) X.xe s := by
  have ln : (us ++ []).length = ps.length := by rw [List.append_nil, ← r.length]; exact F.len _ _ _ _ h
  have b := hb s us I.kIn ln
  rw [List.append_nil] at b
  refine wpAny_call (codeAny_mono (F.run X.A X.stack s H ⟨us, []⟩ us vs Q E0 hr hG I.env0 b r h) fun r s2 hq => ?_)
  match r, hq with
  | .ok (.ret u), hq => exact I.after hq
/-- f(e, ..) -/
theorem pe_callG (F : FnG X.prog X.w X.K X.mg X.base k f fd ps sp) (hr : Room k X.A) (hG : X.A.guards = some []) (hg : Gl X x) (hm : X.mg x = some (.ref f)) (hk : PySem.W.keepIn X.K (.ref f) = true) (hb : Binds X.K fd ps [])
    (ha : PA X (e :: es) t) (hdb : (x == ("__debug__" : Str)) = false := by decide) (he : starEach (e :: es) X.env = (false, eval e X.env) :: starEach es X.env := by rfl) (hpl : (backTo pos (starEach es X.env)).any (·.1) = false := by rfl) :
    PE X (.Call (.Name x p) (e :: es) [] pos) (fun σ H Q => t σ H fun vs H1 => sp vs H1 Q E0) := by
  refine ⟨fun pins s σ H Q I h => wpAny_Call_Name_kw (ld_glob I hg hm ?_ hdb)⟩
  exact PySem.W.callWith_K (h₀ := X.base) I.ok.mod.kin hk (thn (ha.run pos pins s σ H _ I h) fun us s1 ⟨vs, H1, I1, r, q⟩ => ⟨I1.kIn, run_G F hr hG hb I1 r q⟩) he hpl
end
/-! ### the end -/
theorem law_G {P : Program} {w : World} {K : PySem.W.Frag} {mg mb : Str → Option Value} {k : Nat} {fa a : Addr} {fd : FuncData} {x : Str} {sp : Sp} {s1 : Shared} {vs : List Value} {ns : List Int}
    (KX : K.In s1.heap) (gm : s1.heap.Ns mainGlobals mg) (bm : s1.heap.Ns builtinsNs mb) (bb : ∀ y : Str, y ≠ "__name__" → mb y = bootBuiltins y) (lim : s1.heap.NoLimit) (g0 : s1.gens = #[])
    (ha : s1.heap.get? a = some { cls := .type "list", data := .seq vs.toArray }) (hi : IntsAre vs ns) (hl : ns.length ≤ sizeLine) (hr : Room k callerA) (Ka : K.lookup a = none)
    (F : ∀ base : Heap, K.In base → base.Ns mainGlobals mg → FnG P w K mg base k fa fd [x] sp) (bd : ∀ (s : Shared) (u : Value), BindsTo s fd ⟨[u], []⟩ [(x, u)])
    (hsp : ∀ H : Hp, SqL K H a (ns.map V.int) → sp [.ref a] H (fun v _ => v = .bl true) E0) :
    codeAny (model P w) callerA (.call (.ref fa) ⟨[.ref a], []⟩) (fun r s' => r = .ok (.ret (.bool true)) ∧ OldK s1.heap s'.heap ∧ s'.os = s1.os ∧ AllBare s'.gens) s1 := by
  have rv := vals_ints hi
  generalize eo : ({ cls := .type "list", data := .seq vs.toArray } : Obj) = ob at ha
  have od : ob.data = .seq vs.toArray := by rw [← eo]
  let H : Hp := fun b => if b = a then some (.frz ob (.lst (ns.map V.int))) else none
  have Ha : H a = some (.frz ob (.lst (ns.map V.int))) := if_pos rfl
  have Hn : ∀ b, b ≠ a → H b = none := fun b n => if_neg n
  have hok : HOk P w H s1.heap := fun b u e => by
    by_cases c : b = a
    · subst c
      rw [Ha] at e
      cases e
      exact ⟨ha, by rw [List.length_map]; exact hl, vs, _, rv, by rw [ha, ← eo]⟩
    · rw [Hn b c] at e
      cases e
  have dn : ∀ {b : Addr} {o : Obj} {es : Array DictEntry} {ep : Nat}, s1.heap.get? b = some o → o.data = .dict es ep → b ≠ a := fun {b o es ep} e d z => by
    rw [z, ha] at e
    cases e
    rw [od] at d
    cases d
  have bs : ∀ {b : Addr} {o : Obj}, b ≠ a → s1.heap.get? b = some o → (hidT s1.heap H).get? b = some o := fun n e => hidT_get e (Hn _ n)
  have ks : ∀ {b : Addr} {m : Str → Option Value}, s1.heap.Ns b m → (hidT s1.heap H).Ns b m := fun {b m} q => by
    obtain ⟨o, es, ep, e, d, r⟩ := q
    exact ⟨o, es, ep, bs (dn e d) e, d, r⟩
  have KB : K.In (hidT s1.heap H) := fun b o e => bs (fun z => by rw [z, Ka] at e; cases e) (KX b o e)
  obtain ⟨mc, l1, l2⟩ := lim
  have M : Mod K mg (hidT s1.heap H) := { kin := KB, glob := ks gm, blt := ⟨mb, ks bm, bb⟩, nolimit := ⟨mc, ks l1, l2⟩ }
  have e0 : Env0 P w K mg (hidT s1.heap H) callerA [] s1 H := { frames := rfl, mod := M, bs := fun b o e => of_hidT e, bsz := Nat.le_of_eq (hidT_size _ _), funs := trivial, frf := fun b z => absurd (show b ∈ ([] : List Addr) from z) (by simp), hok := hok, bare := .of_eq g0 }
  refine codeAny_mono ((F _ KB (ks gm)).run callerA [] s1 H ⟨[.ref a], []⟩ [.ref a] [.ref a] _ E0 hr rfl e0 (bd s1 (.ref a)) (.cons rfl .nil) (hsp H (.inl (.inr ⟨ob, Ha⟩)))) fun r s2 h => ?_
  match r, h with
  | .ok (.ret u), h =>
    obtain ⟨v, H2, os, bare, un, hok2, r2, q2⟩ := h
    have q3 : v = .bl true := q2
    subst q3
    obtain rfl : u = Value.bool true := r2
    refine ⟨rfl, OldK.of_keep fun b o e => ?_, os, bare⟩
    by_cases c : b = a
    · subst c
      have z := un.frzs b ob _ Ha
      obtain ⟨y, _⟩ := hok2 b _ z
      rw [ha] at e
      cases e
      exact y
    · exact un.keep b o e (Hn b c) (fun z => absurd (show b ∈ ([] : List Addr) from z) (by simp)) (by simp)
theorem walk_G {l : PySem.W.OpenLaw} {n k : Nat} {q : Program} {loose : List Str} {XP : (Str → Option Value) → Heap → Prop} {YP : World → Heap → Prop} {d : DefRec} {x : Str} (hn : l.most = some n) (hn2 : n ≤ sizeLine) (hdf : d.params.defaults = []) (hr : Room k callerA)
    (F : ∀ (w : World) (mg : Str → Option Value) (fa : Addr) (h : Heap), YP w h → h.Ns mainGlobals mg → mg d.name = some (.ref fa) →
      ∃ (K : PySem.W.Frag) (fd : FuncData) (sp : Sp), K.In h ∧ (∀ a o, K.lookup a = some o → o.cls ≠ .type "list") ∧ (∀ (s : Shared) (u : Value), BindsTo s fd ⟨[u], []⟩ [(x, u)]) ∧
        (∀ (H : Hp) (a : Addr) (ns : List Int), ns.length ≤ n → SqL K H a (ns.map V.int) → sp [.ref a] H (fun v _ => v = .bl true) E0) ∧ ∀ base : Heap, K.In base → base.Ns mainGlobals mg → FnG l.prog w K mg base k fa fd [x] sp) :
    PySem.W.WalkO q loose XP YP l.row.toRowW d [] (fun f vs => PySem.call f vs) := by
  refine Att.attach_call hn hdf fun w s0 s1 mg mb fa o pm cd doc a vs ns G Y ho hd hcd hmg hobj hints hlen hg => ?_
  obtain ⟨K, fd, sp, KX, hL, hb, hsp, hF⟩ := F w mg fa _ Y G.T.g hmg
  refine law_G KX G.T.g G.T.b G.T.builtins G.T.nolimit hg hobj hints (Nat.le_trans hlen hn2) hr ?_ hF hb (fun H hS => hsp H a ns hlen hS)
  cases e : K.lookup a with
  | none => rfl
  | some u =>
    have z := KX a u e
    rw [hobj] at z
    cases z
    exact absurd rfl (hL a _ e)
end EVX
/-! set(xs), xs a list of whole numbers -/
namespace SX
open PySem PySem.Spec PyProof.Rows L2
section
variable {P : Program} {w : World} {A : Around} {E : Value → Shared → Prop} {s : Shared}
theorem call_setI {l : Addr} {items : Array Value} (ns : List Int) {Q : Value → Shared → Prop} (hh : A.handled = none) (hl : s.heap.IsList l items) (hit : IntsAre items.toList ns) (few : ns.length + 1 < scanBound)
    (h : ∀ (h' : Heap) (tk c : Nat), SetR w h' s.heap.objs.size (fun j => decide (j ∈ ns)) c → c ≤ ns.length → (∀ b o, s.heap.get? b = some o → h'.get? b = some o) → Q (.ref s.heap.objs.size) { s with heap := h', toks := tk }) : wpAny (model P w) A (call (.type "set") [.ref l]) Q E s := by
  have size : items.size = ns.length := by
    have q := IntsAre.length hit
    rwa [Array.length_toList] at q
  obtain ⟨c, tl, hmro⟩ := F.called_set.mro
  have made := F.called_set.made
  have sub := F.called_set.sub
  refine wpAny_call (codeAny_of_tree ?_)
  show wpAny _ _ (callAny (.type "set") _) _ _ _
  refine wpAny_pure ⟨Code.quiet_builtin _ (by decide +kernel), codeAny_builtin F.entry_type_call ?_⟩
  rw [Around.under_plain (weight_type_call_type "set" [.ref l] []) rfl]
  have n1 := F.called_set.notType
  have n2 := F.called_set.canCreate
  have n3 := F.typeCall_set_1 (.ref l)
  repeat (any_goals (first | assumption | wp_step))
  refine codeAny_mono (code_set_led1 (.ref l) (E := E) (Q₁ := fun obj s₁ => obj = .ref s.heap.objs.size ∧ s₁ = { s with heap := s.heap.push (freshSet w) }) ⟨rfl, rfl⟩) fun r s₁ hr => ?_
  cases r with
  | error e => exact hr
  | ok fl =>
    cases fl with
    | ret obj =>
      obtain ⟨rfl, rfl⟩ := hr
      have atS : (s.heap.push (freshSet w)).get? s.heap.objs.size = some (freshSet w) := Heap.get?_push_size _ rfl
      have tyS : Shared.TypeIs { s with heap := s.heap.push (freshSet w) } (.ref s.heap.objs.size) "set" := ⟨_, atS, rfl⟩
      have look := F.called_set.init.lookup
      have bind := F.called_set.init.bind (.ref s.heap.objs.size)
      repeat (any_goals (first | assumption | wp_step))
      refine codeAny_mono (codeAny_call_builtin (R := wants (fun r s₂ => r = .none ∧ ∃ h' tk c, s₂ = { s with heap := h', toks := tk } ∧ SetR w h' s.heap.objs.size (fun j => decide (j ∈ ns)) c ∧ c ≤ ns.length ∧ (∀ b o, s.heap.get? b = some o → h'.get? b = some o)) E) F.called_set.init.plain F.entry_set_init (check_set_init_1 tyS ?_)) fun r₂ s₂ hr₂ => ?_
      · obtain ⟨ol, hol, hcl, nl, hdl⟩ := hl
        obtain ⟨ocls, odict, odata, oslots⟩ := ol
        simp only at hcl hdl
        subst hcl hdl
        have hol2 : (s.heap.push (freshSet w)).get? l = some { cls := .type "list", dict := odict, data := .seq items nl, slots := oslots } := Heap.get?_push_of_some _ hol
        have b1 := F.sub_list_set
        have b2 := F.sub_list_frozenset
        have b3 : (Value.type "list" == Value.type "dict") = false := by decide
        have lst : (s.heap.push (freshSet w)).IsList l items := ⟨_, hol2, rfl, nl, rfl⟩
        unfold Builtin.«set.__init__» noKeywords Builtin.Frozenset.updateFrom
        generalize hPI : pyIter = PI
        wp_walk
        subst hPI
        refine wpAny_pyIter_list lst ?_
        refine wpAny_bind (wpAny_runValue ?_)
        have low : l < s.heap.objs.size := Heap.lt_size hol
        have calm : A.in1.in1.in1.handled = none := by simp [hh]
        have neI : l ≠ (s.heap.push (freshSet w)).objs.size := by rw [Heap.size_push]; exact Nat.ne_of_lt (Nat.lt_succ_of_lt low)
        have outS : s.heap.objs.size ∉ [(s.heap.push (freshSet w)).objs.size, l] := by
          rw [Heap.size_push]
          simp only [List.mem_cons, List.mem_singleton, List.not_mem_nil, or_false, not_or]
          exact ⟨Nat.ne_of_lt (Nat.lt_succ_self _), Nat.ne_of_gt low⟩
        have val : ∀ (i : Nat) (v : Value), items[i]? = some v → ∃ k t, ns[i]? = some k ∧ v = .int k t := fun i v hv => by
          have hi : i < ns.length := by rw [← size]; exact (Array.getElem?_eq_some_iff.mp hv).1
          obtain ⟨t, e⟩ := PyProof.Rows.IntsAre.int_at hit i v (by rw [Array.getElem?_toList]; exact hv)
          refine ⟨ns[i], t, List.getElem?_eq_getElem hi, ?_⟩
          rw [e, List.getD_eq_getElem?_getD, List.getElem?_eq_getElem hi] <;> rfl
        refine set_update_ints ((Walks.list calm _ l neI items).toS) s.heap.objs.size outS ns size few val (items.size - 0) 0 _ (by omega) (Nat.zero_le _) ⟨⟨_, Heap.get?_push_size _ rfl, rfl, rfl⟩, (lst.push _)⟩ ⟨0, Nat.le_refl 0, setR_new_at (Heap.get?_push_of_some _ atS)⟩ ?_
        intro s' c' hm hc' put
        obtain ⟨h', g2, d', tk', os'⟩ := s'
        have eg : g2 = s.gens := hm.gens
        have ed : d' = s.drawn := hm.drawn
        have eo : os' = s.os := hm.os
        subst eg ed eo
        show wpAny _ _ _ _ _ _
        refine wpAny_pure ?_
        show wpAny _ _ (ret Value.none) _ _ _
        rw [size] at hc'
        refine wpAny_pure ⟨rfl, h', tk', c', rfl, put, hc', fun b o q => ?_⟩
        have b0 : b < s.heap.objs.size := Heap.lt_size q
        refine hm.heap b o ?_ (Heap.get?_push_of_some _ (Heap.get?_push_of_some _ q))
        simp only [List.mem_cons, List.mem_singleton, List.not_mem_nil, or_false, not_or]
        exact ⟨Nat.ne_of_lt b0, by rw [Heap.size_push]; exact Nat.ne_of_lt (Nat.lt_succ_of_lt b0)⟩
      · cases r₂ with
        | error e => exact hr₂
        | ok fl₂ =>
          cases fl₂ with
          | ret r =>
            obtain ⟨rfl, h', tk, c', rfl, put, le, keep⟩ := hr₂
            repeat (any_goals (first | assumption | wp_step))
            exact h _ _ _ put le keep
          | _ => exact hr₂.elim
    | _ => exact hr.elim
end
section
variable {X : Cx}
/-- set(xs), xs a list of whole numbers -/
def rSetI (w : World) (K : PySem.W.Frag) : List V → Hp → VK → Prop := fun vs H Q => ∃ (l : Addr) (ns : List Int), vs = [V.ref l] ∧ SqL K H l (ns.map V.int) ∧ ns.length + 1 < scanBound ∧ ∀ p c, H p = none → c ≤ ns.length → Q (.ref p) (upd H p (SetO w p (fun j => decide (j ∈ ns)) c))
theorem cr_setI (hc : X.calm = true) : CallR X (.type "set") (rSetI X.w X.K) := by
  intro pins s σ H vs us Q I r h
  obtain ⟨l, ns, rfl, hs, few, q⟩ := h
  obtain ⟨its, rv, hl, _⟩ := I.list hs
  rw [Vals.ref1 r]
  refine call_setI ns (I.ok.hd hc) hl.isList (by simpa using ints_of_vals rv) few fun h' tk c put le keep => ?_
  exact ⟨.ref _, _, I.laid (t' := tk) keep (Nat.le_refl _) (setO_new put), rfl, q _ c (I.hok.fresh (Nat.le_refl _)) le⟩
end
end SX
/-! sets of nested tuples, some of them alike -/
namespace NT
open PySem PySem.Spec PyProof.Rows L2
section
variable {P : Program} {w : World} {A : Around} {E : Value → Shared → Prop} {s : Shared} {sh : List Bool} {a : Addr} {L : List Mem} {es : Array (Int × Value)} {ep : Nat} {t : SetTable}
/-- the search, from the c-th step on -/
theorem seek_from (R : SetN P w sh s.heap a L es ep t) {x : Addr} {k : List It1} (hx : IsN P w sh s.heap k x) (hu : A.units + 8 < cLine) {N : Nat} (lt : N < 10 * SetTable.turns t.mask) (hN : way t.mask (nHash P w k) N ∉ t.place.toList)
    (full : ∀ c, c < N → way t.mask (nHash P w k) c ∈ t.place.toList) {Q : SetFound → Shared → Prop} (old : k ∈ L.map (·.2) → Q (.there none) s) (free : k ∉ L.map (·.2) → Q (.free (way t.mask (nHash P w k) N) false) s) :
    ∀ (f c : Nat) (stand : Option SetTable.Probe), stand.getD (t.probeStart (nHash P w k)) = nth t.mask (start t.mask (nHash P w k)) c → c ≤ N → N - c < f →
      (∀ (i : Nat) (p : Mem), L[i]? = some p → p.2 = k → ∃ q, c ≤ q ∧ q < N ∧ t.place.toList[i]? = some (way t.mask (nHash P w k) q)) → wpAny (model P w) A (setSearchFrom a (.ref x) (nHash P w k) true f stand) Q E s
  | 0, c, stand, _, _, hf, _ => absurd hf (Nat.not_lt_zero _)
  | f + 1, c, stand, hst, hc, hf, met => by
    obtain ⟨o, ho, hex, hd⟩ := R.ob
    rw [setSearchFrom_succ]
    refine wpAny_bind (wpAny_setState_of ho hd R.fits ?_)
    dsimp only
    refine wp_if_neg R.firm ?_
    try refine wpAny_bind (wpAny_pure ?_)
    have noDummy : (nth t.mask (start t.mask (nHash P w k)) c).dummy = none := by
      have key : ∀ (n : Nat) (p : SetTable.Probe), p.dummy = none → (nth t.mask p n).dummy = none := by
        intro n
        induction n with
        | zero => intro p z; exact z
        | succ n ih =>
          intro p z
          refine ih (adv t.mask p) ?_
          unfold adv
          split <;> exact z
      exact key c _ rfl
    have shift : ∀ q, nth t.mask (nth t.mask (start t.mask (nHash P w k)) c) q = nth t.mask (start t.mask (nHash P w k)) (c + q) := fun q => (nth_add t.mask c _ q).symm
    have atj : ∀ q, (nth t.mask (nth t.mask (start t.mask (nHash P w k)) c) q).j = way t.mask (nHash P w k) (c + q) := fun q => congrArg SetTable.Probe.j (shift q)
    have hash : ∀ (i : Nat) (p : Mem), L[i]? = some p → (fun i => (es[i]?.map (·.1)).getD 0) i = nHash P w p.2 := fun i p hp => by
      show (es[i]?.map (·.1)).getD 0 = _
      rw [rows_at R.rows hp]
      rfl
    have spec := go_spec t R.tab.ris R.tab.dm (fun i => (es[i]?.map (·.1)).getD 0) (nHash P w k) (10 * SetTable.turns t.mask) (N - c) _ noDummy (by omega) (fun q hq => by rw [atj]; exact full (c + q) (by omega)) (by rw [atj, show c + (N - c) = N by omega]; exact hN)
    rcases spec with ⟨q, i, hq, hi, hh, hno, hpr⟩ | ⟨hno, hpr⟩
    · have probe : t.probe (fun i => (es[i]?.map (·.1)).getD 0) (nHash P w k) (stand.getD (t.probeStart (nHash P w k))) = some (.candidate (way t.mask (nHash P w k) (c + q)) i (nth t.mask (start t.mask (nHash P w k)) (c + (q + 1)))) := by
        rw [hst, ← atj, ← shift]
        exact hpr
      rw [probe]
      dsimp only
      rw [atj] at hi
      have il : i < L.length := by
        have z1 : i < t.place.toList.length := (List.getElem?_eq_some_iff.mp hi).1
        have z2 := R.tab.sz
        rw [List.length_map] at z2
        rw [Array.length_toList] at z1
        omega
      have hp : L[i]? = some L[i] := List.getElem?_eq_getElem il
      generalize L[i] = p at hp
      have mem : p ∈ L := List.mem_of_getElem? hp
      have rest : wpAny (model P w) A (searchRest a (.ref x) (nHash P w k) true f es t (way t.mask (nHash P w k) (c + q)) i (nth t.mask (start t.mask (nHash P w k)) (c + (q + 1)))) Q E s := by
        unfold searchRest
        rw [rows_at R.rows hp]
        dsimp only
        refine wpAny_bind (wpAny_holding (n_eq hu (R.tup p mem) hx ?_))
        refine wpAny_bind (wpAny_setState_of ho hd R.fits ?_)
        dsimp only
        by_cases ee : p.2 = k
        · refine wp_if_pos (by simp [ee]) ?_
          exact wpAny_pure (old (List.mem_map.mpr ⟨p, mem, ee⟩))
        · refine wp_if_neg (by simp [ee]) ?_
          try refine wpAny_bind (wpAny_pure ?_)
          rw [sameMem]
          dsimp only
          have slot : t.slot (way t.mask (nHash P w k) (c + q)) = .live i := slot_live R.tab.ris hi
          simp only [if_true, slot, rows_at R.rows hp]
          refine wpAny_bind (wpAny_isSame_ref_self (wpAny_bind (wpAny_pure ?_)))
          simp only [if_true]
          refine wp_if_neg (by simp [ee]) ?_
          refine seek_from R hx hu lt hN full old free f (c + (q + 1)) _ rfl (by omega) (by omega) fun i2 p2 g2 k2 => ?_
          obtain ⟨u, u1, u2, u3⟩ := met i2 p2 g2 k2
          refine ⟨u, ?_, u2, u3⟩
          rcases Nat.lt_trichotomy u (c + q) with z | z | z
          · exact absurd ((hash i2 p2 g2).trans (congrArg (nHash P w) k2)) (hno (u - c) i2 (by omega) (by rw [atj, show c + (u - c) = u by omega]; exact u3))
          · rw [z] at u3
            have z2 := slot_live R.tab.ris u3
            rw [slot] at z2
            injection z2 with z2
            rw [← z2, hp] at g2
            exact absurd ((congrArg Prod.snd (Option.some.inj g2)).trans k2) ee
          · omega
      by_cases hl : t.led = true
      · refine wp_if_neg (by simp [hl]) ?_
        try refine wpAny_bind (wpAny_pure ?_)
        exact rest
      · refine wp_if_pos (by simp [hl]) ?_
        refine wpAny_bind (seen_none hx (fun y hy => ?_) ?_)
        · obtain ⟨e, he, ee⟩ := List.mem_map.mp hy
          have he1 : e ∈ es ∧ e.1 = nHash P w k := by simpa using he
          have he2 : e ∈ es.toList := by simpa using he1.1
          rw [R.rows] at he2
          obtain ⟨p2, hp2, e2⟩ := List.mem_map.mp he2
          exact ⟨p2.2, p2.1, by rw [← ee, ← e2], R.tup p2 hp2⟩
        · refine wp_if_neg (by decide) ?_
          try refine wpAny_bind (wpAny_pure ?_)
          exact rest
    · have probe : t.probe (fun i => (es[i]?.map (·.1)).getD 0) (nHash P w k) (stand.getD (t.probeStart (nHash P w k))) = some (.empty (way t.mask (nHash P w k) N) none) := by
        have e2 : way t.mask (nHash P w k) N = (nth t.mask (nth t.mask (start t.mask (nHash P w k)) c) (N - c)).j := by rw [atj, show c + (N - c) = N by omega]
        rw [hst, e2]
        exact hpr
      rw [probe]
      dsimp only
      refine wpAny_pure (free fun hm => ?_)
      obtain ⟨p2, h2, k2⟩ := List.mem_map.mp hm
      obtain ⟨i2, g2⟩ := List.mem_iff_getElem?.mp h2
      obtain ⟨u, u1, u2, u3⟩ := met i2 p2 g2 k2
      exact hno (u - c) i2 (by omega) (by rw [atj, show c + (u - c) = u by omega]; exact u3) ((hash i2 p2 g2).trans (congrArg (nHash P w) k2))
theorem seek (R : SetN P w sh s.heap a L es ep t) {x : Addr} {k : List It1} (hx : IsN P w sh s.heap k x) (hu : A.units + 8 < cLine) {Q : SetFound → Shared → Prop} (old : k ∈ L.map (·.2) → Q (.there none) s)
    (free : ∀ N, k ∉ L.map (·.2) → way t.mask (nHash P w k) N ∉ t.place.toList → (∀ c, c < N → way t.mask (nHash P w k) c ∈ t.place.toList) → Q (.free (way t.mask (nHash P w k) N) false) s) : wpAny (model P w) A (setSearch a (.ref x) (nHash P w k) true) Q E s := by
  have room := R.room
  obtain ⟨N, lt, hN, full⟩ := R.tab.first (by rw [List.length_map]; omega) (nHash P w k)
  have small : N < 100000 := by
    have : 10 * SetTable.turns t.mask ≤ 1420 := by
      unfold SetTable.turns
      rcases R.tab.mok with e | e | e <;> omega
    omega
  unfold setSearch
  refine seek_from R hx hu lt hN full old (fun no => free N no hN full) 100000 0 none rfl (Nat.zero_le _) (by omega) fun i p hp hk => ?_
  have hi : (hashes P w L)[i]? = some (nHash P w k) := by
    rw [List.getElem?_map, hp, ← hk]
    rfl
  have il : i < t.place.toList.length := by
    have z1 : i < L.length := (List.getElem?_eq_some_iff.mp hp).1
    have z2 := R.tab.sz
    rw [List.length_map] at z2
    rw [Array.length_toList]
    omega
  have hj := List.getElem?_eq_getElem il
  obtain ⟨c, hc, e⟩ := R.tab.before hN hi hj
  exact ⟨c, Nat.zero_le _, hc, by rw [hj, e]⟩
/-- adding what may be there -/
theorem add_any (R : SetN P w sh s.heap a L es ep t) {x : Addr} {k : List It1} (hx : IsN P w sh s.heap k x) (hu : A.units + 8 < cLine) (few : L.length + 1 < 64) {Q : Bool → Shared → Prop}
    (hQ : ∀ b h' L' es' ep' t', Heap.SameBut a s.heap h' → SetN P w sh h' a L' es' ep' t' → (k ∈ L.map (·.2) → L' = L) → (k ∉ L.map (·.2) → L'.Perm ((x, k) :: L)) → Q b { s with heap := h' }) : wpAny (model P w) A (setAddHashed a (.ref x) (nHash P w k)) Q E s := by
  by_cases c : k ∈ L.map (·.2)
  · obtain ⟨o, ho, hex, hd⟩ := R.ob
    unfold setAddHashed
    refine wpAny_holding ?_
    rw [show (100000 : Nat) = 99999 + 1 from rfl, setAddHashedIn_succ]
    refine wpAny_bind (wpAny_setState_of ho hd R.fits ?_)
    dsimp only
    refine wp_if_neg (by simp [byScan, Value.scannable]) ?_
    try refine wpAny_bind (wpAny_pure ?_)
    refine wpAny_bind (seek R hx hu (fun _ => ?_) fun N no _ _ => absurd c no)
    dsimp only
    exact wpAny_pure (hQ false s.heap L es ep t (Heap.SameBut.refl a s.heap) R (fun _ => rfl) fun z => absurd c z)
  · exact add_new R hx hu (fun p hp e => c (List.mem_map.mpr ⟨p, hp, e⟩)) few fun b h' L' es' ep' t' but put pm => hQ b h' L' es' ep' t' but put (fun z => absurd z c) fun _ => pm
end
/-- what a set has of the first items of a list -/
structure Has (ks : List Mem) (i : Nat) (L : List Mem) : Prop where
  sub : ∀ p ∈ L, p ∈ ks.take i
  all : ∀ p ∈ ks.take i, p.2 ∈ L.map (·.2)
  len : L.length ≤ i
  nd : (L.map (·.2)).Nodup
theorem Has.zero (ks : List Mem) : Has ks 0 [] := ⟨fun _ z => (nomatch z), fun _ z => (by simp at z), Nat.le_refl _, List.nodup_nil⟩
theorem Has.next {ks L L' : List Mem} {i : Nat} {x : Mem} (g : Has ks i L) (h : ks[i]? = some x) (c1 : x.2 ∈ L.map (·.2) → L' = L) (c2 : x.2 ∉ L.map (·.2) → L'.Perm (x :: L)) : Has ks (i + 1) L' := by
  have tk : ks.take (i + 1) = ks.take i ++ [x] := by
    rw [List.take_add_one, h]
    rfl
  by_cases c : x.2 ∈ L.map (·.2)
  · rw [c1 c]
    refine ⟨fun p hp => ?_, fun p hp => ?_, Nat.le_succ_of_le g.len, g.nd⟩
    · rw [tk]
      exact List.mem_append_left _ (g.sub p hp)
    · rw [tk] at hp
      rcases List.mem_append.mp hp with z | z
      · exact g.all p z
      · rw [List.mem_singleton] at z
        rw [z]
        exact c
  · have pm := c2 c
    refine ⟨fun p hp => ?_, fun p hp => ?_, ?_, ?_⟩
    · rw [tk]
      rcases List.mem_cons.mp (pm.mem_iff.mp hp) with e | z
      · rw [e]
        exact List.mem_append_right _ List.mem_cons_self
      · exact List.mem_append_left _ (g.sub p z)
    · rw [(pm.map (·.2)).mem_iff, List.map_cons]
      rw [tk] at hp
      rcases List.mem_append.mp hp with z | z
      · exact List.mem_cons_of_mem _ (g.all p z)
      · rw [List.mem_singleton] at z
        rw [z]
        exact List.mem_cons_self
    · rw [pm.length_eq]
      exact Nat.succ_le_succ g.len
    · rw [(pm.map (·.2)).nodup_iff, List.map_cons]
      exact List.nodup_cons.mpr ⟨c, g.nd⟩
section
variable {P : Program} {w : World} {A : Around} {E : Value → Shared → Prop} {s : Shared} {sh : List Bool}
theorem update_any {I : Addr} {fp wr : List Addr} {G : Array GenState → Array GenState → Prop} {n : Nat} {Pv : Nat → Value → Prop} {St : Nat → Shared → Prop} {R : Result → Shared → Prop} (W : WalksS P w A.in1 I fp wr G n Pv St) (S : Addr) (out : S ∉ fp) (ks : List Mem) (hn : n = ks.length) (few : ks.length < 64)
    (val : ∀ i v, Pv i v → ∃ p, ks[i]? = some p ∧ v = .ref p.1) (h0 : Heap) (hk : ∀ p ∈ ks, IsN P w sh h0 p.2 p.1) (noS : h0.get? S = none) (noW : ∀ b ∈ wr, h0.get? b = none) (hu : A.in1.units + 8 < cLine) :
    ∀ (k i : Nat) (s : Shared), n - i = k → i ≤ n → St i s → (∀ b o, h0.get? b = some o → s.heap.get? b = some o) → (∃ L es ep t, SetN P w sh s.heap S L es ep t ∧ Has ks i L) →
      (∀ s' L es ep t, Moved (S :: wr) G s s' → SetN P w sh s'.heap S L es ep t → Has ks n L → (∀ b o, h0.get? b = some o → s'.heap.get? b = some o) → R (.ok (.ret .none)) s') → codeAny (model P w) A (.builtin "set.update.loop" ⟨[.ref S, .ref I], []⟩) R s := by
  have out2 : S ∉ wr := fun h => out (W.sub _ h)
  have more : ∀ b ∈ wr, b ∈ S :: wr := fun b hb => List.mem_cons_of_mem _ hb
  have keepM : ∀ {s s' : Shared}, Moved wr G s s' → (∀ b o, h0.get? b = some o → s.heap.get? b = some o) → ∀ b o, h0.get? b = some o → s'.heap.get? b = some o := fun hm old b o e => hm.heap b o (fun hb => by rw [noW b hb] at e; cases e) (old b o e)
  have nkeep : ∀ {h' : Heap} {p : Mem}, p ∈ ks → (∀ b o, h0.get? b = some o → h'.get? b = some o) → IsN P w sh h' p.2 p.1 := fun hp old => (hk _ hp).keep fun b o e _ => old b o e
  intro k
  induction k with
  | zero =>
    intro i s hk' hi hst old ⟨L, es, ep, t, hS, g⟩ hR
    have hin : i = n := by omega
    subst hin
    have sub : ∀ p ∈ L, p ∈ ks := fun p hp => List.mem_of_mem_take (g.sub p hp)
    refine codeAny_builtin F.entry_set_update_loop ?_
    rw [Around.under_plainId F.plain_set_update_loop _]
    show wpAny _ A.in1 (pyNext (.ref I) >>= _) _ _ s
    refine wpAny_bind (W.done s _ _ hst fun s' hm => ?_)
    have old2 := keepM hm old
    exact wpAny_pure (hR s' L es ep t (hm.mono more) (hS.keep (fun o e => hm.heap S o out2 e) fun p hp => nkeep (sub p hp) old2) g old2)
  | succ k ih =>
    intro i s hk' hi hst old ⟨L, es, ep, t, hS, g⟩ hR
    have lt : i < n := by omega
    have sub : ∀ p ∈ L, p ∈ ks := fun p hp => List.mem_of_mem_take (g.sub p hp)
    refine codeAny_builtin F.entry_set_update_loop ?_
    rw [Around.under_plainId F.plain_set_update_loop _]
    show wpAny _ A.in1 (pyNext (.ref I) >>= _) _ _ s
    refine wpAny_bind (W.item i s _ _ lt hst fun v s' hP hst' hm => ?_)
    obtain ⟨p, hp, rfl⟩ := val i v hP
    have old2 := keepM hm old
    have here : SetN P w sh s'.heap S L es ep t := hS.keep (fun o e => hm.heap S o out2 e) fun q hq => nkeep (sub q hq) old2
    have hx : IsN P w sh s'.heap p.2 p.1 := nkeep (List.mem_of_getElem? hp) old2
    show wpAny _ A.in1 (holding [Value.ref p.1] (setAdd S (.ref p.1)) >>= _) _ _ s'
    refine wpAny_bind (wpAny_holding ?_)
    unfold setAdd
    refine wpAny_holding (wpAny_bind (n_hash (by omega) hx fun tk le => ?_))
    have lenL := g.len
    refine add_any (s := { s' with toks := tk }) here hx hu (by omega) fun b h' L' es' ep' t' but put c1 c2 => ?_
    have g2 := g.next hp c1 c2
    have old3 : ∀ b o, h0.get? b = some o → h'.get? b = some o := fun b o e => (but.2 b (fun z => by rw [z, noS] at e; cases e)).trans (old2 b o e)
    refine wpAny_pure ⟨plainId_quiet F.plain_set_update_loop _, ih (i + 1) _ (by omega) lt (W.frame _ s' _ _ hst' le fun b hb o e => ?_) old3 ⟨L', es', ep', t', put, g2⟩ fun s'' L2 es2 ep2 t2 hm2 last g3 old4 => ?_⟩
    · rw [but.2 b (fun z : b = S => out (z ▸ hb))]
      exact e
    · refine hR s'' L2 es2 ep2 t2 (Moved.trans W.gtrans ((hm.mono more).then_heap le fun b o hb e => ?_) hm2) last g3 old4
      rw [but.2 b (fun z : b = S => hb (z ▸ List.mem_cons_self))]
      exact e
theorem call_set_any {l : Addr} {items : Array Value} (ks : List Mem) {Q : Value → Shared → Prop} (hh : A.handled = none) (hl : s.heap.IsList l items) (hit : items.toList = ks.map fun p => Value.ref p.1) (few : ks.length < 64)
    (hk : ∀ p ∈ ks, IsN P w sh s.heap p.2 p.1) (hu : A.units + 16 < cLine) (h : ∀ (h' : Heap) (tk : Nat) L es ep t, SetN P w sh h' s.heap.objs.size L es ep t → Has ks ks.length L → (∀ b o, s.heap.get? b = some o → h'.get? b = some o) → Q (.ref s.heap.objs.size) { s with heap := h', toks := tk }) :
    wpAny (model P w) A (call (.type "set") [.ref l]) Q E s := by
  have size : items.size = ks.length := by
    have q := congrArg List.length hit
    rwa [Array.length_toList, List.length_map] at q
  obtain ⟨c, tl, hmro⟩ := F.called_set.mro
  have made := F.called_set.made
  have sub := F.called_set.sub
  refine wpAny_call (codeAny_of_tree ?_)
  show wpAny _ _ (callAny (.type "set") _) _ _ _
  refine wpAny_pure ⟨Code.quiet_builtin _ (by decide +kernel), codeAny_builtin F.entry_type_call ?_⟩
  rw [Around.under_plain (weight_type_call_type "set" [.ref l] []) rfl]
  have n1 := F.called_set.notType
  have n2 := F.called_set.canCreate
  have n3 := F.typeCall_set_1 (.ref l)
  repeat (any_goals (first | assumption | wp_step))
  refine codeAny_mono (code_set_led1 (.ref l) (E := E) (Q₁ := fun obj s₁ => obj = .ref s.heap.objs.size ∧ s₁ = { s with heap := s.heap.push (SX.freshSet w) }) ⟨rfl, rfl⟩) fun r s₁ hr => ?_
  cases r with
  | error e => exact hr
  | ok fl =>
    cases fl with
    | ret obj =>
      obtain ⟨rfl, rfl⟩ := hr
      have atS : (s.heap.push (SX.freshSet w)).get? s.heap.objs.size = some (SX.freshSet w) := Heap.get?_push_size _ rfl
      have tyS : Shared.TypeIs { s with heap := s.heap.push (SX.freshSet w) } (.ref s.heap.objs.size) "set" := ⟨_, atS, rfl⟩
      have look := F.called_set.init.lookup
      have bind := F.called_set.init.bind (.ref s.heap.objs.size)
      repeat (any_goals (first | assumption | wp_step))
      refine codeAny_mono (codeAny_call_builtin (R := wants (fun r s₂ => r = .none ∧ ∃ h' tk L es ep t, s₂ = { s with heap := h', toks := tk } ∧ SetN P w sh h' s.heap.objs.size L es ep t ∧ Has ks ks.length L ∧ (∀ b o, s.heap.get? b = some o → h'.get? b = some o)) E) F.called_set.init.plain F.entry_set_init (check_set_init_1 tyS ?_)) fun r₂ s₂ hr₂ => ?_
      · obtain ⟨ol, hol, hcl, nl, hdl⟩ := hl
        obtain ⟨ocls, odict, odata, oslots⟩ := ol
        simp only at hcl hdl
        subst hcl hdl
        have hol2 : (s.heap.push (SX.freshSet w)).get? l = some { cls := .type "list", dict := odict, data := .seq items nl, slots := oslots } := Heap.get?_push_of_some _ hol
        have b1 := F.sub_list_set
        have b2 := F.sub_list_frozenset
        have b3 : (Value.type "list" == Value.type "dict") = false := by decide
        have lst : (s.heap.push (SX.freshSet w)).IsList l items := ⟨_, hol2, rfl, nl, rfl⟩
        unfold Builtin.«set.__init__» noKeywords Builtin.Frozenset.updateFrom
        generalize hPI : pyIter = PI
        wp_walk
        subst hPI
        refine wpAny_pyIter_list lst ?_
        refine wpAny_bind (wpAny_runValue ?_)
        have low : l < s.heap.objs.size := Heap.lt_size hol
        have calm : A.in1.in1.in1.handled = none := by simp [hh]
        have neI : l ≠ (s.heap.push (SX.freshSet w)).objs.size := by rw [Heap.size_push]; exact Nat.ne_of_lt (Nat.lt_succ_of_lt low)
        have outS : s.heap.objs.size ∉ [(s.heap.push (SX.freshSet w)).objs.size, l] := by
          rw [Heap.size_push]
          simp only [List.mem_cons, List.mem_singleton, List.not_mem_nil, or_false, not_or]
          exact ⟨Nat.ne_of_lt (Nat.lt_succ_self _), Nat.ne_of_gt low⟩
        have val : ∀ (i : Nat) (v : Value), items[i]? = some v → ∃ p, ks[i]? = some p ∧ v = .ref p.1 := fun i v hv => by
          have q : items.toList[i]? = some v := by rw [Array.getElem?_toList]; exact hv
          rw [hit, List.getElem?_map] at q
          cases e : ks[i]? with
          | none => rw [e] at q; cases q
          | some p =>
            rw [e] at q
            exact ⟨p, rfl, (Option.some.inj q).symm⟩
        have none_of : ∀ b, s.heap.objs.size ≤ b → s.heap.get? b = none := fun b hb => by
          cases q : s.heap.get? b with
          | none => rfl
          | some o => exact absurd (Nat.lt_of_lt_of_le (Heap.lt_size q) hb) (Nat.lt_irrefl _)
        have room : A.in1.in1.in1.units + 8 < cLine := by
          show A.units + 1 + 1 + 1 + 8 < cLine
          omega
        refine update_any ((Walks.list calm _ l neI items).toS) s.heap.objs.size outS ks size few val s.heap hk (none_of _ (Nat.le_refl _)) (fun b hb => none_of b (by rw [List.mem_singleton.mp hb, Heap.size_push]; exact Nat.le_succ _)) room (items.size - 0) 0 _ (by omega) (Nat.zero_le _)
          ⟨⟨_, Heap.get?_push_size _ rfl, rfl, rfl⟩, (lst.push _)⟩ (fun b o e => Heap.get?_push_of_some _ (Heap.get?_push_of_some _ e)) ⟨[], #[], 0, _, fresh_n (Heap.get?_push_of_some _ atS), Has.zero _⟩ ?_
        intro s' L es ep t hm put got old
        obtain ⟨h', g2, d', tk', os'⟩ := s'
        have eg : g2 = s.gens := hm.gens
        have ed : d' = s.drawn := hm.drawn
        have eo : os' = s.os := hm.os
        subst eg ed eo
        show wpAny _ _ _ _ _ _
        refine wpAny_pure ?_
        show wpAny _ _ (ret Value.none) _ _ _
        rw [size] at got
        exact wpAny_pure ⟨rfl, h', tk', L, es, ep, t, rfl, put, got, old⟩
      · cases r₂ with
        | error e => exact hr₂
        | ok fl₂ =>
          cases fl₂ with
          | ret r =>
            obtain ⟨rfl, h', tk, L, es, ep, t, rfl, put, got, keep⟩ := hr₂
            repeat (any_goals (first | assumption | wp_step))
            exact h _ _ _ _ _ _ put got keep
          | _ => exact hr₂.elim
    | _ => exact hr.elim
end
end NT
/-! sets of manners: set(xs), {e for x in xs}, sorted of them -/
namespace NT
open PySem PySem.Spec PyProof.Rows L2 PySem.W PySem.SeqAt SrtO PpSet
def memOf (p : AM) : Mem := (p.1, p.2.key)
theorem memOf_key {L : List AM} : (L.map memOf).map (·.2) = (L.map (·.2)).map Mn.key := by
  rw [List.map_map, List.map_map]
  rfl
theorem key_mem {L : List AM} {m : Mn} : m.key ∈ (L.map memOf).map (·.2) ↔ m ∈ L.map (·.2) := by
  rw [memOf_key, List.mem_map]
  constructor
  · rintro ⟨x, hx, e⟩
    rw [← key_inj e]
    exact hx
  · intro h
    exact ⟨m, h, rfl⟩
/-- what is arranged anew stands over what was arranged so -/
theorem perm_up {α β : Type} {f : α → β} : ∀ {vs : List β} {l : List α}, vs.Perm (l.map f) → ∃ l' : List α, l'.map f = vs ∧ l'.Perm l := by
  classical
  intro vs
  induction vs with
  | nil =>
    intro l h
    have z : l = [] := by simpa using h.nil_eq.symm
    exact ⟨[], rfl, by rw [z]⟩
  | cons v vs ih =>
    intro l h
    obtain ⟨e, he, q⟩ := List.mem_map.mp (h.mem_iff.mp List.mem_cons_self)
    have h2 : (v :: vs).Perm (v :: (l.erase e).map f) := by
      have h3 := (List.perm_cons_erase he).map f
      rw [List.map_cons, q] at h3
      exact h.trans h3
    obtain ⟨l', e1, p2⟩ := ih h2.cons_inv
    exact ⟨e :: l', by rw [List.map_cons, e1, q], (List.Perm.cons e p2).trans (List.perm_cons_erase he).symm⟩
/-- the set at a, without the tuples themselves -/
def SetM0 (P : Program) (w : World) (h : Heap) (a : Addr) (L : List AM) : Prop := ∃ (es : Array (Int × Value)) (ep : Nat) (t : SetTable), (∃ o, h.get? a = some o ∧ o.ExactSet ∧ o.data = .set es ep t) ∧ es.toList = rowsN P w (L.map memOf) ∧ TabOk t (hashes P w (L.map memOf)) ∧
  (w.params.followText "set-order" = true ∨ t.led = true) ∧ (L.map memOf).length * 5 < t.mask * 3 ∧ (L.map memOf).length < 64
def SetM (P : Program) (w : World) (a : Addr) (L : List AM) : HO := .ext fun h => SetM0 P w h a L
theorem setM_new {P : Program} {w : World} {H : Hp} {h : Heap} {a : Addr} {L : List AM} (R : SetM0 P w h a L) : ObjOk P w H h a (SetM P w a L) := by
  have ⟨es, ep, t, ⟨o, ho, r⟩, q⟩ := R
  refine ⟨R, ⟨o, ho⟩, fun h1 h2 p k => ?_⟩
  have ⟨es', ep', t', ⟨o', ho', r'⟩, q'⟩ := (show SetM0 P w h1 a L from p)
  exact ⟨es', ep', t', ⟨o', k o' ho', r'⟩, q'⟩
theorem setM_of {P : Program} {w : World} {h : Heap} {a : Addr} {L : List AM} {M : List Mem} {es : Array (Int × Value)} {ep : Nat} {t : SetTable} (R : SetN P w mnShape h a M es ep t) (e : M = L.map memOf) : SetM0 P w h a L := by
  subst e
  exact ⟨es, ep, t, R.ob, R.rows, R.tab, R.led, R.room, R.few⟩
theorem setM_full {P : Program} {w : World} {h : Heap} {a : Addr} {L : List AM} (R : SetM0 P w h a L) (ht : ∀ p ∈ L, IsN P w mnShape h p.2.key p.1) : ∃ es ep t, SetN P w mnShape h a (L.map memOf) es ep t := by
  obtain ⟨es, ep, t, h1, h2, h3, h4, h5, h6⟩ := R
  refine ⟨es, ep, t, h1, h2, h3, fun p hp => ?_, h4, h5, h6⟩
  obtain ⟨q, hq, rfl⟩ := List.mem_map.mp hp
  exact ht q hq
/-- what a set of the manners of a list holds -/
structure Pick (ps L : List AM) : Prop where
  sub : ∀ p ∈ L, p ∈ ps
  all : ∀ p ∈ ps, p.2 ∈ L.map (·.2)
  nd : (L.map (·.2)).Nodup
section
variable {P : Program} {w : World} {A : Around} {E : Value → Shared → Prop} {s : Shared}
theorem sortable_m {vs : List Value} {k : Value → Mn} {h₁ : Heap} {a : Addr} (hu : A.units + 8 < cLine) (h2 : 2 ≤ vs.length) (ha : h₁.get? a = some (seqObj "list" vs.toArray 0)) (hv : ∀ v ∈ vs, IsM P w h₁ v (k v)) :
    SortableO P w A { s with heap := h₁ } a vs fun v u => nLt (k v).key (k u).key := by
  intro h' keep
  have na : ∀ o, h₁.get? a = some o → o.cls ≠ .type "tuple" := fun o e c => by
    rw [ha] at e
    cases e
    exact absurd (Value.type.inj c) (by decide)
  have hv2 : ∀ v ∈ vs, IsM P w h' v (k v) := fun v hm => (hv v hm).keep fun b o e c => keep b o (fun z => na o (z ▸ e) c) e
  obtain ⟨fs, f1, f2, f3⟩ := firsts_m (P := P) (w := w) fun v hm => ⟨_, hv2 v hm⟩
  refine ⟨tuples' true, fun Q E hq => ?_, cmp_m hu hv2⟩
  refine kat_kind (T := .type "str") f1 (by omega) (fun f hm => ?_) (by rfl) ?_
  · obtain ⟨x, t, rfl⟩ := f3 f hm
    exact Looks.now
  · have e : (Value.type "str" != Value.type "tuple") = true := by first | decide +kernel | rfl | decide
    rw [e]
    exact hq
/-- sorted(a set of manners) -/
theorem sorted_set_m {a : Addr} {L : List AM} {es : Array (Int × Value)} {ep : Nat} {t : SetTable} {Q : Value → Shared → Prop} (R : SetN P w mnShape s.heap a (L.map memOf) es ep t) (hh : A.handled = none) (hu : A.units + 16 < cLine)
    (hQ : ∀ s' p (out : Array Value) (c : Nat) (qs : List AM), (∀ b o, s.heap.get? b = some o → s'.heap.get? b = some o) → s'.gens = s.gens → s'.os = s.os → s.heap.objs.size ≤ p → s'.heap.get? p = some (seqObj "list" out c) →
      out.toList = (qs.map fun q => Value.ref q.1) → qs.Perm L → sortedM (qs.map (·.2)) → Q (.ref p) s') :
    wpAny (model P w) A (call (.builtin "sorted") [.ref a]) Q E s := by
  obtain ⟨o, ho, hex, hd⟩ := R.ob
  have few := R.few
  rw [List.length_map] at few
  have size := rows_len R.rows
  rw [List.length_map] at size
  refine Calls.call_function_entry kind_sorted plain_sorted entry_sorted (args_sorted1 _) ?_
  unfold Builtin.«sorted»
  refine wpAny_bind (m := checkCount "sorted" 1 1 _) (wpAny_pure ?_)
  refine wpAny_bind (collect_set (A := A.in1) hh ⟨o, ho, hex.1, hd⟩ (R.fits (s := s)) (by have : scanBound = 4096 := rfl; omega) R.tab.ris R.led fun s1 vs k1 hz g1 o1 pm => ?_)
  have hes : es.toList.map (·.2) = L.map fun q => Value.ref q.1 := by
    rw [R.rows]
    unfold rowsN
    rw [List.map_map, List.map_map]
    rfl
  rw [hes] at pm
  obtain ⟨L1, e1, pL⟩ := perm_up pm
  have lvs : vs.length < 64 := by rw [pm.length_eq, List.length_map]; exact few
  refine wpAny_bind (wpAny_newList ?_ (by rw [sizeLine_eq]; omega))
  have atL : (s1.heap.push (seqObj "list" vs.toArray 0)).get? s1.heap.objs.size = some (seqObj "list" vs.toArray 0) := Heap.get?_push_size _ rfl
  let dflt : Mn := ⟨Str.empty, Str.empty, Str.empty, Str.empty, []⟩
  let k : Value → Mn := fun v => ((L.find? fun p => p.1 == adr v).map (·.2)).getD dflt
  have tup0 : ∀ p ∈ L, IsN P w mnShape s.heap p.2.key p.1 := fun p hp => R.tup _ (List.mem_map.mpr ⟨p, hp, rfl⟩)
  have kp : ∀ p ∈ L, k (.ref p.1) = p.2 := fun p hp => by
    show ((L.find? fun p' => p'.1 == p.1).map (·.2)).getD dflt = p.2
    cases e : L.find? fun p' => p'.1 == p.1 with
    | none =>
      have := List.find?_eq_none.mp e p hp
      simp at this
    | some p' =>
      have e1 : p'.1 = p.1 := by simpa using List.find?_some e
      have m' := tup0 p' (List.mem_of_find?_eq_some e)
      rw [e1] at m'
      exact key_inj (m'.inj (tup0 p hp))
  have ex : ∀ v ∈ vs, ∃ p ∈ L, v = .ref p.1 := fun v hv => by
    obtain ⟨p, hp, e⟩ := List.mem_map.mp (pm.mem_iff.mp hv)
    exact ⟨p, hp, e.symm⟩
  have hv : ∀ v ∈ vs, IsM P w (s1.heap.push (seqObj "list" vs.toArray 0)) v (k v) := fun v hvm => by
    obtain ⟨p, hp, rfl⟩ := ex v hvm
    rw [kp p hp]
    exact ⟨p.1, rfl, (tup0 p hp).keep fun b u e _ => Heap.get?_push_of_some _ (k1 b u e)⟩
  have O : Swo fun v u : Value => nLt (k v).key (k u).key := by
    have S := n_sto.swo
    exact ⟨fun x y z => S.asym _ _ z, fun x y z q1 q2 => S.tr _ _ _ q1 q2⟩
  refine wpAny_bind (wpAny_holding (wpAny_call_entry slot_list_sort ⟨_, atL, rfl⟩ entry_list_sort (list_sort_ord (s := { s1 with heap := s1.heap.push (seqObj "list" vs.toArray 0) }) O atL (by rw [sizeLine_eq]; omega) (fun h2 => sortable_m (by first | omega | (show A.units + 1 + 1 + 8 < cLine; omega)) h2 atL hv) fun out hs hb => ⟨_, rfl, ?_⟩) (args_list_sort _)))
  have refs : ∀ v ∈ out, v = .ref (adr v) := fun v hvm => by
    obtain ⟨p, _, rfl⟩ := ex v (hb.perm.mem_iff.mp hvm)
    rfl
  let qs : List AM := out.map fun v => (adr v, k v)
  have eq1 : (qs.map fun p => Value.ref p.1) = out := by
    show (out.map fun v => (adr v, k v)).map _ = out
    rw [List.map_map]
    have z : out.map ((fun p : AM => Value.ref p.1) ∘ fun v => (adr v, k v)) = out.map id := List.map_congr_left fun v hvm => (refs v hvm).symm
    rw [z, List.map_id]
  have pq : qs.Perm L := by
    have z := (hb.perm.trans pm).map fun v => ((adr v, k v) : AM)
    have z2 : (L.map fun q => Value.ref q.1).map (fun v => ((adr v, k v) : AM)) = L := by
      rw [List.map_map]
      have z3 : L.map ((fun v => ((adr v, k v) : AM)) ∘ fun p => Value.ref p.1) = L.map id := List.map_congr_left fun p hp => by
        show ((p.1, k (.ref p.1)) : AM) = p
        rw [kp p hp]
      rw [z3, List.map_id]
    rw [z2] at z
    exact z
  have sq : sortedM (qs.map (·.2)) := by
    unfold sortedM
    rw [List.pairwise_map, List.pairwise_map]
    exact hs
  obtain ⟨c, hc⟩ := sortedHeap_at (vs := vs) (out := out.toArray) atL
  refine wpAny_pure ⟨_, rfl, hQ _ s1.heap.objs.size out.toArray c qs (fun b u e => ?_) g1 o1 hz hc (by rw [eq1]) pq sq⟩
  have q := k1 b u e
  have lt := Heap.lt_size q
  show (sortedHeap (s1.heap.push (seqObj "list" vs.toArray 0)) s1.heap.objs.size vs _).get? b = some u
  rw [sortedHeap_old (Nat.ne_of_lt lt) (by rw [size_push']; exact Nat.lt_succ_of_lt lt)]
  exact Heap.get?_push_of_some _ q
end
section
variable {X : Cx}
theorem setM_at {pins : List (Addr × Obj)} {σ : L2.St} {H : Hp} {s : Shared} {a : Addr} {L : List AM} (I : Inv X pins σ H s) (ha : H a = some (SetM X.prog X.w a L)) (hL : ∀ p ∈ L, MnAt H p.1 p.2) : ∃ es ep t, SetN X.prog X.w mnShape s.heap a (L.map memOf) es ep t :=
  setM_full ((I.hok a _ ha).1) fun p hp => isN_of I (hL p hp)
/-- set(xs), xs a list of manners -/
def rSetM (P : Program) (w : World) (K : PySem.W.Frag) : List V → Hp → VK → Prop := fun vs H Q => ∃ (l : Addr) (ps : List AM), vs = [V.ref l] ∧ SqL K H l (ps.map fun p => V.ref p.1) ∧ ps.length < 64 ∧ (∀ p ∈ ps, MnAt H p.1 p.2) ∧ ∀ d L, H d = none → Pick ps L → Q (.ref d) (upd H d (SetM P w d L))
theorem cr_setM (hc : X.calm = true) (hu : X.A.units + 64 < cLine) : CallR X (.type "set") (rSetM X.prog X.w X.K) := by
  intro pins s σ H vs us Q I r h
  obtain ⟨l, ps, rfl, hs, few, hm, q⟩ := h
  obtain ⟨its, rv, hl, _⟩ := I.list hs
  rw [Vals.ref1 r]
  have eits : its = (ps.map memOf).map fun p => Value.ref p.1 := by
    rw [refs_am rv, List.map_map]
    rfl
  refine call_set_any (P := X.prog) (w := X.w) (sh := mnShape) (ps.map memOf) (I.ok.hd hc) hl.isList (by simpa using eits) (by rw [List.length_map]; exact few) (fun p hp => ?_) (by omega) fun h' tk L es ep t put got keep => ?_
  · obtain ⟨q, hq, rfl⟩ := List.mem_map.mp hp
    exact isN_of I (hm q hq)
  · have tk : (ps.map memOf).take (ps.map memOf).length = ps.map memOf := List.take_length
    have sub : ∀ p ∈ L, p ∈ ps.map memOf := fun p hp => by
      have z := got.sub p hp
      rwa [tk] at z
    obtain ⟨L', e', s'⟩ : ∃ L' : List AM, L'.map memOf = L ∧ ∀ p ∈ L', p ∈ ps := by
      clear put got
      induction L with
      | nil => exact ⟨[], rfl, fun _ z => nomatch z⟩
      | cons p L ih =>
        obtain ⟨L', e1, s1⟩ := ih fun q hq => sub q (List.mem_cons_of_mem _ hq)
        obtain ⟨x, hx, e2⟩ := List.mem_map.mp (sub p List.mem_cons_self)
        refine ⟨x :: L', by rw [List.map_cons, e1, e2], fun q hq => ?_⟩
        rcases List.mem_cons.mp hq with z | z
        · rw [z]; exact hx
        · exact s1 q z
    have pk : Pick ps L' := ⟨s', fun p hp => by
      have z := got.all (memOf p) (by rw [tk]; exact List.mem_map.mpr ⟨p, hp, rfl⟩)
      rw [← e'] at z
      exact key_mem.mp z, by
      have z := got.nd
      rw [← e', memOf_key] at z
      exact List.Pairwise.of_map Mn.key (fun a b n e => n (congrArg Mn.key e)) z⟩
    exact ⟨.ref _, _, I.laid (t' := _) keep (Nat.le_refl _) (setM_new (setM_of put e'.symm)), rfl, q _ L' (I.hok.fresh (Nat.le_refl _)) pk⟩
/-- sorted(a set of manners) -/
def rSortSM (P : Program) (w : World) : List V → Hp → VK → Prop := fun vs H Q => ∃ (a : Addr) (L : List AM), vs = [V.ref a] ∧ H a = some (SetM P w a L) ∧ (∀ p ∈ L, MnAt H p.1 p.2) ∧ ∀ (qs : List AM) (d : Addr), qs.Perm L → sortedM (qs.map (·.2)) → H d = none → Q (.ref d) (upd H d (.lst (qs.map fun p => V.ref p.1)))
theorem cr_sortSM (hc : X.calm = true) (hu : X.A.units + 64 < cLine) : CallR X (.builtin "sorted") (rSortSM X.prog X.w) := by
  intro pins s σ H vs us Q I r h
  obtain ⟨a, L, rfl, ha, hm, q⟩ := h
  obtain ⟨es, ep, t, R⟩ := setM_at I ha hm
  rw [Vals.ref1 r]
  refine sorted_set_m (P := X.prog) (w := X.w) R (I.ok.hd hc) (by omega) fun s' p out c qs k g o le at2 hout pm so => ?_
  have few := R.few
  rw [List.length_map] at few
  have lenq : (qs.map fun p => V.ref p.1).length ≤ sizeLine := by rw [List.length_map, pm.length_eq, sizeLine_eq]; omega
  have hn : H p = none := I.hok.fresh le
  have vq : Vals (qs.map fun p => V.ref p.1) out.toList := by rw [hout]; exact vals_am qs
  have J : Inv X pins σ (upd H p (.lst (qs.map fun q => V.ref q.1))) { s with heap := s'.heap, gens := s'.gens, drawn := s'.drawn, toks := s'.toks } :=
    I.call (ch := []) (Un.laid k le hn) (I.hok.laid k le ⟨lenq, out.toList, c, vq, at2⟩) (by rw [g]; exact I.bare) (fun _ z => nomatch z)
  have e : s' = { s with heap := s'.heap, gens := s'.gens, drawn := s'.drawn, toks := s'.toks } := by
    cases s'
    cases s
    cases o
    rfl
  rw [e]
  exact ⟨.ref p, _, J, rfl, q qs p pm so hn⟩
theorem add_mn {pins : List (Addr × Obj)} {σ : L2.St} {H : Hp} {s : Shared} {E : Value → Shared → Prop} {D c : Addr} {L : List AM} {m : Mn} {Q : Value → Shared → Prop} (I : Inv X pins σ H s) (hD : H D = some (SetM X.prog X.w D L)) (hL : ∀ p ∈ L, MnAt H p.1 p.2) (hm : MnAt H c m) (room : L.length + 1 < 64) (hu : X.A.units + 64 < cLine)
    (h : ∀ s' L', (m ∈ L.map (·.2) → L' = L) → (m ∉ L.map (·.2) → L'.Perm ((c, m) :: L)) → Inv X pins σ (upd H D (SetM X.prog X.w D L')) s' → Q .none s') : wpAny (model X.prog X.w) X.A (call (.builtin "set.add") [.ref D, .ref c]) Q E s := by
  obtain ⟨es, ep, t, R⟩ := setM_at I hD hL
  obtain ⟨o, ho, hex, hd⟩ := R.ob
  have tyD : s.TypeIs (.ref D) "set" := ⟨o, ho, hex.1⟩
  refine wpAny_call_entry F.slot_set_add tyD F.entry_set_add ?_ (F.args_set_add_2 _ _)
  unfold Builtin.«set.add» Builtin.Frozenset.oneOther
  simp only [List.isEmpty_nil, bind_assoc]
  unfold Builtin.Frozenset.addrOf setAdd
  refine wpAny_bind (wpAny_pure ?_)
  try dsimp only
  refine wpAny_bind (wpAny_pure ?_)
  try dsimp only
  have hx := isN_of I hm
  refine wpAny_bind (wpAny_holding (wpAny_bind (n_hash (sh := mnShape) (by first | omega | (show X.A.units + 1 + 1 < cLine; omega)) hx fun tk le => ?_)))
  refine add_any (s := { s with toks := tk }) R hx (by first | omega | (show X.A.units + 1 + 8 < cLine; omega)) (by rw [List.length_map]; exact room) fun b h' L1 es' ep' t' but put c1 c2 => ?_
  show wpAny _ _ (ret Value.none) _ _ _
  obtain ⟨L', e', d1, d2⟩ : ∃ L' : List AM, L'.map memOf = L1 ∧ (m ∈ L.map (·.2) → L' = L) ∧ (m ∉ L.map (·.2) → L'.Perm ((c, m) :: L)) := by
    by_cases z : m ∈ L.map (·.2)
    · exact ⟨L, (c1 (key_mem.mpr z)).symm, fun _ => rfl, fun n => absurd z n⟩
    · have pm := c2 fun y => z (key_mem.mp y)
      obtain ⟨L', e1, p1⟩ := perm_up (f := memOf) (vs := L1) (l := (c, m) :: L) pm
      exact ⟨L', e1, fun y => absurd y z, fun _ => p1⟩
  have at2 : ∃ u, h'.get? D = some u := put.ob.elim fun o z => ⟨o, z.1⟩
  exact wpAny_pure ⟨_, rfl, h _ L' d1 d2 (I.write (e := D) (t' := tk) (by rw [hD]; trivial) (.inl rfl) (fun c u hc hu => (but.2 c hc).trans hu) at2 (setM_new (setM_of put e'.symm)))⟩
end
end NT
/-! {e for x in xs}, e a manner -/
namespace NT
open PySem PySem.Spec PyProof.Rows L2 PpSet
section
variable {X : Cx}
/-- D: the new set -/
def tScM (P : Program) (w : World) (wi : TI) (g : TG) (tt : TT) (te : TE) (vs : List Nat) : TE := fun σ H Q => wi σ H fun J H1 => ∀ D, H1 D = none → ∃ W : Nat → Nat → Hp → Prop, (∃ m, W 0 m (upd H1 D (SetM P w D []))) ∧ ∀ i m H, W i m H →
  (J.stop i H ∧ Q (.ref D) H) ∨ (J.go i H ∧ ∃ Nx : Hp → Prop, (∀ H', Nx H' → ∃ m', m' < m ∧ W (i + 1) m' H') ∧ ∀ x H', J.yld i H x H' → g x (wipe σ vs) H' fun σ2 H2 => wipe σ2 vs = wipe σ vs ∧ tt σ2 H2 fun b H3 =>
    if b = true then te σ2 H3 fun y H4 => ∃ (c : Addr) (m : Mn) (L : List AM), y = .ref c ∧ H4 D = some (SetM P w D L) ∧ (∀ p ∈ L, MnAt H4 p.1 p.2) ∧ MnAt H4 c m ∧ L.length + 1 < 64 ∧ ∀ L', (m ∈ L.map (·.2) → L' = L) → (m ∉ L.map (·.2) → L'.Perm ((c, m) :: L)) → Nx (upd H4 D (SetM P w D L')) else Nx H3)
theorem scm_core {pins : List (Addr × Obj)} {s : Shared} {σ : L2.St} {H : Hp} {Q : VK} {elt tg iter : Expr} {ifs : List Expr} {scope : Scope} {own : List (PySem.Str × Nat)} {pos pos' : Pos} {wi : TI} {g : TG} {tt : TT} {te : TE} {use : Option (Value → Sem Unit)} {Qf : Value → Shared → Prop}
    (calm : X.calm = true) (hu : X.A.units + 64 < cLine) (nd : X.N.Nodup) (I : Inv X pins σ H s) (hi : PI X tg iter wi) (ok : BlkOk X.N X.env.scope scope own) (hg : ∀ (s : Shared) (H : Hp) (C : Addr) (cl : List (PySem.Str × Addr)) (ap : List Addr), PG (X.blk s H scope (compEnvC scope cl C X.env) ap) tg g)
    (ht : ∀ (s : Shared) (H : Hp) (C : Addr) (cl : List (PySem.Str × Addr)) (ap : List Addr), PTs (X.blk s H scope (compEnvC scope cl C X.env) ap) ifs tt) (he : ∀ (s : Shared) (H : Hp) (C : Addr) (cl : List (PySem.Str × Addr)) (ap : List Addr), PE (X.blk s H scope (compEnvC scope cl C X.env) ap) elt te)
    (hs : ∀ x, foldedSetIterable iter X.env x = pure x) (h : tScM X.prog X.w wi g tt te (own.map (·.2)) σ H Q)
    (back : ∀ D C s' m H', Inv X pins σ H' s' → Q (.ref D) H' → s'.heap.Ns C m → FpOk X pins H' C → compPost (model X.prog X.w) X.A X.xe use Qf (.ref D) C (.ok .next) s') :
    wpAny (model X.prog X.w) X.A (comprehension (.SetComp elt [⟨tg, iter, ifs, 0⟩] scope pos) scope X.env pos' (newSet (.type "set")) false (eval iter X.env) use) Qf X.xe s := by
  have free : ∀ y ∈ scope.names, y.2 = .free → ∃ c, X.env.cells.lookup y.1 = some c := fun y hy e => (ok.free y hy e).elim (fun k => I.ok.has _ (.inl k)) fun k => I.ok.has _ (.inr k)
  refine wpAny_comprehension_free (use := use) rfl hs (closure_ok free) ok.kind (fun y hy e => by rw [ok.uniq y hy, e]) (thn (hi.run pins s σ H _ I h) fun xv sA hx => thn hx fun itv sB h2 => ?_)
  obtain ⟨it, ap, tn, J, HB, e, IB, T, stB, apB, q⟩ := h2
  subst e
  refine newSet_ok (newEnv_comp ?_)
  generalize eD : sB.heap.objs.size = D
  have noD : HB D = none := IB.hok.fresh (Nat.le_of_eq eD)
  obtain ⟨W, ⟨m0, w0⟩, turn⟩ := q D noD
  generalize eC : ({ sB with heap := sB.heap.push (SX.freshSet X.w) } : Shared) = sC
  have IC : Inv X pins σ (upd HB D (SetM X.prog X.w D [])) sC := by
    rw [← eC]
    refine IB.laid (t' := sB.toks) (fun b o q => Heap.get?_push_of_some _ q) (Nat.le_of_eq eD) ?_
    rw [← eD]
    exact setM_new (setM_of (fresh_n (w := X.w) (Heap.get?_push_size _ rfl)) rfl)
  have hC : sC.heap = sB.heap.push (SX.freshSet X.w) := by rw [← eC]
  have low : ∀ b ∈ ap, b < sB.heap.objs.size := fun b hb => (T.obj _ _ stB b hb).elim fun o z => Heap.lt_size z.1
  have apC : ∀ b ∈ ap, FpOk X pins (upd HB D (SetM X.prog X.w D [])) b ∧ b < sC.heap.objs.size := fun b hb => by
    have lt := low b hb
    refine ⟨⟨?_, (apB b hb).2⟩, by rw [hC, Heap.size_push]; exact Nat.lt_succ_of_lt lt⟩
    rw [upd_ne (by rw [← eD]; exact Nat.ne_of_lt lt)]
    exact (apB b hb).1
  have stC : tn 0 sC.heap := T.keep _ _ _ stB fun b _ o q => by rw [hC]; exact Heap.get?_push_of_some _ q
  have ID := block_start IC ok nd apC
  have pg := hg sC (upd HB D (SetM X.prog X.w D [])) sC.heap.objs.size (SX.cellsAt X scope sC) ap
  have pt := ht sC (upd HB D (SetM X.prog X.w D [])) sC.heap.objs.size (SX.cellsAt X scope sC) ap
  have pe := he sC (upd HB D (SetM X.prog X.w D [])) sC.heap.objs.size (SX.cellsAt X scope sC) ap
  show codeAny _ _ (.compStart (.SetComp elt [⟨tg, iter, ifs, 0⟩] scope pos) 0 (.ref it) (.ref D) (compEnvC scope (SX.cellsAt X scope sC) sC.heap.objs.size X.env)) (compPost (model X.prog X.w) X.A X.xe use Qf (.ref D) sC.heap.objs.size) { sC with heap := pushCells (sC.heap.push { cls := .type "dict", data := .dict #[] }) scope.names }
  have noAp : ∀ b ∈ ap, (upd HB D (SetM X.prog X.w D [])) b = none := fun b hb => (apC b hb).1.1
  generalize ece : compEnvC scope (SX.cellsAt X scope sC) sC.heap.objs.size X.env = ce at ID pg pt pe ⊢
  have locC : ce.locals = sC.heap.objs.size := by subst ece; rfl
  generalize eHC : upd HB D (SetM X.prog X.w D []) = HC at IC ID pg pt pe w0 noAp apC
  generalize esD : ({ sC with heap := pushCells (sC.heap.push { cls := .type "dict", data := .dict #[] }) scope.names } : Shared) = sD at ID ⊢
  have stD : tn 0 sD.heap := T.keep _ _ _ stC fun b _ o q => by rw [← esD]; exact pushCells_keeps _ _ _ _ (Heap.get?_push_of_some _ q)
  have still : ∀ {σ' : L2.St} {H' : Hp} {s' : Shared}, Inv (X.blk sC HC scope ce ap) [] σ' H' s' → (∀ b ∈ ap, H' b = none) → ∀ b ∈ ap, FpOk (X.blk sC HC scope ce ap) [] H' b := fun {σ' H' s'} J2 hn b hb =>
    ⟨hn b hb, (J2.ok.exf b hb).1, J2.ok.exfs b hb, .inl hb, fun x c q => (J2.ok.exf b hb).2 x c q, fun p hp => absurd (show p ∈ ([] : List (Addr × Obj)) ++ [] from hp) (by simp)⟩
  have loop : codeAny (model X.prog X.w) X.A (.compLoop (.SetComp elt [⟨tg, iter, ifs, 0⟩] scope pos) 0 (.ref it) (.ref D) ce) (compPost (model X.prog X.w) X.A X.xe use Qf (.ref D) sC.heap.objs.size) sD := by
    refine compLoopS_any (fun n s' => ∃ i H', Inv (X.blk sC HC scope ce ap) [] (wipe σ (own.map (·.2))) H' s' ∧ tn i s'.heap ∧ (∀ b ∈ ap, H' b = none) ∧ W i n H') ?_ m0 ⟨0, HC, ID, stD, noAp, w0⟩
    rintro n sE ⟨i, HE, IE, stE, noE, wE⟩
    rcases turn i n HE wE with ⟨stop, qq⟩ | ⟨go, Nx, hNx, step⟩
    · refine thnF (T.done (X.blk sC HC scope ce ap) rfl rfl rfl calm i [] sE _ HE (fun _ _ => False) IE (still IE noE) stE stop) fun r sF ⟨hr, IF⟩ => ?_
      subst hr
      have IG : Inv X pins σ HE sF := IC.call' (ch := ap) IF.os IF.base IF.hok IF.bare fun b hb => ⟨(apC b hb).1.2.2.2.1, (apC b hb).1.2.1, (apC b hb).1.2.2.2.2.1, (apC b hb).1.2.2.2.2.2⟩
      have nC : HE sC.heap.objs.size = none := by
        have z : HE ce.locals = none := IF.free
        rwa [locC] at z
      obtain ⟨m, hn, _⟩ := IF.loc
      have hn2 : sF.heap.Ns ce.locals m := hn
      rw [locC] at hn2
      exact back D sC.heap.objs.size sF m HE IG qq hn2 (IC.fpOk (Nat.le_refl _) nC)
    · refine thnF (T.item (X.blk sC HC scope ce ap) rfl rfl rfl calm i [] sE _ HE (fun _ _ => False) IE (still IE noE) stE go) fun r sF ⟨u, hr, hF⟩ => ?_
      subst hr
      refine thnF hF fun _ sG ⟨x, HG, IG, rG, yG, stG, noG⟩ => ?_
      refine thnF (pg.run _ sG _ HG x u _ (IG.pinned (still IG noG) (T.obj _ _ stG)) rG (step x HG yG)) fun _ sH ⟨σH, HH, IH, hwH, qH⟩ => ?_
      refine thnF (pt.run _ sH σH HH _ IH qH) fun b sI ⟨HI, II, qI⟩ => ?_
      have done : ∀ {s' : Shared} {H' : Hp}, Inv (X.blk sC HC scope ce ap) ([] ++ pinsAt ap sG.heap) σH H' s' → Nx H' → ∃ m, m < n ∧ ∃ i H', Inv (X.blk sC HC scope ce ap) [] (wipe σ (own.map (·.2))) H' s' ∧ tn i s'.heap ∧ (∀ b ∈ ap, H' b = none) ∧ W i m H' := fun {s' H'} J2 nx => by
        obtain ⟨m', lt, w'⟩ := hNx H' nx
        have pinned : ∀ b ∈ ap, ∀ o, sG.heap.get? b = some o → s'.heap.get? b = some o ∧ H' b = none := fun b hb o q =>
          let z := J2.pin (b, o) (List.mem_append_right _ (List.mem_append_right _ (mem_pinsAt hb q)))
          ⟨z.1, z.2.1⟩
        refine ⟨m', lt, i + 1, H', (J2.unpinned (pins := [])).weak (by rw [← hwH, wipe_length]) (fun j v q => ?_), T.keep _ _ _ stG fun b hb o q => (pinned b hb o q).1, fun b hb => ?_, w'⟩
        · rw [← hwH] at q
          exact (wipe_some q).1
        · obtain ⟨o, q, _⟩ := T.obj _ _ stG b hb
          exact (pinned b hb o q).2
      cases b with
      | false =>
        simp only [Bool.false_eq_true, if_false] at qI ⊢
        exact done II qI
      | true =>
        simp only [if_true] at qI ⊢
        refine thnF (pe.run _ sI σH HI _ II qI) fun z sJ ⟨yv, HJ, IJ, rJ, c, m, L0, ey, hDJ, hLJ, hmJ, few, nx⟩ => ?_
        subst ey
        cases rJ
        exact add_mn (X := X.blk sC HC scope ce ap) IJ hDJ hLJ hmJ few hu fun sK L' d1 d2 IK => done IK (nx L' d1 d2)
  exact codeAny_compStart_set loop (T.self X.A 0 _ _ _ stD loop)
theorem pe_scM {elt tg iter : Expr} {ifs : List Expr} {scope : Scope} {own : List (PySem.Str × Nat)} {pos : Pos} {wi : TI} {g : TG} {tt : TT} {te : TE} (calm : X.calm = true) (hu : X.A.units + 64 < cLine) (nd : X.N.Nodup) (hi : PI X tg iter wi) (ok : BlkOk X.N X.env.scope scope own)
    (hg : ∀ (s : Shared) (H : Hp) (C : Addr) (cl : List (PySem.Str × Addr)) (ap : List Addr), PG (X.blk s H scope (compEnvC scope cl C X.env) ap) tg g) (ht : ∀ (s : Shared) (H : Hp) (C : Addr) (cl : List (PySem.Str × Addr)) (ap : List Addr), PTs (X.blk s H scope (compEnvC scope cl C X.env) ap) ifs tt)
    (he : ∀ (s : Shared) (H : Hp) (C : Addr) (cl : List (PySem.Str × Addr)) (ap : List Addr), PE (X.blk s H scope (compEnvC scope cl C X.env) ap) elt te) (hs : ∀ x, foldedSetIterable iter X.env x = pure x := by intro _; rfl) :
    PE X (.SetComp elt [⟨tg, iter, ifs, 0⟩] scope pos) (tScM X.prog X.w wi g tt te (own.map (·.2))) := by
  refine ⟨fun pins s σ H Q I h => ?_⟩
  rw [eval_SetComp]
  refine scm_core calm hu nd I hi ok hg ht he hs h fun D C s' m H' J2 q hn f => ⟨m, hn, fun h2 but => ?_⟩
  obtain ⟨z0, z1, z2, z3, z4, z5⟩ := f
  exact ⟨.ref D, H', J2.turned (t' := s'.toks) (fun b o hb e => (but.2 b hb).trans e) z0 z1 z3 z4 z5, rfl, q⟩
end
/-- over a list that the block leaves as it is -/
theorem scm_list {P : Program} {w : World} {K : PySem.W.Frag} {a : Addr} {xs : List V} {g : TG} {tt : TT} {te : TE} {vs : List Nat} {σ : L2.St} {H1 : Hp} {D : Addr} {Qd : Hp → Prop} (Pv : Nat → Hp → Prop) (h0 : Pv 0 (upd H1 D (SetM P w D []))) (hl : ∀ i H, i ≤ xs.length → Pv i H → SqL K H a xs)
    (hs : ∀ i x H, xs[i]? = some x → Pv i H → g x (wipe σ vs) H fun σ2 H2 => wipe σ2 vs = wipe σ vs ∧ tt σ2 H2 fun b H3 =>
      if b = true then te σ2 H3 fun y H4 => ∃ (c : Addr) (m : Mn) (L : List AM), y = .ref c ∧ H4 D = some (SetM P w D L) ∧ (∀ p ∈ L, MnAt H4 p.1 p.2) ∧ MnAt H4 c m ∧ L.length + 1 < 64 ∧ ∀ L', (m ∈ L.map (·.2) → L' = L) → (m ∉ L.map (·.2) → L'.Perm ((c, m) :: L)) → Pv (i + 1) (upd H4 D (SetM P w D L')) else Pv (i + 1) H3) (hd : ∀ H, Pv xs.length H → Qd H) :
    ∃ W : Nat → Nat → Hp → Prop, (∃ m, W 0 m (upd H1 D (SetM P w D []))) ∧ ∀ i m H, W i m H →
      ((Itl K a).stop i H ∧ Qd H) ∨ ((Itl K a).go i H ∧ ∃ Nx : Hp → Prop, (∀ H', Nx H' → ∃ m', m' < m ∧ W (i + 1) m' H') ∧ ∀ x H', (Itl K a).yld i H x H' → g x (wipe σ vs) H' fun σ2 H2 => wipe σ2 vs = wipe σ vs ∧ tt σ2 H2 fun b H3 =>
        if b = true then te σ2 H3 fun y H4 => ∃ (c : Addr) (m : Mn) (L : List AM), y = .ref c ∧ H4 D = some (SetM P w D L) ∧ (∀ p ∈ L, MnAt H4 p.1 p.2) ∧ MnAt H4 c m ∧ L.length + 1 < 64 ∧ ∀ L', (m ∈ L.map (·.2) → L' = L) → (m ∉ L.map (·.2) → L'.Perm ((c, m) :: L)) → Nx (upd H4 D (SetM P w D L')) else Nx H3) := by
  refine ⟨fun i m H => m = xs.length - i ∧ i ≤ xs.length ∧ Pv i H, ⟨xs.length, by simp, Nat.zero_le _, h0⟩, ?_⟩
  rintro i m H ⟨rfl, hi, p⟩
  have q := hl i H hi p
  by_cases lt : i < xs.length
  · refine .inr ⟨⟨xs, xs[i], q, by simp [lt]⟩, Pv (i + 1), fun H' p' => ⟨xs.length - (i + 1), by omega, rfl, lt, p'⟩, ?_⟩
    rintro x H' ⟨e, y⟩
    subst e
    exact hs i x _ (y xs q) p
  · obtain rfl : i = xs.length := by omega
    exact .inl ⟨⟨xs, q, Nat.le_refl _⟩, hd H p⟩
end NT
/-! <= of two lists of two whole numbers -/
namespace SX
open PySem PySem.Spec PyProof.Rows L2
/-- [i, j] <= [k, l] -/
def rLeL (K : PySem.W.Frag) : R2 := fun x y H Q => ∃ (a b : Addr) (i j k l : Int), x = .ref a ∧ y = .ref b ∧ SqL K H a [.int i, .int j] ∧ SqL K H b [.int k, .int l] ∧ Q (.bl (if i = k then decide (j ≤ l) else decide (i ≤ k))) H
theorem op_leL {X : Cx} (hu : X.A.units < cLine) : OpR X (compareOp .LtE) (rLeL X.K) := by
  intro pins s σ H x y v u Q I rx ry h
  obtain ⟨a, b, i, j, k, l, rfl, rfl, ha, hb, q⟩ := h
  cases rx
  cases ry
  obtain ⟨its, r1, p1, _⟩ := I.list ha
  obtain ⟨its2, r2, p2, _⟩ := I.list hb
  cases r1 with
  | cons u1 r1 => cases r1 with
    | cons u2 r1 =>
      cases r1
      cases r2 with
      | cons v1 r2 => cases r2 with
        | cons v2 r2 =>
          cases r2
          obtain ⟨t1, rfl⟩ := u1
          obtain ⟨t2, rfl⟩ := u2
          obtain ⟨t3, rfl⟩ := v1
          obtain ⟨t4, rfl⟩ := v2
          have R := SeqAt.RcOp.lists_le (A := X.A) (s := s) (e := fun n => if n = 0 then i == k else j == l) (r := fun n => if n = 0 then decide (i ≤ k) else decide (j ≤ l)) p1.isList p2.isList hu (fun n h1 h2 => by
            have h1 : n < 2 := h1
            rcases (by omega : n = 0 ∨ n = 1) with rfl | rfl
            · exact SeqAt.EqAt.int_int i t1 k t3
            · exact SeqAt.EqAt.int_int j t2 l t4) (fun n h1 h2 _ => by
            have h1 : n < 2 := h1
            rcases (by omega : n = 0 ∨ n = 1) with rfl | rfl
            · exact fun _ _ _ _ h => PyProof.Rows.le_int h
            · exact fun _ _ _ _ h => PyProof.Rows.le_int h)
          refine R X.prog X.w X.xe (EP X pins σ Q) ⟨.bl _, H, I, rfl, ?_⟩
          have z : SeqAt.firstLt (fun n => if n = 0 then i == k else j == l) (fun n => if n = 0 then decide (i ≤ k) else decide (j ≤ l)) (decide (#[Value.int i t1, Value.int j t2].size ≤ #[Value.int k t3, Value.int l t4].size)) (List.range (min #[Value.int i t1, Value.int j t2].size #[Value.int k t3, Value.int l t4].size)) = (if i = k then decide (j ≤ l) else decide (i ≤ k)) := by
            show (if (i == k) = true then (if (j == l) = true then true else decide (j ≤ l)) else decide (i ≤ k)) = _
            by_cases c : i = k
            · subst c
              by_cases d : j = l
              · subst d
                simp
              · simp [d]
            · simp [c]
          rw [z]
          exact q
end SX
/-! d.items() of a dict keyed by texts, and sorted of it -/
namespace NT
open PySem PySem.Spec PyProof.Rows L2 PySem.W PySem.SeqAt SrtO L2.DX
abbrev AK : Type := Addr × Str × Addr
abbrev entK (e : Str × Addr) : Key × V := (Sum.inr e.1, V.ref e.2)
/-- a pair of this text and this address -/
def IsPr (h : Heap) (z : AK) : Prop := ∃ o t n, h.get? z.1 = some o ∧ o.cls = .type "tuple" ∧ o.data = .seq #[Value.str z.2.1 t, Value.ref z.2.2] n
theorem IsPr.one {h : Heap} {a : Addr} {e f : Str × Addr} (x : IsPr h (a, e)) (y : IsPr h (a, f)) : e = f := by
  obtain ⟨o, t, n, h1, h2, h3⟩ := x
  obtain ⟨o', t', n', h1', h2', h3'⟩ := y
  have e1 : h.get? a = some o := h1
  have e2 : h.get? a = some o' := h1'
  rw [e1] at e2
  cases e2
  rw [h3] at h3'
  injection h3' with q _
  have q2 := congrArg Array.toList q
  simp only [List.cons.injEq, Value.str.injEq, Value.ref.injEq] at q2
  exact Prod.ext q2.1.1 q2.2.1
section
variable {P : Program} {w : World} {A : Around} {E : Value → Shared → Prop} {s : Shared}
theorem eq_self {b : Addr} {Q : Bool → Shared → Prop} (h : Q true s) : wpAny (model P w) A (eqBool (.ref b) (.ref b)) Q E s := by
  unfold eqBool
  try with_reducible refine wpAny_holding ?_
  show wpAny _ _ (if (Value.ref b == Value.ref b) = true then _ else _) Q E s
  rw [if_pos (beq_self_eq_true _)]
  exact wpAny_bind (wpAny_rule (wpAny_pure h))
theorem cmp_pr {vs : List Value} {k : Value → Str} {zs : List AK} (hv : ∀ v ∈ vs, ∃ z ∈ zs, v = .ref z.1 ∧ k v = z.2.1 ∧ IsPr s.heap z) (nd : ∀ z ∈ zs, ∀ z' ∈ zs, z.2.1 = z'.2.1 → z = z') :
    Cmp P w A s (tuples' true) (fun p => p.1 ∈ vs) (lt2 fun v u => decide ((k v).cps.toList < (k u).cps.toList)) := by
  intro p q hm hm'
  show wpAny (model P w) A (keyLt' (tuples' true) p.1 q.1) (fun r s' => s' = s ∧ r = decide ((k p.1).cps.toList < (k q.1).cps.toList)) (fun _ _ => False) s
  obtain ⟨z, hz, e1, k1, o, t, n, h1, h2, h3⟩ := hv _ hm
  obtain ⟨z', hz', e1', k1', o', t', n', h1', h2', h3'⟩ := hv _ hm'
  rw [k1, k1', e1, e1']
  refine kat_lt h1 h3 h1' h3' ?_
  show KatLex P w A true (decide (2 < 2)) _ [(.str z.2.1 t, .str z'.2.1 t'), (.ref z.2.2, .ref z'.2.2)] 0 s
  refine kat_cons (SeqAt.EqAt.str_str z.2.1 t z'.2.1 t' P w _ _ (kat_go (fun c => ?_) (fun c => ?_)))
  · have za : z.2.1 = z'.2.1 := by simpa using c
    obtain rfl := nd z hz z' hz' za
    refine kat_yes (kat_cons (eq_self (kat_go (fun _ => ?_) (fun c => nomatch c))))
    refine kat_yes (kat_nil ⟨rfl, ?_⟩)
    rw [decide_eq_false (List.lt_irrefl _)]
    rfl
  · exact kat_no (oneLt_str ⟨rfl, rfl⟩)
theorem firsts_pr {h : Heap} : ∀ {zs : List AK}, (∀ z ∈ zs, IsPr h z) → ∃ fs : List Value, KatTups h (zs.map fun z => Value.ref z.1) fs ∧ fs.length = zs.length ∧ ∀ f ∈ fs, ∃ x t, f = Value.str x t
  | [], _ => ⟨[], KatTups.nil, rfl, fun _ z => by simp at z⟩
  | z :: zs, hp => by
    obtain ⟨fs, h1, h2, h3⟩ := firsts_pr (zs := zs) fun u hu => hp u (List.mem_cons_of_mem _ hu)
    obtain ⟨o, t, n, ho, hc, hd⟩ := hp z List.mem_cons_self
    refine ⟨.str z.2.1 t :: fs, KatTups.cons ho hc hd rfl h1, by rw [List.length_cons, List.length_cons, h2], fun f hf => ?_⟩
    rcases List.mem_cons.mp hf with rfl | hf
    · exact ⟨_, t, rfl⟩
    · exact h3 f hf
theorem swo_str {k : Value → Str} : Swo fun v u : Value => decide ((k v).cps.toList < (k u).cps.toList) := by
  refine ⟨fun x y z => decide_eq_false (List.lt_asymm (of_decide_eq_true z)), fun x y z q1 q2 => decide_eq_false ?_⟩
  exact List.not_lt.mpr (List.le_trans (List.not_lt.mp (of_decide_eq_false q1)) (List.not_lt.mp (of_decide_eq_false q2)))
theorem sortable_pr {zs : List AK} {k : Value → Str} {h₁ : Heap} {a : Addr} (h2 : 2 ≤ zs.length) (ha : h₁.get? a = some (seqObj "list" (zs.map fun z => Value.ref z.1).toArray 0)) (hv : ∀ z ∈ zs, IsPr h₁ z ∧ k (.ref z.1) = z.2.1) (nd : ∀ z ∈ zs, ∀ z' ∈ zs, z.2.1 = z'.2.1 → z = z') :
    SortableO P w A { s with heap := h₁ } a (zs.map fun z => Value.ref z.1) fun v u => decide ((k v).cps.toList < (k u).cps.toList) := by
  intro h' keep
  have na : ∀ o, h₁.get? a = some o → o.cls ≠ .type "tuple" := fun o e c => by
    rw [ha] at e
    cases e
    exact absurd (Value.type.inj c) (by decide)
  have hp : ∀ z ∈ zs, IsPr h' z := fun z hz => by
    obtain ⟨o, t, n, h1, h2, h3⟩ := (hv z hz).1
    exact ⟨o, t, n, keep _ _ (fun c => na o (c ▸ h1) h2) h1, h2, h3⟩
  obtain ⟨fs, f1, f2, f3⟩ := firsts_pr hp
  refine ⟨tuples' true, fun Q E hq => ?_, cmp_pr (zs := zs) (fun v hm => ?_) nd⟩
  · refine kat_kind (T := .type "str") f1 (by omega) (fun f hm => ?_) (by rfl) ?_
    · obtain ⟨x, t, rfl⟩ := f3 f hm
      exact Looks.now
    · have e : (Value.type "str" != Value.type "tuple") = true := by first | decide +kernel | rfl | decide
      rw [e]
      exact hq
  · obtain ⟨z, hz, rfl⟩ := List.mem_map.mp hm
    exact ⟨z, hz, rfl, (hv z hz).2, hp z hz⟩
end
section
variable {X : Cx}
def rItemsD : V → List V → Hp → VK → Prop := fun x xs H Q => ∃ (a : Addr) (kvs : List (Key × V)), x = .ref a ∧ xs = [] ∧ H a = some (.dK kvs) ∧ ∀ p, H p = none → Q (.ref p) (upd H p (itemsO p a))
theorem mt_itemsD : MtR X "dict.items" rItemsD := by
  intro pins s σ H x xs v us Q I rx rxs h
  obtain ⟨a, kvs, rfl, rfl, ha, q⟩ := h
  cases rx
  cases rxs
  obtain ⟨z, hd, xs', rel, o, es, ep, ho, hx, hdat, _⟩ := dk_of I.hok ha
  refine DT.callItems (es := es) (ep := ep) hd ⟨o, ho, hx, hdat⟩ ?_
  have hf : H s.heap.objs.size = none := I.hok.fresh (Nat.le_refl _)
  exact ⟨.ref s.heap.objs.size, upd H s.heap.objs.size (itemsO s.heap.objs.size a), I.laid (t' := s.toks) (fun b u e => Heap.get?_push_of_some _ e) (Nat.le_refl _) (itemsO_ok (Heap.get?_push_size _ rfl)), rfl, q _ hf⟩
def rSortIK : List V → Hp → VK → Prop := fun vs H Q => ∃ (p a : Addr) (ks : List (Str × Addr)), vs = [.ref p] ∧ H p = some (itemsO p a) ∧ H a = some (.dK (ks.map entK)) ∧ ks.length < 64 ∧
  ∀ (H' : Hp) (l : Addr) (ps : List AK), (∀ b o, H b = some o → H' b = some o) → (ps.map (·.2)).Perm ks → H' l = some (.lst (ps.map fun z => V.ref z.1)) → (∀ z ∈ ps, H' z.1 = some (.tup [.str z.2.1, .ref z.2.2])) → Q (.ref l) H'
theorem pr_at : ∀ {kvs : List (Key × V)} {vs : List (Key × Value)} {es : List DictEntry} {w : World} {P : Program}, KV kvs vs → Pairs (mixKind P w) es vs → ∀ (j : Nat) (e : DictEntry), es[j]? = some e → ∃ kv, kvs[j]? = some kv ∧ keyIs kv.1 e.key = true ∧ RelV kv.2 e.val
  | _, _, _, _, _, .nil, .nil, j, e, h => by simp at h
  | _, _, _, _, _, .cons (a := p) r rs, .cons h1 h2 hs, 0, e, h => by
    simp only [List.getElem?_cons_zero] at h
    cases h
    refine ⟨p, rfl, ?_, ?_⟩
    · rw [r.1]; exact h1
    · rw [h2]; exact r.2
  | _, _, _, _, _, .cons r rs, .cons h1 h2 hs, j + 1, e, h => by
    simp only [List.getElem?_cons_succ] at h
    obtain ⟨kv, g1, g2⟩ := pr_at rs hs j e h
    exact ⟨kv, by rw [List.getElem?_cons_succ]; exact g1, g2⟩
theorem cr_sortIK (hc : X.calm = true) (hu : X.A.units + 64 < cLine) : CallR X (.builtin "sorted") rSortIK := by
  intro pins s σ H xs us Q I r h
  obtain ⟨p, a, ks, rfl, hp, ha, h64, q⟩ := h
  obtain rfl := Vals.ref1 r
  have view : s.heap.IsItemsView p a := (show ObjOk X.prog X.w H s.heap p (itemsO p a) from I.hok p _ hp).1
  obtain ⟨z, hd, vs', rel, o, es, ep, ho, hx, hdat, _, prs, ndv⟩ := dk_of I.hok ha
  have l1 : (ks.map entK).length = vs'.length := rel.length
  rw [List.length_map] at l1
  have l2 : es.size = vs'.length := by rw [← Array.length_toList]; exact prs.length
  have hh : X.A.handled = none := I.ok.hd hc
  have ndk : (ks.map (·.1)).Nodup := by
    rw [← rel.keys, List.map_map] at ndv
    have e : ks.map ((fun x : Key × V => x.1) ∘ entK) = (ks.map (·.1)).map Sum.inr := by rw [List.map_map]; rfl
    rw [e] at ndv
    exact nodup_of_map ndv
  refine DT.sortedI (es := es) (ep := ep) hh view ⟨o, ho, hx, hdat⟩ (by rw [sizeLine_eq]; omega) fun h' tk as hk hlt hl hG => ?_
  have lak : as.length = ks.length := by omega
  have nd : as.Nodup := List.Pairwise.imp (fun h => Nat.ne_of_lt h) hG.rise
  have pr : ∀ (j : Nat) (b : Addr), as[j]? = some b → ∃ (e : Str × Addr) (t : Tok), ks[j]? = some e ∧ h'.get? b = some { cls := .type "tuple", data := .seq #[Value.str e.1 t, Value.ref e.2] } := by
    intro j b hj
    obtain ⟨en, he, hg⟩ := hG.pairs j b hj
    rw [← Array.getElem?_toList] at he
    obtain ⟨kv, g1, g2, g3⟩ := pr_at rel prs j en he
    rw [List.getElem?_map] at g1
    cases hkj : ks[j]? with
    | none => rw [hkj] at g1; cases g1
    | some e =>
      rw [hkj] at g1
      obtain rfl : entK e = kv := Option.some.inj g1
      rcases keyIs_shape g2 with ⟨i, t, z, _⟩ | ⟨x, t, z, ek⟩
      · cases z
      · cases z
        have g3 : en.val = Value.ref e.2 := g3
        exact ⟨e, t, rfl, by rw [hg, ek, g3]⟩
  -- the heap of the sort
  obtain ⟨zs0, hzs0⟩ : ∃ zs0 : List AK, zs0 = as.zip ks := ⟨_, rfl⟩
  have ezs : (zs0.map fun z => Value.ref z.1) = as.map Value.ref := by
    have z : zs0.map (·.1) = as := by rw [hzs0]; exact List.map_fst_zip (by omega)
    rw [← z, List.map_map]
    rfl
  have esn : zs0.map (·.2) = ks := by rw [hzs0]; exact List.map_snd_zip (by omega)
  have idx0 : ∀ z ∈ zs0, ∃ j : Nat, as[j]? = some z.1 ∧ ks[j]? = some z.2 := fun z hz => by
    rw [hzs0] at hz
    obtain ⟨j, hj⟩ := List.mem_iff_getElem?.mp hz
    exact ⟨j, List.getElem?_zip_eq_some.mp hj⟩
  have isp : ∀ z ∈ zs0, IsPr h' z := fun z hz => by
    obtain ⟨j, j1, j2⟩ := idx0 z hz
    obtain ⟨e, t, g1, g2⟩ := pr j z.1 j1
    rw [j2] at g1
    cases g1
    exact ⟨_, t, 0, g2, rfl, rfl⟩
  rw [← ezs]
  have hob : (h'.push { cls := .type "list", data := .seq (zs0.map fun z => Value.ref z.1).toArray }).get? h'.objs.size = some (seqObj "list" (zs0.map fun z => Value.ref z.1).toArray 0) := Heap.get?_push_size _ rfl
  have kb : ∀ b o, s.heap.get? b = some o → (h'.push { cls := .type "list", data := .seq (zs0.map fun z => Value.ref z.1).toArray }).get? b = some o := fun b o e => Heap.get?_push_of_some _ (hk b o e)
  have ne0 : ∀ b o, h'.get? b = some o → b ≠ h'.objs.size := fun b o e => Nat.ne_of_lt (Heap.lt_size e)
  generalize hh2 : h'.push { cls := .type "list", data := .seq (zs0.map fun z => Value.ref z.1).toArray } = h2 at hob kb ⊢
  have ka : ∀ b o, h'.get? b = some o → h2.get? b = some o := fun b o e => by rw [← hh2]; exact Heap.get?_push_of_some _ e
  obtain ⟨k, hk0⟩ : ∃ k : Value → Str, k = fun v => ((zs0.find? fun z => z.1 == adr v).map (·.2.1)).getD Str.empty := ⟨_, rfl⟩
  have kp : ∀ z ∈ zs0, k (.ref z.1) = z.2.1 := fun z hz => by
    rw [hk0]
    show ((zs0.find? fun z' => z'.1 == z.1).map (·.2.1)).getD Str.empty = z.2.1
    cases e : zs0.find? fun z' => z'.1 == z.1 with
    | none =>
      have := List.find?_eq_none.mp e z hz
      simp at this
    | some z' =>
      have e1 : z'.1 = z.1 := by simpa using List.find?_some e
      have m' := isp z' (List.mem_of_find?_eq_some e)
      have m := isp z hz
      obtain ⟨a1, e2⟩ := z'
      obtain ⟨a2, e3⟩ := z
      dsimp only at e1
      subst e1
      rw [m'.one m]
      rfl
  have ndz : ∀ z ∈ zs0, ∀ z' ∈ zs0, z.2.1 = z'.2.1 → z = z' := fun z hz z' hz' e => by
    obtain ⟨j, j1, j2⟩ := idx0 z hz
    obtain ⟨i, i1, i2⟩ := idx0 z' hz'
    have a1 : (ks.map (·.1))[j]? = some z.2.1 := by rw [List.getElem?_map, j2]; rfl
    have a2 : (ks.map (·.1))[i]? = some z'.2.1 := by rw [List.getElem?_map, i2]; rfl
    have eij : j = i := (List.getElem?_inj (List.getElem?_eq_some_iff.mp a1).1 ndk).mp (by rw [a1, a2, e])
    subst eij
    rw [j1] at i1
    rw [j2] at i2
    exact Prod.ext (Option.some.inj i1) (Option.some.inj i2)
  have lz : (zs0.map fun z => Value.ref z.1).length = ks.length := by rw [ezs, List.length_map, lak]
  refine wpAny_call_entry PyProof.Rows.slot_list_sort ⟨_, hob, rfl⟩ PyProof.Rows.entry_list_sort
    (list_sort_ord (s := { s with heap := h2, toks := tk }) (ltv := fun v u => decide ((k v).cps.toList < (k u).cps.toList)) swo_str hob (by rw [sizeLine_eq]; omega) (fun h2' => sortable_pr (s := { s with heap := h2, toks := tk }) (zs := zs0) (k := k) (by rw [List.length_map] at h2'; exact h2') hob (fun z hz => ⟨?_, kp z hz⟩) ndz) fun out hs hb => ⟨.none, rfl, ?_⟩) (PyProof.Rows.args_list_sort _)
  · obtain ⟨o, t, n, g1, g2, g3⟩ := isp z hz
    exact ⟨o, t, n, ka _ _ g1, g2, g3⟩
  · show EP X pins σ Q (.ref h'.objs.size) { s with heap := sortedHeap h2 h'.objs.size (zs0.map fun z => Value.ref z.1) out.toArray, toks := tk }
    obtain ⟨zs, ez, pz⟩ := perm_up hb.perm
    have idx : ∀ z ∈ zs, ∃ j : Nat, as[j]? = some z.1 ∧ ks[j]? = some z.2 := fun z hz => idx0 z (pz.mem_iff.mp hz)
    have hperm : (zs.map (·.2)).Perm ks := by
      have e := pz.map (·.2)
      rw [esn] at e
      exact e
    have kF : ∀ b o, b ≠ h'.objs.size → h2.get? b = some o → (sortedHeap h2 h'.objs.size (zs0.map fun z => Value.ref z.1) out.toArray).get? b = some o := fun b o hb e => (PyProof.Rows.sortedHeap_old hb (Heap.lt_size e)).trans e
    have kS : ∀ b o, s.heap.get? b = some o → (sortedHeap h2 h'.objs.size (zs0.map fun z => Value.ref z.1) out.toArray).get? b = some o := fun b o e => kF b o (ne0 _ _ (hk b o e)) (kb b o e)
    obtain ⟨eF, heF⟩ := PyProof.Rows.sortedHeap_at (vs := zs0.map fun z => Value.ref z.1) (out := out.toArray) hob
    generalize sortedHeap h2 h'.objs.size (zs0.map fun z => Value.ref z.1) out.toArray = h3 at kF kS heF ⊢
    have I1 : Inv X pins σ H { s with heap := h3, toks := tk } := I.kept (t' := tk) kS
    have hn0 : H h'.objs.size = none := I.hok.fresh (Nat.le_of_lt hlt)
    have hlen : (zs.map fun z => V.ref z.1).length ≤ sizeLine := by
      have e := hperm.length_eq
      rw [List.length_map] at e
      rw [List.length_map, sizeLine_eq]
      omega
    have rv : Vals (zs.map fun z => V.ref z.1) out := by
      rw [← ez]
      exact vals_maps (fun z : AK => V.ref z.1) (fun z => Value.ref z.1) zs fun _ _ => rfl
    have I2 : Inv X pins σ (upd H h'.objs.size (.lst (zs.map fun z => V.ref z.1))) { s with heap := h3, toks := tk } :=
      I1.take (h' := h3) (t' := tk) (fun b ob _ e => e) (I.fpOk (Nat.le_of_lt hlt) hn0) ⟨hlen, out, eF, rv, heF⟩
    obtain ⟨H2, I3, g, qt⟩ := takeT (P := fun b vs => ∃ (j : Nat) (e : Str × Addr), as[j]? = some b ∧ ks[j]? = some e ∧ vs = [.str e.1, .ref e.2]) I as _ I2 nd fun b hb => by
      obtain ⟨j, hj⟩ := List.mem_iff_getElem?.mp hb
      obtain ⟨e, t, he, hg⟩ := pr j b hj
      have hbl : s.heap.objs.size ≤ b := Nat.le_of_lt (hG.above b hb)
      refine ⟨hbl, ?_, [.str e.1, .ref e.2], ⟨j, e, hj, he, rfl⟩, fun H3 => ⟨(by rw [sizeLine_eq]; show 2 ≤ 16777216; omega), [Value.str e.1 t, Value.ref e.2], .cons ⟨t, rfl⟩ (.cons rfl .nil), ⟨_, kF _ _ (ne0 _ _ hg) (ka _ _ hg), rfl, 0, rfl⟩⟩⟩
      rw [upd_ne (ne0 _ _ hg)]
      exact I.hok.fresh hbl
    have gr : ∀ b o, H b = some o → H2 b = some o := fun b o e => g b o (by rw [upd_ne (ne_of_none e hn0)]; exact e)
    refine ⟨.ref h'.objs.size, H2, I3, rfl, q H2 h'.objs.size zs gr hperm (g _ _ upd_same) fun z' hz' => ?_⟩
    obtain ⟨i, i1, i2⟩ := idx z' hz'
    obtain ⟨vs, ⟨j, e, j1, j2, ev⟩, hH⟩ := qt z'.1 (List.mem_of_getElem? i1)
    have eij : i = j := (List.getElem?_inj (List.getElem?_eq_some_iff.mp i1).1 nd).mp (i1.trans j1.symm)
    subst eij
    have ee : e = z'.2 := Option.some.inj (j2.symm.trans i2)
    rw [ev, ee] at hH
    exact hH
end
end NT
/-! min(a list of whole numbers, default=None) -/
namespace NT
open PySem PySem.Spec PyProof.Rows L2 PySem.W PySem.SeqAt
theorem dpa_ints {K : PySem.W.Frag} {H : Hp} : ∀ ns : List Int, DpAll K H (ns.map V.int) (ns.map .int)
  | [] => .nil
  | n :: ns => .cons (.int n) (dpa_ints ns)
theorem deep_ints : ∀ ns : List Int, PyData.depthAll (ns.map PyData.int) = 0
  | [] => rfl
  | n :: ns => by
    rw [List.map_cons]
    unfold PyData.depthAll
    rw [deep_ints ns]
    rfl
theorem foldl_min : ∀ (ns : List Int) (n : Int), ns.foldl min n ∈ n :: ns ∧ ∀ y ∈ n :: ns, ns.foldl min n ≤ y
  | [], n => ⟨List.mem_singleton.mpr rfl, fun y hy => by rw [List.mem_singleton.mp hy]; exact Int.le_refl _⟩
  | m :: ns, n => by
    obtain ⟨h1, h2⟩ := foldl_min ns (min n m)
    rw [List.foldl_cons]
    refine ⟨?_, fun y hy => ?_⟩
    · rcases List.mem_cons.mp h1 with e | h
      · rw [e]
        by_cases c : n ≤ m
        · rw [Int.min_eq_left c]; exact List.mem_cons_self
        · rw [Int.min_eq_right (by omega)]; exact List.mem_cons_of_mem _ List.mem_cons_self
      · exact List.mem_cons_of_mem _ (List.mem_cons_of_mem _ h)
    · have h0 := h2 _ List.mem_cons_self
      rcases List.mem_cons.mp hy with e | hy
      · rw [e]; exact Int.le_trans h0 (Int.min_le_left _ _)
      · rcases List.mem_cons.mp hy with e | hy
        · rw [e]; exact Int.le_trans h0 (Int.min_le_right _ _)
        · exact h2 y (List.mem_cons_of_mem _ hy)
def rMinN (K : PySem.W.Frag) : List V → List V → Hp → VK → Prop := fun vs zs H Q => ∃ (a : Addr) (ns : List Int), vs = [.ref a] ∧ zs = [.non] ∧ SqL K H a (ns.map V.int) ∧ (ns = [] → Q .non H) ∧ ∀ m, m ∈ ns → (∀ y ∈ ns, m ≤ y) → Q (.int m) H
theorem cr_minN {X : Cx} (hc : X.calm = true) (hu : X.A.units + 64 < cLine) : CallRK X (.builtin "min") [Str.ofString "default"] (rMinN X.K) := by
  intro pins s σ H vs zs us ws Q I r rz h
  obtain ⟨a, ns, rfl, rfl, hs, q0, q⟩ := h
  obtain rfl := Vals.ref1 r
  obtain ⟨w1, rfl, e1⟩ := vals1 rz
  obtain rfl : w1 = Value.none := e1
  obtain ⟨its, rv, hl, _⟩ := I.list hs
  obtain ⟨as, hr⟩ := Dp.readsAll I _ _ _ (dpa_ints ns) rv
  show wpAny _ _ (call (.builtin "min") [.ref a] [(Str.ofString "default", Value.none)]) _ _ _
  refine min_list_default (xs := ns.map .int) (I.ok.hd hc) hl.isList hr ⟨fun x hx y hy => ?_, fun x hx => ?_⟩ (by rw [deep_ints]; omega) (fun e h' tk hk => ?_) (fun y ys i v h' tk bs e hv hb hk => ?_)
  · obtain ⟨i, _, rfl⟩ := List.mem_map.mp hx
    obtain ⟨j, _, rfl⟩ := List.mem_map.mp hy
    rfl
  · obtain ⟨i, _, rfl⟩ := List.mem_map.mp hx
    exact fun z => nomatch z
  · exact ⟨.non, H, I.kept hk, rfl, q0 (List.map_eq_nil_iff.mp e)⟩
  · cases ns with
    | nil => cases e
    | cons n ns =>
      rw [List.map_cons] at e
      cases e
      rw [minD_ints] at hb
      cases hb
      obtain ⟨h1, h2⟩ := foldl_min ns n
      exact ⟨.int _, H, I.kept hk, ⟨_, rfl⟩, q _ h1 h2⟩
end NT
/-! max(a list of whole numbers, default=a whole number) -/
namespace NT
open PySem PySem.Spec PyProof.Rows L2 PySem.W PySem.SeqAt
theorem foldl_max : ∀ (ns : List Int) (n : Int), ns.foldl max n ∈ n :: ns ∧ ∀ y ∈ n :: ns, y ≤ ns.foldl max n
  | [], n => ⟨List.mem_singleton.mpr rfl, fun y hy => by rw [List.mem_singleton.mp hy]; exact Int.le_refl _⟩
  | m :: ns, n => by
    obtain ⟨h1, h2⟩ := foldl_max ns (max n m)
    rw [List.foldl_cons]
    refine ⟨?_, fun y hy => ?_⟩
    · rcases List.mem_cons.mp h1 with e | h
      · rw [e]
        by_cases c : n ≤ m
        · rw [Int.max_eq_right c]; exact List.mem_cons_of_mem _ List.mem_cons_self
        · rw [Int.max_eq_left (by omega)]; exact List.mem_cons_self
      · exact List.mem_cons_of_mem _ (List.mem_cons_of_mem _ h)
    · have h0 := h2 _ List.mem_cons_self
      rcases List.mem_cons.mp hy with e | hy
      · rw [e]; exact Int.le_trans (Int.le_max_left _ _) h0
      · rcases List.mem_cons.mp hy with e | hy
        · rw [e]; exact Int.le_trans (Int.le_max_right _ _) h0
        · exact h2 y (List.mem_cons_of_mem _ hy)
def rMaxN (K : PySem.W.Frag) : List V → List V → Hp → VK → Prop := fun vs zs H Q => ∃ (a : Addr) (ns : List Int) (d : Int), vs = [.ref a] ∧ zs = [.int d] ∧ SqL K H a (ns.map V.int) ∧ (ns = [] → Q (.int d) H) ∧ ∀ m, m ∈ ns → (∀ y ∈ ns, y ≤ m) → Q (.int m) H
theorem cr_maxN {X : Cx} (hc : X.calm = true) (hu : X.A.units + 64 < cLine) : CallRK X (.builtin "max") [Str.ofString "default"] (rMaxN X.K) := by
  intro pins s σ H vs zs us ws Q I r rz h
  obtain ⟨a, ns, d, rfl, rfl, hs, q0, q⟩ := h
  obtain rfl := Vals.ref1 r
  obtain ⟨w1, rfl, e1⟩ := vals1 rz
  obtain ⟨tk0, rfl⟩ : ∃ tk, w1 = Value.int d tk := e1
  obtain ⟨its, rv, hl, _⟩ := I.list hs
  obtain ⟨as, hr⟩ := Dp.readsAll I _ _ _ (dpa_ints ns) rv
  show wpAny _ _ (call (.builtin "max") [.ref a] [(Str.ofString "default", Value.int d tk0)]) _ _ _
  refine max_list_default (xs := ns.map .int) (I.ok.hd hc) hl.isList hr ⟨fun x hx y hy => ?_, fun x hx => ?_⟩ (by rw [deep_ints]; omega) (fun e h' tk hk => ?_) (fun y ys i v h' tk bs e hv hb hk => ?_)
  · obtain ⟨i, _, rfl⟩ := List.mem_map.mp hx
    obtain ⟨j, _, rfl⟩ := List.mem_map.mp hy
    rfl
  · obtain ⟨i, _, rfl⟩ := List.mem_map.mp hx
    exact fun z => nomatch z
  · exact ⟨.int d, H, I.kept hk, ⟨_, rfl⟩, q0 (List.map_eq_nil_iff.mp e)⟩
  · cases ns with
    | nil => cases e
    | cons n ns =>
      rw [List.map_cons] at e
      cases e
      rw [maxD_ints] at hb
      cases hb
      obtain ⟨h1, h2⟩ := foldl_max ns n
      exact ⟨.int _, H, I.kept hk, ⟨_, rfl⟩, q _ h1 h2⟩
end NT
namespace EV
open PySem L2
def topI (i : Nat) : Stmt := PySem.Challenge.pw_everpurse_k28_across_dry_rounds_and_pape.main.body.getD i (.Pass ⟨0, 0, 0, 0⟩)
/-! ### the defs -/
def d_is_whole : He.DefD := ⟨("is_whole", none), "is_whole", "is_whole", defArgs (topI 11), defBody (topI 11), defScope (topI 11), [], []⟩
def d_is_count : He.DefD := ⟨("is_count", none), "is_count", "is_count", defArgs (topI 12), defBody (topI 12), defScope (topI 12), [.non], []⟩
def d_check_count : He.DefD := ⟨("check_count", none), "check_count", "check_count", defArgs (topI 13), defBody (topI 13), defScope (topI 13), [.non], []⟩
def d_is_spelt : He.DefD := ⟨("is_spelt", none), "is_spelt", "is_spelt", defArgs (topI 14), defBody (topI 14), defScope (topI 14), [], []⟩
def d_is_effect : He.DefD := ⟨("is_effect", none), "is_effect", "is_effect", defArgs (topI 17), defBody (topI 17), defScope (topI 17), [], []⟩
def d_is_manner : He.DefD := ⟨("is_manner", none), "is_manner", "is_manner", defArgs (topI 18), defBody (topI 18), defScope (topI 18), [], []⟩
def d_are_rooms : He.DefD := ⟨("are_rooms", none), "are_rooms", "are_rooms", defArgs (topI 19), defBody (topI 19), defScope (topI 19), [], []⟩
def d_check_manual : He.DefD := ⟨("check_manual", none), "check_manual", "check_manual", defArgs (topI 21), defBody (topI 21), defScope (topI 21), [], []⟩
def d_is_book : He.DefD := ⟨("is_book", none), "is_book", "is_book", defArgs (topI 23), defBody (topI 23), defScope (topI 23), [], []⟩
def d_check_book : He.DefD := ⟨("check_book", none), "check_book", "check_book", defArgs (topI 24), defBody (topI 24), defScope (topI 24), [], []⟩
def d_coins_left : He.DefD := ⟨("coins_left", none), "coins_left", "coins_left", defArgs (topI 25), defBody (topI 25), defScope (topI 25), [], []⟩
def d_rests_behind_job : He.DefD := ⟨("rests_behind_job", none), "rests_behind_job", "rests_behind_job", defArgs (topI 26), defBody (topI 26), defScope (topI 26), [], []⟩
def d_rest_rows : He.DefD := ⟨("rest_rows", none), "rest_rows", "rest_rows", defArgs (topI 27), defBody (topI 27), defScope (topI 27), [], []⟩
def d_ends_in : He.DefD := ⟨("ends_in", none), "ends_in", "ends_in", defArgs (topI 28), defBody (topI 28), defScope (topI 28), [], []⟩
def d_paper_of : He.DefD := ⟨("paper_of", none), "paper_of", "paper_of", defArgs (topI 29), defBody (topI 29), defScope (topI 29), [], []⟩
def d_is_paper_row : He.DefD := ⟨("is_paper_row", none), "is_paper_row", "is_paper_row", defArgs (topI 30), defBody (topI 30), defScope (topI 30), [], []⟩
def d_is_paper : He.DefD := ⟨("is_paper", none), "is_paper", "is_paper", defArgs (topI 31), defBody (topI 31), defScope (topI 31), [], []⟩
def d_dry_at : He.DefD := ⟨("dry_at", none), "dry_at", "dry_at", defArgs (topI 32), defBody (topI 32), defScope (topI 32), [], []⟩
def d_is_endless : He.DefD := ⟨("is_endless", none), "is_endless", "is_endless", defArgs (topI 34), defBody (topI 34), defScope (topI 34), [], []⟩
def d_check_endless : He.DefD := ⟨("check_endless", none), "check_endless", "check_endless", defArgs (topI 35), defBody (topI 35), defScope (topI 35), [], []⟩
def d_row_behind_book : He.DefD := ⟨("row_behind_book", none), "row_behind_book", "row_behind_book", defArgs (topI 36), defBody (topI 36), defScope (topI 36), [], []⟩
def d_first_row : He.DefD := ⟨("first_row", none), "first_row", "first_row", defArgs (topI 37), defBody (topI 37), defScope (topI 37), [], []⟩
def d_dry_from : He.DefD := ⟨("dry_from", none), "dry_from", "dry_from", defArgs (topI 38), defBody (topI 38), defScope (topI 38), [], []⟩
def d_dry_round : He.DefD := ⟨("dry_round", none), "dry_round", "dry_round", defArgs (topI 39), defBody (topI 39), defScope (topI 39), [], []⟩
def d_with_ends : He.DefD := ⟨("with_ends", none), "with_ends", "with_ends", defArgs (topI 41), defBody (topI 41), defScope (topI 41), [], []⟩
def d_opened : He.DefD := ⟨("opened", none), "opened", "opened", defArgs (topI 42), defBody (topI 42), defScope (topI 42), [], []⟩
def d_left_of : He.DefD := ⟨("left_of", none), "left_of", "left_of", defArgs (topI 46), defBody (topI 46), defScope (topI 46), [], []⟩
def d_shown : He.DefD := ⟨("shown", none), "shown", "shown", defArgs (topI 48), defBody (topI 48), defScope (topI 48), [], []⟩
def d_check_purse : He.DefD := ⟨("check_purse", none), "check_purse", "check_purse", defArgs (topI 49), defBody (topI 49), defScope (topI 49), [], []⟩
def d_rests_of : He.DefD := ⟨("rests_of", none), "rests_of", "rests_of", defArgs (topI 50), defBody (topI 50), defScope (topI 50), [], []⟩
def d_law_purse : He.DefD := ⟨("_law_purse", none), "_law_purse", "_law_purse", defArgs (topI 52), defBody (topI 52), defScope (topI 52), [], []⟩
def d_law_mixed : He.DefD := ⟨("_law_mixed", none), "_law_mixed", "_law_mixed", defArgs (topI 53), defBody (topI 53), defScope (topI 53), [], []⟩
def d_law_draw : He.DefD := ⟨("_law_draw", none), "_law_draw", "_law_draw", defArgs (topI 54), defBody (topI 54), defScope (topI 54), [], []⟩
def d_law_purses : He.DefD := ⟨("_law_purses", none), "_law_purses", "_law_purses", defArgs (topI 55), defBody (topI 55), defScope (topI 55), [], []⟩
def d_law_one_of : He.DefD := ⟨("_law_one_of", none), "_law_one_of", "_law_one_of", defArgs (topI 56), defBody (topI 56), defScope (topI 56), [], []⟩
def d_law_word : He.DefD := ⟨("_law_word", none), "_law_word", "_law_word", defArgs (topI 57), defBody (topI 57), defScope (topI 57), [], []⟩
def d_law_words : He.DefD := ⟨("_law_words", none), "_law_words", "_law_words", defArgs (topI 58), defBody (topI 58), defScope (topI 58), [], []⟩
def d_law_effect : He.DefD := ⟨("_law_effect", none), "_law_effect", "_law_effect", defArgs (topI 59), defBody (topI 59), defScope (topI 59), [], []⟩
def d_law_manner : He.DefD := ⟨("_law_manner", none), "_law_manner", "_law_manner", defArgs (topI 60), defBody (topI 60), defScope (topI 60), [], []⟩
def d_law_some : He.DefD := ⟨("_law_some", none), "_law_some", "_law_some", defArgs (topI 61), defBody (topI 61), defScope (topI 61), [], []⟩
def d_law_world_of : He.DefD := ⟨("_law_world_of", none), "_law_world_of", "_law_world_of", defArgs (topI 62), defBody (topI 62), defScope (topI 62), [], []⟩
def d_law_world : He.DefD := ⟨("_law_world", none), "_law_world", "_law_world", defArgs (topI 63), defBody (topI 63), defScope (topI 63), [], []⟩
def d_law_manual : He.DefD := ⟨("_law_manual", none), "_law_manual", "_law_manual", defArgs (topI 64), defBody (topI 64), defScope (topI 64), [], []⟩
def d_law_jobs : He.DefD := ⟨("_law_jobs", none), "_law_jobs", "_law_jobs", defArgs (topI 65), defBody (topI 65), defScope (topI 65), [], []⟩
def d_law_book_of : He.DefD := ⟨("_law_book_of", none), "_law_book_of", "_law_book_of", defArgs (topI 66), defBody (topI 66), defScope (topI 66), [], []⟩
def d_law_some_endless : He.DefD := ⟨("_law_some_endless", none), "_law_some_endless", "_law_some_endless", defArgs (topI 67), defBody (topI 67), defScope (topI 67), [], []⟩
def d_law_any_world : He.DefD := ⟨("_law_any_world", none), "_law_any_world", "_law_any_world", defArgs (topI 68), defBody (topI 68), defScope (topI 68), [], []⟩
def d_law_right : He.DefD := ⟨("_law_right", none), "_law_right", "_law_right", defArgs (topI 69), defBody (topI 69), defScope (topI 69), [], []⟩
def d_law : He.DefD := ⟨("law", none), "law", "law", defArgs (topI 70), defBody (topI 70), defScope (topI 70), [], []⟩
def d_minit : He.DefD := ⟨("Manual", some "__init__"), "__init__", "Manual.__init__", defArgs (inClass (topI 20) 0), defBody (inClass (topI 20) 0), defScope (inClass (topI 20) 0), [], []⟩
def d_mmanners : He.DefD := ⟨("Manual", some "manners"), "manners", "Manual.manners", defArgs (inClass (topI 20) 1), defBody (inClass (topI 20) 1), defScope (inClass (topI 20) 1), [], []⟩
def d_mbeg : He.DefD := ⟨("Manual", some "beginnings"), "beginnings", "Manual.beginnings", defArgs (inClass (topI 20) 2), defBody (inClass (topI 20) 2), defScope (inClass (topI 20) 2), [], []⟩
def d_winit : He.DefD := ⟨("Walk", some "__init__"), "__init__", "Walk.__init__", defArgs (inClass (topI 47) 0), defBody (inClass (topI 47) 0), defScope (inClass (topI 47) 0), [], []⟩
def d_wstep : He.DefD := ⟨("Walk", some "step"), "step", "Walk.step", defArgs (inClass (topI 47) 1), defBody (inClass (topI 47) 1), defScope (inClass (topI 47) 1), [], []⟩
def d_wbook : He.DefD := ⟨("Walk", some "behind_book"), "behind_book", "Walk.behind_book", defArgs (inClass (topI 47) 4), defBody (inClass (topI 47) 4), defScope (inClass (topI 47) 4), [], []⟩
def fn : List He.DefD := ([d_is_whole, d_is_count, d_check_count, d_is_spelt, d_is_effect, d_is_manner, d_are_rooms, d_check_manual, d_is_book, d_check_book, d_coins_left, d_rests_behind_job, d_rest_rows, d_ends_in, d_paper_of, d_is_paper_row, d_is_paper, d_dry_at, d_is_endless, d_check_endless, d_row_behind_book, d_first_row, d_dry_from, d_dry_round, d_with_ends, d_opened, d_left_of, d_shown, d_check_purse, d_rests_of] : List He.DefD) ++ ([d_law_purse, d_law_mixed, d_law_draw, d_law_purses, d_law_one_of, d_law_word, d_law_words, d_law_effect, d_law_manner, d_law_some, d_law_world_of, d_law_world, d_law_manual, d_law_jobs, d_law_book_of, d_law_some_endless, d_law_any_world, d_law_right, d_law, d_minit, d_mmanners, d_mbeg, d_winit, d_wstep, d_wbook] : List He.DefD)
def fa : List He.Fa := ([.glo "is_whole", .glo "is_count", .glo "check_count", .glo "is_spelt", .glo "is_effect", .glo "is_manner", .glo "are_rooms", .glo "check_manual", .glo "is_book", .glo "check_book", .glo "coins_left", .glo "rests_behind_job", .glo "rest_rows", .glo "ends_in", .glo "paper_of", .glo "is_paper_row", .glo "is_paper", .glo "dry_at", .glo "is_endless", .glo "check_endless", .glo "row_behind_book", .glo "first_row", .glo "dry_from", .glo "dry_round", .glo "with_ends", .glo "opened", .glo "left_of", .glo "shown", .glo "check_purse", .glo "rests_of"] : List He.Fa) ++ ([.glo "_law_purse", .glo "_law_mixed", .glo "_law_draw", .glo "_law_purses", .glo "_law_one_of", .glo "_law_word", .glo "_law_words", .glo "_law_effect", .glo "_law_manner", .glo "_law_some", .glo "_law_world_of", .glo "_law_world", .glo "_law_manual", .glo "_law_jobs", .glo "_law_book_of", .glo "_law_some_endless", .glo "_law_any_world", .glo "_law_right", .glo "law", .glo "Manual", .glo "Walk", .free "all", .free "any", .free "bool", .free "dict", .free "enumerate", .free "int", .free "isinstance", .free "len", .free "list"] : List He.Fa) ++ ([.free "max", .free "min", .free "range", .free "repr", .free "set", .free "sorted", .free "str", .free "sum", .free "tuple", .int "MOST" 3, .str "LETTERS" "abcdefghijklmnopqrstuvwxyz", .int "NEVER" (-2), .int "SHORT" (-1), .cls "Manual", .noat "Manual" "rows", .noat "Manual" "firsts", .noat "Manual" "lasts", .noat "Manual" "rooms", .noat "Manual" "jobs", .meth "Manual" "manners", .meth "Manual" "beginnings", .mkr "Manual", .cls "Walk", .noat "Walk" "manual", .noat "Walk" "purse", .noat "Walk" "at", .noat "Walk" "first", .noat "Walk" "goals", .meth "Walk" "step", .meth "Walk" "behind_book"] : List He.Fa) ++ ([.mkr "Walk"] : List He.Fa)
def eqB (a b : Option Bool) : Bool := decide (a = b)
def tupNo (K : PySem.W.Frag) (a : Addr) : Bool := match K.lookup a with
  | some ⟨.type c, none, _, _⟩ => decide (c = "tuple")
  | _ => false
def noList (K : PySem.W.Frag) : Bool := K.all fun p => decide (p.2.cls ≠ .type "list")
def sysB (K : PySem.W.Frag) : Bool := match K.lookup sysModules with
  | some o => decide (o.cls = .type "dict")
  | none => false
def exB (K : PySem.W.Frag) : Bool := He.eqO (PySem.W.findIn K (.ref (He.ga K "Manual")) "__ne__") (some (some (.builtin "object.__ne__"))) && (eqB (PySem.W.subIn K (.ref (He.ga K "Manual")) (.type "object")) (some true) && (He.eqO (PySem.W.findIn K (.ref (He.ga K "Manual")) "__class__") (some (some (.builtin "object.__class__"))) && (He.eqO (PySem.W.specialIn K (.builtin "object.__class__") "__get__") (some (some (.builtin "getset_descriptor.__get__"))) && (eqB (PySem.W.takesIn K (.builtin "object.__class__")) (some true) && (eqB (PySem.W.mroIn K (He.ga K "Manual") (.type "object")) (some true) && (eqB (PySem.W.kitOne K (.ref (He.ga K "Manual")) (.ref (He.ga K "Manual"))) (some true) && (true && (true && (true && (noList K && (sysB K)))))))))))
def ts : List He.Tab := []
/-- the part of the heap that is looked at: the modules' dict besides -/
def fragS (g : Addr → Option Obj) : PySem.W.Frag := He.frT g (He.asD g 4 ++ [sysModules])
def obsS (g : Addr → Option Obj) : He.AlX := (He.obsT fa fn ts (fragS g), exB (fragS g))
abbrev hk : PySem.W.Hook where
  α := He.AlX
  obs := fun s => obsS s.heap.get?
  val := fun w => (He.valT fn ts w, true)
  says := fun w h => ∃ K : PySem.W.Frag, K.In h ∧ He.SaysX fa fn ts [] exB w h K
  of := fun _ _ e => ⟨_, He.frT_in, ⟨congrArg Prod.fst e, congrArg Prod.snd e, (fun _ z => nomatch z), (fun _ z => nomatch z), (fun _ z => nomatch z)⟩⟩
  keeps := fun _ _ _ ⟨K, hK, c⟩ k => ⟨K, PySem.W.Frag.In.keeps hK k, ⟨c.t, c.more, c.hd, c.out, (fun _ z => nomatch z)⟩⟩
def ob (s : PySem.W.SharedT) : He.AlX := obsS (HandSHeadRun.getT s)
theorem ob_eq (s : PySem.W.SharedT) : ob s = hk.obs s.abs := by
  have e : HandSHeadRun.getT s = s.abs.heap.get? := funext (HandSHeadRun.getT_eq s)
  unfold ob
  rw [e] <;> rfl
abbrev RowZ : PySem.W.OpenRow := PySem.W.OpenLaw.row PySem.Challenge.rw_everpurse_k28_across_dry_rounds_and_pape
def loose : List Str := (["PurseError", "InvalidBook", "InvalidManners", "InvalidRooms", "InvalidManual", "InvalidCount", "InvalidEndless", "Manual", "Walk", "LETTERS", "MOST", "NEVER", "SHORT", "is_whole", "is_count", "check_count", "is_spelt", "is_effect", "is_manner", "are_rooms", "check_manual", "is_book", "check_book", "coins_left", "rests_behind_job", "rest_rows", "ends_in", "paper_of", "is_paper_row", "is_paper"] : List Str) ++ (["dry_at", "is_endless", "check_endless", "row_behind_book", "first_row", "dry_from", "dry_round", "with_ends", "opened", "left_of", "shown", "check_purse", "rests_of", "_law_purse", "_law_mixed", "_law_draw", "_law_purses", "_law_one_of", "_law_word", "_law_words", "_law_effect", "_law_manner", "_law_some", "_law_world_of", "_law_world", "_law_manual", "_law_jobs", "_law_book_of", "_law_some_endless", "_law_any_world"] : List Str) ++ (["_law_right", "_wall"] : List Str)
end EV
namespace EV
theorem run_f (w : PySem.World) : HandSHeadRun.RunEq RowZ (PySem.W.view RowZ.prog [70]) hk ob 60000 loose (w.withFollow "special-get-raises" false) := by
  intro os
  kernel_rfl
theorem run_t (w : PySem.World) : HandSHeadRun.RunEq RowZ (PySem.W.view RowZ.prog [70]) hk ob 60000 loose (w.withFollow "special-get-raises" true) := by
  intro os
  kernel_rfl
theorem runH (w : PySem.World) : HandSHeadRun.RunEq RowZ (PySem.W.view RowZ.prog [70]) hk ob 60000 loose w :=
  PySem.W.byRow2 "special-get-raises" (P := fun w => HandSHeadRun.RunEq RowZ (PySem.W.view RowZ.prog [70]) hk ob 60000 loose w) run_f run_t w
end EV
namespace EV
open PySem L2
def top (i : Nat) : Stmt := PySem.Challenge.pw_everpurse_k28_across_dry_rounds_and_pape.main.body.getD i (.Pass ⟨0, 0, 0, 0⟩)
abbrev s_purse : Stmt := top 52
abbrev s_mixed : Stmt := top 53
abbrev s_draw : Stmt := top 54
abbrev s_purses : Stmt := top 55
abbrev s_one_of : Stmt := top 56
abbrev s_word : Stmt := top 57
abbrev FnP (K : PySem.W.Frag) (x : Str) (st : Stmt) (f : Addr) (fd : FuncData) : Prop := FunD K x x (defArgs st) (defBody st) (defScope st) [] [] f fd
/-- a power of great ints -/
def CPowX (i j : Int) : Prop := 0 ≤ j ∧ (Builtin.Int.intBits i : Int) * j ≤ 2 ^ 27
theorem op_powX {X : Cx} : OpR X (binaryOp .Pow) (rI CPowX fun i j => .int (i ^ j.toNat)) := opI fun _ _ _ _ _ _ _ hc q => PyProof.Rows.pow_int hc.1 hc.2 q
/-! ### the harness -/
section
variable {P : Program} {w : World} {K : PySem.W.Frag} {mg : Str → Option Value} {base : Heap} {f : Addr} {fd : FuncData}
theorem sc_mixed : FnScope ["seed", "turn", "at", "mixed"] ["seed", "turn", "at"] (defScope s_mixed) := ⟨rfl, rfl, rfl, by decide +kernel, rfl, by decide +kernel, by decide +kernel⟩
def sp_mixed : Sp := fun vs H Q _ => ∃ (a b c : Int), vs = [.int a, .int b, .int c] ∧ (-(2 ^ 40) < b ∧ b < 2 ^ 40) ∧ ∀ r : Int, 0 ≤ r → r < 2147483587 → Q (.int r) H
theorem ok_mixed (F : FnP K "_law_mixed" s_mixed f fd) (gI : mg "int" = none) : FnOk P w K mg base CX0 1 f fd ["seed", "turn", "at"] sp_mixed := by
  refine F.ok sc_mixed (fun vs H Q E h => ?_) (fun cdv A outer s H vs Q E hr h => ?_)
  · obtain ⟨a, b, c, rfl, _⟩ := h
    rfl
  · obtain ⟨a, b, c, rfl, hb, k⟩ := h
    refine ⟨_, PSs.nox (pss_cons (ps_set (i := 3) sc_mixed.nd rfl (Or.inl rfl) (pe_op op_add (pe_op op_mul (pv 0) pe_int) (pe_op op_mul (pe_op op_mul pe_int (pv 1)) (pv 1))))
      (pss_cons (ps_set (i := 3) sc_mixed.nd rfl (Or.inl rfl) (pe_op op_mod (pe_callTy call_int1 (by rfl) gI (by decide +kernel) (pa_cons (pe_op op_add (pe_op op_add (pv 3) (pe_op op_mul pe_int (pv 2))) (pv 1)) pa_nil)) pe_int))
      (pss_cons (ps_set (i := 3) sc_mixed.nd rfl (Or.inl rfl) (pe_op op_mod (pe_callTy call_int1 (by rfl) gI (by decide +kernel) (pa_cons (pe_op op_add (pe_op op_mul (pv 3) (pv 3)) pe_int) pa_nil)) pe_int))
      (pss_one (ps_ret (pe_op op_mod (pe_callTy call_int1 (by rfl) gI (by decide +kernel) (pa_cons (pe_op op_mul (pv 3) pe_int) pa_nil)) pe_int)))))), ?_⟩
    refine ⟨_, rfl, _, _, rfl, rfl, .inr ⟨by decide, by decide⟩, _, rfl, _, _, rfl, rfl, .inl ⟨by decide, by decide⟩, _, rfl, _, _, rfl, rfl, .inr ⟨by omega, by omega⟩, _, _, rfl, rfl, ?_⟩
    refine ⟨_, rfl, _, rfl, _, _, rfl, rfl, .inl ⟨by decide, by decide⟩, _, _, rfl, rfl, _, rfl, _, _, rfl, rfl, .inl ⟨_, rfl, _, _, rfl, rfl, (by show (0 : Int) < 2147483647; decide), ?_⟩⟩
    generalize hm : (a * 69069 + 104729 * b * b + 7919 * c + b) % 2147483647 = m
    have h0 : 0 ≤ m := by rw [← hm]; exact Int.emod_nonneg _ (by decide)
    have h1 : m < 2147483647 := by rw [← hm]; exact Int.emod_lt_of_pos _ (by decide)
    refine ⟨_, rfl, _, rfl, _, _, rfl, rfl, .inl ⟨by omega, by omega⟩, _, _, rfl, rfl, .inl ⟨_, rfl, _, _, rfl, rfl, (by show (0 : Int) < 2147483629; decide), ?_⟩⟩
    generalize hm2 : (m * m + 40503) % 2147483629 = m2
    have h2 : 0 ≤ m2 := by rw [← hm2]; exact Int.emod_nonneg _ (by decide)
    have h3 : m2 < 2147483629 := by rw [← hm2]; exact Int.emod_lt_of_pos _ (by decide)
    refine ⟨_, rfl, _, _, rfl, rfl, .inl ⟨by omega, by omega⟩, .inl ⟨_, rfl, _, _, rfl, rfl, (by show (0 : Int) < 2147483587; decide), ?_⟩⟩
    exact k _ (Int.emod_nonneg _ (by decide)) (Int.emod_lt_of_pos _ (by decide))
/-- a purse of draws -/
def PurseAt (H : Hp) (p : Addr) (a b c d : Int) : Prop := H p = some (.lst [.int a, .int b, .int c, .int d]) ∧ 0 ≤ a ∧ 0 ≤ b ∧ b < 2147483629 ∧ 0 ≤ c
theorem sc_draw : FnScope ["purse", "many", "drawn", "found", "piece"] ["purse", "many"] (defScope s_draw) := ⟨rfl, rfl, rfl, by decide +kernel, rfl, by decide +kernel, by decide +kernel⟩
def sp_draw : Sp := fun vs H Q _ => ∃ (p : Addr) (m a b c d : Int), vs = [.ref p, .int m] ∧ PurseAt H p a b c d ∧ c < 1000000000 ∧ 0 < m ∧ m < 134217728 ∧
  ∀ r a' c' : Int, 0 ≤ r → r < m → c' ≤ c + 1 → PurseAt (upd H p (.lst [.int a', .int b, .int c', .int d])) p a' b c' d → Q (.int r) (upd H p (.lst [.int a', .int b, .int c', .int d]))
theorem bits_small {m : Int} (h0 : 0 < m) (h : m < 134217728) : ((Builtin.Int.intBits m : Nat) : Int) / 28 = 0 := by
  have e : Builtin.Int.intBits m = m.natAbs.log2 + 1 := by
    unfold Builtin.Int.intBits
    rw [if_neg (by simp; omega)]
  have h1 : m.natAbs.log2 < 27 := (Nat.log2_lt (by omega)).mpr (by omega)
  rw [e]
  omega
theorem ok_draw (F : FnP K "_law_draw" s_draw f fd) (gI : mg "int" = none) (gR : mg "range" = none) {fM : Addr} {fdM : FuncData} (FM : FnP K "_law_mixed" s_mixed fM fdM) (gM : mg "_law_mixed" = some (.ref fM)) : FnOk P w K mg base CX0 2 f fd ["purse", "many"] sp_draw := by
  have GM : FnOk P w K mg base CX0 1 fM fdM ["seed", "turn", "at"] sp_mixed := ok_mixed FM gI
  have bM : Binds K fdM ["seed", "turn", "at"] [] := FM.bindsN fun _ _ _ _ _ _ us hl => match us, hl with | [_, _, _], _ => rfl
  refine F.ok sc_draw (fun vs H Q E h => ?_) (fun cdv A outer s H vs Q E hr h => ?_)
  · obtain ⟨p, m, a, b, c, d, rfl, _⟩ := h
    rfl
  · obtain ⟨p, m, a, b, c, d, rfl, ⟨hp, ha, hb, hb2, hc⟩, hc2, hm, hm2, k⟩ := h
    refine ⟨_, PSs.nox (pss_cons (ps_if (pt_cmpR op_gt (pe_ix ix_list (pv 0) pe_int (fun _ _ => rfl)) pe_int (nomark _))
        (pss_cons (ps_set (i := 2) sc_draw.nd rfl (Or.inl rfl) (pe_op op_mod (pe_callTy call_int1 (by rfl) gI (by decide +kernel) (pa_cons (pe_ix ix_list (pv 0) pe_int (fun _ _ => rfl)) pa_nil)) (pv 1)))
        (pss_cons (ps_asg (pe_op op_fdiv (pe_ix ix_list (pv 0) pe_int (fun _ _ => rfl)) (pv 1)) (pg_sub (pv 0) pe_int set_list))
        (pss_one (ps_ret (pv 2))))) pss_nil)
      (pss_cons (ps_set (i := 3) sc_draw.nd rfl (Or.inl rfl) pe_int)
      (pss_cons (ps_for PassesOwn.never rfl (pi_range1 rfl gR (pa_cons (pe_op op_add pe_int (pe_op op_fdiv (pe_bits (pv 1)) pe_int)) pa_nil)) (pg_name (i := 4) sc_draw.nd rfl (Or.inl rfl))
        (pss_cons (ps_asg (pe_op op_add (pe_ix ix_list (pv 0) pe_int (fun _ _ => rfl)) pe_int) (pg_sub (pv 0) pe_int set_list))
        (pss_one (ps_set (i := 3) sc_draw.nd rfl (Or.inl rfl) (pe_op op_add (pe_op op_mul (pv 3) pe_int)
          (pe_call GM hr rfl gM FM.kp bM .nil pass0 (pa_cons (pe_ix ix_list (pv 0) pe_int (fun _ _ => rfl)) (pa_cons (pe_ix ix_list (pv 0) pe_int (fun _ _ => rfl)) (pa_cons (pe_ix ix_list (pv 0) pe_int (fun _ _ => rfl)) pa_nil)))))))))
      (pss_one (ps_ret (pe_op op_mod (pe_callTy call_int1 (by rfl) gI (by decide +kernel) (pa_cons (pv 3) pa_nil)) (pv 1))))))), ?_⟩
    refine ⟨_, rfl, p, _, _, _, rfl, rfl, SqL.of hp, rfl, _, _, rfl, rfl, _, rfl, ?_⟩
    refine ite2 (fun hpos => ?_) (fun hneg => ?_)
    · have ha0 : 0 < a := of_decide_eq_true hpos
      refine ⟨_, rfl, p, _, _, _, rfl, rfl, SqL.of hp, rfl, .inl ⟨_, rfl, _, rfl, _, _, rfl, rfl, hm, ?_⟩⟩
      refine ⟨_, rfl, p, _, _, _, rfl, rfl, SqL.of hp, rfl, _, rfl, _, _, rfl, rfl, ⟨hm, by omega⟩, _, rfl, p, _, _, _, rfl, rfl, hp, rfl, ?_⟩
      refine ⟨_, rfl, ?_⟩
      refine k _ _ c (Int.emod_nonneg _ (by omega)) (Int.emod_lt_of_pos _ hm) (by omega) ⟨upd_same, Int.ediv_nonneg ha (by omega), hb, hb2, hc⟩
    · refine ⟨_, rfl, _, rfl, _, _, rfl, rfl, ⟨by decide, by decide⟩, _, _, rfl, rfl, _, rfl, (by rw [bits_small hm hm2]; decide), (by rw [bits_small hm hm2]; decide), ?_⟩
      rw [bits_small hm hm2]
      refine for_range (n := 1) (fun i σ H' => ∃ (v : Option V) (z : Int), σ = [some (.ref p), some (.int m), none, some (.int z), v] ∧ 0 ≤ z ∧ ((i = 0 ∧ H' = H) ∨ (i = 1 ∧ H' = upd H p (.lst [.int a, .int b, .int (c + 1), .int d]))))
        ⟨none, 0, rfl, Int.le_refl _, .inl ⟨rfl, rfl⟩⟩ ?_ ?_
      · rintro i σ H' hi ⟨v, z, rfl, hz, ⟨rfl, rfl⟩ | ⟨rfl, rfl⟩⟩
        · refine ⟨_, rfl, p, _, _, _, rfl, rfl, SqL.of hp, rfl, _, _, rfl, rfl, _, rfl, p, _, _, _, rfl, rfl, hp, rfl, ?_⟩
          refine ⟨_, rfl, _, _, rfl, rfl, .inr ⟨by decide, by decide⟩, _, rfl, p, _, _, _, rfl, rfl, SqL.of upd_same, rfl, _, rfl, p, _, _, _, rfl, rfl, SqL.of upd_same, rfl, _, rfl, p, _, _, _, rfl, rfl, SqL.of upd_same, rfl, ?_⟩
          refine ⟨_, _, _, rfl, ⟨by omega, by omega⟩, fun r hr0 hr1 => ?_⟩
          refine ⟨_, _, rfl, rfl, ?_⟩
          exact ⟨_, _, rfl, by omega, .inr ⟨rfl, rfl⟩⟩
        · omega
      · rintro σ H' ⟨v, z, rfl, hz, ⟨e, rfl⟩ | ⟨_, rfl⟩⟩
        · cases e
        · refine ⟨_, rfl, .inl ⟨_, rfl, _, rfl, _, _, rfl, rfl, hm, ?_⟩⟩
          exact k _ a (c + 1) (Int.emod_nonneg _ (by omega)) (Int.emod_lt_of_pos _ hm) (Int.le_refl _) ⟨upd_same, ha, hb, hb2, by omega⟩
/-- all but the object at p stands -/
def But (p : Addr) (H H' : Hp) : Prop := ∀ b o, H b = some o → b ≠ p → H' b = some o
theorem But.refl (p : Addr) (H : Hp) : But p H H := fun _ _ e _ => e
theorem But.trans {p : Addr} {H H1 H2 : Hp} (a : But p H H1) (b : But p H1 H2) : But p H H2 := fun x o e n => b x o (a x o e n) n
theorem But.put {p : Addr} {H : Hp} {o : HO} : But p H (upd H p o) := fun b u e n => by
  rw [upd_ne n]
  exact e
theorem But.new {p q : Addr} {H : Hp} {o : HO} (h : H q = none) : But p H (upd H q o) := fun b u e _ => by
  rw [upd_ne (ne_of_none e h)]
  exact e
theorem But.same {p : Addr} {H H' : Hp} (s : Same H H') : But p H H' := fun b o e _ => s b o e
/-- behind at most k draws -/
def Drew (p : Addr) (b d c k : Int) (H H' : Hp) : Prop := ∃ a' c', PurseAt H' p a' b c' d ∧ c' ≤ c + k ∧ But p H H'
/-- ahead of draws -/
def PurseIn (p : Addr) (b d c : Int) (H : Hp) : Prop := ∃ a, PurseAt H p a b c d
theorem PurseAt.upd_new {p q : Addr} {H : Hp} {o : HO} {a b c d : Int} (h : PurseAt H p a b c d) (hq : H q = none) : PurseAt (upd H q o) p a b c d := ⟨by rw [upd_ne (ne_of_none h.1 hq)]; exact h.1, h.2⟩
theorem sc_purse : FnScope ["script", "at", "seed"] ["script", "at"] (defScope s_purse) := ⟨rfl, rfl, rfl, by decide +kernel, rfl, by decide +kernel, by decide +kernel⟩
def sp_purse (K : PySem.W.Frag) : Sp := fun vs H Q _ => ∃ (s : Addr) (ns : List Int) (i : Int), vs = [.ref s, .int i] ∧ SqL K H s (ns.map V.int) ∧
  ∀ (p q : Addr) (o : HO) (a b : Int), H q = none → upd H q o p = none → PurseAt (upd (upd H q o) p (.lst [.int a, .int b, .int 0, .int i])) p a b 0 i → Q (.ref p) (upd (upd H q o) p (.lst [.int a, .int b, .int 0, .int i]))
theorem cutV_ints (ns : List Int) (lo hi : Option Int) : ∃ ms : List Int, cutV (ns.map V.int) lo hi = ms.map V.int := ⟨(ns.drop (HT.sIx (ns.map V.int).length 0 lo)).take (HT.sIx (ns.map V.int).length (ns.map V.int).length hi - HT.sIx (ns.map V.int).length 0 lo), by
  unfold cutV
  rw [List.map_take, List.map_drop]⟩
theorem bits60 : CPowX (10 ^ 60) 8 := ⟨by decide, by decide +kernel⟩
theorem ok_purse (F : FnP K "_law_purse" s_purse f fd) (gI : mg "int" = none) (gS : mg "sum" = none) (gM : mg "max" = none) : FnOk P w K mg base CX0 1 f fd ["script", "at"] (sp_purse K) := by
  refine F.ok sc_purse (fun vs H Q E h => ?_) (fun cdv A outer s H vs Q E hr h => ?_)
  · obtain ⟨s, ns, i, rfl, _⟩ := h
    rfl
  · obtain ⟨sa, ns, i, rfl, hs, k⟩ := h
    refine ⟨_, PSs.nox (pss_cons (ps_set (i := 2) sc_purse.nd rfl (Or.inl rfl) (pe_callB (cr_sum rfl) (by rfl) gS (by decide +kernel) (pa_cons (pe_slice sl_list (pv 0) (po_some (pv 1)) (po_some (pe_op op_add (pv 1) pe_int))) pa_nil)))
      (pss_one (ps_ret (pe_lst (pa_cons (pe_op op_mod (pe_callTy call_int1 (by rfl) gI (by decide +kernel) (pa_cons (pe_callB (call_max2 rfl) (by rfl) gM (by decide +kernel) (pa_cons (pe_op op_sub (pv 2) (pe_op op_pow pe_int pe_int)) (pa_cons pe_int pa_nil))) pa_nil)) (pe_op op_powX (pe_op op_pow pe_int pe_int) pe_int))
        (pa_cons (pe_op op_mod (pe_callTy call_int1 (by rfl) gI (by decide +kernel) (pa_cons (pv 2) pa_nil)) pe_int) (pa_cons pe_int (pa_cons (pv 1) pa_nil)))))))), ?_⟩
    refine ⟨_, rfl, _, rfl, _, rfl, _, rfl, _, _, rfl, rfl, _, rfl, sa, _, rfl, hs, fun q hq => ?_⟩
    obtain ⟨ms, em⟩ := cutV_ints ns (some i) (some (i + 1))
    rw [em]
    refine ⟨q, ms, rfl, SqL.of upd_same, ?_⟩
    refine ⟨_, rfl, _, _, rfl, rfl, ⟨by decide, by decide, by decide⟩, _, _, rfl, rfl, _, _, rfl, .inl ⟨_, rfl, _, _, rfl, rfl, ⟨by decide, by decide, by decide⟩, _, _, rfl, rfl, bits60, _, _, rfl, rfl, ?_, ?_⟩⟩
    · show (0 : Int) < (10 ^ (60 : Int).toNat) ^ (8 : Int).toNat
      decide +kernel
    · refine ⟨_, rfl, .inl ⟨_, rfl, _, _, rfl, rfl, (by show (0 : Int) < 2147483629; decide), _, rfl, (by show 4 ≤ sizeLine; decide), fun p hp => ?_⟩⟩
      exact k p q _ _ _ hq hp ⟨upd_same, Int.emod_nonneg _ (by decide +kernel), Int.emod_nonneg _ (by decide), Int.emod_lt_of_pos _ (by decide), Int.le_refl _⟩
theorem sc_purses : FnScope ["script", "few", "at"] ["script", "few"] (defScope s_purses) := ⟨rfl, rfl, rfl, by decide +kernel, rfl, by decide +kernel, by decide +kernel⟩
/-- a row of purses, apart -/
def PursesAt (H : Hp) (ps : List Addr) : Prop := ps.Nodup ∧ ∀ p ∈ ps, ∃ a b c d, PurseAt H p a b c d ∧ c = 0
def sp_purses (K : PySem.W.Frag) : Sp := fun vs H Q _ => ∃ (s : Addr) (ns : List Int) (m : Int), vs = [.ref s, .int m] ∧ SqL K H s (ns.map V.int) ∧ ns.length ≤ 63 ∧ m ≤ 10 ∧
  ∀ (ps : List Addr) (l : Addr) (H' : Hp), ps.length ≤ 10 → PursesAt H' ps → (∀ p ∈ ps, H p = none) → l ∉ ps → H l = none → Same H H' → H' l = some (.lst (ps.map V.ref)) → Q (.ref l) H'
theorem ok_purses (F : FnP K "_law_purses" s_purses f fd) (gR : mg "range" = none) (gI : mg "int" = none) (gS : mg "sum" = none) (gM : mg "max" = none) (gN : mg "min" = none) (gL : mg "len" = none) {fM : Addr} {fdM : FuncData} (FM : FnP K "_law_purse" s_purse fM fdM) (gP : mg "_law_purse" = some (.ref fM)) :
    FnOk P w K mg base CX0 2 f fd ["script", "few"] (sp_purses K) := by
  have GM : FnOk P w K mg base CX0 1 fM fdM ["script", "at"] (sp_purse K) := ok_purse FM gI gS gM
  have bM : Binds K fdM ["script", "at"] [] := FM.bindsN fun _ _ _ _ _ _ us hl => match us, hl with | [_, _], _ => rfl
  refine F.ok sc_purses (fun vs H Q E h => ?_) (fun cdv A outer s H vs Q E hr h => ?_)
  · obtain ⟨s, ns, i, rfl, _⟩ := h
    rfl
  · obtain ⟨sa, ns, m, rfl, hs, hlen, hm, k⟩ := h
    refine ⟨_, PSs.nox (pss_one (ps_ret (pe_lc (own := [("at", 2)]) (g := gName 2) (tt := tYes) rfl sc_purses.nd
      (pi_range1 rfl gR (pa_cons (pe_callB (call_max2 rfl) (by rfl) gM (by decide +kernel) (pa_cons pe_int (pa_cons (pe_callB (call_min2 rfl) (by rfl) gN (by decide +kernel) (pa_cons (pv 1) (pa_cons (pe_callB call_len (by rfl) gL (by decide +kernel) (pa_cons (pv 0) pa_nil)) pa_nil))) pa_nil))) pa_nil))
      (blkOk_by (N := ["script", "few", "at"]) (sc := defScope s_purses) (by decide +kernel)) (fun _ _ _ _ _ => pg_name (i := 2) sc_purses.nd rfl (Or.inl rfl)) (fun _ _ _ _ _ => pts_nil)
      (fun _ _ _ _ _ => pe_call GM hr rfl gP FM.kp bM .nil pass0 (pa_cons (pv 0) (pa_cons (pv 2) pa_nil)))))), ?_⟩
    have e63 : (ns.map V.int).length ≤ 63 := by rw [List.length_map]; exact hlen
    generalize hn : ((ns.map V.int).length : Nat) = n at e63
    refine ⟨_, rfl, _, rfl, _, n, rfl, .inl ⟨_, hs, hn.symm⟩, _, _, rfl, _, _, rfl, _, rfl, ?_⟩
    generalize hj : (if (if (n : Int) < m then (n : Int) else m) > 1 then (if (n : Int) < m then (n : Int) else m) else 1) = j
    have hj1 : 1 ≤ j ∧ j ≤ 10 := by
      rw [← hj]
      split <;> split <;> omega
    refine ⟨by omega, by omega, fun D hD => ?_⟩
    refine lc_range (n := j.toNat) (fun i H' => ∃ ps : List Addr, ps.length = i ∧ PursesAt H' ps ∧ (∀ p ∈ ps, H p = none) ∧ D ∉ ps ∧ Same H H' ∧ H' D = some (.lst (ps.map V.ref)))
      ⟨[], rfl, ⟨List.nodup_nil, by simp⟩, by simp, by simp, fun b o e => by rw [upd_ne (ne_of_none e hD)]; exact e, upd_same⟩ ?_ ?_
    · rintro i H' hi ⟨ps, hl, hP, hf, hD2, hS, hd⟩
      refine ⟨rfl, ?_⟩
      refine ⟨_, rfl, _, rfl, sa, ns, _, rfl, hS.seq hs, fun p q o a b hq hp PA => ?_⟩
      have hp' : H' p = none := by
        by_cases e : p = q
        · rw [e]; exact hq
        · rw [upd_ne e] at hp; exact hp
      have hqD : D ≠ q := fun e => by rw [← e, hd] at hq; cases hq
      have hpD : D ≠ p := fun e => by rw [← e, hd] at hp'; cases hp'
      have hpin : p ∉ ps := fun e => by
        obtain ⟨a, b, c, d, h1, _⟩ := hP.2 p e
        rw [h1.1] at hp'; cases hp'
      refine ⟨ps.map V.ref, by rw [upd_ne hpD, upd_ne hqD]; exact hd, by rw [List.length_map, hl]; exact Nat.lt_of_lt_of_le hi (by rw [PySem.sizeLine_eq]; omega), ps ++ [p], by rw [List.length_append, hl]; rfl, ⟨?_, ?_⟩, ?_, ?_, ?_, ?_⟩
      · rw [List.nodup_append]
        exact ⟨hP.1, by simp, fun x hx y hy e => hpin (by rw [List.mem_singleton] at hy; rw [← hy, ← e]; exact hx)⟩
      · intro x hx
        rcases List.mem_append.mp hx with hx | hx
        · obtain ⟨a, b, c, d, h1, h2⟩ := hP.2 x hx
          have xp : x ≠ p := fun e => hpin (e ▸ hx)
          have xq : x ≠ q := fun e => by rw [e] at h1; have z := h1.1; rw [hq] at z; cases z
          have xD : x ≠ D := fun e => hD2 (e ▸ hx)
          exact ⟨a, b, c, d, ⟨by rw [upd_ne xD, upd_ne xp, upd_ne xq]; exact h1.1, h1.2⟩, h2⟩
        · rw [List.mem_singleton] at hx
          subst hx
          exact ⟨_, _, _, _, ⟨by rw [upd_ne hpD.symm]; exact PA.1, PA.2⟩, rfl⟩
      · intro x hx
        rcases List.mem_append.mp hx with hx | hx
        · exact hf x hx
        · rw [List.mem_singleton] at hx
          subst hx
          exact hS.free hp'
      · intro e
        rcases List.mem_append.mp e with e | e
        · exact hD2 e
        · rw [List.mem_singleton] at e
          exact hpD e
      · intro b u e
        have bD : b ≠ D := fun z => by rw [z, hD] at e; cases e
        rw [upd_ne bD, upd_ne (ne_of_none (hS b u e) hp'), upd_ne (ne_of_none (hS b u e) hq)]
        exact hS b u e
      · rw [upd_same, List.map_append]
        rfl
    · rintro H' ⟨ps, hl, hP, hf, hD2, hS, hd⟩
      exact k ps D H' (by omega) hP hf hD2 hD hS hd
theorem sc_one_of : FnScope ["purse", "some"] ["purse", "some"] (defScope s_one_of) := ⟨rfl, rfl, rfl, by decide +kernel, rfl, by decide +kernel, by decide +kernel⟩
def sp_one_of (K : PySem.W.Frag) : Sp := fun vs H Q _ => ∃ (p l : Addr) (xs : List V) (a b c d : Int), vs = [.ref p, .ref l] ∧ PurseAt H p a b c d ∧ c < 1000000000 ∧ SqL K H l xs ∧ l ≠ p ∧ 0 < xs.length ∧ xs.length < 1000000 ∧
  ∀ x H', x ∈ xs → Drew p b d c 1 H H' → Q x H'
theorem But.seq {K : PySem.W.Frag} {p l : Addr} {H H' : Hp} {xs : List V} (B : But p H H') (h : SqL K H l xs) (n : l ≠ p) : SqL K H' l xs := by
  rcases h with (h | ⟨o, h⟩) | h
  · exact .inl (.inl (B _ _ h n))
  · exact .inl (.inr ⟨o, B _ _ h n⟩)
  · exact .inr h
theorem ok_one_of (F : FnP K "_law_one_of" s_one_of f fd) (gL : mg "len" = none) {fD : Addr} {fdD : FuncData} (GD : FnOk P w K mg base CX0 2 fD fdD ["purse", "many"] sp_draw) (kD : PySem.W.keepIn K (.ref fD) = true) (bD : Binds K fdD ["purse", "many"] []) (gD : mg "_law_draw" = some (.ref fD)) :
    FnOk P w K mg base CX0 3 f fd ["purse", "some"] (sp_one_of K) := by
  refine F.ok sc_one_of (fun vs H Q E h => ?_) (fun cdv A outer s H vs Q E hr h => ?_)
  · obtain ⟨p, l, xs, a, b, c, d, rfl, _⟩ := h
    rfl
  · obtain ⟨p, l, xs, a, b, c, d, rfl, hp, hc, hl, hne, h0, h1, k⟩ := h
    refine ⟨_, PSs.nox (pss_one (ps_ret (pe_ix ix_list (pv 1) (pe_call GD hr rfl gD kD bD .nil pass0 (pa_cons (pv 0) (pa_cons (pe_callB call_len (by rfl) gL (by decide +kernel) (pa_cons (pv 1) pa_nil)) pa_nil))) (fun _ _ => rfl)))), ?_⟩
    refine ⟨_, rfl, _, rfl, _, rfl, _, xs.length, rfl, .inl ⟨_, hl, rfl⟩, p, _, a, b, c, d, rfl, hp, hc, by omega, by omega, fun r a' c' r0 r1 hc' PA => ?_⟩
    have hr' : r.toNat < xs.length := by omega
    have er : r = ((r.toNat : Nat) : Int) := by omega
    refine ⟨l, xs, r, xs[r.toNat], rfl, rfl, But.seq But.put hl hne, ?_, ?_⟩
    · have e := atI_nat (xs := xs) (j := r.toNat) (v := xs[r.toNat]) (by simp [List.getElem?_eq_getElem hr'])
      rw [← er] at e
      exact e
    · exact k _ _ (List.getElem_mem _) ⟨a', c', PA, hc', But.put⟩
theorem sc_word : FnScope ["purse", "size", "turn"] ["purse"] (defScope s_word) := ⟨rfl, rfl, rfl, by decide +kernel, rfl, by decide +kernel, by decide +kernel⟩
/-- a word -/
def IsWord (x : Str) : Prop := 1 ≤ x.length ∧ x.length ≤ 8 ∧ ∀ c ∈ x.cps.toList, 97 ≤ c ∧ c ≤ 122
def sp_word : Sp := fun vs H Q _ => ∃ (p : Addr) (a b c d : Int), vs = [.ref p] ∧ PurseAt H p a b c d ∧ c < 900000000 ∧ ∀ (x : Str) H', IsWord x → Drew p b d c 10 H H' → Q (.str x) H'
theorem letters (r : Int) (h0 : 0 ≤ r) (h1 : r < 26) : ("abcdefghijklmnopqrstuvwxyz" : Str).cps[r.toNat]? = some (97 + r.toNat) := by
  have : ∀ n : Nat, n < 26 → ("abcdefghijklmnopqrstuvwxyz" : Str).cps[n]? = some (97 + n) := by decide +kernel
  exact this _ (by omega)
theorem join0 (ys : List Str) : (Txt.join (Str.ofString "") ys).cps.toList = ys.flatMap fun y => y.cps.toList := by
  have e : Txt.join (Str.ofString "") ys = Str.join (Str.ofString "") ys := PySem.StrLaws.glued_eq_join _ _
  rw [e]
  clear e
  have e0 : (Str.ofString "").cps = #[] := by decide +kernel
  induction ys with
  | nil => rfl
  | cons x r ih =>
    cases r with
    | nil => simp [Str.join]
    | cons y r =>
      have e1 : Str.join (Str.ofString "") (x :: y :: r) = x ++ Str.ofString "" ++ Str.join (Str.ofString "") (y :: r) := rfl
      rw [e1, PySem.Str.cps_append, PySem.Str.cps_append, e0]
      simp only [Array.append_empty, Array.toList_append, ih, List.flatMap_cons]
theorem word_of_letters (ys : List Str) (hy : ∀ y ∈ ys, ∃ n : Nat, 97 ≤ n ∧ n ≤ 122 ∧ y = ⟨#[n]⟩) : (Txt.join (Str.ofString "") ys).length = ys.length ∧ ∀ c ∈ (Txt.join (Str.ofString "") ys).cps.toList, 97 ≤ c ∧ c ≤ 122 := by
  have e : (Txt.join (Str.ofString "") ys).length = (Txt.join (Str.ofString "") ys).cps.toList.length := by simp [Str.length]
  rw [e, join0]
  clear e
  induction ys with
  | nil => exact ⟨rfl, by simp⟩
  | cons y r ih =>
    obtain ⟨n, h1, h2, rfl⟩ := hy y List.mem_cons_self
    obtain ⟨i1, i2⟩ := ih fun z hz => hy z (List.mem_cons_of_mem _ hz)
    rw [List.flatMap_cons]
    refine ⟨by rw [List.length_append, i1, List.length_cons]; simp; omega, fun c hc => ?_⟩
    rcases List.mem_append.mp hc with hc | hc
    · simp at hc
      omega
    · exact i2 c hc
theorem ok_word (F : FnP K "_law_word" s_word f fd) (gR : mg "range" = none) {fD : Addr} {fdD : FuncData} (GD : FnOk P w K mg base CX0 2 fD fdD ["purse", "many"] sp_draw) (kD : PySem.W.keepIn K (.ref fD) = true) (bD : Binds K fdD ["purse", "many"] []) (gD : mg "_law_draw" = some (.ref fD)) :
    FnOk P w K mg base CX0 3 f fd ["purse"] sp_word := by
  refine F.ok sc_word (fun vs H Q E h => ?_) (fun cdv A outer s H vs Q E hr h => ?_)
  · obtain ⟨p, a, b, c, d, rfl, _⟩ := h
    rfl
  · obtain ⟨p, a, b, c, d, rfl, hp, hc, k⟩ := h
    refine ⟨_, PSs.nox (pss_cons (ps_set (i := 1) sc_word.nd rfl (Or.inl rfl) (pe_op op_add pe_int (pe_call GD hr rfl gD kD bD .nil pass0 (pa_cons (pv 0) (pa_cons (pe_ifExp (pt_cmpR op_eq (pe_call GD hr rfl gD kD bD .nil pass0 (pa_cons (pv 0) (pa_cons pe_int pa_nil))) pe_int (nomark _)) pe_int pe_int) pa_nil)))))
      (pss_one (ps_ret (pe_join pe_str (pe_lc (own := [("turn", 2)]) (g := gName 2) (tt := tYes) rfl sc_word.nd (pi_range1 rfl gR (pa_cons (pv 1) pa_nil))
        (blkOk_by (N := ["purse", "size", "turn"]) (sc := defScope s_word) (by decide +kernel)) (fun _ _ _ _ _ => pg_name (i := 2) sc_word.nd rfl (Or.inl rfl)) (fun _ _ _ _ _ => pts_nil)
        (fun _ _ _ _ _ => pe_item_str pe_str (pe_call GD hr rfl gD kD bD .nil pass0 (pa_cons (pv 0) (pa_cons pe_int pa_nil))) (fun _ _ => rfl))))))), ?_⟩
    refine ⟨_, rfl, _, rfl, p, 3, a, b, c, d, rfl, hp, by omega, by decide, by decide, fun r a1 c1 r0 r1 hc1 P1 => ?_⟩
    refine ⟨rfl, _, rfl, ?_⟩
    refine ite2 (fun _ => ?_) (fun _ => ?_)
    all_goals
      refine ⟨p, _, a1, b, c1, d, rfl, P1, by omega, by decide, by decide, fun r2 a2 c2 r20 r21 hc2 P2 => ?_⟩
      refine ⟨_, _, rfl, rfl, ?_⟩
      have B2 : But p H (upd (upd H p (.lst [.int a1, .int b, .int c1, .int d])) p (.lst [.int a2, .int b, .int c2, .int d])) := But.trans But.put But.put
      generalize hH2 : upd (upd H p (.lst [.int a1, .int b, .int c1, .int d])) p (.lst [.int a2, .int b, .int c2, .int d]) = H2 at P2 B2
      refine ⟨⟨_, rfl⟩, _, rfl, _, rfl, by omega, by omega, fun D hD => ?_⟩
      have hDp : D ≠ p := fun e => by rw [e, P2.1] at hD; cases hD
      refine lc_range (n := (1 + r2).toNat) (fun i H' => ∃ (ys : List Str) (a3 c3 : Int), ys.length = i ∧ (∀ y ∈ ys, ∃ n : Nat, 97 ≤ n ∧ n ≤ 122 ∧ y = ⟨#[n]⟩) ∧ PurseAt H' p a3 b c3 d ∧ c3 ≤ c2 + i ∧ But p H H' ∧ H' D = some (.lst (ys.map V.str)))
        ⟨[], a2, c2, rfl, by simp, P2.upd_new hD, by omega, But.trans B2 (But.new hD), upd_same⟩ ?_ ?_
      · rintro i H' hi ⟨ys, a3, c3, hl, hy, P3, hc3, B3, hd⟩
        refine ⟨rfl, ?_⟩
        refine ⟨_, rfl, p, 26, a3, b, c3, d, rfl, P3, by omega, by decide, by decide, fun r4 a4 c4 r40 r41 hc4 P4 => ?_⟩
        refine ⟨_, _, _, rfl, rfl, r40, by omega, ?_, letters r4 r40 r41, ?_⟩
        · have : ("abcdefghijklmnopqrstuvwxyz" : Str).length = 26 := by decide +kernel
          rw [this]
          exact r41
        · have e1 : ∀ o, upd H' p o D = H' D := fun o => upd_ne hDp
          refine ⟨ys.map V.str, by rw [e1]; exact hd, by rw [List.length_map, hl]; exact Nat.lt_of_lt_of_le hi (by rw [PySem.sizeLine_eq]; omega), ys ++ [⟨#[97 + r4.toNat]⟩], a4, c4, by rw [List.length_append, hl]; rfl, ?_, ⟨by rw [upd_ne hDp.symm]; exact P4.1, P4.2⟩, by omega, ?_, ?_⟩
          · intro y hy2
            rcases List.mem_append.mp hy2 with h | h
            · exact hy y h
            · rw [List.mem_singleton] at h
              exact ⟨97 + r4.toNat, by omega, by omega, h⟩
          · intro x o e n
            have xD : x ≠ D := fun z => by
              have := B2 x o e n
              rw [z, hD] at this
              cases this
            rw [upd_ne xD, upd_ne n]
            exact B3 x o e n
          · rw [upd_same, List.map_append]
            rfl
      · rintro H' ⟨ys, a3, c3, hl, hy, P3, hc3, B3, hd⟩
        have h9 : ys.length ≤ 8 := by omega
        have h1 : 1 ≤ ys.length := by omega
        have hall : ∀ y ∈ ys, y.length = 1 := fun y h => by
          obtain ⟨n, _, _, rfl⟩ := hy y h
          rfl
        have hsum : (ys.map (·.length)).sum = ys.length := by
          clear hl hd h9 h1 hy
          induction ys with
          | nil => rfl
          | cons y ys ih =>
            rw [List.map_cons, List.sum_cons, hall y List.mem_cons_self, ih fun z hz => hall z (List.mem_cons_of_mem _ hz), List.length_cons]
            omega
        obtain ⟨hlen, hch⟩ := word_of_letters ys hy
        refine ⟨_, D, ys, rfl, rfl, .inl (SqL.of hd), ?_, ?_⟩
        · rw [hsum]
          have : ((Str.ofString "") : Str).length = 0 := by decide +kernel
          rw [this]
          omega
        · exact k _ H' ⟨by rw [hlen]; exact h1, by rw [hlen]; exact h9, hch⟩ ⟨a3, c3, P3, by omega, B3⟩
end
end EV
namespace EV
open PySem L2 NT SX
abbrev s_words : Stmt := top 58
abbrev s_effect : Stmt := top 59
abbrev s_manner : Stmt := top 60
/-- a purse behind at most k draws -/
def Pu (H : Hp) (p : Addr) (k : Nat) : Prop := ∃ a b c d, PurseAt H p a b c d ∧ c ≤ k
theorem Pu.mono {H : Hp} {p : Addr} {k l : Nat} (h : Pu H p k) (le : k ≤ l) : Pu H p l := by
  obtain ⟨a, b, c, d, q, hc⟩ := h
  exact ⟨a, b, c, d, q, by omega⟩
theorem Pu.same {H H' : Hp} {p : Addr} {k : Nat} (h : Pu H p k) (s : Same H H') : Pu H' p k := by
  obtain ⟨a, b, c, d, q, hc⟩ := h
  exact ⟨a, b, c, d, ⟨s _ _ q.1, q.2⟩, hc⟩
theorem Pu.some {H : Hp} {p : Addr} {k : Nat} (h : Pu H p k) : ∃ xs, H p = some (.lst xs) ∧ xs.length = 4 := by
  obtain ⟨a, b, c, d, q, _⟩ := h
  exact ⟨_, q.1, rfl⟩
theorem But.free {H H' : Hp} {p q : Addr} {k : Nat} (B : But p H H') (P : Pu H' p k) (h : H' q = none) : H q = none := by
  cases e : H q with
  | none => rfl
  | some o =>
    obtain ⟨xs, hp, _⟩ := P.some
    by_cases z : q = p
    · rw [z, hp] at h
      cases h
    · rw [B q o e z] at h
      cases h
theorem But.step {H H' H'' : Hp} {p : Addr} (B : But p H H') (s : Same H' H'') : But p H H'' := fun b o e n => s _ _ (B b o e n)
theorem new_same {H : Hp} {p : Addr} {o : HO} (h : H p = none) : Same H (L2.upd H p o) := fun b u e => by
  rw [upd_ne (ne_of_none e h)]
  exact e
/-- what is no purse stands, if all but p stands -/
theorem But.tup {H H' : Hp} {p b : Addr} {xs : List V} {k : Nat} (B : But p H H') (P : Pu H p k) (e : H b = some (.tup xs)) : H' b = some (.tup xs) := B b _ e fun z => by
  obtain ⟨ys, hp, _⟩ := P.some
  rw [z, hp] at e
  cases e
theorem But.lst {H H' : Hp} {p b : Addr} {xs : List V} (B : But p H H') (n : b ≠ p) (e : H b = some (.lst xs)) : H' b = some (.lst xs) := B b _ e n
section
variable {P : Program} {w : World} {K : PySem.W.Frag} {mg : Str → Option Value} {base : Heap} {f : Addr} {fd : FuncData}
def sp_d : Sp := fun vs H Q _ => ∃ (p : Addr) (m : Int) (k : Nat), vs = [.ref p, .int m] ∧ Pu H p k ∧ k < 900000000 ∧ 0 < m ∧ m < 134217728 ∧ ∀ (r : Int) H', 0 ≤ r → r < m → Pu H' p (k + 1) → But p H H' → Q (.int r) H'
theorem ok_d (F : FnOk P w K mg base CX0 2 f fd ["purse", "many"] sp_draw) : FnOk P w K mg base CX0 2 f fd ["purse", "many"] sp_d := F.imp fun vs H Q E h => by
  obtain ⟨p, m, k, rfl, ⟨a, b, c, d, hp, hc⟩, hk, h0, h1, q⟩ := h
  refine ⟨p, m, a, b, c, d, rfl, hp, by omega, h0, h1, fun r a' c' r0 r1 hc' P' => q r _ r0 r1 ⟨a', b, c', d, P', by omega⟩ But.put⟩
def sp_o (K : PySem.W.Frag) : Sp := fun vs H Q _ => ∃ (p l : Addr) (xs : List V) (k : Nat), vs = [.ref p, .ref l] ∧ Pu H p k ∧ k < 900000000 ∧ SqL K H l xs ∧ l ≠ p ∧ 0 < xs.length ∧ xs.length < 1000000 ∧ ∀ x H', x ∈ xs → Pu H' p (k + 1) → But p H H' → Q x H'
theorem ok_o (F : FnOk P w K mg base CX0 3 f fd ["purse", "some"] (sp_one_of K)) : FnOk P w K mg base CX0 3 f fd ["purse", "some"] (sp_o K) := F.imp fun vs H Q E h => by
  obtain ⟨p, l, xs, k, rfl, ⟨a, b, c, d, hp, hc⟩, hk, hl, ne, h0, h1, q⟩ := h
  refine ⟨p, l, xs, a, b, c, d, rfl, hp, by omega, hl, ne, h0, h1, fun x H' hx ⟨a', c', P', hc', B⟩ => q x H' hx ⟨a', b, c', d, P', by omega⟩ B⟩
def sp_w : Sp := fun vs H Q _ => ∃ (p : Addr) (k : Nat), vs = [.ref p] ∧ Pu H p k ∧ k < 800000000 ∧ ∀ (x : Str) H', IsWord x → Pu H' p (k + 10) → But p H H' → Q (.str x) H'
theorem ok_w (F : FnOk P w K mg base CX0 3 f fd ["purse"] sp_word) : FnOk P w K mg base CX0 3 f fd ["purse"] sp_w := F.imp fun vs H Q E h => by
  obtain ⟨p, k, rfl, ⟨a, b, c, d, hp, hc⟩, hk, q⟩ := h
  refine ⟨p, a, b, c, d, rfl, hp, by omega, fun x H' hx ⟨a', c', P', hc', B⟩ => q x H' hx ⟨a', b, c', d, P', by omega⟩ B⟩
/-! ### effects, manners -/
theorem sc_effect : FnScope ["purse", "way"] ["purse"] (defScope s_effect) := ⟨rfl, rfl, rfl, by decide +kernel, rfl, by decide +kernel, by decide +kernel⟩
/-- the keys of an effect -/
def EffK (w : Str) (ns : List Int) : Prop := (w = "coins" ∧ ns.length = 1 ∨ w = "fill" ∧ ns.length = 2) ∧ ∀ n ∈ ns, 0 ≤ n ∧ n ≤ 3
def EffAt (H : Hp) (e : Addr) (w : Str) (ns : List Int) : Prop := H e = some (.tup (.str w :: ns.map V.int))
def sp_effect : Sp := fun vs H Q _ => ∃ (p : Addr) (k : Nat), vs = [.ref p] ∧ Pu H p k ∧ k < 800000000 ∧ ∀ (e : Addr) (w : Str) (ns : List Int) H', EffK w ns → EffAt H' e w ns → H e = none → Pu H' p (k + 3) → But p H H' → Q (.ref e) H'
theorem ok_effect (F : FnP K "_law_effect" s_effect f fd) (gI : mg "int" = none) {fD : Addr} {fdD : FuncData} (GD : FnOk P w K mg base CX0 2 fD fdD ["purse", "many"] sp_d) (kD : PySem.W.keepIn K (.ref fD) = true) (bD : Binds K fdD ["purse", "many"] []) (gD : mg "_law_draw" = some (.ref fD)) :
    FnOk P w K mg base CX0 3 f fd ["purse"] sp_effect := by
  refine F.ok sc_effect (fun vs H Q E h => ?_) (fun cdv A outer s H vs Q E hr h => ?_)
  · obtain ⟨p, k, rfl, _⟩ := h
    rfl
  · obtain ⟨p, k, rfl, hp, hk, q⟩ := h
    refine ⟨_, PSs.nox (pss_cons (ps_set (i := 1) sc_effect.nd rfl (Or.inl rfl) (pe_call GD hr rfl gD kD bD .nil pass0 (pa_cons (pv 0) (pa_cons pe_int pa_nil))))
      (pss_cons (ps_if (pt_cmpR op_lt (pv 1) pe_int (nomark _)) (pss_one (ps_ret (pe_tup (pa_cons pe_str (pa_cons (pe_callTy call_int1 (by rfl) gI (by decide +kernel) (pa_cons (pe_cmpR op_gt (pv 1) pe_int (nomark _)) pa_nil)) pa_nil))))) pss_nil)
      (pss_cons (ps_if (pt_cmpR op_eq (pv 1) pe_int (nomark _)) (pss_one (ps_ret (pe_tup (pa_cons pe_str (pa_cons (pe_call GD hr rfl gD kD bD .nil pass0 (pa_cons (pv 0) (pa_cons pe_int pa_nil))) pa_nil))))) pss_nil)
      (pss_one (ps_ret (pe_ifExp (pt_cmpR op_eq (pv 1) pe_int (nomark _))
        (pe_tup (pa_cons pe_str (pa_cons (pe_call GD hr rfl gD kD bD .nil pass0 (pa_cons (pv 0) (pa_cons pe_int pa_nil))) (pa_cons (pe_call GD hr rfl gD kD bD .nil pass0 (pa_cons (pv 0) (pa_cons pe_int pa_nil))) pa_nil))))
        (pe_tup (pa_cons pe_str (pa_cons pe_int (pa_cons pe_int pa_nil)))))))))), ?_⟩
    refine ⟨_, rfl, p, 6, k, rfl, hp, by omega, by decide, by decide, fun r H1 r0 r1 P1 B1 => ?_⟩
    refine ⟨_, rfl, _, _, rfl, rfl, _, rfl, ?_⟩
    refine ite2 (fun c => ?_) (fun c => ?_)
    · refine ⟨_, rfl, _, _, rfl, rfl, .inr ⟨_, rfl, (by show 2 ≤ sizeLine; decide), fun e he => ?_⟩⟩
      exact q e "coins" [if decide (r > 0) = true then 1 else 0] _ ⟨.inl ⟨rfl, rfl⟩, fun n hn => by rw [List.mem_singleton] at hn; rw [hn]; split <;> decide⟩ upd_same (B1.free P1 he) ((P1.mono (by omega)).same (new_same he)) (B1.step (new_same he))
    · refine ⟨_, rfl, rfl, _, rfl, ?_⟩
      refine ite2 (fun c3 => ?_) (fun c3 => ?_)
      · refine ⟨_, rfl, p, 4, k + 1, rfl, P1, by omega, by decide, by decide, fun r2 H2 z0 z1 P2 B2 => ?_⟩
        refine ⟨by show 2 ≤ sizeLine; decide, fun e he => ?_⟩
        have B := B1.trans B2
        exact q e "coins" [r2] _ ⟨.inl ⟨rfl, rfl⟩, fun n hn => by rw [List.mem_singleton] at hn; rw [hn]; omega⟩ upd_same (B.free P2 he) ((P2.mono (by omega)).same (new_same he)) (B.step (new_same he))
      · refine ⟨_, rfl, rfl, _, rfl, ?_⟩
        refine ite2 (fun c4 => ?_) (fun c4 => ?_)
        · refine ⟨_, rfl, p, 4, k + 1, rfl, P1, by omega, by decide, by decide, fun r2 H2 z0 z1 P2 B2 => ?_⟩
          refine ⟨_, rfl, p, 4, k + 2, rfl, P2, by omega, by decide, by decide, fun r3 H3 y0 y1 P3 B3 => ?_⟩
          refine ⟨by show 3 ≤ sizeLine; decide, fun e he => ?_⟩
          have B := (B1.trans B2).trans B3
          exact q e "fill" [r2, r3] _ ⟨.inr ⟨rfl, rfl⟩, fun n hn => by simp only [List.mem_cons, List.not_mem_nil, or_false] at hn; rcases hn with rfl | rfl <;> omega⟩ upd_same (B.free P3 he) (P3.same (new_same he)) (B.step (new_same he))
        · refine ⟨by show 3 ≤ sizeLine; decide, fun e he => ?_⟩
          exact q e "fill" [0, 0] _ ⟨.inr ⟨rfl, rfl⟩, fun n hn => by simp at hn; rw [hn]; decide⟩ upd_same (B1.free P1 he) ((P1.mono (by omega)).same (new_same he)) (B1.step (new_same he))
end
end EV
namespace EV
open PySem L2 NT SX
section
variable {P : Program} {w : World} {K : PySem.W.Frag} {mg : Str → Option Value} {base : Heap} {f : Addr} {fd : FuncData}
theorem mn_at {H : Hp} {t e : Addr} {m : Mn} (h : H t = some (.tup [.str m.a, .str m.b, .str m.c, .ref e])) (he : EffAt H e m.w m.ns) : MnAt H t m := by
  refine ⟨rfl, _, h, .cons rfl (.cons rfl (.cons rfl (.cons ⟨e, rfl, ?_⟩ .nil)))⟩
  have z : m.eff.map kV = .str m.w :: m.ns.map V.int := by
    unfold Mn.eff
    rw [List.map_cons, List.map_map]
    rfl
  rw [z]
  exact he
theorem sc_manner : FnScope ["purse", "rooms", "jobs"] ["purse", "rooms", "jobs"] (defScope s_manner) := ⟨rfl, rfl, rfl, by decide +kernel, rfl, by decide +kernel, by decide +kernel⟩
def WordsAt (H : Hp) (l : Addr) (ws : List Str) : Prop := H l = some (.lst (ws.map V.str))
theorem WordsAt.ne {H : Hp} {l p : Addr} {ws : List Str} {k : Nat} (h : WordsAt H l ws) (P : Pu H p k) : l ≠ p := fun z => by
  obtain ⟨a, b, c, d, q, _⟩ := P
  have h2 : H l = some (.lst (ws.map V.str)) := h
  rw [z, q.1] at h2
  have e : ([.int a, .int b, .int c, .int d] : List V) = ws.map V.str := by
    injection h2 with h3
    injection h3
  cases ws with
  | nil => cases e
  | cons x ws =>
    rw [List.map_cons, List.cons.injEq] at e
    cases e.1
theorem WordsAt.but {H H' : Hp} {l p : Addr} {ws : List Str} {k : Nat} (h : WordsAt H l ws) (P : Pu H p k) (B : But p H H') : WordsAt H' l ws := B l _ h (h.ne P)
theorem WordsAt.same {H H' : Hp} {l : Addr} {ws : List Str} (h : WordsAt H l ws) (s : Same H H') : WordsAt H' l ws := s _ _ h
/-- a manner of these rooms and jobs -/
def MnOf (rs js : List Str) (m : Mn) : Prop := m.a ∈ rs ∧ m.b ∈ js ∧ m.c ∈ rs ∧ EffK m.w m.ns
def sp_manner : Sp := fun vs H Q _ => ∃ (p lr lj : Addr) (k : Nat) (rs js : List Str), vs = [.ref p, .ref lr, .ref lj] ∧ Pu H p k ∧ k < 700000000 ∧ WordsAt H lr rs ∧ WordsAt H lj js ∧ rs ≠ [] ∧ js ≠ [] ∧ rs.length < 1000 ∧ js.length < 1000 ∧
  ∀ (t : Addr) (m : Mn) H', MnOf rs js m → MnAt H' t m → H t = none → Pu H' p (k + 6) → But p H H' → Q (.ref t) H'
theorem ok_manner (F : FnP K "_law_manner" s_manner f fd) {fO fE : Addr} {fdO fdE : FuncData} (GO : FnOk P w K mg base CX0 3 fO fdO ["purse", "some"] (sp_o K)) (kO : PySem.W.keepIn K (.ref fO) = true) (bO : Binds K fdO ["purse", "some"] []) (gO : mg "_law_one_of" = some (.ref fO))
    (GE : FnOk P w K mg base CX0 3 fE fdE ["purse"] sp_effect) (kE : PySem.W.keepIn K (.ref fE) = true) (bE : Binds K fdE ["purse"] []) (gE : mg "_law_effect" = some (.ref fE)) : FnOk P w K mg base CX0 4 f fd ["purse", "rooms", "jobs"] sp_manner := by
  refine F.ok sc_manner (fun vs H Q E h => ?_) (fun cdv A outer s H vs Q E hr h => ?_)
  · obtain ⟨p, lr, lj, k, rs, js, rfl, _⟩ := h
    rfl
  · obtain ⟨p, lr, lj, k, rs, js, rfl, hp, hk, hlr, hlj, nr, nj, fr, fj, q⟩ := h
    refine ⟨_, PSs.nox (pss_one (ps_ret (pe_tup (pa_cons (pe_call GO hr rfl gO kO bO .nil pass0 (pa_cons (pv 0) (pa_cons (pv 1) pa_nil))) (pa_cons (pe_call GO hr rfl gO kO bO .nil pass0 (pa_cons (pv 0) (pa_cons (pv 2) pa_nil))) (pa_cons (pe_call GO hr rfl gO kO bO .nil pass0 (pa_cons (pv 0) (pa_cons (pv 1) pa_nil)))
      (pa_cons (pe_call GE hr rfl gE kE bE .nil pass0 (pa_cons (pv 0) pa_nil)) pa_nil))))))), ?_⟩
    have pos : ∀ {ws : List Str}, ws ≠ [] → 0 < (ws.map V.str).length := fun {ws} h => by
      rw [List.length_map]
      exact List.length_pos_iff.mpr h
    refine ⟨_, rfl, _, rfl, p, lr, _, k, rfl, hp, by omega, SqL.of hlr, hlr.ne hp, pos nr, by rw [List.length_map]; omega, fun x1 H1 m1 P1 B1 => ?_⟩
    have lj1 := hlj.but hp B1
    have lr1 := hlr.but hp B1
    refine ⟨_, rfl, _, rfl, p, lj, _, k + 1, rfl, P1, by omega, SqL.of lj1, lj1.ne P1, pos nj, by rw [List.length_map]; omega, fun x2 H2 m2 P2 B2 => ?_⟩
    have lr2 := lr1.but P1 B2
    refine ⟨_, rfl, _, rfl, p, lr, _, k + 2, rfl, P2, by omega, SqL.of lr2, lr2.ne P2, pos nr, by rw [List.length_map]; omega, fun x3 H3 m3 P3 B3 => ?_⟩
    refine ⟨_, rfl, p, k + 3, rfl, P3, by omega, fun e ew ns H4 he hat hn P4 B4 => ?_⟩
    refine ⟨by show 4 ≤ sizeLine; decide, fun t ht => ?_⟩
    obtain ⟨a, ma, rfl⟩ := List.mem_map.mp m1
    obtain ⟨b, mb, rfl⟩ := List.mem_map.mp m2
    obtain ⟨c, mc, rfl⟩ := List.mem_map.mp m3
    have B := ((B1.trans B2).trans B3).trans B4
    have st := new_same (o := .tup [.str a, .str b, .str c, .ref e]) ht
    exact q t ⟨a, b, c, ew, ns⟩ _ ⟨ma, mb, mc, he⟩ (mn_at upd_same (st _ _ hat)) (B.free P4 ht) (P4.same st) (B.step st)
theorem cps_ext {x y : Str} (h : x.cps.toList = y.cps.toList) : x = y := str_ext h
theorem cut_lo {z : Str} {sp : Int} (h0 : 0 ≤ sp) : (cutS z none (some sp)).cps.toList = z.cps.toList.take sp.toNat := by
  unfold cutS
  rw [HT.sIx_none, List.drop_zero, Nat.sub_zero]
  have e : HT.sIx z.length z.length (some sp) = min sp.toNat z.length := by
    show (if sp < 0 then (sp + (z.length : Int)).toNat else min sp.toNat z.length) = _
    rw [if_neg (by omega)]
  rw [e]
  show (z.cps.toList.take _).toArray.toList = _
  rw [List.toList_toArray]
  have l : z.length = z.cps.toList.length := by simp [Str.length]
  rw [l, List.take_eq_take_iff]
  omega
theorem cut_hi {z : Str} {sp : Int} (h0 : 0 ≤ sp) : (cutS z (some sp) none).cps.toList = z.cps.toList.drop sp.toNat := by
  unfold cutS
  rw [HT.sIx_none]
  have e : HT.sIx z.length 0 (some sp) = min sp.toNat z.length := by
    show (if sp < 0 then (sp + (z.length : Int)).toNat else min sp.toNat z.length) = _
    rw [if_neg (by omega)]
  rw [e]
  show ((z.cps.toList.drop _).take _).toArray.toList = _
  rw [List.toList_toArray]
  have l : z.length = z.cps.toList.length := by simp [Str.length]
  rw [l]
  by_cases c : sp.toNat ≤ z.cps.toList.length
  · rw [Nat.min_eq_left c, List.take_of_length_le (by rw [List.length_drop]; omega)]
  · rw [Nat.min_eq_right (by omega), List.drop_of_length_le (Nat.le_refl _), List.drop_of_length_le (by omega)]
    simp
theorem splice_word {z : Str} (iw : IsWord z) {sp r : Int} (s0 : 0 ≤ sp) (s1 : sp < z.length) (r0 : 0 ≤ r) (r1 : r < 26) : IsWord (cutS z none (some sp) ++ ⟨#[97 + r.toNat]⟩ ++ cutS z (some (sp + 1)) none) := by
  have l : z.length = z.cps.toList.length := by simp [Str.length]
  have e : (cutS z none (some sp) ++ ⟨#[97 + r.toNat]⟩ ++ cutS z (some (sp + 1)) none).cps.toList = z.cps.toList.take sp.toNat ++ [97 + r.toNat] ++ z.cps.toList.drop (sp + 1).toNat := by
    rw [PySem.Str.cps_append, PySem.Str.cps_append, Array.toList_append, Array.toList_append, cut_lo s0, cut_hi (by omega)]
  have e2 : (cutS z none (some sp) ++ ⟨#[97 + r.toNat]⟩ ++ cutS z (some (sp + 1)) none).length = z.length := by
    have : (cutS z none (some sp) ++ ⟨#[97 + r.toNat]⟩ ++ cutS z (some (sp + 1)) none).length = (cutS z none (some sp) ++ ⟨#[97 + r.toNat]⟩ ++ cutS z (some (sp + 1)) none).cps.toList.length := by simp [Str.length]
    rw [this, e, List.length_append, List.length_append, List.length_take, List.length_drop, List.length_singleton, l]
    omega
  refine ⟨by rw [e2]; exact iw.1, by rw [e2]; exact iw.2.1, fun c hc => ?_⟩
  rw [e] at hc
  rcases List.mem_append.mp hc with hc | hc
  · rcases List.mem_append.mp hc with hc | hc
    · exact iw.2.2 c (List.mem_of_mem_take hc)
    · rw [List.mem_singleton] at hc
      omega
  · exact iw.2.2 c (List.mem_of_mem_drop hc)
theorem inV_str (x : Str) (ws : List Str) : inV (.str x) (ws.map V.str) = decide (x ∈ ws) := by
  unfold inV
  rw [List.any_map]
  by_cases c : x ∈ ws
  · rw [decide_eq_true c, List.any_eq_true]
    exact ⟨x, c, by simp [eqV]⟩
  · rw [decide_eq_false c, List.any_eq_false]
    intro y hy
    have : y ≠ x := fun z => c (z ▸ hy)
    simp [eqV, this]
theorem flat_strs (ws : List Str) : (ws.map V.str).all flatV = true := by
  rw [List.all_map, List.all_eq_true]
  intro y _
  rfl
def abc : List Str := signs "abcdefghijklmnopqrstuvwxyz"
theorem abc_word : ∀ x ∈ abc, IsWord x := by
  have h : ∀ c ∈ ("abcdefghijklmnopqrstuvwxyz" : Str).cps.toList, 97 ≤ c ∧ c ≤ 122 := by decide +kernel
  intro x hx
  obtain ⟨c, hc, rfl⟩ := List.mem_map.mp hx
  refine ⟨Nat.le_refl 1, by show 1 ≤ 8; decide, fun d hd => ?_⟩
  have : d = c := by simpa using hd
  rw [this]
  exact h c hc
theorem abc_nd : abc.Nodup ∧ abc.length = 26 := by decide +kernel
theorem nodup_len {α : Type} [DecidableEq α] : ∀ (l D : List α), l.Nodup → (∀ x ∈ l, x ∈ D) → l.length ≤ D.length
  | [], D, _, _ => Nat.zero_le _
  | x :: l, D, h, s => by
    obtain ⟨h1, h2⟩ := List.nodup_cons.mp h
    have hx := s x List.mem_cons_self
    have := nodup_len l (D.erase x) h2 fun y hy => by
      have ne : y ≠ x := fun z => h1 (z ▸ hy)
      exact (List.mem_erase_of_ne ne).mpr (s y (List.mem_cons_of_mem _ hy))
    rw [List.length_erase_of_mem hx] at this
    have pos : 0 < D.length := List.length_pos_of_mem hx
    rw [List.length_cons]
    omega
theorem abc_free {ws : List Str} (h : ws.length < 26) : abc.filter (fun x => !decide (x ∈ ws)) ≠ [] := fun e => by
  have sub : ∀ x ∈ abc, x ∈ ws := fun x hx => by
    have z := List.filter_eq_nil_iff.mp e x hx
    simpa using z
  have := nodup_len abc ws abc_nd.1 sub
  rw [abc_nd.2] at this
  omega
abbrev tLetters (K : PySem.W.Frag) : TE := tLc (iList K (tCB rListS (tCons (tC (.str "abcdefghijklmnopqrstuvwxyz")) tNil))) (gName 8) (tTest (tOp (rIn K true) (tVar 8) (tVar 5))) (tVar 8) [8]
def tTail (K : PySem.W.Frag) : TS := tSeq (tIfS (tTest (tOp (rIn K false) (tVar 7) (tVar 5))) (tAsg (tOp (rIxL K) (tLetters K) (tC (.int 0))) (gName 7)) tNext) (tDrop (tBM K "list" rAppend (tVar 5) (tCons (tVar 7) tNil)))
theorem tail_read {D : Ends} {v0 v1 v2 v3 v4 v6 v8 : Option V} {l : Addr} {ws : List Str} {x : Str} {H : Hp} (hat : WordsAt H l ws) (hw : ∀ y ∈ ws, IsWord y) (nd : ws.Nodup) (few : ws.length < 26) (ix : IsWord x)
    (h : ∀ (y : Str) H', IsWord y → y ∉ ws → (∀ b o, b ≠ l → H b = some o → H' b = some o) → WordsAt H' l (ws ++ [y]) → D.nx [v0, v1, v2, v3, v4, some (.ref l), v6, some (.str y), v8] H') : tTail K D [v0, v1, v2, v3, v4, some (.ref l), v6, some (.str x), v8] H := by
  have put : ∀ (y : Str) (H1 : Hp), Same H H1 → WordsAt H1 l ws → IsWord y → y ∉ ws → (tDrop (tBM K "list" rAppend (tVar 5) (tCons (tVar 7) tNil))) D [v0, v1, v2, v3, v4, some (.ref l), v6, some (.str y), v8] H1 := fun y H1 s1 at1 iy hy => by
    refine ⟨_, rfl, .inl ⟨rfl, _, SqL.of at1⟩, ?_⟩
    refine ⟨_, rfl, l, _, _, rfl, rfl, at1, by rw [List.length_map, PySem.sizeLine_eq]; omega, ?_⟩
    refine h y _ iy hy (fun b o n e => by rw [upd_ne n]; exact s1 _ _ e) ?_
    show upd H1 l _ l = _
    rw [upd_same, List.map_append]
    rfl
  refine ⟨_, rfl, _, rfl, l, _, rfl, .inl (SqL.of hat), rfl, flat_strs ws, _, rfl, ?_⟩
  rw [inV_str]
  refine ite2 (fun c => ?_) (fun c => ?_)
  · refine ⟨_, rfl, by decide +kernel, fun q hq => ⟨q, rfl, ⟨_, SqL.of upd_same⟩, fun D2 hD2 => ?_⟩⟩
    have s1 : Same H (upd H q (.lst (abc.map V.str))) := new_same hq
    have eq1 : upd H q (.lst (abc.map V.str)) q = some (.lst (abc.map V.str)) := upd_same
    refine lc_list (xs := abc.map V.str) (fun i H' => Same (upd H q (.lst (abc.map V.str))) H' ∧ H' D2 = some (.lst (((abc.take i).filter fun x => !decide (x ∈ ws)).map V.str))) ⟨new_same hD2, upd_same⟩ (fun i H' _ ⟨s, _⟩ => SqL.of (s _ _ eq1)) ?_ ?_
    · rintro i v H' hi ⟨s2, hd⟩
      rw [List.getElem?_map] at hi
      cases hx : abc[i]? with
      | none => rw [hx] at hi; cases hi
      | some y =>
        rw [hx] at hi
        cases hi
        have at1 : WordsAt H' l ws := s2 _ _ (s1 _ _ hat)
        refine ⟨rfl, ?_⟩
        refine ⟨_, rfl, _, rfl, l, _, rfl, .inl (SqL.of at1), rfl, flat_strs ws, _, rfl, ?_⟩
        rw [inV_str]
        have step : (abc.take (i + 1)).filter (fun x => !decide (x ∈ ws)) = (abc.take i).filter (fun x => !decide (x ∈ ws)) ++ (if y ∈ ws then [] else [y]) := by
          rw [List.take_add_one, hx, List.filter_append]
          congr 1
          by_cases c2 : y ∈ ws
          · simp [c2]
          · simp [c2]
        refine ite2 (fun c2 => ?_) (fun c2 => ?_)
        · have ny : y ∉ ws := by simpa using c2
          rw [if_neg ny] at step
          refine ⟨_, rfl, _, hd, ?_, fun b o e => by rw [upd_ne (ne_of_none e hD2)]; exact s2 _ _ e, by rw [upd_same, step, List.map_append]; rfl⟩
          rw [List.length_map, PySem.sizeLine_eq]
          have z1 := List.length_filter_le (fun x => !decide (x ∈ ws)) (abc.take i)
          rw [List.length_take, abc_nd.2] at z1
          omega
        · have ny : y ∈ ws := by simpa using c2
          rw [if_pos ny, List.append_nil] at step
          exact ⟨s2, by rw [step]; exact hd⟩
    · rintro H' ⟨s2, hd⟩
      rw [List.length_map, List.take_length] at hd
      have ne := abc_free few
      have sub : ∀ y ∈ abc.filter (fun x => !decide (x ∈ ws)), IsWord y ∧ y ∉ ws := fun y hy => by
        obtain ⟨h1, h2⟩ := List.mem_filter.mp hy
        exact ⟨abc_word y h1, by simpa using h2⟩
      cases e : abc.filter (fun x => !decide (x ∈ ws)) with
      | nil => exact absurd e ne
      | cons y ys =>
        rw [e] at hd sub
        obtain ⟨iy, ny⟩ := sub y List.mem_cons_self
        have s3 : Same H H' := s1.trans s2
        refine ⟨D2, _, 0, .str y, rfl, rfl, SqL.of hd, atI_nat (j := 0) rfl, ?_⟩
        exact put y H' s3 (s3 _ _ hat) iy ny
  · exact put x H (Same.refl H) hat ix (by simpa using c)
theorem sc_words : FnScope ["purse", "many", "base", "near", "spot", "found", "turn", "word", "letter"] ["purse", "many"] (defScope s_words) := ⟨rfl, rfl, rfl, by decide +kernel, rfl, by decide +kernel, by decide +kernel⟩
def sp_words : Sp := fun vs H Q _ => ∃ (p : Addr) (m k : Nat), vs = [.ref p, .int m] ∧ Pu H p k ∧ k < 700000000 ∧ m ≤ 20 ∧ ∀ (l : Addr) (ws : List Str) H', ws.length = m → (∀ x ∈ ws, IsWord x) → ws.Nodup → WordsAt H' l ws → H l = none → Pu H' p (k + 12 + 11 * m) → But p H H' → Q (.ref l) H'
theorem ok_words (F : FnP K "_law_words" s_words f fd) (gL : mg "len" = none) (gR : mg "range" = none) (gl : mg "list" = none) {fD fW : Addr} {fdD fdW : FuncData} (GD : FnOk P w K mg base CX0 3 fD fdD ["purse", "many"] sp_d) (kD : PySem.W.keepIn K (.ref fD) = true) (bD : Binds K fdD ["purse", "many"] []) (gD : mg "_law_draw" = some (.ref fD))
    (GW : FnOk P w K mg base CX0 3 fW fdW ["purse"] sp_w) (kW : PySem.W.keepIn K (.ref fW) = true) (bW : Binds K fdW ["purse"] []) (gW : mg "_law_word" = some (.ref fW)) : FnOk P w K mg base CX0 4 f fd ["purse", "many"] sp_words := by
  refine F.ok sc_words (fun vs H Q E h => ?_) (fun cdv A outer s H vs Q E hr h => ?_)
  · obtain ⟨p, m, k, rfl, _⟩ := h
    rfl
  · obtain ⟨p, m, k, rfl, hp, hk, hm, q⟩ := h
    refine ⟨_, PSs.nox (pss_cons (ps_par (i := 2) (j := 3) rfl sc_words.nd rfl rfl (by decide) rfl rfl (pa_cons (pe_call GW hr rfl gW kW bW .nil pass0 (pa_cons (pv 0) pa_nil)) (pa_cons (pe_cmpR op_eq (pe_call GD hr rfl gD kD bD .nil pass0 (pa_cons (pv 0) (pa_cons pe_int pa_nil))) pe_int (nomark _)) pa_nil)) rfl)
      (pss_cons (ps_asg (pe_tup (pa_cons (pe_call GD hr rfl gD kD bD .nil pass0 (pa_cons (pv 0) (pa_cons (pe_callB call_len (by rfl) gL (by decide +kernel) (pa_cons (pv 2) pa_nil)) pa_nil))) (pa_cons (pe_lst pa_nil) pa_nil))) (pg_tup (by rfl) (pgs_cons (pg_name (i := 4) sc_words.nd rfl (Or.inl rfl)) (pgs_cons (pg_name (i := 5) sc_words.nd rfl (Or.inr rfl)) pgs_nil))))
      (pss_cons (ps_for PassesOwn.never rfl (pi_range1 rfl gR (pa_cons (pv 1) pa_nil)) (pg_name (i := 6) sc_words.nd rfl (Or.inl rfl))
        (pss_cons (ps_set (i := 7) sc_words.nd rfl (Or.inl rfl) (pe_op op_add_str (pe_op op_add_str (pe_slice sl_str (pv 2) po_none (po_some (pv 4))) (pe_item_str pe_str (pe_call GD hr rfl gD kD bD .nil pass0 (pa_cons (pv 0) (pa_cons pe_int pa_nil))) (fun _ _ => rfl))) (pe_slice sl_str (pv 2) (po_some (pe_op op_add (pv 4) pe_int)) po_none)))
        (pss_cons (u := tTail K) (ps_if (pt_not (pt_val (pv 3))) (pss_one (ps_set (i := 7) sc_words.nd rfl (Or.inl rfl) (pe_call GW hr rfl gW kW bW .nil pass0 (pa_cons (pv 0) pa_nil)))) pss_nil)
        (pss_cons (ps_if (pt_cmpR op_in_seq (pv 7) (pv 5) rfl) (pss_one (ps_set (i := 7) sc_words.nd rfl (Or.inl rfl) (pe_ix ix_list (pe_lc (own := [("letter", 8)]) (g := gName 8) (tt := tTest (tOp (rIn K true) (tVar 8) (tVar 5))) rfl sc_words.nd (pi_list (pe_callTy (cr_listS rfl) (by rfl) gl (by decide +kernel) (pa_cons pe_str pa_nil)))
            (blkOk_by (N := ["purse", "many", "base", "near", "spot", "found", "turn", "word", "letter"]) (sc := defScope s_words) (by decide +kernel)) (fun _ _ _ _ _ => pg_name (i := 8) sc_words.nd rfl (Or.inl rfl)) (fun _ _ _ _ _ => pts_one (pt_cmpR op_notIn_seq (pv 8) (pv 5) rfl)) (fun _ _ _ _ _ => pv 8)) pe_int (fun _ _ => rfl)))) pss_nil)
        (pss_one (ps_expr (pe_bm PySem.F.plainAttrs_list PySem.F.slot_list_append PySem.F.type_list_append mt_append (pv 5) (pa_cons (pv 7) pa_nil))))))))
      (pss_one (ps_ret (pv 5)))))), ?_⟩
    refine ⟨_, rfl, p, k, rfl, hp, by omega, fun wb H1 iw P1 B1 => ?_⟩
    refine ⟨_, rfl, p, 3, k + 10, rfl, P1, by omega, by decide, by decide, fun r H2 r0 r1 P2 B2 => ?_⟩
    refine ⟨rfl, _, _, rfl, ?_⟩
    have len : wb.length ≤ sizeLine := Nat.le_trans iw.2.1 (by rw [PySem.sizeLine_eq]; omega)
    refine ⟨_, rfl, _, rfl, _, wb.length, rfl, ⟨len, rfl⟩, p, _, k + 11, rfl, P2, by omega, by have := iw.1; omega, by have := iw.2.1; omega, fun sp H3 s0 s1 P3 B3 => ?_⟩
    refine ⟨by show 0 ≤ sizeLine; decide, fun l hl => ?_⟩
    refine ⟨by show 2 ≤ sizeLine; decide, fun t ht => ?_⟩
    refine ⟨t, _, rfl, SqT.of upd_same, rfl, ?_⟩
    refine ⟨_, _, rfl, _, _, rfl, rfl, ?_⟩
    have el : upd (upd H3 l (.lst [])) t (.tup [.int sp, .ref l]) l = some (.lst []) := new_same ht _ _ upd_same
    have e3 : Same H3 (upd (upd H3 l (.lst [])) t (.tup [.int sp, .ref l])) := fun b o e => new_same ht _ _ (new_same hl _ _ e)
    have B : But p H H3 := (B1.trans B2).trans B3
    have nl : H l = none := B.free P3 hl
    have P4 := P3.same e3
    have B4 := B.step e3
    generalize upd (upd H3 l (.lst [])) t (.tup [.int sp, .ref l]) = H4 at el P4 B4
    refine ⟨_, rfl, (m : Int), rfl, by omega, by omega, ?_⟩
    rw [show ((m : Int)).toNat = m from rfl]
    refine for_range (n := m) (fun i σ H' => ∃ (v6 v7 v8 : Option V) (ws : List Str), σ = [some (.ref p), some (.int m), some (.str wb), some (.bl (decide (V.int r = V.int 0))), some (.int sp), some (.ref l), v6, v7, v8] ∧ ws.length = i ∧ (∀ x ∈ ws, IsWord x) ∧ ws.Nodup ∧ WordsAt H' l ws ∧ Pu H' p (k + 12 + 11 * i) ∧ But p H H')
      ⟨_, _, _, [], rfl, rfl, by simp, List.nodup_nil, el, P4, B4⟩ ?_ ?_
    · rintro i σ H' hi ⟨v6, v7, v8, ws, rfl, hlen, hw, nd, hat, PP, BB⟩
      have np : l ≠ p := hat.ne PP
      refine ⟨_, rfl, _, rfl, _, rfl, _, rfl, len, ?_⟩
      refine ⟨_, rfl, p, 26, _, rfl, PP, by omega, by decide, by decide, fun r4 H5 r40 r41 P5 B5 => ?_⟩
      refine ⟨_, _, _, rfl, rfl, r40, by omega, ?_, letters r4 r40 r41, ?_⟩
      · have : ("abcdefghijklmnopqrstuvwxyz" : Str).length = 26 := by decide +kernel
        rw [this]
        exact r41
      have iw2 := splice_word iw s0 s1 r40 r41
      have l1 : (cutS wb none (some sp)).length ≤ 8 := by
        have e : (cutS wb none (some sp)).length = (cutS wb none (some sp)).cps.toList.length := by simp [Str.length]
        have e2 : wb.length = wb.cps.toList.length := by simp [Str.length]
        have := iw.2.1
        rw [e, cut_lo s0, List.length_take]
        omega
      refine ⟨_, _, rfl, rfl, ?_, ?_⟩
      · have : (⟨#[97 + r4.toNat]⟩ : Str).length = 1 := rfl
        rw [this, PySem.sizeLine_eq]
        omega
      refine ⟨_, rfl, _, rfl, _, _, rfl, rfl, _, rfl, _, rfl, len, ?_⟩
      refine ⟨_, _, rfl, rfl, ?_, ?_⟩
      · have e3 := iw2.2.1
        have : (cutS wb none (some sp) ++ (⟨#[97 + r4.toNat]⟩ : Str) ++ cutS wb (some (sp + 1)) none).length = (cutS wb none (some sp) ++ (⟨#[97 + r4.toNat]⟩ : Str)).length + (cutS wb (some (sp + 1)) none).length := by
          simp only [Str.length, PySem.Str.cps_append, Array.size_append]
        rw [this] at e3
        rw [PySem.sizeLine_eq]
        omega
      have at5 := hat.but PP B5
      have BB5 := BB.trans B5
      have fin : ∀ (wd : Str) (H6 : Hp), IsWord wd → Pu H6 p (k + 12 + 11 * (i + 1)) → But p H H6 → WordsAt H6 l ws → ∀ (y : Str) H', IsWord y → y ∉ ws → (∀ b o, b ≠ l → H6 b = some o → H' b = some o) → WordsAt H' l (ws ++ [y]) →
          (ws ++ [y]).length = i + 1 ∧ (∀ x ∈ ws ++ [y], IsWord x) ∧ (ws ++ [y]).Nodup ∧ WordsAt H' l (ws ++ [y]) ∧ Pu H' p (k + 12 + 11 * (i + 1)) ∧ But p H H' := fun wd H6 _ P6 B6 _ y H' iy ny rest at7 => by
        refine ⟨by rw [List.length_append, hlen]; rfl, fun x hx => ?_, ?_, at7, ?_, fun b o e n => ?_⟩
        · rcases List.mem_append.mp hx with hx | hx
          · exact hw x hx
          · rw [List.mem_singleton] at hx
            rw [hx]
            exact iy
        · rw [List.nodup_append]
          exact ⟨nd, by simp, fun a ha b hb e => ny (by rw [List.mem_singleton] at hb; rw [← hb, ← e]; exact ha)⟩
        · obtain ⟨a, b, c, d, q1, q2⟩ := P6
          exact ⟨a, b, c, d, ⟨rest p _ np.symm q1.1, q1.2⟩, q2⟩
        · have bl : b ≠ l := fun z => by
            rw [z, nl] at e
            cases e
          exact rest b o bl (B6 b o e n)
      refine ⟨_, rfl, _, rfl, ?_⟩
      refine ite2 (fun _ => ?_) (fun _ => ?_)
      · refine ⟨_, rfl, p, _, rfl, P5, by omega, fun w2 H6 iw3 P6 B6 => ?_⟩
        have at6 := at5.but P5 B6
        refine tail_read at6 hw nd (by omega) iw3 fun y H' iy ny rest at7 => ?_
        exact ⟨_, _, _, ws ++ [y], rfl, fin w2 H6 iw3 (P6.mono (by omega)) (BB5.trans B6) at6 y H' iy ny rest at7⟩
      · refine tail_read at5 hw nd (by omega) iw2 fun y H' iy ny rest at7 => ?_
        exact ⟨_, _, _, ws ++ [y], rfl, fin _ H5 iw2 (P5.mono (by omega)) BB5 at5 y H' iy ny rest at7⟩
    · rintro σ H' ⟨v6, v7, v8, ws, rfl, hlen, hw, nd, hat, PP, BB⟩
      exact ⟨_, rfl, q l ws H' hlen hw nd hat nl PP BB⟩
end
end EV
namespace EV
open PySem L2 NT SX
abbrev s_some : Stmt := top 61
abbrev s_world_of : Stmt := top 62
abbrev s_world : Stmt := top 63
/-! ### words and manners as data -/
abbrev TOk (x : Str) : Bool := x.cps.all (· < 0x110000)
theorem word_ok {x : Str} (h : IsWord x) : TOk x = true := by
  unfold TOk
  rw [← Array.all_toList, List.all_eq_true]
  intro c hc
  have := (h.2.2 c hc).2
  exact decide_eq_true (by omega)
abbrev wsD (ws : List Str) : PyData := .list (ws.map .str)
abbrev mnD (m : Mn) : PyData := .tuple [.str m.a, .str m.b, .str m.c, .tuple (.str m.w :: m.ns.map .int)]
theorem dp_strs {K : PySem.W.Frag} {H : Hp} : ∀ ws : List Str, DpAll K H (ws.map V.str) (ws.map .str)
  | [] => .nil
  | x :: ws => .cons (.str x) (dp_strs ws)
theorem dp_ints {K : PySem.W.Frag} {H : Hp} : ∀ ns : List Int, DpAll K H (ns.map V.int) (ns.map .int)
  | [] => .nil
  | x :: ns => .cons (.int x) (dp_ints ns)
theorem WordsAt.dp {K : PySem.W.Frag} {H : Hp} {l : Addr} {ws : List Str} (h : WordsAt H l ws) : Dp K H (.ref l) (wsD ws) := .lst (SqL.of h) (dp_strs ws)
theorem eff_kv (m : Mn) : m.eff.map kV = .str m.w :: m.ns.map V.int := by
  unfold Mn.eff
  rw [List.map_cons, List.map_map]
  rfl
theorem mn_parts {H : Hp} {t : Addr} {m : Mn} (h : MnAt H t m) : ∃ e, H t = some (.tup [.str m.a, .str m.b, .str m.c, .ref e]) ∧ EffAt H e m.w m.ns := by
  obtain ⟨_, xs, h, p⟩ := h
  unfold Mn.key at p
  cases p with
  | cons a1 p => cases p with
    | cons a2 p => cases p with
      | cons a3 p => cases p with
        | cons a4 p =>
          cases p
          obtain ⟨e, rfl, q⟩ := a4
          have z1 : _ = kV (.inr m.a) := a1
          have z2 : _ = kV (.inr m.b) := a2
          have z3 : _ = kV (.inr m.c) := a3
          subst z1 z2 z3
          refine ⟨e, h, ?_⟩
          rw [eff_kv] at q
          exact q
theorem mn_dp {K : PySem.W.Frag} {H : Hp} {t : Addr} {m : Mn} (h : MnAt H t m) : Dp K H (.ref t) (mnD m) := by
  obtain ⟨e, h1, h2⟩ := mn_parts h
  exact .tup (SqT.of h1) (.cons (.str _) (.cons (.str _) (.cons (.str _) (.cons (.tup (SqT.of h2) (.cons (.str _) (dp_ints _))) .nil))))
theorem eqv_strs : ∀ ws vs : List Str, PyData.eqvAll (ws.map .str) (vs.map .str) = decide (ws = vs)
  | [], [] => rfl
  | [], _ :: _ => rfl
  | _ :: _, [] => rfl
  | x :: ws, y :: vs => by
    rw [List.map_cons, List.map_cons]
    unfold PyData.eqvAll
    rw [eqv_strs ws vs]
    show ((x == y) && decide (ws = vs)) = _
    by_cases c : x = y
    · subst c
      simp
    · simp [c]
theorem eqv_ints : ∀ ws vs : List Int, PyData.eqvAll (ws.map .int) (vs.map .int) = decide (ws = vs)
  | [], [] => rfl
  | [], _ :: _ => rfl
  | _ :: _, [] => rfl
  | x :: ws, y :: vs => by
    rw [List.map_cons, List.map_cons]
    unfold PyData.eqvAll
    rw [eqv_ints ws vs]
    show ((x == y) && decide (ws = vs)) = _
    by_cases c : x = y
    · subst c
      simp
    · simp [c]
theorem eqv_mn (m n : Mn) : PyData.eqv (mnD m) (mnD n) = decide (m = n) := by
  obtain ⟨a, b, c, w, ns⟩ := m
  obtain ⟨a', b', c', w', ns'⟩ := n
  simp only [mnD, PyData.eqv, PyData.eqvAll, eqv_ints, Mn.mk.injEq]
  by_cases h1 : a = a'
  · by_cases h2 : b = b'
    · by_cases h3 : c = c'
      · by_cases h4 : w = w'
        · by_cases h5 : ns = ns'
          · simp [h1, h2, h3, h4, h5]
          · simp [h1, h2, h3, h4, h5]
        · simp [h1, h2, h3, h4]
      · simp [h1, h2, h3]
    · simp [h1, h2]
  · simp [h1]
theorem can_strs {ws : List Str} (h : ∀ x ∈ ws, TOk x = true) : PyData.canLayAll0 (ws.map .str) = true := by
  induction ws with
  | nil => rfl
  | cons x ws ih =>
    rw [List.map_cons]
    unfold PyData.canLayAll0
    rw [ih fun y hy => h y (List.mem_cons_of_mem _ hy)]
    show (TOk x && true) = true
    rw [h x List.mem_cons_self]
    rfl
theorem can_ints (ns : List Int) : PyData.canLayAll0 (ns.map .int) = true := by
  induction ns with
  | nil => rfl
  | cons x ws ih =>
    rw [List.map_cons]
    unfold PyData.canLayAll0
    rw [ih]
    rfl
theorem depth_strs (ws : List Str) : PyData.depthAll (ws.map .str) = 0 := by
  induction ws with
  | nil => rfl
  | cons x ws ih =>
    rw [List.map_cons]
    unfold PyData.depthAll
    rw [ih]
    rfl
theorem depth_ints (ws : List Int) : PyData.depthAll (ws.map .int) = 0 := by
  induction ws with
  | nil => rfl
  | cons x ws ih =>
    rw [List.map_cons]
    unfold PyData.depthAll
    rw [ih]
    rfl
theorem shaped_strs {ws : List Str} (h : ∀ x ∈ ws, TOk x = true) : SeqAt.shaped (wsD ws) = true := by
  unfold SeqAt.shaped
  rw [show PyData.canLay0 (wsD ws) = PyData.canLayAll0 (ws.map .str) from rfl, can_strs h, show PyData.depth (wsD ws) = PyData.depthAll (ws.map .str) + 1 from rfl, depth_strs]
  rfl
structure MnOk (m : Mn) : Prop where
  a : TOk m.a = true
  b : TOk m.b = true
  c : TOk m.c = true
  w : TOk m.w = true
theorem can_mn {m : Mn} (h : MnOk m) : PyData.canLay0 (mnD m) = true := by
  show (TOk m.a && (TOk m.b && (TOk m.c && ((TOk m.w && PyData.canLayAll0 (m.ns.map .int)) && true)))) = true
  rw [h.a, h.b, h.c, h.w, can_ints]
  rfl
theorem depth_mn (m : Mn) : PyData.depth (mnD m) = 2 := by
  show max 0 (max 0 (max 0 (max (max 0 (PyData.depthAll (m.ns.map .int)) + 1) 0))) + 1 = 2
  rw [depth_ints]
  rfl
theorem shaped_mn {m : Mn} (h : MnOk m) : SeqAt.shaped (mnD m) = true := by
  unfold SeqAt.shaped
  rw [can_mn h, depth_mn]
  rfl
abbrev mnsD (ms : List Mn) : PyData := .list (ms.map mnD)
theorem shaped_mns {ms : List Mn} (h : ∀ m ∈ ms, MnOk m) : SeqAt.shaped (mnsD ms) = true := by
  have k : PyData.canLayAll0 (ms.map mnD) = true ∧ PyData.depthAll (ms.map mnD) ≤ 2 := by
    induction ms with
    | nil => exact ⟨rfl, Nat.zero_le _⟩
    | cons m ms ih =>
      obtain ⟨i1, i2⟩ := ih fun x hx => h x (List.mem_cons_of_mem _ hx)
      rw [List.map_cons]
      unfold PyData.canLayAll0 PyData.depthAll
      rw [i1, can_mn (h m List.mem_cons_self), depth_mn]
      exact ⟨rfl, by omega⟩
  unfold SeqAt.shaped
  rw [show PyData.canLay0 (mnsD ms) = PyData.canLayAll0 (ms.map mnD) from rfl, k.1, show PyData.depth (mnsD ms) = PyData.depthAll (ms.map mnD) + 1 from rfl, Bool.true_and, decide_eq_true_eq]
  omega
theorem any_mn (m : Mn) (ms : List Mn) : (ms.map mnD).any (fun z => PyData.eqv z (mnD m)) = decide (m ∈ ms) := by
  rw [List.any_map]
  by_cases c : m ∈ ms
  · rw [decide_eq_true c, List.any_eq_true]
    exact ⟨m, c, by show PyData.eqv (mnD m) (mnD m) = true; rw [eqv_mn]; exact decide_eq_true rfl⟩
  · rw [decide_eq_false c, List.any_eq_false]
    intro n hn
    show ¬ PyData.eqv (mnD n) (mnD m) = true
    rw [eqv_mn]
    simp only [decide_eq_true_eq]
    exact fun z => c (z ▸ hn)
/-- a list of manners -/
def MnsAt (H : Hp) (l : Addr) (ps : List AM) : Prop := H l = some (.lst (ps.map fun p => V.ref p.1)) ∧ ∀ p ∈ ps, MnAt H p.1 p.2
theorem MnsAt.dp {K : PySem.W.Frag} {H : Hp} {l : Addr} {ps : List AM} (h : MnsAt H l ps) : Dp K H (.ref l) (mnsD (ps.map (·.2))) := by
  refine .lst (SqL.of h.1) ?_
  have h2 := h.2
  clear h
  induction ps with
  | nil => exact .nil
  | cons p ps ih => exact .cons (mn_dp (h2 p List.mem_cons_self)) (ih fun q hq => h2 q (List.mem_cons_of_mem _ hq))
theorem MnAt.same {H H' : Hp} {t : Addr} {m : Mn} (h : MnAt H t m) (s : Same H H') : MnAt H' t m := NAt.same h fun b xs e => s _ _ e
theorem MnAt.but {H H' : Hp} {t p : Addr} {m : Mn} {k : Nat} (h : MnAt H t m) (P : Pu H p k) (B : But p H H') : MnAt H' t m := NAt.same h fun b xs e => B.tup P e
/-- the effects' words -/
theorem eff_tok {w : Str} {ns : List Int} (h : EffK w ns) : TOk w = true := by
  rcases h.1 with ⟨rfl, _⟩ | ⟨rfl, _⟩ <;> decide +kernel
theorem mn_ok {rs js : List Str} {m : Mn} (h : MnOf rs js m) (hr : ∀ x ∈ rs, IsWord x) (hj : ∀ x ∈ js, IsWord x) : MnOk m := ⟨word_ok (hr _ h.1), word_ok (hj _ h.2.1), word_ok (hr _ h.2.2.1), eff_tok h.2.2.2⟩
end EV
namespace EV
open PySem L2 NT SX
section
variable {P : Program} {w : World} {K : PySem.W.Frag} {mg : Str → Option Value} {base : Heap} {f : Addr} {fd : FuncData}
theorem sc_some : FnScope ["purse", "rooms", "found", "room"] ["purse", "rooms"] (defScope s_some) := ⟨rfl, rfl, rfl, by decide +kernel, rfl, by decide +kernel, by decide +kernel⟩
def sp_some : Sp := fun vs H Q _ => ∃ (p lr : Addr) (k : Nat) (rs : List Str), vs = [.ref p, .ref lr] ∧ Pu H p k ∧ k < 600000000 ∧ WordsAt H lr rs ∧ (∀ x ∈ rs, IsWord x) ∧ rs.Nodup ∧ rs ≠ [] ∧ rs.length < 1000 ∧
  ∀ (l : Addr) (ws : List Str) H', (∀ x ∈ ws, x ∈ rs) → ws.Nodup → WordsAt H' l ws → H l = none → Pu H' p (k + rs.length + 2) → But p H H' → Q (.ref l) H'
theorem ok_some (F : FnP K "_law_some" s_some f fd) {fD fO : Addr} {fdD fdO : FuncData} (GD : FnOk P w K mg base CX0 3 fD fdD ["purse", "many"] sp_d) (kD : PySem.W.keepIn K (.ref fD) = true) (bD : Binds K fdD ["purse", "many"] []) (gD : mg "_law_draw" = some (.ref fD))
    (GO : FnOk P w K mg base CX0 3 fO fdO ["purse", "some"] (sp_o K)) (kO : PySem.W.keepIn K (.ref fO) = true) (bO : Binds K fdO ["purse", "some"] []) (gO : mg "_law_one_of" = some (.ref fO)) : FnOk P w K mg base CX0 4 f fd ["purse", "rooms"] sp_some := by
  refine F.ok sc_some (fun vs H Q E h => ?_) (fun cdv A outer s H vs Q E hr h => ?_)
  · obtain ⟨p, lr, k, rs, rfl, _⟩ := h
    rfl
  · obtain ⟨p, lr, k, rs, rfl, hp, hk, hlr, hw, nd, ne, few, q⟩ := h
    refine ⟨_, PSs.nox (pss_cons (ps_setLc (i := 2) (own := [("room", 3)]) (g := gName 3) (tt := tTest (tOp rEq (tCall sp_d [] E0 (tCons (tVar 0) (tCons (tC (.int 2)) tNil))) (tC (.int 0)))) (by rfl) sc_some.nd rfl rfl (sw_true rfl rfl rfl (by decide +kernel)) (pi_list (pv 1)) (blkOk_by (N := ["purse", "rooms", "found", "room"]) (sc := defScope s_some) (by decide +kernel))
          (fun _ _ _ _ _ => pg_name (i := 3) sc_some.nd rfl (Or.inl rfl)) (fun _ _ _ _ _ => pts_one (pt_cmpR op_eq (pe_call GD hr rfl gD kD bD .nil pass0 (pa_cons (pv 0) (pa_cons pe_int pa_nil))) pe_int (nomark _))) (fun _ _ _ _ _ => pv 3))
      (pss_cons (ps_if (PW.pt (pw_and (pt_cmpR (op_eqD hr.units) (pv 2) (pe_lst pa_nil) (nomark _)) (pw_and1 (pt_cmpR op_gt (pe_call GD hr rfl gD kD bD .nil pass0 (pa_cons (pv 0) (pa_cons pe_int pa_nil))) pe_int (nomark _)))))
          (pss_one (ps_set (i := 2) sc_some.nd rfl (Or.inl rfl) (pe_lst (pa_cons (pe_call GO hr rfl gO kO bO .nil pass0 (pa_cons (pv 0) (pa_cons (pv 1) pa_nil))) pa_nil)))) pss_nil)
      (pss_one (ps_ret (pv 2))))), ?_⟩
    have np := hlr.ne hp
    refine ⟨_, rfl, lr, rfl, ⟨_, SqL.of hlr⟩, fun D hD => ?_⟩
    have nDp : D ≠ p := fun z => by
      obtain ⟨xs, e, _⟩ := hp.some
      rw [z, e] at hD
      cases hD
    refine lc_list (xs := rs.map V.str) (fun i H' => ∃ ws : List Str, ws.Sublist (rs.take i) ∧ WordsAt H' D ws ∧ Pu H' p (k + i) ∧ But p H H') ⟨[], List.nil_sublist _, upd_same, hp.same (new_same hD), But.new hD⟩ (fun i H' _ ⟨ws, _, _, _, B⟩ => SqL.of (hlr.but hp B)) ?_ ?_
    · rintro i v H' hi ⟨ws, sub, hd, P1, B1⟩
      rw [List.getElem?_map] at hi
      cases hx : rs[i]? with
      | none => rw [hx] at hi; cases hi
      | some x =>
        rw [hx] at hi
        cases hi
        have il : i < rs.length := (List.getElem?_eq_some_iff.mp hx).1
        have tk : rs.take (i + 1) = rs.take i ++ [x] := by
          rw [List.take_add_one, hx]
          rfl
        refine ⟨rfl, ?_⟩
        refine ⟨_, rfl, p, 2, k + i, rfl, P1, by omega, by decide, by decide, fun r H2 r0 r1 P2 B2 => ?_⟩
        refine ⟨rfl, _, rfl, ?_⟩
        have hd2 : WordsAt H2 D ws := B2 D _ hd nDp
        refine ite2 (fun c => ?_) (fun c => ?_)
        · refine ⟨_, rfl, _, hd2, ?_, ws ++ [x], ?_, ?_, ?_, ?_⟩
          · rw [List.length_map, PySem.sizeLine_eq]
            have := sub.length_le
            rw [List.length_take] at this
            omega
          · rw [tk]
            exact List.Sublist.append sub (List.Sublist.refl _)
          · show upd H2 D _ D = _
            rw [upd_same, List.map_append]
            rfl
          · obtain ⟨a, b, c', d, q1, q2⟩ := P2
            exact ⟨a, b, c', d, ⟨by rw [upd_ne nDp.symm]; exact q1.1, q1.2⟩, by omega⟩
          · intro b o e n
            rw [upd_ne (ne_of_none e hD)]
            exact B2 b o (B1 b o e n) n
        · exact ⟨ws, by rw [tk]; exact sub.trans (List.sublist_append_left _ _), hd2, P2.mono (by omega), B1.trans B2⟩
    · rintro H' ⟨ws, sub, hd, P1, B1⟩
      rw [List.length_map, List.take_length] at sub
      rw [List.length_map] at P1
      have sm : ∀ x ∈ ws, x ∈ rs := fun x hx => sub.subset hx
      refine ⟨_, rfl, by show 0 ≤ sizeLine; decide, fun t ht => ?_⟩
      have hd2 := hd.same (new_same (o := .lst []) ht)
      have P2 := P1.same (new_same (o := .lst []) ht)
      have B2 := B1.step (new_same (o := .lst []) ht)
      have ht2 : upd H' t (.lst []) t = some (.lst []) := upd_same
      generalize upd H' t (.lst []) = H2 at hd2 P2 B2 ht2
      refine ⟨_, .list [], hd2.dp, .lst (SqL.of ht2) .nil, shaped_strs fun x hx => word_ok (hw x (sm x hx)), by decide, _, rfl, ?_⟩
      refine ite2 (fun c => ?_) (fun c => ?_)
      · refine ⟨_, rfl, p, 6, _, rfl, P2, by omega, by decide, by decide, fun r H3 r0 r1 P3 B3 => ?_⟩
        refine ⟨_, _, rfl, rfl, _, rfl, ?_⟩
        have B03 := B2.trans B3
        refine ite2 (fun c2 => ?_) (fun c2 => ?_)
        · have lr3 := hlr.but hp B03
          refine ⟨_, rfl, _, rfl, p, lr, _, _, rfl, P3, by omega, SqL.of lr3, np, by rw [List.length_map]; exact List.length_pos_iff.mpr ne, by rw [List.length_map]; omega, fun x H4 hx P4 B4 => ?_⟩
          obtain ⟨y, hy, rfl⟩ := List.mem_map.mp hx
          refine ⟨by show 1 ≤ sizeLine; decide, fun l hl => ?_⟩
          have B04 := B03.trans B4
          refine ⟨_, rfl, q l [y] _ (fun z hz => by rw [List.mem_singleton] at hz; rw [hz]; exact hy) (by simp) upd_same (B04.free P4 hl) ((P4.mono (by omega)).same (new_same hl)) (B04.step (new_same hl))⟩
        · exact ⟨_, rfl, q D ws H3 sm (sub.nodup nd) (B3 D _ hd2 nDp) hD (P3.mono (by omega)) B03⟩
      · exact ⟨_, rfl, q D ws H2 sm (sub.nodup nd) hd2 hD (P2.mono (by omega)) B2⟩
end
end EV
namespace EV
open PySem L2 NT SX
theorem MnsAt.push {H : Hp} {M t : Addr} {ps : List AM} {m : Mn} (h : MnsAt H M ps) (ht : MnAt H t m) : MnsAt (L2.upd H M (.lst ((ps.map fun p => V.ref p.1) ++ [V.ref t]))) M (ps ++ [(t, m)]) := by
  have keep : ∀ b xs, H b = some (.tup xs) → L2.upd H M (.lst ((ps.map fun p => V.ref p.1) ++ [V.ref t])) b = some (.tup xs) := fun b xs e => by
    rw [upd_ne (fun z => by rw [z, h.1] at e; cases e)]
    exact e
  refine ⟨by rw [L2.upd_same, List.map_append]; rfl, fun p hp => ?_⟩
  rcases List.mem_append.mp hp with hp | hp
  · exact NAt.same (h.2 p hp) keep
  · rw [List.mem_singleton] at hp
    rw [hp]
    exact NAt.same ht keep
theorem MnsAt.ne {H : Hp} {M p : Addr} {ps : List AM} {k : Nat} (h : MnsAt H M ps) (P : Pu H p k) : M ≠ p := fun z => by
  obtain ⟨a, b, c, d, q, _⟩ := P
  have h2 := h.1
  rw [z, q.1] at h2
  have e : ([.int a, .int b, .int c, .int d] : List V) = ps.map fun p => V.ref p.1 := by
    injection h2 with h3
    injection h3
  cases ps with
  | nil => cases e
  | cons x ws =>
    rw [List.map_cons, List.cons.injEq] at e
    cases e.1
theorem MnsAt.but {H H' : Hp} {M p : Addr} {ps : List AM} {k : Nat} (h : MnsAt H M ps) (P : Pu H p k) (B : But p H H') : MnsAt H' M ps := ⟨B M _ h.1 (h.ne P), fun q hq => MnAt.but (h.2 q hq) P B⟩
theorem MnsAt.same {H H' : Hp} {M : Addr} {ps : List AM} (h : MnsAt H M ps) (s : Same H H') : MnsAt H' M ps := ⟨s _ _ h.1, fun q hq => MnAt.same (h.2 q hq) s⟩
/-- a world -/
structure World (H : Hp) (W lm l1 l2 lr lj : Addr) (ps : List AM) (bs es rs js : List Str) : Prop where
  top : H W = some (.lst [.ref lm, .ref l1, .ref l2, .ref lr, .ref lj])
  ms : MnsAt H lm ps
  b : WordsAt H l1 bs
  e : WordsAt H l2 es
  r : WordsAt H lr rs
  j : WordsAt H lj js
structure Right (most : Nat) (ps : List AM) (bs es rs js : List Str) : Prop where
  few : ps.length ≤ most
  nd : (ps.map (·.2)).Nodup
  of : ∀ p ∈ ps, MnOf rs js p.2
  b : (∀ x ∈ bs, x ∈ rs) ∧ bs.Nodup
  e : (∀ x ∈ es, x ∈ rs) ∧ es.Nodup
  r : (∀ x ∈ rs, IsWord x) ∧ rs.Nodup
  j : (∀ x ∈ js, IsWord x) ∧ js.Nodup
section
variable {P : Program} {w : PySem.World} {K : PySem.W.Frag} {mg : Str → Option Value} {base : Heap} {f : Addr} {fd : FuncData}
theorem sc_world_of : FnScope ["purse", "rooms", "jobs", "most", "manners", "job", "room", "turn", "manner"] ["purse", "rooms", "jobs", "most"] (defScope s_world_of) := ⟨rfl, rfl, rfl, by decide +kernel, rfl, by decide +kernel, by decide +kernel⟩
def sp_world_of : Sp := fun vs H Q _ => ∃ (p lr lj : Addr) (k most : Nat) (rs js : List Str), vs = [.ref p, .ref lr, .ref lj, .int most] ∧ Pu H p k ∧ k < 500000000 ∧ WordsAt H lr rs ∧ WordsAt H lj js ∧ (∀ x ∈ rs, IsWord x) ∧ rs.Nodup ∧ (∀ x ∈ js, IsWord x) ∧ js.Nodup ∧ rs ≠ [] ∧ js ≠ [] ∧ rs.length ≤ 8 ∧ js.length ≤ 8 ∧ most ≤ 40 ∧
  ∀ (W lm l1 l2 : Addr) (ps : List AM) (bs es : List Str) H', World H' W lm l1 l2 lr lj ps bs es rs js → Right most ps bs es rs js → Pu H' p (k + 1000) → But p H H' → H W = none → Q (.ref W) H'
abbrev tMake (K : PySem.W.Frag) : TS := tIfS (tTest (tOp (rI0 fun i j => .bl (decide (i < j))) (tCB (fun xs H Q => ∃ x n, xs = [x] ∧ LenV K x H n ∧ Q (.int n) H) (tCons (tVar 4) tNil)) (tVar 3)))
  (tDrop (tBM K "list" rAppend (tVar 4) (tCons (tTup (tCons (tVar 6) (tCons (tVar 5) (tCons (tCall (sp_o K) [] E0 (tCons (tVar 0) (tCons (tVar 1) tNil))) (tCons (tCall sp_effect [] E0 (tCons (tVar 0) tNil)) tNil))))) tNil))) tNext
theorem ok_world_of (F : FnP K "_law_world_of" s_world_of f fd) (gL : mg "len" = none) (gR : mg "range" = none)
    {fD fO fE fM fS : Addr} {dD dO dE dM dS : FuncData} (GD : FnOk P w K mg base CX0 4 fD dD ["purse", "many"] sp_d) (kD : PySem.W.keepIn K (.ref fD) = true) (bD : Binds K dD ["purse", "many"] []) (gD : mg "_law_draw" = some (.ref fD))
    (GO : FnOk P w K mg base CX0 4 fO dO ["purse", "some"] (sp_o K)) (kO : PySem.W.keepIn K (.ref fO) = true) (bO : Binds K dO ["purse", "some"] []) (gO : mg "_law_one_of" = some (.ref fO))
    (GE : FnOk P w K mg base CX0 4 fE dE ["purse"] sp_effect) (kE : PySem.W.keepIn K (.ref fE) = true) (bE : Binds K dE ["purse"] []) (gE : mg "_law_effect" = some (.ref fE))
    (GM : FnOk P w K mg base CX0 4 fM dM ["purse", "rooms", "jobs"] sp_manner) (kM : PySem.W.keepIn K (.ref fM) = true) (bM : Binds K dM ["purse", "rooms", "jobs"] []) (gM : mg "_law_manner" = some (.ref fM))
    (GS : FnOk P w K mg base CX0 4 fS dS ["purse", "rooms"] sp_some) (kS : PySem.W.keepIn K (.ref fS) = true) (bS : Binds K dS ["purse", "rooms"] []) (gS : mg "_law_some" = some (.ref fS)) :
    FnOk P w K mg base CX0 5 f fd ["purse", "rooms", "jobs", "most"] sp_world_of := by
  refine F.ok sc_world_of (fun vs H Q E h => ?_) (fun cdv A outer s H vs Q E hr h => ?_)
  · obtain ⟨p, lr, lj, k, most, rs, js, rfl, _⟩ := h
    rfl
  · obtain ⟨p, lr, lj, k, most, rs, js, rfl, hp, hk, hlr, hlj, wr, nr, wj, nj, er, ej, fr, fj, fm, q⟩ := h
    have hu2 : (A.deeper (PyProof.Rows.envOfC "_law_world_of" (defScope s_world_of) s.heap.objs.size f cdv)).units + 65 < cLine := by
      have := hr.un
      omega
    refine ⟨_, PSs.nox (pss_cons (ps_set (i := 4) sc_world_of.nd rfl (Or.inl rfl) (pe_lst pa_nil))
      (Evl.pss_cut (ps_if (pt_cmpR op_gt (pe_call GD hr rfl gD kD bD .nil pass0 (pa_cons (pv 0) (pa_cons pe_int pa_nil))) pe_int (nomark _))
        (pss_one (ps_for PassesOwn.never rfl (pi_list (pv 2)) (pg_name (i := 5) sc_world_of.nd rfl (Or.inl rfl))
          (pss_one (ps_for PassesOwn.never rfl (pi_list (pv 1)) (pg_name (i := 6) sc_world_of.nd rfl (Or.inl rfl))
            (pss_one (ps_if (pt_cmpR op_lt (pe_callB call_len (by rfl) gL (by decide +kernel) (pa_cons (pv 4) pa_nil)) (pv 3) (nomark _))
              (pss_one (ps_expr (pe_bm PySem.F.plainAttrs_list PySem.F.slot_list_append PySem.F.type_list_append mt_append (pv 4) (pa_cons (pe_tup (pa_cons (pv 6) (pa_cons (pv 5) (pa_cons (pe_call GO hr rfl gO kO bO .nil pass0 (pa_cons (pv 0) (pa_cons (pv 1) pa_nil)))
                (pa_cons (pe_call GE hr rfl gE kE bE .nil pass0 (pa_cons (pv 0) pa_nil)) pa_nil))))) pa_nil)))) pss_nil)))))) pss_nil)
      (pss_cons (ps_for PassesOwn.never rfl (pi_range1 rfl gR (pa_cons (pe_call GD hr rfl gD kD bD .nil pass0 (pa_cons (pv 0) (pa_cons (pe_op op_add (pv 3) pe_int) pa_nil))) pa_nil)) (pg_name (i := 7) sc_world_of.nd rfl (Or.inl rfl))
        (pss_cons (ps_set (i := 8) sc_world_of.nd rfl (Or.inl rfl) (pe_call GM hr rfl gM kM bM .nil pass0 (pa_cons (pv 0) (pa_cons (pv 1) (pa_cons (pv 2) pa_nil)))))
        (pss_one (ps_if (PW.pt (pw_and (pt_cmpR op_lt (pe_callB call_len (by rfl) gL (by decide +kernel) (pa_cons (pv 4) pa_nil)) (pv 3) (nomark _)) (pw_and1 (pt_cmpR (op_notInD hu2) (pv 8) (pv 4) rfl))))
          (pss_one (ps_expr (pe_bm PySem.F.plainAttrs_list PySem.F.slot_list_append PySem.F.type_list_append mt_append (pv 4) (pa_cons (pv 8) pa_nil)))) pss_nil))))
      (pss_one (ps_ret (pe_lst (pa_cons (pv 4) (pa_cons (pe_call GS hr rfl gS kS bS .nil pass0 (pa_cons (pv 0) (pa_cons (pv 1) pa_nil))) (pa_cons (pe_call GS hr rfl gS kS bS .nil pass0 (pa_cons (pv 0) (pa_cons (pv 1) pa_nil))) (pa_cons (pv 1) (pa_cons (pv 2) pa_nil))))))))))), ?_⟩
    refine ⟨by show 0 ≤ sizeLine; decide, fun M hM => ?_⟩
    have P0 := hp.same (new_same (o := .lst []) hM)
    have B0 : But p H (upd H M (.lst [])) := But.new hM
    have M0 : MnsAt (upd H M (.lst [])) M [] := ⟨upd_same, by simp⟩
    generalize upd H M (.lst []) = H0 at P0 B0 M0
    have butM : ∀ {H1 : Hp} {o : HO}, But p H H1 → But p H (upd H1 M o) := fun B b o e n => by
      rw [upd_ne (ne_of_none e hM)]
      exact B b o e n
    have puM : ∀ {H1 : Hp} {o : HO} {n : Nat}, Pu H1 p n → M ≠ p → Pu (upd H1 M o) p n := fun P n => by
      obtain ⟨a, b, c, d, q1, q2⟩ := P
      exact ⟨a, b, c, d, ⟨by rw [upd_ne n.symm]; exact q1.1, q1.2⟩, q2⟩
    refine ⟨fun σ' H' => ∃ (v5 v6 v7 v8 : Option V) (ps : List AM), σ' = [some (.ref p), some (.ref lr), some (.ref lj), some (.int most), some (.ref M), v5, v6, v7, v8] ∧ MnsAt H' M ps ∧ (ps.map (·.2)).Nodup ∧ (∀ p ∈ ps, MnOf rs js p.2) ∧ ps.length ≤ most ∧ Pu H' p (k + 300) ∧ But p H H', ?_, ?_⟩
    · refine ⟨_, rfl, p, 3, k, rfl, P0, by omega, by decide, by decide, fun r H1 r0 r1 P1 B1 => ?_⟩
      have B01 := B0.trans B1
      have M1 := M0.but P0 B1
      refine ⟨_, _, rfl, rfl, _, rfl, ?_⟩
      refine ite2 (fun _ => ?_) (fun _ => ⟨_, _, _, _, [], rfl, M1, List.nodup_nil, by simp, Nat.zero_le _, P1.mono (by omega), B01⟩)
      refine ⟨_, rfl, lj, rfl, ⟨_, SqL.of (hlj.but hp B01)⟩, ?_⟩
      refine for_list (xs := js.map V.str) (fun i σ H' => ∃ (v5 v6 v7 v8 : Option V) (ps : List AM), σ = [some (.ref p), some (.ref lr), some (.ref lj), some (.int most), some (.ref M), v5, v6, v7, v8] ∧ MnsAt H' M ps ∧ (ps.map (·.2)).Nodup ∧ (∀ p ∈ ps, MnOf rs js p.2) ∧ ps.length ≤ most ∧ (∀ p ∈ ps, p.2.b ∈ js.take i) ∧ Pu H' p (k + 1 + 32 * i) ∧ But p H H')
        ⟨_, _, _, _, [], rfl, M1, List.nodup_nil, by simp, Nat.zero_le _, by simp, P1, B01⟩ (fun i σ H' _ ⟨_, _, _, _, _, _, _, _, _, _, _, _, B⟩ => SqL.of (hlj.but hp B)) ?_ ?_
      · rintro i x σ H2 hx ⟨v5, v6, v7, v8, ps, rfl, M2, nd2, of2, few2, ahead, P2, B2⟩
        rw [List.getElem?_map] at hx
        cases hj : js[i]? with
        | none => rw [hj] at hx; cases hx
        | some jb =>
          rw [hj] at hx
          cases hx
          have il : i < js.length := (List.getElem?_eq_some_iff.mp hj).1
          have jnew : jb ∉ js.take i := fun z => by
            obtain ⟨a, ha, ea⟩ := List.getElem_of_mem z
            rw [List.length_take] at ha
            rw [List.getElem_take] at ea
            have c : a = i := (List.getElem?_inj (i := a) (j := i) (by omega) nj).mp (by rw [List.getElem?_eq_getElem (by omega), hj, ea])
            omega
          have tkj : js.take (i + 1) = js.take i ++ [jb] := by
            rw [List.take_add_one, hj]
            rfl
          refine ⟨_, rfl, lr, rfl, ⟨_, SqL.of (hlr.but hp B2)⟩, ?_⟩
          refine for_list (xs := rs.map V.str) (fun j σ H' => ∃ (v6 v7 v8 : Option V) (ps : List AM), σ = [some (.ref p), some (.ref lr), some (.ref lj), some (.int most), some (.ref M), some (.str jb), v6, v7, v8] ∧ MnsAt H' M ps ∧ (ps.map (·.2)).Nodup ∧ (∀ p ∈ ps, MnOf rs js p.2) ∧ ps.length ≤ most ∧ (∀ p ∈ ps, p.2.b ∈ js.take i ∨ p.2.b = jb ∧ p.2.a ∈ rs.take j) ∧ Pu H' p (k + 1 + 32 * i + 4 * j) ∧ But p H H')
            ⟨_, _, _, ps, rfl, M2, nd2, of2, few2, fun q hq => .inl (ahead q hq), P2, B2⟩ (fun j σ H' _ ⟨_, _, _, _, _, _, _, _, _, _, _, B⟩ => SqL.of (hlr.but hp B)) ?_ ?_
          · rintro j x σ H3 hx ⟨v6, v7, v8, ps3, rfl, M3, nd3, of3, few3, ahead3, P3, B3⟩
            rw [List.getElem?_map] at hx
            cases hr3 : rs[j]? with
            | none => rw [hr3] at hx; cases hx
            | some rb =>
              rw [hr3] at hx
              cases hx
              have jl : j < rs.length := (List.getElem?_eq_some_iff.mp hr3).1
              have rnew : rb ∉ rs.take j := fun z => by
                obtain ⟨a, ha, ea⟩ := List.getElem_of_mem z
                rw [List.length_take] at ha
                rw [List.getElem_take] at ea
                have c : a = j := (List.getElem?_inj (i := a) (j := j) (by omega) nr).mp (by rw [List.getElem?_eq_getElem (by omega), hr3, ea])
                omega
              have tkr : rs.take (j + 1) = rs.take j ++ [rb] := by
                rw [List.take_add_one, hr3]
                rfl
              have wider : ∀ q ∈ ps3, q.2.b ∈ js.take i ∨ q.2.b = jb ∧ q.2.a ∈ rs.take (j + 1) := fun q hq => (ahead3 q hq).imp id fun z => ⟨z.1, by rw [tkr]; exact List.mem_append_left _ z.2⟩
              refine ⟨_, rfl, _, ps3.length, rfl, .inl ⟨_, SqL.of M3.1, by rw [List.length_map]⟩, _, rfl, _, _, rfl, rfl, _, rfl, ?_⟩
              refine ite2 (fun c => ?_) (fun c => ?_)
              · have lt : ps3.length < most := by
                  have := of_decide_eq_true c
                  omega
                have lr3 := hlr.but hp B3
                refine ⟨_, rfl, .inl ⟨rfl, _, SqL.of M3.1⟩, ?_⟩
                refine ⟨_, rfl, _, rfl, _, rfl, _, rfl, p, lr, _, _, rfl, P3, by omega, SqL.of lr3, lr3.ne P3, by rw [List.length_map]; exact List.length_pos_iff.mpr er, by rw [List.length_map]; omega, fun g H4 hg P4 B4 => ?_⟩
                obtain ⟨gr, hgr, rfl⟩ := List.mem_map.mp hg
                refine ⟨_, rfl, p, _, rfl, P4, by omega, fun e ew ns H5 he hat hn P5 B5 => ?_⟩
                refine ⟨by show 4 ≤ sizeLine; decide, fun t ht => ?_⟩
                have st := new_same (o := .tup [.str rb, .str jb, .str gr, .ref e]) ht
                have at6 : MnAt (upd H5 t (.tup [.str rb, .str jb, .str gr, .ref e])) t ⟨rb, jb, gr, ew, ns⟩ := mn_at upd_same (st _ _ hat)
                have M6 := ((M3.but P3 B4).but P4 B5).same st
                have P6 := P5.same st
                have B6 := ((B3.trans B4).trans B5).step st
                generalize upd H5 t (.tup [.str rb, .str jb, .str gr, .ref e]) = H6 at at6 M6 P6 B6
                refine ⟨M, _, _, rfl, rfl, M6.1, by rw [List.length_map, PySem.sizeLine_eq]; omega, ?_⟩
                have mof : MnOf rs js ⟨rb, jb, gr, ew, ns⟩ := ⟨List.mem_of_getElem? hr3, List.mem_of_getElem? hj, hgr, he⟩
                refine ⟨_, _, _, ps3 ++ [(t, ⟨rb, jb, gr, ew, ns⟩)], rfl, M6.push at6, ?_, fun q hq => ?_, by rw [List.length_append, List.length_singleton]; omega, fun q hq => ?_, puM (P6.mono (by omega)) (M6.ne P6), butM B6⟩
                · rw [List.map_append, List.nodup_append]
                  refine ⟨nd3, by simp, fun a ha b hb e => ?_⟩
                  simp only [List.map_cons, List.map_nil, List.mem_singleton] at hb
                  obtain ⟨q, hq, rfl⟩ := List.mem_map.mp ha
                  rw [hb] at e
                  rcases ahead3 q hq with z | ⟨_, z⟩
                  · rw [e] at z
                    exact jnew z
                  · rw [e] at z
                    exact rnew z
                · rcases List.mem_append.mp hq with hq | hq
                  · exact of3 q hq
                  · rw [List.mem_singleton] at hq
                    rw [hq]
                    exact mof
                · rcases List.mem_append.mp hq with hq | hq
                  · exact wider q hq
                  · rw [List.mem_singleton] at hq
                    rw [hq]
                    exact .inr ⟨rfl, by rw [tkr]; exact List.mem_append_right _ (List.mem_singleton.mpr rfl)⟩
              · exact ⟨_, _, _, ps3, rfl, M3, nd3, of3, few3, wider, P3.mono (by omega), B3⟩
          · rintro σ H3 ⟨v6, v7, v8, ps3, rfl, M3, nd3, of3, few3, ahead3, P3, B3⟩
            rw [List.length_map] at ahead3 P3
            refine ⟨_, _, _, _, ps3, rfl, M3, nd3, of3, few3, fun q hq => ?_, P3.mono (by omega), B3⟩
            rw [tkj]
            rcases ahead3 q hq with z | ⟨z, _⟩
            · exact List.mem_append_left _ z
            · exact List.mem_append_right _ (List.mem_singleton.mpr z)
      · rintro σ H2 ⟨v5, v6, v7, v8, ps, rfl, M2, nd2, of2, few2, _, P2, B2⟩
        rw [List.length_map] at P2
        exact ⟨_, _, _, _, ps, rfl, M2, nd2, of2, few2, P2.mono (by omega), B2⟩
    · rintro σ' H1 ⟨v5, v6, v7, v8, ps, rfl, M1, nd1, of1, few1, P1, B1⟩
      refine ⟨_, rfl, _, rfl, _, _, rfl, rfl, p, (most : Int) + 1, k + 300, rfl, P1, by omega, by omega, by omega, fun n H2 n0 n1 P2 B2 => ?_⟩
      have M2 := M1.but P1 B2
      have B02 := B1.trans B2
      refine ⟨n, rfl, by omega, by omega, ?_⟩
      refine for_range (n := n.toNat) (fun i σ H' => ∃ (v5 v6 v7 v8 : Option V) (ps : List AM), σ = [some (.ref p), some (.ref lr), some (.ref lj), some (.int most), some (.ref M), v5, v6, v7, v8] ∧ MnsAt H' M ps ∧ (ps.map (·.2)).Nodup ∧ (∀ p ∈ ps, MnOf rs js p.2) ∧ ps.length ≤ most ∧ Pu H' p (k + 301 + 6 * i) ∧ But p H H')
        ⟨_, _, _, _, ps, rfl, M2, nd1, of1, few1, P2.mono (by omega), B02⟩ ?_ ?_
      · rintro i σ H3 hi ⟨v5, v6, v7, v8, ps3, rfl, M3, nd3, of3, few3, P3, B3⟩
        have lr3 := hlr.but hp B3
        have lj3 := hlj.but hp B3
        refine ⟨_, rfl, _, rfl, _, rfl, p, lr, lj, _, rs, js, rfl, P3, by omega, lr3, lj3, er, ej, by omega, by omega, fun t m H4 mof at4 ht P4 B4 => ?_⟩
        have M4 := M3.but P3 B4
        have B04 := B3.trans B4
        refine ⟨_, rfl, _, ps3.length, rfl, .inl ⟨_, SqL.of M4.1, by rw [List.length_map]⟩, _, rfl, _, _, rfl, rfl, _, rfl, ?_⟩
        refine ite2 (fun c => ?_) (fun c => ?_)
        · have lt : ps3.length < most := by
            have := of_decide_eq_true c
            omega
          refine ⟨_, rfl, _, rfl, mnD m, ps3.map (fun q => mnD q.2), mn_dp at4, ?_, shaped_mn (mn_ok mof wr wj), ?_, _, rfl, ?_⟩
          · have z := M4.dp (K := K)
            rw [mnsD, List.map_map] at z
            exact z
          · have z := shaped_mns (ms := ps3.map (·.2)) fun m hm => by
              obtain ⟨q, hq, rfl⟩ := List.mem_map.mp hm
              exact mn_ok (of3 q hq) wr wj
            rw [mnsD, List.map_map] at z
            exact z
          have anyE : (ps3.map fun q => mnD q.2).any (fun z => PyData.eqv z (mnD m)) = decide (m ∈ ps3.map (·.2)) := by
            have z := any_mn m (ps3.map (·.2))
            rwa [List.map_map] at z
          rw [anyE]
          refine ite2 (fun c2 => ?_) (fun c2 => ?_)
          · have mnew : m ∉ ps3.map (·.2) := by simpa using c2
            refine ⟨_, rfl, .inl ⟨rfl, _, SqL.of M4.1⟩, ?_⟩
            refine ⟨_, rfl, M, _, _, rfl, rfl, M4.1, by rw [List.length_map, PySem.sizeLine_eq]; omega, ?_⟩
            refine ⟨_, _, _, _, ps3 ++ [(t, m)], rfl, M4.push at4, ?_, fun q hq => ?_, by rw [List.length_append, List.length_singleton]; omega, puM (P4.mono (by omega)) (M4.ne P4), butM B04⟩
            · rw [List.map_append, List.nodup_append]
              refine ⟨nd3, by simp, fun a ha b hb e => ?_⟩
              simp only [List.map_cons, List.map_nil, List.mem_singleton] at hb
              rw [hb] at e
              exact mnew (e ▸ ha)
            · rcases List.mem_append.mp hq with hq | hq
              · exact of3 q hq
              · rw [List.mem_singleton] at hq
                rw [hq]
                exact mof
          · exact ⟨_, _, _, _, ps3, rfl, M4, nd3, of3, few3, P4.mono (by omega), B04⟩
        · exact ⟨_, _, _, _, ps3, rfl, M4, nd3, of3, few3, P4.mono (by omega), B04⟩
      · rintro σ H3 ⟨v5, v6, v7, v8, ps3, rfl, M3, nd3, of3, few3, P3, B3⟩
        have lr3 := hlr.but hp B3
        refine ⟨_, rfl, _, rfl, _, rfl, p, lr, _, rs, rfl, P3, by omega, lr3, wr, nr, er, by omega, fun l1 bs H4 b1 b2 b3 b4 P4 B4 => ?_⟩
        have lr4 := lr3.but P3 B4
        refine ⟨_, rfl, _, rfl, p, lr, _, rs, rfl, P4, by omega, lr4, wr, nr, er, by omega, fun l2 es H5 e1 e2 e3 e4 P5 B5 => ?_⟩
        refine ⟨_, rfl, _, rfl, by show 5 ≤ sizeLine; decide, fun W hW => ?_⟩
        have sW := new_same (o := .lst [.ref M, .ref l1, .ref l2, .ref lr, .ref lj]) hW
        have B05 := (B3.trans B4).trans B5
        refine q W M l1 l2 ps3 bs es _ ⟨upd_same, ((M3.but P3 B4).but P4 B5).same sW, (b3.but P4 B5).same sW, e3.same sW, (lr4.but P4 B5).same sW, (hlj.but hp B05).same sW⟩ ⟨few3, nd3, of3, ⟨b1, b2⟩, ⟨e1, e2⟩, ⟨wr, nr⟩, ⟨wj, nj⟩⟩ ((P5.mono (by omega)).same sW) (B05.step sW) (B05.free P5 hW)
end
end EV
namespace EV
open PySem L2 NT SX
section
variable {P : Program} {w : PySem.World} {K : PySem.W.Frag} {mg : Str → Option Value} {base : Heap} {f : Addr} {fd : FuncData}
theorem cutV_lo (ws : List Str) (n : Nat) : cutV (ws.map V.str) none (some (n : Int)) = (ws.take n).map V.str := by
  unfold cutV
  rw [HT.sIx_none, List.drop_zero, Nat.sub_zero, HT.sIx_nat, List.length_map, List.map_take, List.take_eq_take_iff, List.length_map]
  omega
theorem cutV_hi (ws : List Str) (n : Nat) : cutV (ws.map V.str) (some (n : Int)) none = (ws.drop n).map V.str := by
  unfold cutV
  rw [HT.sIx_none, HT.sIx_nat, List.length_map, List.map_drop]
  by_cases c : n ≤ ws.length
  · rw [Nat.min_eq_left c, List.take_of_length_le (by rw [List.length_drop, List.length_map]; omega)]
  · rw [Nat.min_eq_right (by omega), List.drop_of_length_le (by rw [List.length_map]; omega), List.drop_of_length_le (by rw [List.length_map]; omega)]
    simp
theorem sc_world : FnScope ["purse", "rooms", "jobs", "most", "words"] ["purse", "rooms", "jobs", "most"] (defScope s_world) := ⟨rfl, rfl, rfl, by decide +kernel, rfl, by decide +kernel, by decide +kernel⟩
def sp_world : Sp := fun vs H Q _ => ∃ (p : Addr) (k a b most : Nat), vs = [.ref p, .int a, .int b, .int most] ∧ Pu H p k ∧ k < 400000000 ∧ 1 ≤ a ∧ a ≤ 8 ∧ 1 ≤ b ∧ b ≤ 8 ∧ most ≤ 40 ∧
  ∀ (W lm l1 l2 lr lj : Addr) (ps : List AM) (bs es rs js : List Str) H', World H' W lm l1 l2 lr lj ps bs es rs js → Right most ps bs es rs js → rs.length = a → js.length = b → Pu H' p (k + 1300) → But p H H' → H W = none → Q (.ref W) H'
theorem ok_world (F : FnP K "_law_world" s_world f fd) {fD fW fO : Addr} {dD dW dO : FuncData} (GD : FnOk P w K mg base CX0 5 fD dD ["purse", "many"] sp_d) (kD : PySem.W.keepIn K (.ref fD) = true) (bD : Binds K dD ["purse", "many"] []) (gD : mg "_law_draw" = some (.ref fD))
    (GW : FnOk P w K mg base CX0 5 fW dW ["purse", "many"] sp_words) (kW : PySem.W.keepIn K (.ref fW) = true) (bW : Binds K dW ["purse", "many"] []) (gW : mg "_law_words" = some (.ref fW))
    (GO : FnOk P w K mg base CX0 5 fO dO ["purse", "rooms", "jobs", "most"] sp_world_of) (kO : PySem.W.keepIn K (.ref fO) = true) (bO : Binds K dO ["purse", "rooms", "jobs", "most"] []) (gO : mg "_law_world_of" = some (.ref fO)) : FnOk P w K mg base CX0 6 f fd ["purse", "rooms", "jobs", "most"] sp_world := by
  refine F.ok sc_world (fun vs H Q E h => ?_) (fun cdv A outer s H vs Q E hr h => ?_)
  · obtain ⟨p, k, a, b, most, rfl, _⟩ := h
    rfl
  · obtain ⟨p, k, a, b, most, rfl, hp, hk, a1, a2, b1, b2, hm, q⟩ := h
    refine ⟨_, PSs.nox (pss_cons (ps_set (i := 4) sc_world.nd rfl (Or.inl rfl) (pe_call GW hr rfl gW kW bW .nil pass0 (pa_cons (pv 0) (pa_cons (pe_op op_add (pv 1) (pv 2)) pa_nil))))
      (pss_cons (ps_if (pt_cmpR op_eq (pe_call GD hr rfl gD kD bD .nil pass0 (pa_cons (pv 0) (pa_cons pe_int pa_nil))) pe_int (nomark _))
        (pss_one (ps_ret (pe_call GO hr rfl gO kO bO .nil pass0 (pa_cons (pv 0) (pa_cons (pe_slice sl_list (pv 4) po_none (po_some (pv 1))) (pa_cons (pe_slice sl_list (pv 4) po_none (po_some (pv 2))) (pa_cons (pv 3) pa_nil))))))) pss_nil)
      (pss_one (ps_ret (pe_call GO hr rfl gO kO bO .nil pass0 (pa_cons (pv 0) (pa_cons (pe_slice sl_list (pv 4) po_none (po_some (pv 1))) (pa_cons (pe_slice sl_list (pv 4) (po_some (pv 1)) po_none) (pa_cons (pv 3) pa_nil))))))))), ?_⟩
    refine ⟨_, rfl, _, rfl, _, rfl, _, _, rfl, rfl, p, a + b, k, by rw [Int.natCast_add]; rfl, hp, by omega, by omega, fun L ws H1 hlen hw nd hat nL P1 B1 => ?_⟩
    refine ⟨_, rfl, p, 4, _, rfl, P1, by omega, by decide, by decide, fun r H2 r0 r1 P2 B2 => ?_⟩
    have at2 := hat.but P1 B2
    have B02 := B1.trans B2
    have wt : ∀ n, ∀ x ∈ ws.take n, IsWord x := fun n x hx => hw x (List.mem_of_mem_take hx)
    have wd : ∀ n, ∀ x ∈ ws.drop n, IsWord x := fun n x hx => hw x (List.mem_of_mem_drop hx)
    have nt : ∀ n, (ws.take n).Nodup := fun n => (List.take_sublist n ws).nodup nd
    have nr : ∀ n, (ws.drop n).Nodup := fun n => (List.drop_sublist n ws).nodup nd
    have lt : ∀ n, n ≤ a + b → (ws.take n).length = n := fun n hn => by
      rw [List.length_take]
      omega
    have ne : ∀ {l : List Str}, 1 ≤ l.length → l ≠ [] := fun h z => by
      rw [z] at h
      exact absurd h (by decide)
    refine ⟨rfl, _, rfl, ?_⟩
    refine ite2 (fun _ => ?_) (fun _ => ?_)
    · refine ⟨_, rfl, _, rfl, _, rfl, _, rfl, L, _, rfl, SqL.of at2, fun l1 h1 => ?_⟩
      rw [cutV_lo]
      have s1 := new_same (o := .lst ((ws.take a).map V.str)) h1
      have e1 : WordsAt (upd H2 l1 (.lst ((ws.take a).map V.str))) l1 (ws.take a) := upd_same
      have at3 := at2.same s1
      have P3 := P2.same s1
      have B3 := B02.step s1
      generalize upd H2 l1 (.lst ((ws.take a).map V.str)) = H3 at e1 at3 P3 B3
      refine ⟨_, rfl, _, rfl, _, rfl, L, _, rfl, SqL.of at3, fun l2 h2 => ?_⟩
      rw [cutV_lo]
      have s2 := new_same (o := .lst ((ws.take b).map V.str)) h2
      refine ⟨_, rfl, p, l1, l2, _, most, ws.take a, ws.take b, rfl, P3.same s2, by omega, e1.same s2, upd_same, wt a, nt a, wt b, nt b, ne (by rw [lt a (by omega)]; exact a1), ne (by rw [lt b (by omega)]; exact b1), by rw [lt a (by omega)]; exact a2, by rw [lt b (by omega)]; exact b2, hm, ?_⟩
      intro W lm k1 k2 ps bs es H' hW hR P4 B4 nW
      exact q W lm k1 k2 l1 l2 ps bs es _ _ H' hW hR (lt a (by omega)) (lt b (by omega)) (P4.mono (by omega)) ((B3.step s2).trans B4) ((B3.step s2).free (P3.same s2) nW)
    · refine ⟨_, rfl, _, rfl, _, rfl, _, rfl, L, _, rfl, SqL.of at2, fun l1 h1 => ?_⟩
      rw [cutV_lo]
      have s1 := new_same (o := .lst ((ws.take a).map V.str)) h1
      have e1 : WordsAt (upd H2 l1 (.lst ((ws.take a).map V.str))) l1 (ws.take a) := upd_same
      have at3 := at2.same s1
      have P3 := P2.same s1
      have B3 := B02.step s1
      generalize upd H2 l1 (.lst ((ws.take a).map V.str)) = H3 at e1 at3 P3 B3
      have ld : (ws.drop a).length = b := by
        rw [List.length_drop]
        omega
      refine ⟨_, rfl, _, rfl, _, rfl, L, _, rfl, SqL.of at3, fun l2 h2 => ?_⟩
      rw [cutV_hi]
      have s2 := new_same (o := .lst ((ws.drop a).map V.str)) h2
      refine ⟨_, rfl, p, l1, l2, _, most, ws.take a, ws.drop a, rfl, P3.same s2, by omega, e1.same s2, upd_same, wt a, nt a, wd a, nr a, ne (by rw [lt a (by omega)]; exact a1), ne (by rw [ld]; exact b1), by rw [lt a (by omega)]; exact a2, by rw [ld]; exact b2, hm, ?_⟩
      intro W lm k1 k2 ps bs es H' hW hR P4 B4 nW
      exact q W lm k1 k2 l1 l2 ps bs es _ _ H' hW hR (lt a (by omega)) ld (P4.mono (by omega)) ((B3.step s2).trans B4) ((B3.step s2).free (P3.same s2) nW)
end
end EV
namespace EV
open PySem L2 NT SX
abbrev s_is_whole : Stmt := top 11
abbrev s_is_count : Stmt := top 12
abbrev s_is_spelt : Stmt := top 14
abbrev s_is_effect : Stmt := top 17
abbrev s_is_manner : Stmt := top 18
abbrev s_are_rooms : Stmt := top 19
section
variable {P : Program} {w : PySem.World} {K : PySem.W.Frag} {mg : Str → Option Value} {base : Heap} {f : Addr} {fd : FuncData}
theorem sc_is_whole : FnScope ["value"] ["value"] (defScope s_is_whole) := ⟨rfl, rfl, rfl, by decide +kernel, rfl, by decide +kernel, by decide +kernel⟩
def sp_is_whole : Sp := fun vs H Q _ => ∃ n : Int, vs = [.int n] ∧ Q (.bl true) H
theorem ok_is_whole (F : FnP K "is_whole" s_is_whole f fd) (gI : mg "isinstance" = none) (gi : mg "int" = none) (gb : mg "bool" = none) : FnOk P w K mg base CX0 1 f fd ["value"] sp_is_whole := by
  refine F.ok sc_is_whole (fun vs H Q E h => ?_) (fun cdv A outer s H vs Q E hr h => ?_)
  · obtain ⟨n, rfl, _⟩ := h
    rfl
  · obtain ⟨n, rfl, q⟩ := h
    refine ⟨_, PSs.nox (pss_one (ps_ret (pe_and (pe_callB call_isi (by rfl) gI (by decide +kernel) (pa_cons (pv 0) (pa_cons (pe_bltn (v := .ty "int") (by rfl) gi (by decide +kernel) rfl) pa_nil)))
      (pe_one (pe_not (pe_callB call_isi (by rfl) gI (by decide +kernel) (pa_cons (pv 0) (pa_cons (pe_bltn (v := .ty "bool") (by rfl) gb (by decide +kernel) rfl) pa_nil)))))))), ?_⟩
    refine ⟨_, rfl, _, _, _, _, _, rfl, .ty "int", .base (.int n), kit_ty (by decide +kernel : kitB "int" "int" = some true), _, rfl, ?_⟩
    refine iteT ⟨_, rfl, _, _, _, _, _, rfl, .ty "bool", .base (.int n), kit_ty (by decide +kernel : kitB "int" "bool" = some false), _, rfl, q⟩
abbrev FnD1 (K : PySem.W.Frag) (x : Str) (st : Stmt) (dvs : List V) (f : Addr) (fd : FuncData) : Prop := FunD K x x (defArgs st) (defBody st) (defScope st) dvs [] f fd
theorem sc_is_count : FnScope ["value", "most"] ["value", "most"] (defScope s_is_count) := ⟨rfl, rfl, rfl, by decide +kernel, rfl, by decide +kernel, by decide +kernel⟩
def sp_is_count : Sp := fun vs H Q _ => ∃ (n : Int) (v : V), vs = [.int n, v] ∧ 0 ≤ n ∧ (v = .non ∨ ∃ m : Int, v = .int m ∧ n ≤ m) ∧ Q (.bl true) H
theorem ok_is_count (F : FnD1 K "is_count" s_is_count [.non] f fd) {fW : Addr} {dW : FuncData} (GW : FnOk P w K mg base CX0 1 fW dW ["value"] sp_is_whole) (kW : PySem.W.keepIn K (.ref fW) = true) (bW : Binds K dW ["value"] []) (gW : mg "is_whole" = some (.ref fW)) : FnOk P w K mg base CX0 2 f fd ["value", "most"] sp_is_count := by
  refine F.ok sc_is_count (fun vs H Q E h => ?_) (fun cdv A outer s H vs Q E hr h => ?_)
  · obtain ⟨n, m, rfl, _⟩ := h
    rfl
  · obtain ⟨n, v, rfl, h0, h1, q⟩ := h
    refine ⟨_, PSs.nox (pss_one (ps_ret (pe_and (pe_call GW hr rfl gW kW bW .nil pass0 (pa_cons (pv 0) pa_nil)) (pe_and (pe_cmpR op_ge (pv 0) pe_int (nomark _)) (pe_one (pe_or (pe_cmpR op_isN (pv 1) pe_non (nomark _)) (pe_one (pe_cmpR op_le (pv 0) (pv 1) (nomark _))))))))), ?_⟩
    refine ⟨_, rfl, n, rfl, _, rfl, iteT ?_⟩
    refine ⟨_, rfl, _, _, rfl, rfl, _, rfl, ?_⟩
    rw [decide_eq_true h0]
    refine iteT ⟨_, rfl, rfl, _, rfl, ?_⟩
    rcases h1 with rfl | ⟨m, rfl, h1⟩
    · rw [decide_eq_true rfl]
      exact iteT q
    · rw [decide_eq_false (by simp)]
      refine iteF ⟨_, rfl, _, rfl, _, _, rfl, rfl, ?_⟩
      show Q (.bl (decide (n ≤ m))) H
      rw [decide_eq_true h1]
      exact q
theorem for_sign {x : Str} {g : TG} {tb : TS} {D : Ends} {σ : St} {H : Hp} (Pv : Nat → St → Hp → Prop) (h0 : Pv 0 σ H) (hs : ∀ i c σ H, x.cps[i]? = some c → Pv i σ H → g (.str ⟨#[c]⟩) σ H fun σ2 H2 => tb { D with nx := Pv (i + 1), ct := Pv (i + 1), bk := D.nx } σ2 H2) (hd : ∀ σ H, Pv x.cps.size σ H → D.nx σ H) :
    ∃ W : Nat → Nat → St → Hp → Prop, (∃ m, W 0 m σ H) ∧ ∀ i m σ H, W i m σ H → ((L2.Its x).stop i H ∧ D.nx σ H) ∨ ((L2.Its x).go i H ∧ ∃ N : St → Hp → Prop, (∀ σ' H', N σ' H' → ∃ m', m' < m ∧ W (i + 1) m' σ' H') ∧ ∀ v H', (L2.Its x).yld i H v H' → g v σ H' fun σ2 H2 => tb { D with nx := N, ct := N, bk := D.nx } σ2 H2) := by
  refine ⟨fun i m σ H => m = x.cps.size - i ∧ i ≤ x.cps.size ∧ Pv i σ H, ⟨_, rfl, Nat.zero_le _, h0⟩, ?_⟩
  rintro i m σ H ⟨rfl, hi, p⟩
  by_cases lt : i < x.cps.size
  · refine .inr ⟨lt, Pv (i + 1), fun σ' H' p' => ⟨x.cps.size - (i + 1), by omega, rfl, lt, p'⟩, ?_⟩
    rintro v H' ⟨rfl, c, hc, rfl⟩
    exact hs i c σ _ hc p
  · obtain rfl : i = x.cps.size := by omega
    exact .inl ⟨Nat.le_refl _, hd σ H p⟩
theorem sc_is_spelt : FnScope ["value", "letter"] ["value"] (defScope s_is_spelt) := ⟨rfl, rfl, rfl, by decide +kernel, rfl, by decide +kernel, by decide +kernel⟩
def sp_is_spelt : Sp := fun vs H Q _ => ∃ x : Str, vs = [.str x] ∧ IsWord x ∧ Q (.bl true) H
theorem ok_is_spelt (F : FnP K "is_spelt" s_is_spelt f fd) (gI : mg "isinstance" = none) (gs : mg "str" = none) (gL : mg "len" = none) {tk : Tok} (gA : mg "LETTERS" = some (.str "abcdefghijklmnopqrstuvwxyz" tk)) : FnOk P w K mg base CX0 1 f fd ["value"] sp_is_spelt := by
  refine F.ok sc_is_spelt (fun vs H Q E h => ?_) (fun cdv A outer s H vs Q E hr h => ?_)
  · obtain ⟨x, rfl, _⟩ := h
    rfl
  · obtain ⟨x, rfl, iw, q⟩ := h
    refine ⟨_, PSs.nox (pss_cons (ps_if (PW.pt (pw_or (pt_not (pt_val (pe_callB call_isi (by rfl) gI (by decide +kernel) (pa_cons (pv 0) (pa_cons (pe_bltn (v := .ty "str") (by rfl) gs (by decide +kernel) rfl) pa_nil))))) (pw_or1 (pt_not (pt_chain op_lt op_lt pe_int (pe_callB call_len (by rfl) gL (by decide +kernel) (pa_cons (pv 0) pa_nil)) pe_int)))))
        (pss_one (ps_ret pe_bl)) pss_nil)
      (pss_cons (ps_for PassesOwn.never rfl (pi_str (pv 0)) (pg_name (i := 1) sc_is_spelt.nd rfl (Or.inl rfl)) (pss_one (ps_if (pt_cmpR op_notIn_sign (pv 1) (pe_glob (v := .str "abcdefghijklmnopqrstuvwxyz") rfl gA ⟨_, rfl⟩) rfl) (pss_one (ps_ret pe_bl)) pss_nil)))
      (pss_one (ps_ret pe_bl)))), ?_⟩
    refine ⟨_, rfl, _, _, _, _, _, rfl, .ty "str", .base (.str x), kit_ty (by decide +kernel : kitB "str" "str" = some true), _, rfl, iteF ?_⟩
    refine ⟨_, rfl, _, x.length, rfl, ⟨Nat.le_trans iw.2.1 (by rw [PySem.sizeLine_eq]; omega), rfl⟩, _, _, rfl, rfl, _, rfl, ?_⟩
    rw [decide_eq_true (by have := iw.1; omega)]
    refine iteT ⟨_, _, rfl, rfl, _, rfl, ?_⟩
    rw [decide_eq_true (by have := iw.2.1; omega)]
    refine iteF ?_
    refine ⟨_, rfl, x, rfl, ?_⟩
    refine for_sign (fun i σ H' => H' = H ∧ ∃ v, σ = [some (.str x), v]) ⟨rfl, _, rfl⟩ ?_ ?_
    · rintro i c σ H' hc ⟨rfl, v, rfl⟩
      have mem : c ∈ x.cps.toList := by
        have z : x.cps.toList[i]? = some c := by rw [Array.getElem?_toList]; exact hc
        exact List.mem_of_getElem? z
      have bd := iw.2.2 c mem
      have abc : c ∈ ("abcdefghijklmnopqrstuvwxyz" : Str).cps.toList := by
        have k : ∀ n : Nat, n < 26 → (97 + n) ∈ ("abcdefghijklmnopqrstuvwxyz" : Str).cps.toList := by decide +kernel
        have := k (c - 97) (by omega)
        rwa [show 97 + (c - 97) = c by omega] at this
      refine ⟨_, rfl, _, _, rfl, rfl, _, rfl, ?_⟩
      rw [decide_eq_true abc]
      exact iteF ⟨rfl, _, rfl⟩
    · rintro σ H' ⟨rfl, v, rfl⟩
      exact q
end
end EV
namespace EV
open PySem L2 NT SX
section
variable {P : Program} {w : PySem.World} {K : PySem.W.Frag} {mg : Str → Option Value} {base : Heap} {f : Addr} {fd : FuncData}
theorem sc_is_effect : FnScope ["value", "number"] ["value"] (defScope s_is_effect) := ⟨rfl, rfl, rfl, by decide +kernel, rfl, by decide +kernel, by decide +kernel⟩
def sp_is_effect : Sp := fun vs H Q _ => ∃ (e : Addr) (w : Str) (ns : List Int), vs = [.ref e] ∧ EffAt H e w ns ∧ EffK w ns ∧ ∀ H', Same H H' → Q (.bl true) H'
theorem all_true : ∀ n : Nat, (List.replicate n true).all id = true
  | 0 => rfl
  | n + 1 => by
    rw [List.replicate_succ, List.all_cons, all_true n]
    rfl
theorem cut_eff {e : V} {ns : List V} : cutV (e :: ns) (some 1) none = ns := by
  unfold cutV
  rw [HT.sIx_none, show HT.sIx (e :: ns).length 0 (some 1) = min 1 (e :: ns).length from HT.sIx_nat _ _ 1, List.length_cons, Nat.min_eq_left (by omega), List.drop_one, List.tail_cons, List.take_of_length_le (by omega)]
theorem ok_is_effect (F : FnP K "is_effect" s_is_effect f fd) (gI : mg "isinstance" = none) (gs : mg "str" = none) (gt : mg "tuple" = none) (gL : mg "len" = none) (gA : mg "all" = none) {tk : Tok} (gM : mg "MOST" = some (.int 3 tk))
    {fC : Addr} {dC : FuncData} (GC : FnOk P w K mg base CX0 2 fC dC ["value", "most"] sp_is_count) (kC : PySem.W.keepIn K (.ref fC) = true) (bC : Binds K dC ["value", "most"] []) (gC : mg "is_count" = some (.ref fC)) : FnOk P w K mg base CX0 3 f fd ["value"] sp_is_effect := by
  refine F.ok sc_is_effect (fun vs H Q E h => ?_) (fun cdv A outer s H vs Q E hr h => ?_)
  · obtain ⟨e, w, ns, rfl, _⟩ := h
    rfl
  · obtain ⟨e, w, ns, rfl, hat, hk, q⟩ := h
    refine ⟨_, PSs.nox (pss_cons (ps_if (PW.pt (pw_or (pt_not (pt_val (pe_callB call_isi (by rfl) gI (by decide +kernel) (pa_cons (pv 0) (pa_cons (pe_bltn (v := .ty "tuple") (by rfl) gt (by decide +kernel) rfl) pa_nil)))))
          (pw_or (pt_cmpR op_notIn_seq (pe_callB call_len_seq (by rfl) gL (by decide +kernel) (pa_cons (pv 0) pa_nil)) (pe_tup (pa_cons pe_int (pa_cons pe_int pa_nil))) rfl)
            (pw_or1 (pt_not (pt_val (pe_callB call_isi (by rfl) gI (by decide +kernel) (pa_cons (pe_ix ix_tup (pv 0) pe_int (fun _ _ => rfl)) (pa_cons (pe_bltn (v := .ty "str") (by rfl) gs (by decide +kernel) rfl) pa_nil)))))))))
        (pss_one (ps_ret pe_bl)) pss_nil)
      (pss_cons (ps_if (pt_cmpR op_ne (pe_ix ix_tup (pv 0) pe_int (fun _ _ => rfl)) (pe_ifExp (pt_cmpR op_eq (pe_callB call_len_seq (by rfl) gL (by decide +kernel) (pa_cons (pv 0) pa_nil)) pe_int (nomark _)) pe_str pe_str) (nomark _)) (pss_one (ps_ret pe_bl)) pss_nil)
      (pss_one (ps_ret (pe_callB (cr_all rfl) (by rfl) gA (by decide +kernel) (pa_cons (pe_lc (own := [("number", 1)]) (g := gName 1) (tt := tYes) rfl sc_is_effect.nd (pi_tup (pe_slice sl_tup (pv 0) (po_some pe_int) po_none)) (blkOk_by (N := ["value", "number"]) (sc := defScope s_is_effect) (by decide +kernel)) (fun _ _ _ _ _ => pg_name (i := 1) sc_is_effect.nd rfl (Or.inl rfl)) (fun _ _ _ _ _ => pts_nil)
        (fun _ _ _ _ _ => pe_call GC hr rfl gC kC bC .nil pass0 (pa_cons (pv 1) (pa_cons (pe_glob (v := .int 3) rfl gM ⟨_, rfl⟩) pa_nil)))) pa_nil)))))), ?_⟩
    have ty : TyX K H (.ref e) (.type "tuple") := .base (.tup hat)
    refine ⟨_, rfl, _, _, _, _, _, rfl, .ty "tuple", ty, kit_ty (by decide +kernel : kitB "tuple" "tuple" = some true), _, rfl, iteF ?_⟩
    refine ⟨_, rfl, e, _, rfl, .inr (SqT.of hat), by show 2 ≤ sizeLine; decide, fun t ht => ?_⟩
    have st := new_same (o := .tup [.int 2, .int 3]) ht
    have et : upd H t (.tup [.int 2, .int 3]) t = some (.tup [.int 2, .int 3]) := upd_same
    have at1 : EffAt (upd H t (.tup [.int 2, .int 3])) e w ns := st _ _ hat
    generalize upd H t (.tup [.int 2, .int 3]) = H1 at st et at1
    have len2 : inV (.int (((.str w :: ns.map V.int : List V).length : Nat) : Int)) [.int 2, .int 3] = true := by
      rw [List.length_cons, List.length_map]
      rcases hk.1 with ⟨_, h⟩ | ⟨_, h⟩ <;> rw [h] <;> decide
    refine ⟨t, _, rfl, .inr (SqT.of et), rfl, rfl, _, rfl, ?_⟩
    rw [len2]
    refine iteF ?_
    refine ⟨_, rfl, e, _, 0, .str w, rfl, rfl, SqT.of at1, atI_nat (j := 0) rfl, _, _, _, _, _, rfl, .ty "str", .base (.str w), kit_ty (by decide +kernel : kitB "str" "str" = some true), _, rfl, iteF ?_⟩
    refine ⟨_, rfl, e, _, 0, .str w, rfl, rfl, SqT.of at1, atI_nat (j := 0) rfl, ?_⟩
    refine ⟨_, rfl, e, _, rfl, .inr (SqT.of at1), rfl, _, rfl, ?_⟩
    have fin : (tRet (tCB (rAll K) (tCons (tLc (iTup K (tSl (rSlT K) (tVar 0) (tPart (tC (.int 1))) tNoPart)) (gName 1) tYes (tCall sp_is_count [] E0 (tCons (tVar 1) (tCons (tC (.int 3)) tNil))) [1]) tNil))) { nx := fun _ H' => Q .non H', rt := Q } [some (.ref e), none] H1 := by
      refine ⟨_, rfl, _, rfl, e, _, rfl, SqT.of at1, ?_, fun l hl => ?_⟩
      · rintro ⟨z, _⟩
        rw [show HT.sIx (.str w :: ns.map V.int : List V).length 0 (some 1) = min 1 (.str w :: ns.map V.int : List V).length from HT.sIx_nat _ _ 1, List.length_cons] at z
        omega
      rw [cut_eff]
      have s2 := new_same (o := .tup (ns.map V.int)) hl
      have e2 : upd H1 l (.tup (ns.map V.int)) l = some (.tup (ns.map V.int)) := upd_same
      generalize upd H1 l (.tup (ns.map V.int)) = H2 at s2 e2
      refine ⟨l, rfl, ⟨_, SqT.of e2⟩, fun D hD => ?_⟩
      refine lc_tup (xs := ns.map V.int) (fun i H' => Same H2 H' ∧ H' D = some (.lst ((List.replicate i true).map V.bl))) ⟨new_same hD, upd_same⟩ (fun i H' _ ⟨s, _⟩ => SqT.of (s _ _ e2)) ?_ ?_
      · rintro i x H' hi ⟨s3, hd⟩
        rw [List.getElem?_map] at hi
        cases hn : ns[i]? with
        | none => rw [hn] at hi; cases hi
        | some n =>
          rw [hn] at hi
          cases hi
          have bd := hk.2 n (List.mem_of_getElem? hn)
          have il : i < ns.length := (List.getElem?_eq_some_iff.mp hn).1
          have few : ns.length ≤ 2 := by rcases hk.1 with ⟨_, h⟩ | ⟨_, h⟩ <;> omega
          refine ⟨rfl, ?_⟩
          refine ⟨_, rfl, n, .int 3, rfl, bd.1, .inr ⟨3, rfl, bd.2⟩, _, hd, by rw [List.length_map, List.length_replicate, PySem.sizeLine_eq]; omega, fun b o z => by rw [upd_ne (ne_of_none z hD)]; exact s3 _ _ z, ?_⟩
          rw [upd_same, List.replicate_succ', List.map_append]
          rfl
      · rintro H' ⟨s3, hd⟩
        refine ⟨D, List.replicate ns.length true, rfl, by rw [List.length_map] at hd; exact SqL.of hd, ?_⟩
        rw [all_true]
        exact q H' ((st.trans s2).trans s3)
    rcases hk.1 with ⟨rfl, h⟩ | ⟨rfl, h⟩
    · have z : decide (V.int (((.str "coins" :: ns.map V.int : List V).length : Nat) : Int) = V.int 2) = true := by rw [List.length_cons, List.length_map, h]; decide
      rw [z]
      refine iteT ⟨rfl, _, rfl, ?_⟩
      rw [decide_eq_true rfl]
      exact iteF fin
    · have z : decide (V.int (((.str "fill" :: ns.map V.int : List V).length : Nat) : Int) = V.int 2) = false := by rw [List.length_cons, List.length_map, h]; decide
      rw [z]
      refine iteF ⟨rfl, _, rfl, ?_⟩
      rw [decide_eq_true rfl]
      exact iteF fin
end
end EV
namespace EV
open PySem L2 NT SX
section
variable {P : Program} {w : PySem.World} {K : PySem.W.Frag} {mg : Str → Option Value} {base : Heap} {f : Addr} {fd : FuncData}
theorem sc_is_manner : FnScope ["value"] ["value"] (defScope s_is_manner) := ⟨rfl, rfl, rfl, by decide +kernel, rfl, by decide +kernel, by decide +kernel⟩
def MnW (m : Mn) : Prop := IsWord m.a ∧ IsWord m.b ∧ IsWord m.c ∧ EffK m.w m.ns
def sp_is_manner : Sp := fun vs H Q _ => ∃ (t : Addr) (m : Mn), vs = [.ref t] ∧ MnAt H t m ∧ MnW m ∧ ∀ H', Same H H' → Q (.bl true) H'
theorem ok_is_manner (F : FnP K "is_manner" s_is_manner f fd) (gI : mg "isinstance" = none) (gt : mg "tuple" = none) (gL : mg "len" = none)
    {fS : Addr} {dS : FuncData} (GS : FnOk P w K mg base CX0 3 fS dS ["value"] sp_is_spelt) (kS : PySem.W.keepIn K (.ref fS) = true) (bS : Binds K dS ["value"] []) (gS : mg "is_spelt" = some (.ref fS))
    {fE : Addr} {dE : FuncData} (GE : FnOk P w K mg base CX0 3 fE dE ["value"] sp_is_effect) (kE : PySem.W.keepIn K (.ref fE) = true) (bE : Binds K dE ["value"] []) (gE : mg "is_effect" = some (.ref fE)) : FnOk P w K mg base CX0 4 f fd ["value"] sp_is_manner := by
  refine F.ok sc_is_manner (fun vs H Q E h => ?_) (fun cdv A outer s H vs Q E hr h => ?_)
  · obtain ⟨t, m, rfl, _⟩ := h
    rfl
  · obtain ⟨t, m, rfl, hm, ⟨wa, wb, wc, ek⟩, q⟩ := h
    obtain ⟨e, ht, he⟩ := mn_parts hm
    refine ⟨_, PSs.nox (pss_cons (ps_if (PW.pt (pw_or (pt_not (pt_val (pe_callB call_isi (by rfl) gI (by decide +kernel) (pa_cons (pv 0) (pa_cons (pe_bltn (v := .ty "tuple") (by rfl) gt (by decide +kernel) rfl) pa_nil)))))
          (pw_or1 (pt_cmpR op_ne (pe_callB call_len_seq (by rfl) gL (by decide +kernel) (pa_cons (pv 0) pa_nil)) pe_int (nomark _)))))
        (pss_one (ps_ret pe_bl)) pss_nil)
      (pss_one (ps_ret (pe_and (pe_call GS hr rfl gS kS bS .nil pass0 (pa_cons (pe_ix ix_tup (pv 0) pe_int (fun _ _ => rfl)) pa_nil))
        (pe_and (pe_call GS hr rfl gS kS bS .nil pass0 (pa_cons (pe_ix ix_tup (pv 0) pe_int (fun _ _ => rfl)) pa_nil))
        (pe_and (pe_call GS hr rfl gS kS bS .nil pass0 (pa_cons (pe_ix ix_tup (pv 0) pe_int (fun _ _ => rfl)) pa_nil))
        (pe_one (pe_call GE hr rfl gE kE bE .nil pass0 (pa_cons (pe_ix ix_tup (pv 0) pe_int (fun _ _ => rfl)) pa_nil))))))))), ?_⟩
    have ty : TyX K H (.ref t) (.type "tuple") := .base (.tup ht)
    refine ⟨_, rfl, _, _, _, _, _, rfl, .ty "tuple", ty, kit_ty (by decide +kernel : kitB "tuple" "tuple" = some true), _, rfl, iteF ?_⟩
    refine ⟨_, rfl, t, _, rfl, .inr (SqT.of ht), rfl, _, rfl, ?_⟩
    refine iteF ?_
    refine ⟨_, rfl, t, _, 0, .str m.a, rfl, rfl, SqT.of ht, atI_nat (j := 0) rfl, m.a, rfl, wa, _, rfl, iteT ?_⟩
    refine ⟨_, rfl, t, _, 1, .str m.b, rfl, rfl, SqT.of ht, atI_nat (j := 1) rfl, m.b, rfl, wb, _, rfl, iteT ?_⟩
    refine ⟨_, rfl, t, _, 2, .str m.c, rfl, rfl, SqT.of ht, atI_nat (j := 2) rfl, m.c, rfl, wc, _, rfl, iteT ?_⟩
    exact ⟨_, rfl, t, _, 3, .ref e, rfl, rfl, SqT.of ht, atI_nat (j := 3) rfl, e, m.w, m.ns, rfl, he, ek, q⟩
theorem sc_are_rooms : FnScope ["value", "room"] ["value"] (defScope s_are_rooms) := ⟨rfl, rfl, rfl, by decide +kernel, rfl, by decide +kernel, by decide +kernel⟩
def sp_are_rooms : Sp := fun vs H Q _ => ∃ (l : Addr) (ws : List Str), vs = [.ref l] ∧ WordsAt H l ws ∧ (∀ x ∈ ws, IsWord x) ∧ ws.Nodup ∧ ws.length < 64 ∧ ∀ H', Same H H' → Q (.bl true) H'
theorem ok_are_rooms (F : FnP K "are_rooms" s_are_rooms f fd) (gI : mg "isinstance" = none) (gt : mg "list" = none) (gL : mg "len" = none) (gA : mg "all" = none) (gS' : mg "set" = none)
    {fS : Addr} {dS : FuncData} (GS : FnOk P w K mg base CX0 3 fS dS ["value"] sp_is_spelt) (kS : PySem.W.keepIn K (.ref fS) = true) (bS : Binds K dS ["value"] []) (gS : mg "is_spelt" = some (.ref fS)) : FnOk P w K mg base CX0 4 f fd ["value"] sp_are_rooms := by
  refine F.ok sc_are_rooms (fun vs H Q E h => ?_) (fun cdv A outer s H vs Q E hr h => ?_)
  · obtain ⟨l, ws, rfl, _⟩ := h
    rfl
  · obtain ⟨l, ws, rfl, hat, hw, nd, few, q⟩ := h
    refine ⟨_, PSs.nox (pss_cons (ps_if (PW.pt (pw_or (pt_not (pt_val (pe_callB call_isi (by rfl) gI (by decide +kernel) (pa_cons (pv 0) (pa_cons (pe_bltn (v := .ty "list") (by rfl) gt (by decide +kernel) rfl) pa_nil)))))
          (pw_or1 (pt_not (pt_val (pe_callB (cr_all rfl) (by rfl) gA (by decide +kernel) (pa_cons (pe_lc (own := [("room", 1)]) (g := gName 1) (tt := tYes) rfl sc_are_rooms.nd (pi_list (pv 0)) (blkOk_by (N := ["value", "room"]) (sc := defScope s_are_rooms) (by decide +kernel)) (fun _ _ _ _ _ => pg_name (i := 1) sc_are_rooms.nd rfl (Or.inl rfl)) (fun _ _ _ _ _ => pts_nil)
            (fun _ _ _ _ _ => pe_call GS hr rfl gS kS bS .nil pass0 (pa_cons (pv 1) pa_nil))) pa_nil)))))))
        (pss_one (ps_ret pe_bl)) pss_nil)
      (pss_one (ps_ret (pe_cmpR op_eq (pe_callB cr_lenT (by rfl) gL (by decide +kernel) (pa_cons (pe_callTy (cr_setL rfl) (by rfl) gS' (by decide +kernel) (pa_cons (pv 0) pa_nil)) pa_nil)) (pe_callB call_len_seq (by rfl) gL (by decide +kernel) (pa_cons (pv 0) pa_nil)) (nomark _))))), ?_⟩
    have ty : TyX K H (.ref l) (.type "list") := .base (.lst hat)
    refine ⟨_, rfl, _, _, _, _, _, rfl, .ty "list", ty, kit_ty (by decide +kernel : kitB "list" "list" = some true), _, rfl, iteF ?_⟩
    refine ⟨_, rfl, l, rfl, ⟨_, SqL.of hat⟩, fun D hD => ?_⟩
    refine lc_list (xs := ws.map V.str) (fun i H' => Same H H' ∧ H' D = some (.lst ((List.replicate i true).map V.bl))) ⟨new_same hD, upd_same⟩ (fun i H' _ ⟨s, _⟩ => SqL.of (s _ _ hat)) ?_ ?_
    · rintro i x H' hi ⟨s3, hd⟩
      rw [List.getElem?_map] at hi
      cases hn : ws[i]? with
      | none => rw [hn] at hi; cases hi
      | some n =>
        rw [hn] at hi
        cases hi
        have il : i < ws.length := (List.getElem?_eq_some_iff.mp hn).1
        refine ⟨rfl, ?_⟩
        refine ⟨_, rfl, n, rfl, hw n (List.mem_of_getElem? hn), _, hd, by rw [List.length_map, List.length_replicate, PySem.sizeLine_eq]; omega, fun b o z => by rw [upd_ne (ne_of_none z hD)]; exact s3 _ _ z, ?_⟩
        rw [upd_same, List.replicate_succ', List.map_append]
        rfl
    · rintro H' ⟨s3, hd⟩
      refine ⟨D, List.replicate ws.length true, rfl, by rw [List.length_map] at hd; exact SqL.of hd, ?_⟩
      rw [all_true]
      refine ⟨_, rfl, iteF ?_⟩
      have h2 := s3 _ _ hat
      refine ⟨_, rfl, l, ws, rfl, SqL.of h2, by have : scanBound = 4096 := rfl; omega, fun p hp => ?_⟩
      refine ⟨p, ded ws, rfl, upd_same, ?_⟩
      have s4 := new_same (o := SetT P w p (ded ws)) hp
      refine ⟨_, rfl, l, _, rfl, .inl (SqL.of (s4 _ _ h2)), rfl, ?_⟩
      have z : decide (V.int ((ded ws).length : Int) = V.int ((ws.map V.str).length : Int)) = true := by
        rw [List.length_map, len_ded nd]
        exact decide_eq_true rfl
      show Q (.bl (decide (V.int ((ded ws).length : Int) = V.int ((ws.map V.str).length : Int)))) _
      rw [z]
      exact q _ (s3.trans s4)
end
end EV
namespace EV
open PySem L2 NT SX
open PyProof.Rows (sortedS)
abbrev FnM (K : PySem.W.Frag) (x q : Str) (st : Stmt) (f : Addr) (fd : FuncData) : Prop := FunD K x q (defArgs st) (defBody st) (defScope st) [] [] f fd
abbrev s_minit : Stmt := inClass (top 20) 0
section
variable {P : Program} {w : PySem.World} {K : PySem.W.Frag} {mg : Str → Option Value} {base : Heap} {f : Addr} {fd : FuncData}
/-- [manner[j] for manner in manners] -/
theorem pick_list {lm D : Addr} {ps : List AM} {j : Int} {v0 v1 v2 v3 v4 v5 v6 : Option V} {H1 : Hp} {Qd : Hp → Prop} (pr : Mn → Str) (hp : ∀ (m : Mn) (e : Addr), atI [V.str m.a, V.str m.b, V.str m.c, V.ref e] j = some (V.str (pr m)))
    (hm : MnsAt H1 lm ps) (hD : H1 D = none) (few : ps.length < 64) (hd : ∀ H, Same H1 H → H D = some (.lst ((ps.map fun p => pr p.2).map V.str)) → Qd H) :
    ∃ W : Nat → Nat → Hp → Prop, (∃ m, W 0 m (upd H1 D (.lst []))) ∧ ∀ i m H, W i m H →
      ((Itl K lm).stop i H ∧ Qd H) ∨ ((Itl K lm).go i H ∧ ∃ Nx : Hp → Prop, (∀ H', Nx H' → ∃ m', m' < m ∧ W (i + 1) m' H') ∧ ∀ x H', (Itl K lm).yld i H x H' → gName 6 x (wipe [v0, v1, v2, v3, v4, v5, v6] [6]) H' fun σ2 H2 => wipe σ2 [6] = wipe [v0, v1, v2, v3, v4, v5, v6] [6] ∧ tYes σ2 H2 fun b H3 =>
        if b = true then (tOp (rIxT K) (tVar 6) (tC (.int j))) σ2 H3 fun y H4 => ∃ acc, H4 D = some (.lst acc) ∧ acc.length < sizeLine ∧ Nx (upd H4 D (.lst (acc ++ [y]))) else Nx H3) := by
  refine lc_list (xs := ps.map fun p => V.ref p.1) (fun i H' => Same H1 H' ∧ H' D = some (.lst (((ps.take i).map fun p => pr p.2).map V.str))) ⟨new_same hD, upd_same⟩ (fun i H' _ ⟨s, _⟩ => SqL.of (s _ _ hm.1)) ?_ ?_
  · rintro i x H' hi ⟨s3, hd⟩
    rw [List.getElem?_map] at hi
    cases hn : ps[i]? with
    | none => rw [hn] at hi; cases hi
    | some p =>
      rw [hn] at hi
      cases hi
      have il : i < ps.length := (List.getElem?_eq_some_iff.mp hn).1
      obtain ⟨e, ht, _⟩ := mn_parts (MnAt.same (hm.2 p (List.mem_of_getElem? hn)) s3)
      refine ⟨rfl, ?_⟩
      refine ⟨_, rfl, p.1, _, j, .str (pr p.2), rfl, rfl, SqT.of ht, hp _ _, _, hd, by rw [List.length_map, List.length_map, List.length_take, PySem.sizeLine_eq]; omega, fun b o z => by rw [upd_ne (ne_of_none z hD)]; exact s3 _ _ z, ?_⟩
      rw [upd_same, List.take_succ, hn]
      simp
  · rintro H' ⟨s3, hd'⟩
    rw [List.length_map, List.take_length] at hd'
    exact hd H' s3 hd'
theorem fld_go {H4 : Hp} {a C dx p : Addr} {fs fs' : List (Str × V)} {o : HO} {Nx : Hp → Prop} (ha : H4 a = some (.ins C dx fs)) (hp : H4 p = none)
    (h : ∀ H6, But a H4 H6 → H6 a = some (.ins C dx fs') → H6 p = some o → Nx H6) : Nx (upd (upd H4 p o) a (.ins C dx fs')) := by
  have pa : p ≠ a := fun z => by rw [z, ha] at hp; cases hp
  refine h _ (fun b u e n => ?_) upd_same (by rw [upd_ne pa, upd_same])
  rw [upd_ne n, upd_ne (ne_of_none e hp)]
  exact e
theorem WordsAt.ins {H H' : Hp} {a C dx l : Addr} {fs : List (Str × V)} {ws : List Str} (h : WordsAt H l ws) (ha : H a = some (.ins C dx fs)) (B : But a H H') : WordsAt H' l ws := B l _ h fun z => by
  subst z
  have h' : H l = some (.lst (ws.map V.str)) := h
  rw [ha] at h'
  cases h'
theorem MnAt.ins {H H' : Hp} {a C dx t : Addr} {fs : List (Str × V)} {m : Mn} (h : MnAt H t m) (ha : H a = some (.ins C dx fs)) (B : But a H H') : MnAt H' t m := NAt.same h fun b xs e => B b _ e fun z => by
  subst z
  rw [ha] at e
  cases e
theorem MnsAt.ins {H H' : Hp} {a C dx l : Addr} {fs : List (Str × V)} {ps : List AM} (h : MnsAt H l ps) (ha : H a = some (.ins C dx fs)) (B : But a H H') : MnsAt H' l ps := by
  refine ⟨B l _ h.1 fun z => ?_, fun q hq => MnAt.ins (h.2 q hq) ha B⟩
  subst z
  have h' := h.1
  rw [ha] at h'
  cases h'
/-- {manner[1] for manner in manners} -/
theorem pick_set {lm D : Addr} {ps : List AM} {j : Int} {v0 v1 v2 v3 v4 v5 v6 : Option V} {H1 : Hp} {Qd : Hp → Prop} (pr : Mn → Str) (hp : ∀ (m : Mn) (e : Addr), atI [V.str m.a, V.str m.b, V.str m.c, V.ref e] j = some (V.str (pr m)))
    (hm : MnsAt H1 lm ps) (hD : H1 D = none) (few : ps.length < 64) (hd : ∀ H, Same H1 H → H D = some (SetT P w D (ded (ps.map fun p => pr p.2))) → Qd H) :
    ∃ W : Nat → Nat → Hp → Prop, (∃ m, W 0 m (upd H1 D (SetT P w D []))) ∧ ∀ i m H, W i m H →
      ((Itl K lm).stop i H ∧ Qd H) ∨ ((Itl K lm).go i H ∧ ∃ Nx : Hp → Prop, (∀ H', Nx H' → ∃ m', m' < m ∧ W (i + 1) m' H') ∧ ∀ x H', (Itl K lm).yld i H x H' → gName 6 x (wipe [v0, v1, v2, v3, v4, v5, v6] [6]) H' fun σ2 H2 => wipe σ2 [6] = wipe [v0, v1, v2, v3, v4, v5, v6] [6] ∧ tYes σ2 H2 fun b H3 =>
        if b = true then (tOp (rIxT K) (tVar 6) (tC (.int j))) σ2 H3 fun y H4 => ∃ (c : Str) (L : List Str), y = .str c ∧ H4 D = some (SetT P w D L) ∧ L.length + 1 < scanBound ∧ Nx (upd H4 D (SetT P w D (ins L c))) else Nx H3) := by
  refine sc_list (xs := ps.map fun p => V.ref p.1) (fun i H' => Same H1 H' ∧ H' D = some (SetT P w D (ded ((ps.map fun p => pr p.2).take i)))) ⟨new_same hD, upd_same⟩ (fun i H' _ ⟨s, _⟩ => SqL.of (s _ _ hm.1)) ?_ ?_
  · rintro i x H' hi ⟨s3, hd⟩
    rw [List.getElem?_map] at hi
    cases hn : ps[i]? with
    | none => rw [hn] at hi; cases hi
    | some p =>
      rw [hn] at hi
      cases hi
      have il : i < ps.length := (List.getElem?_eq_some_iff.mp hn).1
      obtain ⟨e, ht, _⟩ := mn_parts (MnAt.same (hm.2 p (List.mem_of_getElem? hn)) s3)
      have le := ded_le ((ps.map fun p => pr p.2).take i)
      rw [List.length_take] at le
      refine ⟨rfl, ?_⟩
      refine ⟨_, rfl, p.1, _, j, .str (pr p.2), rfl, rfl, SqT.of ht, hp _ _, _, _, rfl, hd, by have : scanBound = 4096 := rfl; omega, fun b o z => by rw [upd_ne (ne_of_none z hD)]; exact s3 _ _ z, ?_⟩
      rw [upd_same, ded_next (x := pr p.2) (by rw [List.getElem?_map, hn]; rfl)]
  · rintro H' ⟨s3, hd'⟩
    rw [List.length_map, show ps.length = (ps.map fun p => pr p.2).length by rw [List.length_map], List.take_length] at hd'
    exact hd H' s3 hd'
theorem sc_minit : FnScope ["self", "manners", "beginnings", "ends", "some", "found", "manner"] ["self", "manners", "beginnings", "ends"] (defScope s_minit) := ⟨rfl, rfl, rfl, by decide +kernel, rfl, by decide +kernel, by decide +kernel⟩
/-- a manual -/
structure ManAt (C : Addr) (H : Hp) (a : Addr) (rows firsts lasts rooms jobs : Addr) (qs : List AM) (fs ls rs js : List Str) : Prop where
  top : ∃ dx, H a = some (.ins C dx [("rows", .ref rows), ("firsts", .ref firsts), ("lasts", .ref lasts), ("rooms", .ref rooms), ("jobs", .ref jobs)])
  ms : MnsAt H rows qs
  f : WordsAt H firsts fs
  l : WordsAt H lasts ls
  r : WordsAt H rooms rs
  j : WordsAt H jobs js
def sp_minit (C : Addr) : Sp := fun vs H Q _ => ∃ (a lm l1 l2 dx : Addr) (ps : List AM) (bs es : List Str), vs = [.ref a, .ref lm, .ref l1, .ref l2] ∧ H a = some (.ins C dx []) ∧ MnsAt H lm ps ∧ WordsAt H l1 bs ∧ WordsAt H l2 es ∧
  (∀ p ∈ ps, MnW p.2) ∧ (ps.map (·.2)).Nodup ∧ ps.length < 64 ∧ (∀ x ∈ bs, IsWord x) ∧ bs.Nodup ∧ bs.length < 64 ∧ (∀ x ∈ es, IsWord x) ∧ es.Nodup ∧ es.length < 64 ∧
  ∀ (H' : Hp) (rows firsts lasts rooms jobs : Addr) (qs : List AM) (fs ls rs js : List Str), ManAt C H' a rows firsts lasts rooms jobs qs fs ls rs js → qs.Perm ps → sortedM (qs.map (·.2)) → fs.Perm bs → sortedS fs = true → ls.Perm es → sortedS ls = true →
    sortedS rs = true → rs.Nodup → (∀ x, x ∈ rs ↔ x ∈ bs ∨ x ∈ es ∨ ∃ p ∈ ps, x = p.2.a ∨ x = p.2.c) → sortedS js = true → js.Nodup → (∀ x, x ∈ js ↔ ∃ p ∈ ps, x = p.2.b) → But a H H' → Q .non H'
structure ManC (K : PySem.W.Frag) (C : Addr) : Prop where
  cl : Cls K C
  rows : NoAttr K C "rows"
  firsts : NoAttr K C "firsts"
  lasts : NoAttr K C "lasts"
  rooms : NoAttr K C "rooms"
  jobs : NoAttr K C "jobs"
theorem ok_minit {C : Addr} (M : ManC K C) (F : FnM K "__init__" "Manual.__init__" s_minit f fd) (gI : mg "isinstance" = none) (gt : mg "list" = none) (gL : mg "len" = none) (gA : mg "all" = none) (gS' : mg "set" = none) (gSo : mg "sorted" = none)
    {fM : Addr} {dM : FuncData} (GM : FnOk P w K mg base CX0 4 fM dM ["value"] sp_is_manner) (kM : PySem.W.keepIn K (.ref fM) = true) (bM : Binds K dM ["value"] []) (gM : mg "is_manner" = some (.ref fM))
    {fR : Addr} {dR : FuncData} (GR : FnOk P w K mg base CX0 4 fR dR ["value"] sp_are_rooms) (kR : PySem.W.keepIn K (.ref fR) = true) (bR : Binds K dR ["value"] []) (gR : mg "are_rooms" = some (.ref fR)) : FnOk P w K mg base CX0 5 f fd ["self", "manners", "beginnings", "ends"] (sp_minit C) := by
  refine F.ok sc_minit (fun vs H Q E h => ?_) (fun cdv A outer s H vs Q E hr h => ?_)
  · obtain ⟨a, lm, l1, l2, dx, ps, bs, es, rfl, _⟩ := h
    rfl
  · obtain ⟨a, lm, l1, l2, dx, ps, bs, es, rfl, ha, hm, hb, he, mw, mnd, few, bw, bnd, bfew, ew, end_, efew, q⟩ := h
    refine ⟨_, PSs.nox (pss_cons (ps_if (PW.pt (pw_or (pt_not (pt_val (pe_callB call_isi (by rfl) gI (by decide +kernel) (pa_cons (pv 1) (pa_cons (pe_bltn (v := .ty "list") (by rfl) gt (by decide +kernel) rfl) pa_nil)))))
          (pw_or1 (pt_not (pt_val (pe_callB (cr_all rfl) (by rfl) gA (by decide +kernel) (pa_cons (pe_lc (own := [("manner", 6)]) (g := gName 6) (tt := tYes) rfl sc_minit.nd (pi_list (pv 1)) (blkOk_by (N := ["self", "manners", "beginnings", "ends", "some", "found", "manner"]) (sc := defScope s_minit) (by decide +kernel)) (fun _ _ _ _ _ => pg_name (i := 6) sc_minit.nd rfl (Or.inl rfl)) (fun _ _ _ _ _ => pts_nil)
            (fun _ _ _ _ _ => pe_call GM hr rfl gM kM bM .nil pass0 (pa_cons (pv 6) pa_nil))) pa_nil)))))))
        (pss_one ps_never) pss_nil)
      (pss_cons (ps_if (pt_cmpR op_ne (pe_callB cr_lenN (by rfl) gL (by decide +kernel) (pa_cons (pe_callTy (cr_setN (sh := mnShape) rfl hr.units) (by rfl) gS' (by decide +kernel) (pa_cons (pv 1) pa_nil)) pa_nil)) (pe_callB call_len_seq (by rfl) gL (by decide +kernel) (pa_cons (pv 1) pa_nil)) (nomark _)) (pss_one ps_never) pss_nil)
      (pss_cons (ps_for PassesOwn.never rfl (pi_tup (pe_tup (pa_cons (pv 2) (pa_cons (pv 3) pa_nil)))) (pg_name (i := 4) sc_minit.nd rfl (Or.inl rfl)) (pss_one (ps_if (pt_not (pt_val (pe_call GR hr rfl gR kR bR .nil pass0 (pa_cons (pv 4) pa_nil)))) (pss_one ps_never) pss_nil)))
      (pss_cons (ps_fld (pv 0) (pe_callB (cr_sortM hr.units) (by rfl) gSo (by decide +kernel) (pa_cons (pv 1) pa_nil)) rfl)
      (pss_cons (ps_fld (pv 0) (pe_callB cr_sortedS (by rfl) gSo (by decide +kernel) (pa_cons (pv 2) pa_nil)) rfl)
      (pss_cons (ps_fld (pv 0) (pe_callB cr_sortedS (by rfl) gSo (by decide +kernel) (pa_cons (pv 3) pa_nil)) rfl)
      (pss_cons (ps_set (i := 5) sc_minit.nd rfl (Or.inl rfl) (pe_op op_cat
          (pe_lc (te := tOp (rIxT K) (tVar 6) (tC (.int 0))) (own := [("manner", 6)]) (g := gName 6) (tt := tYes) rfl sc_minit.nd (pi_list (pv 1)) (blkOk_by (N := ["self", "manners", "beginnings", "ends", "some", "found", "manner"]) (sc := defScope s_minit) (by decide +kernel)) (fun _ _ _ _ _ => pg_name (i := 6) sc_minit.nd rfl (Or.inl rfl)) (fun _ _ _ _ _ => pts_nil) (fun _ _ _ _ _ => pe_ix ix_tup (pv 6) pe_int (fun _ _ => rfl)))
          (pe_lc (te := tOp (rIxT K) (tVar 6) (tC (.int 2))) (own := [("manner", 6)]) (g := gName 6) (tt := tYes) rfl sc_minit.nd (pi_list (pv 1)) (blkOk_by (N := ["self", "manners", "beginnings", "ends", "some", "found", "manner"]) (sc := defScope s_minit) (by decide +kernel)) (fun _ _ _ _ _ => pg_name (i := 6) sc_minit.nd rfl (Or.inl rfl)) (fun _ _ _ _ _ => pts_nil) (fun _ _ _ _ _ => pe_ix ix_tup (pv 6) pe_int (fun _ _ => rfl)))))
      (pss_cons (ps_fld (pv 0) (pe_callB (SX.cr_sortT rfl) (by rfl) gSo (by decide +kernel) (pa_cons (pe_callTy (cr_setL rfl) (by rfl) gS' (by decide +kernel) (pa_cons (pe_op op_cat (pe_op op_cat (pv 5) (pv 2)) (pv 3)) pa_nil)) pa_nil)) rfl)
      (pss_one (ps_fld (pv 0) (pe_callB (SX.cr_sortT rfl) (by rfl) gSo (by decide +kernel) (pa_cons (pe_scT (te := tOp (rIxT K) (tVar 6) (tC (.int 1))) (own := [("manner", 6)]) (g := gName 6) (tt := tYes) rfl sc_minit.nd (pi_list (pv 1)) (blkOk_by (N := ["self", "manners", "beginnings", "ends", "some", "found", "manner"]) (sc := defScope s_minit) (by decide +kernel)) (fun _ _ _ _ _ => pg_name (i := 6) sc_minit.nd rfl (Or.inl rfl)) (fun _ _ _ _ _ => pts_nil) (fun _ _ _ _ _ => pe_ix ix_tup (pv 6) pe_int (fun _ _ => rfl))) pa_nil)) rfl)))))))))), ?_⟩
    have ty : TyX K H (.ref lm) (.type "list") := .base (.lst hm.1)
    refine ⟨_, rfl, _, _, _, _, _, rfl, .ty "list", ty, kit_ty (by decide +kernel : kitB "list" "list" = some true), _, rfl, iteF ?_⟩
    refine ⟨_, rfl, lm, rfl, ⟨_, SqL.of hm.1⟩, fun D hD => ?_⟩
    refine lc_list (xs := ps.map fun p => V.ref p.1) (fun i H' => Same H H' ∧ H' D = some (.lst ((List.replicate i true).map V.bl))) ⟨new_same hD, upd_same⟩ (fun i H' _ ⟨s, _⟩ => SqL.of (s _ _ hm.1)) ?_ ?_
    · rintro i x H' hi ⟨s3, hd⟩
      rw [List.getElem?_map] at hi
      cases hn : ps[i]? with
      | none => rw [hn] at hi; cases hi
      | some p =>
        rw [hn] at hi
        cases hi
        have il : i < ps.length := (List.getElem?_eq_some_iff.mp hn).1
        have mem := List.mem_of_getElem? hn
        refine ⟨rfl, ?_⟩
        refine ⟨_, rfl, p.1, p.2, rfl, MnAt.same (hm.2 p mem) s3, mw p mem, fun H2 s2 => ?_⟩
        refine ⟨_, s2 _ _ hd, by rw [List.length_map, List.length_replicate, PySem.sizeLine_eq]; omega, fun b o z => by rw [upd_ne (ne_of_none z hD)]; exact s2 _ _ (s3 _ _ z), ?_⟩
        rw [upd_same, List.replicate_succ', List.map_append]
        rfl
    rintro H1 ⟨s1, hd⟩
    refine ⟨D, List.replicate ps.length true, rfl, by rw [List.length_map] at hd; exact SqL.of hd, ?_⟩
    rw [all_true]
    refine ⟨_, rfl, iteF ?_⟩
    have hm1 : MnsAt H1 lm ps := hm.same s1
    have ha1 := s1 _ _ ha
    have hb1 := s1 _ _ hb
    have he1 := s1 _ _ he
    clear hd
    refine ⟨_, rfl, lm, ps.map (fun p => (p.1, p.2.key)), rfl, by rw [List.map_map]; exact SqL.of hm1.1, by rw [List.length_map]; exact few, ?_, ?_, fun S hS => ?_⟩
    · have : (ps.map fun p => (p.1, p.2.key)).map (·.2) = (ps.map (·.2)).map Mn.key := by rw [List.map_map, List.map_map]; rfl
      rw [this]
      exact List.Pairwise.map _ (fun a b n z => n (key_inj z)) mnd
    · intro p hp
      obtain ⟨q, hq, rfl⟩ := List.mem_map.mp hp
      exact hm1.2 q hq
    rw [List.length_map]
    refine ⟨S, _, rfl, upd_same, ?_⟩
    have s2 := new_same (o := LenO S ps.length) hS
    generalize upd H1 S (LenO S ps.length) = H2 at s2
    have hm2 := hm1.same s2
    have ha2 := s2 _ _ ha1
    have hb2 := s2 _ _ hb1
    have he2 := s2 _ _ he1
    have s02 := s1.trans s2
    refine ⟨_, rfl, lm, _, rfl, .inl (SqL.of hm2.1), ?_⟩
    refine ⟨rfl, _, rfl, ?_⟩
    rw [List.length_map]
    rw [show (!decide (V.int (ps.length : Int) = V.int (ps.length : Int))) = false by rw [decide_eq_true rfl]; rfl]
    refine iteF ?_
    -- the rooms
    refine ⟨_, rfl, _, rfl, by show 2 ≤ sizeLine; decide, fun T hT => ?_⟩
    have s3 := new_same (o := HO.tup [.ref l1, .ref l2]) hT
    have eT : upd H2 T (.tup [.ref l1, .ref l2]) T = some (.tup [.ref l1, .ref l2]) := upd_same
    generalize upd H2 T (.tup [.ref l1, .ref l2]) = H3 at s3 eT
    have s03 := s02.trans s3
    refine ⟨T, rfl, ⟨_, SqT.of eT⟩, ?_⟩
    refine for_tup (xs := [.ref l1, .ref l2]) (fun i σ H' => Same H3 H' ∧ ∃ v, σ = [some (.ref a), some (.ref lm), some (.ref l1), some (.ref l2), v, none, none]) ⟨fun _ _ e => e, _, rfl⟩ (fun i σ H' _ z => SqT.of (z.1 _ _ eT)) ?_ ?_
    · rintro i x σ H' hi ⟨s4, v, rfl⟩
      have hb4 : WordsAt H' l1 bs := s4 _ _ (s03 _ _ hb)
      have he4 : WordsAt H' l2 es := s4 _ _ (s03 _ _ he)
      match i, hi with
      | 0, hi =>
        cases hi
        exact ⟨_, rfl, l1, bs, rfl, hb4, bw, bnd, bfew, fun H5 s5 => ⟨_, rfl, iteF ⟨s4.trans s5, _, rfl⟩⟩⟩
      | 1, hi =>
        cases hi
        exact ⟨_, rfl, l2, es, rfl, he4, ew, end_, efew, fun H5 s5 => ⟨_, rfl, iteF ⟨s4.trans s5, _, rfl⟩⟩⟩
      | n + 2, hi => cases hi
    rintro σ H4 ⟨s34, v, rfl⟩
    have s04 := s03.trans s34
    clear s1 ha1 hb1 he1 hm1 hD s2 ha2 hb2 he2 hm2 s02 s3 s03 s34 eT hT hS
    have hm4 : MnsAt H4 lm ps := hm.same s04
    have ha4 := s04 _ _ ha
    refine ⟨_, rfl, lm, ps, rfl, SqL.of hm4.1, hm4.2, fun qs rows pq sq hr => ?_⟩
    refine ⟨_, rfl, a, C, dx, [], rfl, by rw [upd_ne (ne_of_none ha4 hr)]; exact ha4, M.cl, M.rows, by decide, ?_⟩
    refine fld_go (fs' := [("rows", .ref rows)]) ha4 hr fun H5 b5 a5 r5 => ?_
    have mr5 : MnsAt H5 rows qs := ⟨r5, fun q hq => MnAt.ins (hm4.2 q (pq.mem_iff.mp hq)) ha4 b5⟩
    have b05 : But a H H5 := fun b o e n => b5 b o (s04 b o e) n
    refine ⟨_, rfl, l1, bs, rfl, SqL.of (WordsAt.ins hb ha b05), bfew, fun fs firsts pf sf hf => ?_⟩
    refine ⟨_, rfl, a, C, dx, _, rfl, by rw [upd_ne (ne_of_none a5 hf)]; exact a5, M.cl, M.firsts, by show 1 < 1000; decide, ?_⟩
    refine fld_go (fs' := [("rows", .ref rows), ("firsts", .ref firsts)]) a5 hf fun H6 b6 a6 r6 => ?_
    have mr6 := MnsAt.ins mr5 a5 b6
    have b06 : But a H H6 := fun b o e n => b6 b o (b05 b o e n) n
    refine ⟨_, rfl, l2, es, rfl, SqL.of (WordsAt.ins he ha b06), efew, fun ls lasts pl sl hl => ?_⟩
    refine ⟨_, rfl, a, C, dx, _, rfl, by rw [upd_ne (ne_of_none a6 hl)]; exact a6, M.cl, M.lasts, by show 2 < 1000; decide, ?_⟩
    refine fld_go (fs' := [("rows", .ref rows), ("firsts", .ref firsts), ("lasts", .ref lasts)]) a6 hl fun H7 b7 a7 r7 => ?_
    have mr7 := MnsAt.ins mr6 a6 b7
    have f7 : WordsAt H7 firsts fs := WordsAt.ins r6 a6 b7
    have l7 : WordsAt H7 lasts ls := r7
    have b07 : But a H H7 := fun b o e n => b7 b o (b06 b o e n) n
    have hm7 := MnsAt.ins hm ha b07
    clear b5 b6 b7 b05 b06 mr5 mr6 a5 a6 r5 r6 r7 ha4 hm4
    refine ⟨_, rfl, lm, rfl, ⟨_, SqL.of hm7.1⟩, fun D1 hD1 => ?_⟩
    refine pick_list (fun m => m.a) (fun m e => atI_nat (j := 0) rfl) hm7 hD1 few fun H8 s8 d8 => ?_
    have hm8 := hm7.same s8
    refine ⟨_, rfl, lm, rfl, ⟨_, SqL.of hm8.1⟩, fun D2 hD2 => ?_⟩
    refine pick_list (fun m => m.c) (fun m e => atI_nat (j := 2) rfl) hm8 hD2 few fun H9 s9 d9 => ?_
    have d8' := s9 _ _ d8
    refine ⟨D1, D2, _, _, rfl, rfl, d8', d9, by rw [List.length_map, List.length_map, List.length_map, List.length_map, PySem.sizeLine_eq]; omega, fun found hfd => ?_⟩
    have s10 := new_same (o := .lst ((ps.map fun p => p.2.a).map V.str ++ (ps.map fun p => p.2.c).map V.str)) hfd
    have e10 : upd H9 found (.lst ((ps.map fun p => p.2.a).map V.str ++ (ps.map fun p => p.2.c).map V.str)) found = some (.lst ((ps.map fun p => p.2.a).map V.str ++ (ps.map fun p => p.2.c).map V.str)) := upd_same
    generalize upd H9 found (.lst ((ps.map fun p => p.2.a).map V.str ++ (ps.map fun p => p.2.c).map V.str)) = H10 at s10 e10
    have s710 := (s8.trans s9).trans s10
    clear s8 s9 s10 d8 d9 d8' hfd hD1 hD2 hm8
    have hb10 : WordsAt H10 l1 bs := s710 _ _ (WordsAt.ins hb ha b07)
    refine ⟨_, rfl, _, rfl, found, l1, _, _, rfl, rfl, e10, hb10, by simp only [List.length_append, List.length_map]; rw [PySem.sizeLine_eq]; omega, fun c1 hc1 => ?_⟩
    have s11 := new_same (o := .lst ((ps.map fun p => p.2.a).map V.str ++ (ps.map fun p => p.2.c).map V.str ++ bs.map V.str)) hc1
    have e11 : upd H10 c1 (.lst ((ps.map fun p => p.2.a).map V.str ++ (ps.map fun p => p.2.c).map V.str ++ bs.map V.str)) c1 = some (.lst ((ps.map fun p => p.2.a).map V.str ++ (ps.map fun p => p.2.c).map V.str ++ bs.map V.str)) := upd_same
    generalize upd H10 c1 (.lst ((ps.map fun p => p.2.a).map V.str ++ (ps.map fun p => p.2.c).map V.str ++ bs.map V.str)) = H11 at s11 e11
    have s711 := s710.trans s11
    have he11 : WordsAt H11 l2 es := s711 _ _ (WordsAt.ins he ha b07)
    refine ⟨_, rfl, c1, l2, _, _, rfl, rfl, e11, he11, by simp only [List.length_append, List.length_map]; rw [PySem.sizeLine_eq]; omega, fun c2 hc2 => ?_⟩
    have all : (ps.map fun p => p.2.a).map V.str ++ (ps.map fun p => p.2.c).map V.str ++ bs.map V.str ++ es.map V.str = ((ps.map fun p => p.2.a) ++ (ps.map fun p => p.2.c) ++ bs ++ es).map V.str := by rw [List.map_append, List.map_append, List.map_append]
    rw [all]
    have s12 := new_same (o := .lst (((ps.map fun p => p.2.a) ++ (ps.map fun p => p.2.c) ++ bs ++ es).map V.str)) hc2
    have e12 : upd H11 c2 (.lst (((ps.map fun p => p.2.a) ++ (ps.map fun p => p.2.c) ++ bs ++ es).map V.str)) c2 = some (.lst (((ps.map fun p => p.2.a) ++ (ps.map fun p => p.2.c) ++ bs ++ es).map V.str)) := upd_same
    generalize upd H11 c2 (.lst (((ps.map fun p => p.2.a) ++ (ps.map fun p => p.2.c) ++ bs ++ es).map V.str)) = H12 at s12 e12
    have s712 := s711.trans s12
    clear s710 s711 s11 s12 e10 e11 hb10 he11 hc1 hc2 all
    refine ⟨c2, _, rfl, SqL.of e12, by simp only [List.length_append, List.length_map]; have : scanBound = 4096 := rfl; omega, fun S hS => ?_⟩
    refine ⟨S, _, rfl, upd_same, fun rs rooms sr pr ndr hro => ?_⟩
    have s13 := new_same (o := SetT P w S (ded ((ps.map fun p => p.2.a) ++ (ps.map fun p => p.2.c) ++ bs ++ es))) hS
    have a13 := s13 _ _ (s712 _ _ a7)
    have s713 := s712.trans s13
    refine ⟨_, rfl, a, C, dx, _, rfl, by rw [upd_ne (ne_of_none a13 hro)]; exact a13, M.cl, M.rooms, by show 3 < 1000; decide, ?_⟩
    refine fld_go (fs' := [("rows", .ref rows), ("firsts", .ref firsts), ("lasts", .ref lasts), ("rooms", .ref rooms)]) a13 hro fun H14 b14 a14 r14 => ?_
    have b714 : But a H7 H14 := fun b o e n => b14 b o (s713 _ _ e) n
    have rr14 : WordsAt H14 rooms rs := r14
    have hm14 := MnsAt.ins hm7 a7 b714
    clear s712 s713 s13 a13 b14 r14 hS hro e12
    refine ⟨_, rfl, lm, rfl, ⟨_, SqL.of hm14.1⟩, fun S2 hS2 => ?_⟩
    refine pick_set (fun m => m.b) (fun m e => atI_nat (j := 1) rfl) hm14 hS2 few fun H15 s15 d15 => ?_
    refine ⟨S2, _, rfl, d15, fun js jobs sj pj ndj hjo => ?_⟩
    have a15 := s15 _ _ a14
    refine ⟨_, rfl, a, C, dx, _, rfl, by rw [upd_ne (ne_of_none a15 hjo)]; exact a15, M.cl, M.jobs, by show 4 < 1000; decide, ?_⟩
    refine fld_go (fs' := [("rows", .ref rows), ("firsts", .ref firsts), ("lasts", .ref lasts), ("rooms", .ref rooms), ("jobs", .ref jobs)]) a15 hjo fun H16 b16 a16 r16 => ?_
    have b1416 : But a H14 H16 := fun b o e n => b16 b o (s15 _ _ e) n
    have b716 : But a H7 H16 := fun b o e n => b1416 b o (b714 b o e n) n
    refine q H16 rows firsts lasts rooms jobs qs fs ls rs js ⟨⟨dx, a16⟩, MnsAt.ins mr7 a7 b716, WordsAt.ins f7 a7 b716, WordsAt.ins l7 a7 b716, WordsAt.ins rr14 a14 b1416, r16⟩ pq sq pf sf pl sl sr (pr.nodup_iff.mpr ndr) ?_ sj (pj.nodup_iff.mpr ndj) ?_ (fun b o e n => b716 b o (b07 b o e n) n)
    · intro x
      rw [pr.mem_iff, mem_ded]
      simp only [List.mem_append, List.mem_map]
      constructor
      · rintro (((⟨p, hp, rfl⟩ | ⟨p, hp, rfl⟩) | h) | h)
        · exact .inr (.inr ⟨p, hp, .inl rfl⟩)
        · exact .inr (.inr ⟨p, hp, .inr rfl⟩)
        · exact .inl h
        · exact .inr (.inl h)
      · rintro (h | h | ⟨p, hp, rfl | rfl⟩)
        · exact .inl (.inr h)
        · exact .inr h
        · exact .inl (.inl (.inl ⟨p, hp, rfl⟩))
        · exact .inl (.inl (.inr ⟨p, hp, rfl⟩))
    · intro x
      rw [pj.mem_iff, mem_ded]
      simp only [List.mem_map]
      constructor
      · rintro ⟨p, hp, rfl⟩
        exact ⟨p, hp, rfl⟩
      · rintro ⟨p, hp, rfl⟩
        exact ⟨p, hp, rfl⟩
end
end EV
namespace EV
open PySem L2 NT SX
abbrev s_manners : Stmt := inClass (top 20) 1
abbrev s_law_manual : Stmt := top 64
def marks : List Str := ["full", "free", "some", "many", "never"]
def rank (x : Str) : Int := if x = "free" then 0 else if x = "some" then 1 else if x = "full" then 2 else if x = "many" then 3 else 4
def laterS (a b : Str) : Str := if rank b ≤ rank a then a else b
section
variable {P : Program} {w : PySem.World} {K : PySem.W.Frag} {mg : Str → Option Value} {base : Heap} {f : Addr} {fd : FuncData}
def MarksT (K : PySem.W.Frag) (a : Addr) : Prop := ∀ H, SqT K H a (marks.map V.str)
def RanksD (K : PySem.W.Frag) (w : PySem.World) (a : Addr) : Prop := ∀ x ∈ marks, KDct K w a x (.int (rank x))
def sp_is_mark : Sp := fun vs H Q _ => ∃ x : Str, vs = [.str x] ∧ x ∈ marks ∧ Q (.bl true) H
def sp_check_mark : Sp := fun vs H Q _ => ∃ x : Str, vs = [.str x] ∧ x ∈ marks ∧ Q .non H
def sp_later : Sp := fun vs H Q _ => ∃ x y : Str, vs = [.str x, .str y] ∧ x ∈ marks ∧ y ∈ marks ∧ Q (.str (laterS x y)) H
theorem sc_manners : FnScope ["self"] ["self"] (defScope s_manners) := ⟨rfl, rfl, rfl, by decide +kernel, rfl, by decide +kernel, by decide +kernel⟩
def sp_manners (C : Addr) : Sp := fun vs H Q _ => ∃ (a rows firsts lasts rooms jobs : Addr) (qs : List AM) (fs ls rs js : List Str), vs = [.ref a] ∧ ManAt C H a rows firsts lasts rooms jobs qs fs ls rs js ∧ ∀ l, H l = none → Q (.ref l) (upd H l (.lst (qs.map fun p => V.ref p.1)))
theorem ok_manners {C : Addr} (M : ManC K C) (F : FnM K "manners" "Manual.manners" s_manners f fd) (gl : mg "list" = none) : FnOk P w K mg base CX0 1 f fd ["self"] (sp_manners C) := by
  refine F.ok sc_manners (fun vs H Q E h => ?_) (fun cdv A outer s H vs Q E hr h => ?_)
  · obtain ⟨a, rows, firsts, lasts, rooms, jobs, qs, fs, ls, rs, js, rfl, _⟩ := h
    rfl
  · obtain ⟨a, rows, firsts, lasts, rooms, jobs, qs, fs, ls, rs, js, rfl, m, q⟩ := h
    obtain ⟨dx, top⟩ := m.top
    exact ⟨_, PSs.nox (pss_one (ps_ret (pe_callTy call_list_of (by rfl) gl (by decide +kernel) (pa_cons (pe_fld (pv 0) rfl) pa_nil)))), _, rfl, a, C, dx, _, _, rfl, top, M.cl, M.rows, rfl, rows, _, rfl, .inl (SqL.of m.ms.1), q⟩
end
end EV
namespace EV
open PySem L2 NT SX
open PyProof.Rows (sortedS)
section
variable {P : Program} {w : PySem.World} {K : PySem.W.Frag} {mg : Str → Option Value} {base : Heap} {f : Addr} {fd : FuncData}
/-- what a manual that is made of ps, bs, es holds -/
structure ManOf (C : Addr) (H : Hp) (a : Addr) (ps : List AM) (bs es : List Str) (qs : List AM) (fs ls rs js : List Str) : Prop where
  at_ : ∃ rows firsts lasts rooms jobs, ManAt C H a rows firsts lasts rooms jobs qs fs ls rs js
  pq : qs.Perm ps
  sq : sortedM (qs.map (·.2))
  pf : fs.Perm bs
  sf : sortedS fs = true
  pl : ls.Perm es
  sl : sortedS ls = true
  sr : sortedS rs = true
  nr : rs.Nodup
  mr : ∀ x, x ∈ rs ↔ x ∈ bs ∨ x ∈ es ∨ ∃ p ∈ ps, x = p.2.a ∨ x = p.2.c
  sj : sortedS js = true
  nj : js.Nodup
  mj : ∀ x, x ∈ js ↔ ∃ p ∈ ps, x = p.2.b
theorem sc_law_manual : FnScope ["world"] ["world"] (defScope s_law_manual) := ⟨rfl, rfl, rfl, by decide +kernel, rfl, by decide +kernel, by decide +kernel⟩
def sp_law_manual (C : Addr) : Sp := fun vs H Q _ => ∃ (W lm l1 l2 lr lj : Addr) (most : Nat) (ps : List AM) (bs es rs js : List Str), vs = [.ref W] ∧ World H W lm l1 l2 lr lj ps bs es rs js ∧ Right most ps bs es rs js ∧ most < 64 ∧ bs.length < 64 ∧ es.length < 64 ∧
  ∀ (H' : Hp) (a : Addr) (qs : List AM) (fs ls rs js : List Str), ManOf C H' a ps bs es qs fs ls rs js → Same H H' → H a = none → Q (.ref a) H'
theorem ok_law_manual {C : Addr} (F : FnP K "_law_manual" s_law_manual f fd) (gl : mg "list" = none) {fI : Addr} {dI : FuncData} (MK : Mk K C fI) (gC : mg "Manual" = some (.ref C))
    (GI : FnOk P w K mg base CX0 5 fI dI ["self", "manners", "beginnings", "ends"] (sp_minit C)) (bI : Binds K dI ["self", "manners", "beginnings", "ends"] []) : FnOk P w K mg base CX0 7 f fd ["world"] (sp_law_manual C) := by
  refine F.ok sc_law_manual (fun vs H Q E h => ?_) (fun cdv A outer s H vs Q E hr h => ?_)
  · obtain ⟨W, lm, l1, l2, lr, lj, most, ps, bs, es, rs, js, rfl, _⟩ := h
    rfl
  · obtain ⟨W, lm, l1, l2, lr, lj, most, ps, bs, es, rs, js, rfl, wd, rt, fm, fb, fe, q⟩ := h
    refine ⟨_, PSs.nox (pss_one (ps_ret (pe_make MK GI hr rfl gC bI .nil pass0
      (pa_cons (pe_callTy call_list_of (by rfl) gl (by decide +kernel) (pa_cons (pe_ix ix_list (pv 0) pe_int (fun _ _ => rfl)) pa_nil))
      (pa_cons (pe_callTy call_list_of (by rfl) gl (by decide +kernel) (pa_cons (pe_ix ix_list (pv 0) pe_int (fun _ _ => rfl)) pa_nil))
      (pa_cons (pe_callTy call_list_of (by rfl) gl (by decide +kernel) (pa_cons (pe_ix ix_list (pv 0) pe_int (fun _ _ => rfl)) pa_nil)) pa_nil)))))), ?_⟩
    refine ⟨_, rfl, W, _, 0, .ref lm, rfl, rfl, SqL.of wd.top, atI_nat (j := 0) rfl, lm, _, rfl, .inl (SqL.of wd.ms.1), fun m1 hm1 => ?_⟩
    have t1 := new_same (o := .lst (ps.map fun p => V.ref p.1)) hm1
    have a1 : MnsAt (upd H m1 (.lst (ps.map fun p => V.ref p.1))) m1 ps := ⟨upd_same, fun p hp => MnAt.same (wd.ms.2 p hp) t1⟩
    generalize upd H m1 (.lst (ps.map fun p => V.ref p.1)) = H1 at t1 a1
    refine ⟨_, rfl, W, _, 1, .ref l1, rfl, rfl, SqL.of (t1 _ _ wd.top), atI_nat (j := 1) rfl, l1, _, rfl, .inl (SqL.of (t1 _ _ wd.b)), fun m2 hm2 => ?_⟩
    have t2 := new_same (o := .lst (bs.map V.str)) hm2
    have a2 : WordsAt (upd H1 m2 (.lst (bs.map V.str))) m2 bs := upd_same
    generalize upd H1 m2 (.lst (bs.map V.str)) = H2 at t2 a2
    have t02 := t1.trans t2
    refine ⟨_, rfl, W, _, 2, .ref l2, rfl, rfl, SqL.of (t02 _ _ wd.top), atI_nat (j := 2) rfl, l2, _, rfl, .inl (SqL.of (t02 _ _ wd.e)), fun m3 hm3 => ?_⟩
    have t3 := new_same (o := .lst (es.map V.str)) hm3
    have a3 : WordsAt (upd H2 m3 (.lst (es.map V.str))) m3 es := upd_same
    generalize upd H2 m3 (.lst (es.map V.str)) = H3 at t3 a3
    have t03 := t02.trans t3
    intro x dx hx hdx ne
    have t4 := new_same (o := .own x) hdx
    have hx4 : upd H3 dx (.own x) x = none := by rw [upd_ne ne.symm]; exact hx
    have t5 := new_same (o := .ins C dx []) hx4
    have t35 := t4.trans t5
    have e5 : upd (upd H3 dx (.own x)) x (.ins C dx []) x = some (.ins C dx []) := upd_same
    generalize upd (upd H3 dx (.own x)) x (.ins C dx []) = H5 at t35 e5
    have t25 := t3.trans t35
    have t15 := t2.trans t25
    have t05 := t1.trans t15
    have hx0 : H x = none := by
      cases z : H x with
      | none => rfl
      | some o => rw [t03 _ _ z] at hx; cases hx
    refine ⟨x, m1, m2, m3, dx, ps, bs, es, rfl, e5, a1.same t15, t25 _ _ a2, t35 _ _ a3, fun p hp => ?_, rt.nd, by have := rt.few; omega, fun y hy => rt.r.1 y (rt.b.1 y hy), rt.b.2, fb, fun y hy => rt.r.1 y (rt.e.1 y hy), rt.e.2, fe, ?_⟩
    · have o := rt.of p hp
      exact ⟨rt.r.1 _ o.1, rt.j.1 _ o.2.1, rt.r.1 _ o.2.2.1, o.2.2.2⟩
    · intro H' rows firsts lasts rooms jobs qs fs ls rs' js' m pq sq pf sf pl sl sr nr mr sj nj mj B
      exact ⟨rfl, q H' x qs fs ls rs' js' ⟨⟨rows, firsts, lasts, rooms, jobs, m⟩, pq, sq, pf, sf, pl, sl, sr, nr, mr, sj, nj, mj⟩ (fun b o e => B b o (t05 b o e) fun z => by rw [z, hx0] at e; cases e) hx0⟩
end
end EV
namespace EV
open PySem L2 NT SX
open PyProof.Rows (sortedS)
abbrev s_law_jobs : Stmt := top 65
section
variable {P : Program} {w : PySem.World} {K : PySem.W.Frag} {mg : Str → Option Value} {base : Heap} {f : Addr} {fd : FuncData}
def addT (L : List Str) (y : Str) : List Str := if y ∈ L then L else L ++ [y]
/-- found + [y] * int(y not in found) -/
theorem add_rep (L : List Str) (y : Str) : L.map V.str ++ (List.replicate (if (!inV (.str y) (L.map V.str)) = true then 1 else 0) [V.str y]).flatten = (addT L y).map V.str := by
  rw [inV_str]
  unfold addT
  by_cases h : y ∈ L
  · simp [h]
  · simp [h]
/-- the texts of xs, each once -/
def OnceOf (L xs : List Str) : Prop := L.Nodup ∧ (∀ x, x ∈ L ↔ x ∈ xs) ∧ L.length ≤ xs.length
theorem OnceOf.add {L xs : List Str} {y : Str} (h : OnceOf L xs) : OnceOf (addT L y) (xs ++ [y]) := by
  obtain ⟨h1, h2, h3⟩ := h
  unfold addT
  by_cases z : y ∈ L
  · rw [if_pos z]
    refine ⟨h1, fun x => ?_, by rw [List.length_append]; omega⟩
    rw [List.mem_append, List.mem_singleton, ← h2 x]
    exact ⟨.inl, fun o => o.elim id fun e => e ▸ z⟩
  · rw [if_neg z]
    refine ⟨?_, fun x => ?_, by rw [List.length_append, List.length_append]; simp; exact h3⟩
    · rw [List.nodup_append]
      refine ⟨h1, List.nodup_cons.mpr ⟨by simp, List.nodup_nil⟩, fun a ha b hb e => ?_⟩
      rw [List.mem_singleton] at hb
      exact z (hb ▸ e ▸ ha)
    · rw [List.mem_append, List.mem_append, h2 x]
theorem OnceOf.next {L xs : List Str} {i : Nat} {y : Str} (h : OnceOf L (xs.take i)) (hy : xs[i]? = some y) : OnceOf (addT L y) (xs.take (i + 1)) := by
  rw [List.take_add_one, hy]
  exact h.add
theorem sc_law_jobs : FnScope ["world", "found", "manner"] ["world"] (defScope s_law_jobs) := ⟨rfl, rfl, rfl, by decide +kernel, rfl, by decide +kernel, by decide +kernel⟩
def sp_law_jobs : Sp := fun vs H Q _ => ∃ (W lm l1 l2 lr lj : Addr) (ps : List AM) (bs es rs js : List Str), vs = [.ref W] ∧ World H W lm l1 l2 lr lj ps bs es rs js ∧ ps.length < 60 ∧
  ∀ (l : Addr) (ws : List Str) H', sortedS ws = true → OnceOf ws (ps.map fun p => p.2.b) → WordsAt H' l ws → H l = none → Same H H' → Q (.ref l) H'
theorem ok_law_jobs (F : FnP K "_law_jobs" s_law_jobs f fd) (gi : mg "int" = none) (gS : mg "sorted" = none) : FnOk P w K mg base CX0 1 f fd ["world"] sp_law_jobs := by
  refine F.ok sc_law_jobs (fun vs H Q E h => ?_) (fun cdv A outer s H vs Q E hr h => ?_)
  · obtain ⟨W, lm, l1, l2, lr, lj, ps, bs, es, rs, js, rfl, _⟩ := h
    rfl
  · obtain ⟨W, lm, l1, l2, lr, lj, ps, bs, es, rs, js, rfl, wd, few, q⟩ := h
    refine ⟨_, PSs.nox (pss_cons (ps_set (i := 1) sc_law_jobs.nd rfl (Or.inl rfl) (pe_lst pa_nil))
      (pss_cons (ps_for PassesOwn.never rfl (pi_list (pe_ix ix_list (pv 0) pe_int (fun _ _ => rfl))) (pg_name (i := 2) sc_law_jobs.nd rfl (Or.inl rfl))
        (pss_one (ps_set (i := 1) sc_law_jobs.nd rfl (Or.inl rfl) (pe_op op_cat (pv 1) (pe_op op_rep (pe_lst (pa_cons (pe_ix ix_tup (pv 2) pe_int (fun _ _ => rfl)) pa_nil))
          (pe_callTy call_int1 (by rfl) gi (by decide +kernel) (pa_cons (pe_cmpR op_notIn_seq (pe_ix ix_tup (pv 2) pe_int (fun _ _ => rfl)) (pv 1) rfl) pa_nil)))))))
      (pss_one (ps_ret (pe_callB cr_sortedS (by rfl) gS (by decide +kernel) (pa_cons (pv 1) pa_nil)))))), ?_⟩
    refine ⟨by show 0 ≤ sizeLine; exact Nat.zero_le _, fun D hD => ?_⟩
    have s1 := new_same (o := .lst []) hD
    refine ⟨_, rfl, W, _, 0, .ref lm, rfl, rfl, SqL.of (s1 _ _ wd.top), atI_nat (j := 0) rfl, lm, rfl, ⟨_, SqL.of (s1 _ _ wd.ms.1)⟩, ?_⟩
    refine for_list (xs := ps.map fun p => V.ref p.1) (fun i σ H' => Same H H' ∧ ∃ l L v, σ = [some (.ref W), some (.ref l), v] ∧ WordsAt H' l L ∧ H l = none ∧ OnceOf L ((ps.map fun p => p.2.b).take i)) ⟨s1, D, [], _, rfl, upd_same, hD, List.nodup_nil, fun x => by simp, Nat.zero_le _⟩ (fun i σ H' _ z => SqL.of (z.1 _ _ wd.ms.1)) ?_ ?_
    · rintro i x σ H' hi ⟨s2, l, L, v, rfl, hl, fl, on⟩
      rw [List.getElem?_map] at hi
      cases hn : ps[i]? with
      | none => rw [hn] at hi; cases hi
      | some p =>
        rw [hn] at hi
        cases hi
        have il : i < ps.length := (List.getElem?_eq_some_iff.mp hn).1
        obtain ⟨e, ht, _⟩ := mn_parts (MnAt.same (wd.ms.2 p (List.mem_of_getElem? hn)) s2)
        have le := on.2.2
        rw [List.length_take] at le
        refine ⟨_, rfl, _, rfl, p.1, _, 1, .str p.2.b, rfl, rfl, SqT.of ht, atI_nat (j := 1) rfl, by show 1 ≤ sizeLine; decide, fun R hR => ?_⟩
        have s3 := new_same (o := .lst [.str p.2.b]) hR
        have eR : upd H' R (.lst [.str p.2.b]) R = some (.lst [.str p.2.b]) := upd_same
        generalize upd H' R (.lst [.str p.2.b]) = H3 at s3 eR
        refine ⟨_, rfl, p.1, _, 1, .str p.2.b, rfl, rfl, SqT.of (s3 _ _ ht), atI_nat (j := 1) rfl, _, rfl, l, _, rfl, .inl (SqL.of (s3 _ _ hl)), rfl, flat_strs L, .inr ⟨_, rfl, ?_⟩⟩
        have two : ∀ b : Bool, -(2 ^ 63) ≤ (if b = true then 1 else 0 : Int) ∧ (if b = true then 1 else 0 : Int) < 2 ^ 63 ∧ [V.str p.2.b].length * (if b = true then 1 else 0 : Int).toNat ≤ sizeLine ∧ (if b = true then 1 else 0 : Int).toNat = (if b = true then 1 else 0) := by
          intro b
          cases b
          · exact ⟨by decide, by decide, by show 1 * 0 ≤ sizeLine; decide, by decide⟩
          · exact ⟨by decide, by decide, by show 1 * 1 ≤ sizeLine; decide, by decide⟩
        obtain ⟨k1, k2, k3, k4⟩ := two (!inV (.str p.2.b) (L.map V.str))
        refine ⟨R, _, _, rfl, rfl, eR, k1, k2, k3, fun R2 hR2 => ?_⟩
        have k5 : ∀ b : Bool, (if b = true then 1 else 0 : Int).toNat = (if b = true then 1 else 0) := fun b => (two b).2.2.2
        rw [k5 _, if_pos (rfl : true = true)]
        have s4 := new_same (o := .lst (List.replicate (if (!inV (.str p.2.b) (L.map V.str)) = true then 1 else 0) [V.str p.2.b]).flatten) hR2
        have e4 : upd H3 R2 (.lst (List.replicate (if (!inV (.str p.2.b) (L.map V.str)) = true then 1 else 0) [V.str p.2.b]).flatten) R2 = some (.lst (List.replicate (if (!inV (.str p.2.b) (L.map V.str)) = true then 1 else 0) [V.str p.2.b]).flatten) := upd_same
        generalize upd H3 R2 (.lst (List.replicate (if (!inV (.str p.2.b) (L.map V.str)) = true then 1 else 0) [V.str p.2.b]).flatten) = H4 at s4 e4
        have s34 := s3.trans s4
        have on2 := on.next (y := p.2.b) (by rw [List.getElem?_map, hn]; rfl)
        have le2 := on2.2.2
        rw [List.length_take] at le2
        refine ⟨l, R2, _, _, rfl, rfl, s34 _ _ hl, e4, ?_, fun c hc => ?_⟩
        · rw [← List.length_append, add_rep, List.length_map, PySem.sizeLine_eq]
          omega
        rw [add_rep]
        refine ⟨(s2.trans s34).trans (new_same hc), c, _, _, rfl, upd_same, ?_, on2⟩
        cases z : H c with
        | none => rfl
        | some o => rw [s34 _ _ (s2 _ _ z)] at hc; cases hc
    · rintro σ H' ⟨s2, l, L, v, rfl, hl, fl, on⟩
      rw [List.length_map, show ps.length = (ps.map fun p => p.2.b).length by rw [List.length_map], List.take_length] at on
      have le := on.2.2
      rw [List.length_map] at le
      refine ⟨_, rfl, l, L, rfl, SqL.of hl, by omega, fun ws d pw sw hd => ?_⟩
      refine q d ws _ sw ⟨pw.nodup_iff.mpr on.1, fun x => by rw [pw.mem_iff, on.2.1 x], by rw [pw.length_eq]; exact on.2.2⟩ upd_same ?_ (s2.trans (new_same hd))
      cases z : H d with
      | none => rfl
      | some o => rw [s2 _ _ z] at hd; cases hd
end
end EV
namespace EV
open PySem L2 NT SX
open PyProof.Rows (sortedS)
section
variable {P : Program} {w : PySem.World} {K : PySem.W.Frag} {mg : Str → Option Value} {base : Heap} {f : Addr} {fd : FuncData}
/-- [manner[j] for manner in manners] -/
theorem pick_listR {lm D : Addr} {ps : List AM} {j : Int} {v0 v1 v2 v3 : Option V} {H1 : Hp} {Qd : Hp → Prop} (pr : Mn → Str) (hp : ∀ (m : Mn) (e : Addr), atI [V.str m.a, V.str m.b, V.str m.c, V.ref e] j = some (V.str (pr m)))
    (hm : MnsAt H1 lm ps) (hD : H1 D = none) (few : ps.length < 64) (hd : ∀ H, Same H1 H → H D = some (.lst ((ps.map fun p => pr p.2).map V.str)) → Qd H) :
    ∃ W : Nat → Nat → Hp → Prop, (∃ m, W 0 m (upd H1 D (.lst []))) ∧ ∀ i m H, W i m H →
      ((Itl K lm).stop i H ∧ Qd H) ∨ ((Itl K lm).go i H ∧ ∃ Nx : Hp → Prop, (∀ H', Nx H' → ∃ m', m' < m ∧ W (i + 1) m' H') ∧ ∀ x H', (Itl K lm).yld i H x H' → gName 3 x (wipe [v0, v1, v2, v3] [3]) H' fun σ2 H2 => wipe σ2 [3] = wipe [v0, v1, v2, v3] [3] ∧ tYes σ2 H2 fun b H3 =>
        if b = true then (tOp (rIxT K) (tVar 3) (tC (.int j))) σ2 H3 fun y H4 => ∃ acc, H4 D = some (.lst acc) ∧ acc.length < sizeLine ∧ Nx (upd H4 D (.lst (acc ++ [y]))) else Nx H3) := by
  refine lc_list (xs := ps.map fun p => V.ref p.1) (fun i H' => Same H1 H' ∧ H' D = some (.lst (((ps.take i).map fun p => pr p.2).map V.str))) ⟨new_same hD, upd_same⟩ (fun i H' _ ⟨s, _⟩ => SqL.of (s _ _ hm.1)) ?_ ?_
  · rintro i x H' hi ⟨s3, hd⟩
    rw [List.getElem?_map] at hi
    cases hn : ps[i]? with
    | none => rw [hn] at hi; cases hi
    | some p =>
      rw [hn] at hi
      cases hi
      have il : i < ps.length := (List.getElem?_eq_some_iff.mp hn).1
      obtain ⟨e, ht, _⟩ := mn_parts (MnAt.same (hm.2 p (List.mem_of_getElem? hn)) s3)
      refine ⟨rfl, ?_⟩
      refine ⟨_, rfl, p.1, _, j, .str (pr p.2), rfl, rfl, SqT.of ht, hp _ _, _, hd, by rw [List.length_map, List.length_map, List.length_take, PySem.sizeLine_eq]; omega, fun b o z => by rw [upd_ne (ne_of_none z hD)]; exact s3 _ _ z, ?_⟩
      rw [upd_same, List.take_succ, hn]
      simp
  · rintro H' ⟨s3, hd'⟩
    rw [List.length_map, List.take_length] at hd'
    exact hd H' s3 hd'
/-- the rooms of a world, as the law lists them -/
def roomsOf (ps : List AM) (bs es : List Str) : List Str := (ps.map fun p => p.2.a) ++ (ps.map fun p => p.2.c) ++ bs ++ es
def sp_law_rooms : Sp := fun vs H Q _ => ∃ (W lm l1 l2 lr lj : Addr) (ps : List AM) (bs es rs js : List Str), vs = [.ref W] ∧ World H W lm l1 l2 lr lj ps bs es rs js ∧ ps.length < 64 ∧ bs.length < 64 ∧ es.length < 64 ∧ (roomsOf ps bs es).length < 64 ∧
  ∀ (l : Addr) (ws : List Str) H', sortedS ws = true → OnceOf ws (roomsOf ps bs es) → WordsAt H' l ws → H l = none → Same H H' → Q (.ref l) H'
end
end EV
namespace EV
open PySem L2 NT SX
def effMark (w : Str) (ns : List Int) : Str := if w = "fill" then "full" else if ns.headD 0 = 0 then "free" else "some"
def bestS (ms : List Str) : Str := (marks.find? fun x => decide (x ∈ ms)).getD "never"
section
variable {P : Program} {w : PySem.World} {K : PySem.W.Frag} {mg : Str → Option Value} {base : Heap} {f : Addr} {fd : FuncData}
def sp_effect_mark : Sp := fun vs H Q _ => ∃ (e : Addr) (w : Str) (ns : List Int), vs = [.ref e] ∧ EffAt H e w ns ∧ EffK w ns ∧ Q (.str (effMark w ns)) H
def sp_best_of : Sp := fun vs H Q _ => ∃ (l : Addr) (ms : List Str), vs = [.ref l] ∧ WordsAt H l ms ∧ Q (.str (bestS ms)) H
theorem find_none {ms : List Str} : ∀ xs : List Str, (∀ x ∈ xs, x ∉ ms) → xs.find? (fun x => decide (x ∈ ms)) = none := fun xs h => by
  rw [List.find?_eq_none]
  intro x hx
  simp [h x hx]
end
end EV
namespace EV
open PySem L2 NT SX
abbrev s_check_manual : Stmt := top 21
def idx (x : Str) : Nat := marks.idxOf x
theorem idx_ok : ∀ x ∈ marks, marks[idx x]? = some x ∧ ∀ m, m < idx x → marks[m]? ≠ some x := by decide +kernel
section
variable {P : Program} {w : PySem.World} {K : PySem.W.Frag} {mg : Str → Option Value} {base : Heap} {f : Addr} {fd : FuncData}
def sp_is_better : Sp := fun vs H Q _ => ∃ x y : Str, vs = [.str x, .str y] ∧ x ∈ marks ∧ y ∈ marks ∧ Q (.bl (decide (idx x < idx y))) H
/-- what K must show of the class for isinstance -/
def ManT (K : PySem.W.Frag) (C : Addr) : Prop := (∀ (H : Hp) (a dx : Addr) (fs : List (Str × V)), H a = some (.ins C dx fs) → TyX K H (.ref a) (.ref C)) ∧ PySem.W.kitOne K (.ref C) (.ref C) = some true
theorem sc_check_manual : FnScope ["value"] ["value"] (defScope s_check_manual) := ⟨rfl, rfl, rfl, by decide +kernel, rfl, by decide +kernel, by decide +kernel⟩
def sp_check_manual (C : Addr) : Sp := fun vs H Q _ => ∃ (a dx : Addr) (fs : List (Str × V)), vs = [.ref a] ∧ H a = some (.ins C dx fs) ∧ Q .non H
theorem ok_check_manual {C : Addr} (T : ManT K C) (F : FnP K "check_manual" s_check_manual f fd) (gI : mg "isinstance" = none) (gC : mg "Manual" = some (.ref C)) : FnOk P w K mg base CX0 1 f fd ["value"] (sp_check_manual C) := by
  refine F.ok sc_check_manual (fun vs H Q E h => ?_) (fun cdv A outer s H vs Q E hr h => ?_)
  · obtain ⟨a, dx, fs, rfl, _⟩ := h
    rfl
  · obtain ⟨a, dx, fs, rfl, ha, q⟩ := h
    exact ⟨_, PSs.nox (pss_one (ps_if (pt_not (pt_val (pe_callB call_isi (by rfl) gI (by decide +kernel) (pa_cons (pv 0) (pa_cons (pe_glob (v := .ref C) rfl gC rfl) pa_nil))))) (pss_one ps_never) pss_nil)), _, rfl, _, _, _, _, _, rfl, .own C, T.1 H a dx fs ha, T.2, _, rfl, iteF q⟩
end
end EV
namespace EV
open PySem L2 NT SX
/-- a card: its rows, each a tuple of marks -/
def CardAt (H : Hp) (t : Addr) (cs : List (Addr × List Str)) : Prop := H t = some (.tup (cs.map fun p => V.ref p.1)) ∧ ∀ p ∈ cs, H p.1 = some (.tup (p.2.map V.str))
def CardOk (n : Nat) (cs : List (Addr × List Str)) : Prop := cs.length = n ∧ ∀ p ∈ cs, p.2.length = n ∧ ∀ x ∈ p.2, x ∈ marks
theorem CardAt.same {H H' : Hp} {t : Addr} {cs : List (Addr × List Str)} (h : CardAt H t cs) (s : Same H H') : CardAt H' t cs := ⟨s _ _ h.1, fun p hp => s _ _ (h.2 p hp)⟩
section
variable {P : Program} {w : PySem.World} {K : PySem.W.Frag} {mg : Str → Option Value} {base : Heap} {f : Addr} {fd : FuncData}
def sp_fits : Sp := fun vs H Q _ => ∃ (n : Nat) (t : Addr) (cs : List (Addr × List Str)), vs = [.int n, .ref t] ∧ CardAt H t cs ∧ CardOk n cs ∧ n < 64 ∧ ∀ H', Same H H' → Q (.bl true) H'
end
end EV
namespace EV
open PySem L2 NT SX
section
variable {P : Program} {w : PySem.World} {K : PySem.W.Frag} {mg : Str → Option Value} {base : Heap} {f : Addr} {fd : FuncData}
def sp_check_card (C : Addr) : Sp := fun vs H Q _ => ∃ (a rows firsts lasts rooms jobs t : Addr) (qs : List AM) (fs ls rs js : List Str) (cs : List (Addr × List Str)), vs = [.ref a, .ref t] ∧ ManAt C H a rows firsts lasts rooms jobs qs fs ls rs js ∧ CardAt H t cs ∧ CardOk rs.length cs ∧ rs.length < 64 ∧ ∀ H', Same H H' → Q .non H'
def sp_is_card (C : Addr) : Sp := fun vs H Q _ => ∃ (a rows firsts lasts rooms jobs t : Addr) (qs : List AM) (fs ls rs js : List Str) (cs : List (Addr × List Str)), vs = [.ref a, .ref t] ∧ ManAt C H a rows firsts lasts rooms jobs qs fs ls rs js ∧ CardAt H t cs ∧ CardOk rs.length cs ∧ rs.length < 64 ∧ ∀ H', Same H H' → Q (.bl true) H'
end
end EV
namespace EV
open PySem L2 NT SX
abbrev s_is_book : Stmt := top 23
abbrev s_check_book : Stmt := top 24
section
variable {P : Program} {w : PySem.World} {K : PySem.W.Frag} {mg : Str → Option Value} {base : Heap} {f : Addr} {fd : FuncData}
theorem sc_is_book : FnScope ["value", "job"] ["value"] (defScope s_is_book) := ⟨rfl, rfl, rfl, by decide +kernel, rfl, by decide +kernel, by decide +kernel⟩
def sp_is_book : Sp := fun vs H Q _ => ∃ (l : Addr) (ws : List Str), vs = [.ref l] ∧ WordsAt H l ws ∧ (∀ x ∈ ws, IsWord x) ∧ ws.length < 1000 ∧ ∀ H', Same H H' → Q (.bl true) H'
theorem ok_is_book (F : FnP K "is_book" s_is_book f fd) (gI : mg "isinstance" = none) (gt : mg "list" = none) (gA : mg "all" = none)
    {fS : Addr} {dS : FuncData} (GS : FnOk P w K mg base CX0 1 fS dS ["value"] sp_is_spelt) (kS : PySem.W.keepIn K (.ref fS) = true) (bS : Binds K dS ["value"] []) (gS : mg "is_spelt" = some (.ref fS)) : FnOk P w K mg base CX0 2 f fd ["value"] sp_is_book := by
  refine F.ok sc_is_book (fun vs H Q E h => ?_) (fun cdv A outer s H vs Q E hr h => ?_)
  · obtain ⟨l, ws, rfl, _⟩ := h
    rfl
  · obtain ⟨l, ws, rfl, hat, hw, few, q⟩ := h
    refine ⟨_, PSs.nox (pss_one (ps_ret (pe_and (pe_callB call_isi (by rfl) gI (by decide +kernel) (pa_cons (pv 0) (pa_cons (pe_bltn (v := .ty "list") (by rfl) gt (by decide +kernel) rfl) pa_nil)))
      (pe_one (pe_callB (cr_all rfl) (by rfl) gA (by decide +kernel) (pa_cons (pe_lc (own := [("job", 1)]) (g := gName 1) (tt := tYes) rfl sc_is_book.nd (pi_list (pv 0)) (blkOk_by (N := ["value", "job"]) (sc := defScope s_is_book) (by decide +kernel)) (fun _ _ _ _ _ => pg_name (i := 1) sc_is_book.nd rfl (Or.inl rfl)) (fun _ _ _ _ _ => pts_nil)
        (fun _ _ _ _ _ => pe_call GS hr rfl gS kS bS .nil pass0 (pa_cons (pv 1) pa_nil))) pa_nil)))))), ?_⟩
    have ty : TyX K H (.ref l) (.type "list") := .base (.lst hat)
    refine ⟨_, rfl, _, _, _, _, _, rfl, .ty "list", ty, kit_ty (by decide +kernel : kitB "list" "list" = some true), _, rfl, iteT ?_⟩
    refine ⟨_, rfl, l, rfl, ⟨_, SqL.of hat⟩, fun D hD => ?_⟩
    refine lc_list (xs := ws.map V.str) (fun i H' => Same H H' ∧ H' D = some (.lst ((List.replicate i true).map V.bl))) ⟨new_same hD, upd_same⟩ (fun i H' _ ⟨s, _⟩ => SqL.of (s _ _ hat)) ?_ ?_
    · rintro i x H' hi ⟨s3, hd⟩
      rw [List.getElem?_map] at hi
      cases hn : ws[i]? with
      | none => rw [hn] at hi; cases hi
      | some n =>
        rw [hn] at hi
        cases hi
        have il : i < ws.length := (List.getElem?_eq_some_iff.mp hn).1
        refine ⟨rfl, ?_⟩
        refine ⟨_, rfl, n, rfl, hw n (List.mem_of_getElem? hn), _, hd, by rw [List.length_map, List.length_replicate, PySem.sizeLine_eq]; omega, fun b o z => by rw [upd_ne (ne_of_none z hD)]; exact s3 _ _ z, ?_⟩
        rw [upd_same, List.replicate_succ', List.map_append]
        rfl
    · rintro H' ⟨s3, hd⟩
      refine ⟨D, List.replicate ws.length true, rfl, by rw [List.length_map] at hd; exact SqL.of hd, ?_⟩
      rw [all_true]
      exact q H' s3
theorem sc_check_book : FnScope ["value"] ["value"] (defScope s_check_book) := ⟨rfl, rfl, rfl, by decide +kernel, rfl, by decide +kernel, by decide +kernel⟩
def sp_check_book : Sp := fun vs H Q _ => ∃ (l : Addr) (ws : List Str), vs = [.ref l] ∧ WordsAt H l ws ∧ (∀ x ∈ ws, IsWord x) ∧ ws.length < 1000 ∧ ∀ H', Same H H' → Q .non H'
theorem ok_check_book (F : FnP K "check_book" s_check_book f fd)
    {fB : Addr} {dB : FuncData} (GB : FnOk P w K mg base CX0 2 fB dB ["value"] sp_is_book) (kB : PySem.W.keepIn K (.ref fB) = true) (bB : Binds K dB ["value"] []) (gB : mg "is_book" = some (.ref fB)) : FnOk P w K mg base CX0 3 f fd ["value"] sp_check_book := by
  refine F.ok sc_check_book (fun vs H Q E h => ?_) (fun cdv A outer s H vs Q E hr h => ?_)
  · obtain ⟨l, ws, rfl, _⟩ := h
    rfl
  · obtain ⟨l, ws, rfl, hat, hw, few, q⟩ := h
    exact ⟨_, PSs.nox (pss_one (ps_if (pt_not (pt_val (pe_call GB hr rfl gB kB bB .nil pass0 (pa_cons (pv 0) pa_nil)))) (pss_one ps_never) pss_nil)), _, rfl, l, ws, rfl, hat, hw, few, fun H' s1 => ⟨_, rfl, iteF (q H' s1)⟩⟩
end
end EV
namespace EV
open PySem L2 NT SX
section
variable {P : Program} {w : PySem.World} {K : PySem.W.Frag} {mg : Str → Option Value} {base : Heap} {f : Addr} {fd : FuncData}
def sp_shuffled : Sp := fun vs H Q _ => ∃ (p l : Addr) (k : Nat) (ws : List Str), vs = [.ref p, .ref l] ∧ Pu H p k ∧ k < 700000000 ∧ WordsAt H l ws ∧ ws.length < 64 ∧
  ∀ (r : Addr) (us : List Str) H', us.Perm ws → WordsAt H' r us → H r = none → Pu H' p (k + ws.length) → But p H H' → Q (.ref r) H'
end
end EV
namespace EV
open PySem L2 NT SX
section
variable {P : Program} {w : PySem.World} {K : PySem.W.Frag} {mg : Str → Option Value} {base : Heap} {f : Addr} {fd : FuncData}
end
end EV
namespace EV
open PySem L2 NT SX
/-- what a statement returns -/
def retE : Stmt → Expr
  | .Return (some e) _ => e
  | .Assign _ e _ => e
  | _ => .Name "" ⟨0, 0, 0, 0⟩
/-- the scope of a comprehension, or of the comprehension that a call takes first -/
def lcIn : Expr → Scope
  | .ListComp _ _ sc _ => sc
  | .Call _ (.ListComp _ _ sc _ :: _) _ _ => sc
  | _ => defScope (top 0)
def tRin (K : PySem.W.Frag) : TE := tCall sp_later [] E0 (tCons (tVar 5) (tCons (tOp (rIxT K) (tOp (rIxT K) (tVar 1) (tVar 4)) (tVar 3)) tNil))
def tRout (K : PySem.W.Frag) : TE := tCall sp_best_of [] E0 (tCons (tLc (iEnumT K (tCons (tVar 0) tNil)) (gTup K 2 (gCons (gName 4) (gCons (gName 5) gNil))) tYes (tRin K) [4, 5]) tNil)
def rowB (r : List Str) (c : List (List Str)) : List Str := (List.range r.length).map fun g => bestS ((r.zip c).map fun p => laterS p.1 (p.2.getD g "never"))
def joinC (a b : List (List Str)) : List (List Str) := a.map fun r => rowB r b
section
variable {P : Program} {w : PySem.World} {K : PySem.W.Frag} {mg : Str → Option Value} {base : Heap} {f : Addr} {fd : FuncData}
def sp_row_behind : Sp := fun vs H Q _ => ∃ (a t : Addr) (r : List Str) (cs : List (Addr × List Str)), vs = [.ref a, .ref t] ∧ H a = some (.tup (r.map V.str)) ∧ CardAt H t cs ∧ CardOk r.length cs ∧ (∀ x ∈ r, x ∈ marks) ∧ r.length < 64 ∧
  ∀ T H', Same H H' → H T = none → H' T = some (.tup ((rowB r (cs.map (·.2))).map V.str)) → Q (.ref T) H'
end
end EV
namespace EV
open PySem L2 NT SX
theorem best_mem (ms : List Str) : bestS ms ∈ marks := by
  unfold bestS
  cases h : marks.find? fun x => decide (x ∈ ms) with
  | none => decide +kernel
  | some x => exact List.mem_of_find?_eq_some h
theorem rowB_mem {r : List Str} {c : List (List Str)} : ∀ x ∈ rowB r c, x ∈ marks := fun x hx => by
  unfold rowB at hx
  obtain ⟨g, _, rfl⟩ := List.mem_map.mp hx
  exact best_mem _
theorem rowB_len {r : List Str} {c : List (List Str)} : (rowB r c).length = r.length := by unfold rowB; simp
section
variable {P : Program} {w : PySem.World} {K : PySem.W.Frag} {mg : Str → Option Value} {base : Heap} {f : Addr} {fd : FuncData}
/-- a card that a call hands out -/
def CardOut (Q : VK) (H : Hp) (n : Nat) (c : List (List Str)) : Prop := ∀ T H' cs, Same H H' → H T = none → CardAt H' T cs → CardOk n cs → cs.map (·.2) = c → Q (.ref T) H'
def sp_joined : Sp := fun vs H Q _ => ∃ (t1 t2 : Addr) (n : Nat) (cs1 cs2 : List (Addr × List Str)), vs = [.ref t1, .ref t2] ∧ CardAt H t1 cs1 ∧ CardOk n cs1 ∧ CardAt H t2 cs2 ∧ CardOk n cs2 ∧ n < 64 ∧ CardOut Q H n (joinC (cs1.map (·.2)) (cs2.map (·.2)))
def tRB : TE := tCall sp_row_behind [] E0 (tCons (tVar 2) (tCons (tVar 1) tNil))
end
end EV
namespace EV
open PySem L2 NT SX
/-- a comprehension over one name: values -/
theorem val_lc {J : It} {G : Hp → Prop} {xs : List V} (w : Walk J xs.length G (YAt xs)) {i : Nat} {te : TE} {σ : St} {H1 : Hp} {D : Addr} {Qd : Hp → Prop} (few : xs.length < 5000) (ws : List V) (lw : ws.length = xs.length) (hD : H1 D = none) (hG : ∀ H', Same H1 H' → G H')
    (hs : ∀ (j : Nat) (x : V) (H : Hp) (y : V), xs[j]? = some x → ws[j]? = some y → Same H1 H → ∀ Z : VK, (∀ H2, Same H H2 → Z y H2) → te ((wipe σ [i]).set i (some x)) H Z) (hd : ∀ H', Same H1 H' → H' D = some (.lst ws) → Qd H') :
    ∃ W : Nat → Nat → Hp → Prop, (∃ m, W 0 m (upd H1 D (.lst []))) ∧ ∀ j m H, W j m H → (J.stop j H ∧ Qd H) ∨ (J.go j H ∧ ∃ Nx : Hp → Prop, (∀ H', Nx H' → ∃ m', m' < m ∧ W (j + 1) m' H') ∧ ∀ x H', J.yld j H x H' → gName i x (wipe σ [i]) H' fun σ2 H2 => wipe σ2 [i] = wipe σ [i] ∧ tYes σ2 H2 fun b H3 =>
      if b = true then te σ2 H3 fun y H4 => ∃ acc, H4 D = some (.lst acc) ∧ acc.length < sizeLine ∧ Nx (upd H4 D (.lst (acc ++ [y]))) else Nx H3) := by
  refine lc_it w (fun j H' => Same H1 H' ∧ H' D = some (.lst (ws.take j))) ⟨new_same hD, upd_same⟩ (fun j H' _ z => hG H' z.1) ?_ ?_
  · rintro j x H H' hj ⟨s1, hd1⟩ ⟨rfl, hx⟩
    have hw : ws[j]? = some ws[j] := List.getElem?_eq_getElem (by rw [lw]; exact hj)
    refine ⟨?_, ?_⟩
    · show List.set (List.set (List.set σ i none) i (some x)) i none = List.set σ i none
      rw [List.set_set, List.set_set]
    · refine hs j x H' _ hx hw s1 _ fun H2 s2 => ⟨_, s2 _ _ hd1, ?_, fun b o z => by rw [upd_ne (ne_of_none z hD)]; exact s2 _ _ (s1 _ _ z), ?_⟩
      · rw [List.length_take, PySem.sizeLine_eq]; omega
      · rw [upd_same, List.take_add_one, hw]
        rfl
  · rintro H' ⟨s1, hd1⟩
    rw [← lw, List.take_length] at hd1
    exact hd H' s1 hd1
/-- the same of tuples of words -/
theorem card_lc {J : It} {G : Hp → Prop} {xs : List V} (w : Walk J xs.length G (YAt xs)) {i : Nat} {te : TE} {σ : St} {H1 : Hp} {D : Addr} {Qd : Hp → Prop} (few : xs.length < 64) (c : List (List Str)) (lw : c.length = xs.length) (hD : H1 D = none) (hG : ∀ H', Same H1 H' → G H')
    (hs : ∀ (j : Nat) (x : V) (H : Hp) (r : List Str), xs[j]? = some x → c[j]? = some r → Same H1 H → ∀ Z : VK, (∀ T H2, Same H H2 → H T = none → H2 T = some (.tup (r.map V.str)) → Z (.ref T) H2) → te ((wipe σ [i]).set i (some x)) H Z)
    (hd : ∀ H' (cs : List (Addr × List Str)), Same H1 H' → H' D = some (.lst (cs.map fun p => V.ref p.1)) → (∀ p ∈ cs, H' p.1 = some (.tup (p.2.map V.str))) → cs.map (·.2) = c → Qd H') :
    ∃ W : Nat → Nat → Hp → Prop, (∃ m, W 0 m (upd H1 D (.lst []))) ∧ ∀ j m H, W j m H → (J.stop j H ∧ Qd H) ∨ (J.go j H ∧ ∃ Nx : Hp → Prop, (∀ H', Nx H' → ∃ m', m' < m ∧ W (j + 1) m' H') ∧ ∀ x H', J.yld j H x H' → gName i x (wipe σ [i]) H' fun σ2 H2 => wipe σ2 [i] = wipe σ [i] ∧ tYes σ2 H2 fun b H3 =>
      if b = true then te σ2 H3 fun y H4 => ∃ acc, H4 D = some (.lst acc) ∧ acc.length < sizeLine ∧ Nx (upd H4 D (.lst (acc ++ [y]))) else Nx H3) := by
  refine lc_it w (fun j H' => Same H1 H' ∧ ∃ cs : List (Addr × List Str), H' D = some (.lst (cs.map fun p => V.ref p.1)) ∧ (∀ p ∈ cs, H' p.1 = some (.tup (p.2.map V.str))) ∧ cs.map (·.2) = c.take j) ⟨new_same hD, [], upd_same, (fun _ z => nomatch z), rfl⟩ (fun j H' _ z => hG H' z.1) ?_ ?_
  · rintro j x H H' hj ⟨s1, cs, hd1, ha, e⟩ ⟨rfl, hx⟩
    have hw : c[j]? = some c[j] := List.getElem?_eq_getElem (by rw [lw]; exact hj)
    generalize c[j] = r at hw
    have lcs : cs.length = j := by
      have := congrArg List.length e
      rw [List.length_map, List.length_take] at this
      omega
    refine ⟨?_, ?_⟩
    · show List.set (List.set (List.set σ i none) i (some x)) i none = List.set σ i none
      rw [List.set_set, List.set_set]
    · refine hs j x H' _ hx hw s1 _ fun T H2 s2 hT eT => ⟨_, s2 _ _ hd1, by rw [List.length_map, lcs, PySem.sizeLine_eq]; omega, fun b u z => by rw [upd_ne (ne_of_none z hD)]; exact s2 _ _ (s1 _ _ z), cs ++ [(T, r)], ?_, fun z hz => ?_, ?_⟩
      · rw [upd_same, List.map_append]
        rfl
      · have nD : z.1 ≠ D := fun e => by
          rcases List.mem_append.mp hz with h | h
          · have := ha z h
            rw [e, hd1] at this
            cases this
          · rw [List.mem_singleton] at h
            subst h
            have e : T = D := e
            rw [e, hd1] at hT
            cases hT
        rw [upd_ne nD]
        rcases List.mem_append.mp hz with h | h
        · exact s2 _ _ (ha z h)
        · rw [List.mem_singleton] at h
          subst h
          exact eT
      · rw [List.take_add_one, hw, List.map_append, e]
        rfl
  · rintro H' ⟨s1, cs, hd1, ha, e⟩
    rw [← lw, List.take_length] at e
    exact hd H' cs s1 hd1 ha e
theorem card_ok {cs : List (Addr × List Str)} {c : List (List Str)} {n : Nat} (e : cs.map (·.2) = c) (l : c.length = n) (h : ∀ r ∈ c, r.length = n ∧ ∀ x ∈ r, x ∈ marks) : CardOk n cs := by
  subst e
  rw [List.length_map] at l
  exact ⟨l, fun p hp => h _ (List.mem_map.mpr ⟨p, hp, rfl⟩)⟩
theorem none_back {H H' : Hp} {T : Addr} (s : Same H H') (h : H' T = none) : H T = none := by
  cases z : H T with
  | none => rfl
  | some o => rw [s _ _ z] at h; cases h
/-- the tuple of the rows -/
theorem card_end {Q : VK} {H H1 : Hp} {n : Nat} {c : List (List Str)} (q : CardOut Q H n c) (s : Same H H1) (l : c.length = n) (h : ∀ r ∈ c, r.length = n ∧ ∀ x ∈ r, x ∈ marks) {cs : List (Addr × List Str)} (ha : ∀ p ∈ cs, H1 p.1 = some (.tup (p.2.map V.str))) (e : cs.map (·.2) = c) {T : Addr} (hT : H1 T = none) :
    Q (.ref T) (upd H1 T (.tup (cs.map fun p => V.ref p.1))) := by
  have s4 := new_same (o := .tup (cs.map fun p => V.ref p.1)) hT
  exact q T _ cs (s.trans s4) (none_back s hT) ⟨upd_same, fun p hp => s4 _ _ (ha p hp)⟩ (card_ok e l h) e
theorem ManAt.same {C : Addr} {H H' : Hp} {a rows firsts lasts rooms jobs : Addr} {qs : List AM} {fs ls rs js : List Str} (m : ManAt C H a rows firsts lasts rooms jobs qs fs ls rs js) (s : Same H H') : ManAt C H' a rows firsts lasts rooms jobs qs fs ls rs js := by
  obtain ⟨dx, t⟩ := m.top
  exact ⟨⟨dx, s _ _ t⟩, m.ms.same s, s _ _ m.f, s _ _ m.l, s _ _ m.r, s _ _ m.j⟩
def rTupOf (K : PySem.W.Frag) : List V → Hp → VK → Prop := fun xs H Q => ∃ p ys, xs = [.ref p] ∧ ((SqL K H p ys ∧ ∀ l, H l = none → Q (.ref l) (upd H l (.tup ys))) ∨ (SqT K H p ys ∧ Q (.ref p) H))
theorem tuple_of {X : Cx} : CallR X (.type "tuple") (rTupOf X.K) := call_tuple_of
section
variable {P : Program} {w : PySem.World} {K : PySem.W.Frag} {mg : Str → Option Value} {base : Heap} {f : Addr} {fd : FuncData}
def sp_cards_behind (C : Addr) : Sp := fun vs H Q _ => ∃ (a rows firsts lasts rooms jobs t1 t2 : Addr) (qs : List AM) (fs ls rs js : List Str) (cs1 cs2 : List (Addr × List Str)), vs = [.ref a, .ref t1, .ref t2] ∧ ManAt C H a rows firsts lasts rooms jobs qs fs ls rs js ∧
  CardAt H t1 cs1 ∧ CardOk rs.length cs1 ∧ CardAt H t2 cs2 ∧ CardOk rs.length cs2 ∧ rs.length < 64 ∧ CardOut Q H rs.length (joinC (cs1.map (·.2)) (cs2.map (·.2)))
def emptyC (rs : List Str) : List (List Str) := rs.map fun r => rs.map fun g => if r = g then "free" else "never"
theorem emptyC_ok {rs : List Str} : (emptyC rs).length = rs.length ∧ ∀ r ∈ emptyC rs, r.length = rs.length ∧ ∀ x ∈ r, x ∈ marks := by
  unfold emptyC
  refine ⟨List.length_map .., fun r hr => ?_⟩
  obtain ⟨a, _, rfl⟩ := List.mem_map.mp hr
  refine ⟨List.length_map .., fun x hx => ?_⟩
  obtain ⟨b, _, rfl⟩ := List.mem_map.mp hx
  split <;> decide +kernel
def sp_empty_card (C : Addr) : Sp := fun vs H Q _ => ∃ (a rows firsts lasts rooms jobs : Addr) (qs : List AM) (fs ls rs js : List Str), vs = [.ref a] ∧ ManAt C H a rows firsts lasts rooms jobs qs fs ls rs js ∧ rs.length < 64 ∧ CardOut Q H rs.length (emptyC rs)
def tECin : TE := tIf (tB (tOp rEq (tVar 2) (tVar 3))) (tC (.str "free")) (tC (.str "never"))
def tECout (K : PySem.W.Frag) : TE := tCB (rTupOf K) (tCons (tLc (iList K (tVar 1)) (gName 3) tYes tECin [3]) tNil)
end
end EV
namespace EV
open PySem L2 NT SX
theorem u1 {A : Around} (h : A.units + 64 < cLine) : A.units + 1 < cLine := by omega
/-- the key of a room and a goal -/
def kk (k : Str × Str) : List Key := [.inr k.1, .inr k.2]
def ent (p : (Str × Str) × Addr) : List Key × V := (kk p.1, .ref p.2)
theorem kk_inj {a b : Str × Str} (h : kk a = kk b) : a = b := by
  unfold kk at h
  obtain ⟨a1, a2⟩ := a
  obtain ⟨b1, b2⟩ := b
  simp at h
  rw [h.1, h.2]
theorem val_miss {L : List ((Str × Str) × Addr)} {k : Str × Str} (h : ∀ p ∈ L, p.1 ≠ k) : valV (L.map ent) (kk k) = none := by
  unfold valV
  rw [List.find?_eq_none.mpr]
  · rfl
  · intro x hx
    obtain ⟨p, hp, rfl⟩ := List.mem_map.mp hx
    simp only [decide_eq_true_eq]
    exact fun e => h p hp (kk_inj e)
theorem val_hit {k : Str × Str} {a : Addr} : ∀ {L : List ((Str × Str) × Addr)}, (L.map (·.1)).Nodup → (k, a) ∈ L → valV (L.map ent) (kk k) = some (.ref a)
  | [], _, h => nomatch h
  | q :: L, nd, h => by
    rw [List.map_cons, List.nodup_cons] at nd
    rw [List.map_cons]
    rcases List.mem_cons.mp h with e | h
    · subst e
      exact valV_pos rfl
    · rw [valV_neg fun e => nd.1 (by rw [kk_inj e]; exact List.mem_map.mpr ⟨_, h, rfl⟩)]
      exact val_hit nd.2 h
theorem put_miss {L : List ((Str × Str) × Addr)} {k : Str × Str} {v : V} (h : ∀ p ∈ L, p.1 ≠ k) : putK (L.map ent) (kk k) v = L.map ent ++ [(kk k, v)] := by
  unfold putK
  rw [if_neg]
  intro z
  rw [List.any_eq_true] at z
  obtain ⟨x, hx, e⟩ := z
  obtain ⟨p, hp, rfl⟩ := List.mem_map.mp hx
  exact h p hp (kk_inj (of_decide_eq_true e))
/-- the marks found at a room and a goal -/
def gOf (ms : List Mn) (j : Str) (k : Str × Str) : List Str := (ms.filter fun m => decide (m.b = j ∧ m.a = k.1 ∧ m.c = k.2)).map fun m => effMark m.w m.ns
def jobC (ms : List Mn) (rs : List Str) (j : Str) : List (List Str) := rs.map fun r => rs.map fun g => bestS (gOf ms j (r, g))
theorem jobC_ok {ms : List Mn} {rs : List Str} {j : Str} : (jobC ms rs j).length = rs.length ∧ ∀ r ∈ jobC ms rs j, r.length = rs.length ∧ ∀ x ∈ r, x ∈ marks := by
  unfold jobC
  refine ⟨List.length_map .., fun r hr => ?_⟩
  obtain ⟨a, _, rfl⟩ := List.mem_map.mp hr
  refine ⟨List.length_map .., fun x hx => ?_⟩
  obtain ⟨b, _, rfl⟩ := List.mem_map.mp hx
  exact best_mem _
theorem gOf_snoc {ms : List Mn} {m : Mn} {j : Str} {k : Str × Str} : gOf (ms ++ [m]) j k = gOf ms j k ++ (if m.b = j ∧ m.a = k.1 ∧ m.c = k.2 then [effMark m.w m.ns] else []) := by
  unfold gOf
  rw [List.filter_append, List.map_append]
  congr 1
  by_cases h : m.b = j ∧ m.a = k.1 ∧ m.c = k.2
  · simp [h]
  · simp [h]
/-- the dict of found marks -/
structure Fnd (H0 H : Hp) (D : Addr) (L : List ((Str × Str) × Addr)) (g : Str × Str → List Str) : Prop where
  d : H D = some (.dT (L.map ent))
  keys : (L.map (·.1)).Nodup
  adr : (L.map (·.2)).Nodup
  lists : ∀ p ∈ L, H p.2 = some (.lst ((g p.1).map V.str))
  fresh : ∀ p ∈ L, H0 p.2 = none
  miss : ∀ k, (∀ p ∈ L, p.1 ≠ k) → g k = []
theorem Fnd.same {H0 H H' : Hp} {D : Addr} {L : List ((Str × Str) × Addr)} {g : Str × Str → List Str} (f : Fnd H0 H D L g) (s : Same H H') : Fnd H0 H' D L g := ⟨s _ _ f.d, f.keys, f.adr, fun p hp => s _ _ (f.lists p hp), f.fresh, f.miss⟩
theorem Fnd.congr {H0 H : Hp} {D : Addr} {L : List ((Str × Str) × Addr)} {g g' : Str × Str → List Str} (f : Fnd H0 H D L g) (e : ∀ k, g' k = g k) : Fnd H0 H D L g' := ⟨f.d, f.keys, f.adr, fun p hp => by rw [e]; exact f.lists p hp, f.fresh, fun k h => by rw [e]; exact f.miss k h⟩
theorem nodup_fst {L : List ((Str × Str) × Addr)} (h : (L.map (·.1)).Nodup) {k : Str × Str} {a b : Addr} (ha : (k, a) ∈ L) (hb : (k, b) ∈ L) : a = b := by
  have x := val_hit h ha
  rw [val_hit h hb] at x
  exact (V.ref.inj (Option.some.inj x)).symm
theorem nodup_snd : ∀ {L : List ((Str × Str) × Addr)}, (L.map (·.2)).Nodup → ∀ {p q}, p ∈ L → q ∈ L → p.2 = q.2 → p = q
  | [], _, _, _, h, _, _ => nomatch h
  | x :: L, nd, p, q, hp, hq, e => by
    rw [List.map_cons, List.nodup_cons] at nd
    rcases List.mem_cons.mp hp with e1 | hp2 <;> rcases List.mem_cons.mp hq with e2 | hq2
    · rw [e1, e2]
    · exact (nd.1 (List.mem_map.mpr ⟨q, hq2, by rw [← e, e1]⟩)).elim
    · exact (nd.1 (List.mem_map.mpr ⟨p, hp2, by rw [e, e2]⟩)).elim
    · exact nodup_snd nd.2 hp2 hq2 e
/-- one more mark where there is a list -/
theorem Fnd.hit {H0 H : Hp} {D : Addr} {L : List ((Str × Str) × Addr)} {g g' : Str × Str → List Str} {k : Str × Str} {a : Addr} {e : Str} (f : Fnd H0 H D L g) (ha : (k, a) ∈ L) (h1 : g' k = g k ++ [e]) (h2 : ∀ q, q ≠ k → g' q = g q) : Fnd H0 (upd H a (.lst ((g k).map V.str ++ [.str e]))) D L g' := by
  have hD : D ≠ a := fun z => by
    have q := f.lists _ ha
    rw [← z, f.d] at q
    cases q
  refine ⟨by rw [upd_ne hD]; exact f.d, f.keys, f.adr, fun p hp => ?_, f.fresh, fun q hq => by rw [h2 q fun z => hq _ ha z.symm]; exact f.miss q hq⟩
  by_cases z : p.2 = a
  · have : p = (k, a) := nodup_snd f.adr hp ha z
    subst this
    rw [upd_same, h1, List.map_append]
    rfl
  · rw [upd_ne z, h2 p.1 fun y => z ?_]
    · exact f.lists p hp
    · obtain ⟨p1, p2⟩ := p
      have y : p1 = k := y
      subst y
      exact nodup_fst f.keys hp ha
/-- a new list -/
theorem Fnd.new {H0 H : Hp} {D N : Addr} {L : List ((Str × Str) × Addr)} {g g' : Str × Str → List Str} {k : Str × Str} {e : Str} (f : Fnd H0 H D L g) (hN : H N = some (.lst [])) (hN0 : H0 N = none) (nL : ∀ p ∈ L, p.2 ≠ N) (hk : ∀ p ∈ L, p.1 ≠ k) (h1 : g' k = [e]) (h2 : ∀ q, q ≠ k → g' q = g q) :
    Fnd H0 (upd (upd H D (.dT (L.map ent ++ [(kk k, .ref N)]))) N (.lst [.str e])) D (L ++ [(k, N)]) g' := by
  have hD : D ≠ N := fun z => by
    rw [← z, f.d] at hN
    cases hN
  refine ⟨by rw [upd_ne hD, upd_same, List.map_append]; rfl, ?_, ?_, fun p hp => ?_, fun p hp => ?_, fun q hq => ?_⟩
  · rw [List.map_append, List.nodup_append]
    refine ⟨f.keys, by simp, fun a ha b hb => ?_⟩
    obtain ⟨p, hp, rfl⟩ := List.mem_map.mp ha
    have hb : b = k := by simpa using hb
    rw [hb]
    exact hk p hp
  · rw [List.map_append, List.nodup_append]
    refine ⟨f.adr, by simp, fun a ha b hb => ?_⟩
    obtain ⟨p, hp, rfl⟩ := List.mem_map.mp ha
    have hb : b = N := by simpa using hb
    rw [hb]
    exact nL p hp
  · rcases List.mem_append.mp hp with h | h
    · have pD : p.2 ≠ D := fun z => by
        have q := f.lists p h
        rw [z, f.d] at q
        cases q
      rw [upd_ne (nL p h), upd_ne pD, h2 p.1 (hk p h)]
      exact f.lists p h
    · rw [List.mem_singleton] at h
      subst h
      rw [upd_same, h1]
      rfl
  · rcases List.mem_append.mp hp with h | h
    · exact f.fresh p h
    · rw [List.mem_singleton] at h
      subst h
      exact hN0
  · rw [h2 q fun z => hq (k, N) (List.mem_append_right _ (List.mem_singleton_self _)) z.symm]
    exact f.miss q fun p hp => hq p (List.mem_append_left _ hp)
section
variable {P : Program} {w : PySem.World} {K : PySem.W.Frag} {mg : Str → Option Value} {base : Heap} {f : Addr} {fd : FuncData}
def sp_job_card (C : Addr) : Sp := fun vs H Q _ => ∃ (a rows firsts lasts rooms jobs : Addr) (qs : List AM) (fs ls rs js : List Str) (j : Str), vs = [.ref a, .str j] ∧ ManAt C H a rows firsts lasts rooms jobs qs fs ls rs js ∧ (∀ p ∈ qs, EffK p.2.w p.2.ns) ∧ qs.length < 64 ∧ rs.length < 64 ∧ CardOut Q H rs.length (jobC (qs.map (·.2)) rs j)
def tJCin : TE := tCall sp_best_of [] E0 (tCons (tDGet2 (tVar 2) (tTup (tCons (tVar 3) (tCons (tVar 5) tNil))) (tLst tNil)) tNil)
def tJCout (K : PySem.W.Frag) : TE := tCB (rTupOf K) (tCons (tLc (iList K (tFld K (tVar 0) "rooms")) (gName 5) tYes tJCin [5]) tNil)
end
end EV
namespace EV
open PySem L2 NT SX
def cardC (ms : List Mn) (rs : List Str) (b : List Str) : List (List Str) := b.foldl (fun c j => joinC c (jobC ms rs j)) (emptyC rs)
theorem joinC_ok {n : Nat} {a b : List (List Str)} (l : a.length = n) (h : ∀ r ∈ a, r.length = n ∧ ∀ x ∈ r, x ∈ marks) : (joinC a b).length = n ∧ ∀ r ∈ joinC a b, r.length = n ∧ ∀ x ∈ r, x ∈ marks := by
  unfold joinC
  refine ⟨by rw [List.length_map]; exact l, fun r hr => ?_⟩
  obtain ⟨p, hp, rfl⟩ := List.mem_map.mp hr
  exact ⟨by rw [rowB_len]; exact (h p hp).1, rowB_mem⟩
theorem cardC_snoc {ms : List Mn} {rs b : List Str} {j : Str} : cardC ms rs (b ++ [j]) = joinC (cardC ms rs b) (jobC ms rs j) := by
  unfold cardC
  rw [List.foldl_append]
  rfl
section
variable {P : Program} {w : PySem.World} {K : PySem.W.Frag} {mg : Str → Option Value} {base : Heap} {f : Addr} {fd : FuncData}
def sp_card_from (C : Addr) : Sp := fun vs H Q _ => ∃ (a rows firsts lasts rooms jobs l : Addr) (qs : List AM) (fs ls rs js ws : List Str), vs = [.ref a, .ref l] ∧ ManAt C H a rows firsts lasts rooms jobs qs fs ls rs js ∧ (∀ p ∈ qs, EffK p.2.w p.2.ns) ∧ qs.length < 64 ∧ rs.length < 64 ∧ WordsAt H l ws ∧
  CardOut Q H rs.length (cardC (qs.map (·.2)) rs ws)
def sp_card_of (C : Addr) : Sp := fun vs H Q _ => ∃ (a rows firsts lasts rooms jobs l : Addr) (qs : List AM) (fs ls rs js ws : List Str), vs = [.ref a, .ref l] ∧ ManAt C H a rows firsts lasts rooms jobs qs fs ls rs js ∧ (∀ p ∈ qs, EffK p.2.w p.2.ns) ∧ qs.length < 64 ∧ rs.length < 64 ∧ WordsAt H l ws ∧
  (∀ x ∈ ws, IsWord x) ∧ ws.length < 1000 ∧ CardOut Q H rs.length (cardC (qs.map (·.2)) rs ws)
end
end EV
namespace EV
open PySem L2 NT SX
abbrev s_man_eq : Stmt := inClass (top 20) 4
theorem eqv_mns : ∀ ms ns : List Mn, PyData.eqvAll (ms.map mnD) (ns.map mnD) = decide (ms = ns)
  | [], [] => rfl
  | [], _ :: _ => rfl
  | _ :: _, [] => rfl
  | x :: ws, y :: vs => by
    rw [List.map_cons, List.map_cons]
    unfold PyData.eqvAll
    rw [eqv_mns ws vs, eqv_mn]
    by_cases c : x = y
    · subst c
      simp
    · simp [c]
theorem eqv_mnsD (ms ns : List Mn) : PyData.eqv (mnsD ms) (mnsD ns) = decide (ms = ns) := eqv_mns ms ns
theorem eqv_wsD (ms ns : List Str) : PyData.eqv (wsD ms) (wsD ns) = decide (ms = ns) := eqv_strs ms ns
/-- a manual of these manners, beginnings and ends -/
def ManIs (C : Addr) (H : Hp) (a : Addr) (ms : List Mn) (fs ls : List Str) : Prop := ∃ (rows firsts lasts rooms jobs : Addr) (qs : List AM) (rs js : List Str), ManAt C H a rows firsts lasts rooms jobs qs fs ls rs js ∧ qs.map (·.2) = ms
theorem ManIs.same {C : Addr} {H H' : Hp} {a : Addr} {ms : List Mn} {fs ls : List Str} (h : ManIs C H a ms fs ls) (s : Same H H') : ManIs C H' a ms fs ls := by
  obtain ⟨rows, firsts, lasts, rooms, jobs, qs, rs, js, m, e⟩ := h
  exact ⟨rows, firsts, lasts, rooms, jobs, qs, rs, js, m.same s, e⟩
def ManR (C : Addr) : Addr → Addr → Hp → Prop := fun a b H => ∃ (ms : List Mn) (fs ls : List Str), ManIs C H a ms fs ls ∧ ManIs C H b ms fs ls ∧ (∀ m ∈ ms, MnOk m) ∧ (∀ x ∈ fs, TOk x = true) ∧ (∀ x ∈ ls, TOk x = true)
section
variable {P : Program} {w : PySem.World} {K : PySem.W.Frag} {mg : Str → Option Value} {base : Heap} {f : Addr} {fd : FuncData}
theorem sc_man_eq : FnScope ["self", "other"] ["self", "other"] (defScope s_man_eq) := ⟨rfl, rfl, rfl, by decide +kernel, rfl, by decide +kernel, by decide +kernel⟩
theorem ok_man_eq {C : Addr} (M : ManC K C) (T : ManT K C) (F : FnM K "__eq__" "Manual.__eq__" s_man_eq f fd) (gI : mg "isinstance" = none) (gC : mg "Manual" = some (.ref C)) : FnOk P w K mg base CX0 1 f fd ["self", "other"] (spEq (ManR C)) := by
  refine F.ok sc_man_eq (fun vs H Q E h => ?_) (fun cdv A outer s H vs Q E hr h => ?_)
  · obtain ⟨a, b, rfl, _⟩ := h
    rfl
  · obtain ⟨a, b, rfl, ⟨ms, fs, ls, ⟨r1, f1, l1, o1, j1, qs, rs, js, m1, e1⟩, ⟨r2, f2, l2, o2, j2, qs2, rs2, js2, m2, e2⟩, okm, okf, okl⟩, q⟩ := h
    obtain ⟨dx, t1⟩ := m1.top
    obtain ⟨dy, t2⟩ := m2.top
    have d1 := m1.ms.dp (K := K)
    have d2 := m2.ms.dp (K := K)
    rw [e1] at d1
    rw [e2] at d2
    refine ⟨_, PSs.nox (pss_cons (ps_if (pt_not (pt_val (pe_callB call_isi (by rfl) gI (by decide +kernel) (pa_cons (pv 1) (pa_cons (pe_glob (v := .ref C) rfl gC rfl) pa_nil))))) (pss_one (ps_ret pe_bl)) pss_nil)
      (pss_one (ps_ret (pe_and (pe_cmpR (op_eqD hr.units) (pe_fld (pv 0) rfl) (pe_fld (pv 1) rfl) (nomark _)) (pe_and (pe_cmpR (op_eqD hr.units) (pe_fld (pv 0) rfl) (pe_fld (pv 1) rfl) (nomark _)) (pe_one (pe_cmpR (op_eqD hr.units) (pe_fld (pv 0) rfl) (pe_fld (pv 1) rfl) (nomark _)))))))), ?_⟩
    refine ⟨_, rfl, _, _, _, _, _, rfl, .own C, T.1 H b dy _ t2, T.2, _, rfl, iteF ?_⟩
    refine ⟨_, rfl, a, C, dx, _, _, rfl, t1, M.cl, M.rows, rfl, _, rfl, b, C, dy, _, _, rfl, t2, M.cl, M.rows, rfl, _, _, d1, d2, shaped_mns okm, shaped_mns okm, _, rfl, ?_⟩
    rw [eqv_mnsD, decide_eq_true rfl]
    refine iteT ?_
    refine ⟨_, rfl, a, C, dx, _, _, rfl, t1, M.cl, M.firsts, rfl, _, rfl, b, C, dy, _, _, rfl, t2, M.cl, M.firsts, rfl, _, _, m1.f.dp, m2.f.dp, shaped_strs okf, shaped_strs okf, _, rfl, ?_⟩
    rw [eqv_wsD, decide_eq_true rfl]
    refine iteT ?_
    refine ⟨_, rfl, a, C, dx, _, _, rfl, t1, M.cl, M.lasts, rfl, _, rfl, b, C, dy, _, _, rfl, t2, M.cl, M.lasts, rfl, _, _, m1.l.dp, m2.l.dp, shaped_strs okl, shaped_strs okl, ?_⟩
    rw [eqv_wsD, decide_eq_true rfl]
    exact q H fun _ _ e => e
end
/-! ### data that the law compares -/
mutual
inductive Dh (H : Hp) : V → PyData → Prop
  | non : Dh H .non .none
  | bl (b : Bool) : Dh H (.bl b) (.bool b)
  | int (i : Int) : Dh H (.int i) (.int i)
  | str (x : Str) : Dh H (.str x) (.str x)
  | lst {a : Addr} {xs : List V} {ds : List PyData} : H a = some (.lst xs) → DhAll H xs ds → xs.length < 5000 → Dh H (.ref a) (.list ds)
  | tup {a : Addr} {xs : List V} {ds : List PyData} : H a = some (.tup xs) → DhAll H xs ds → xs.length < 5000 → Dh H (.ref a) (.tuple ds)
inductive DhAll (H : Hp) : List V → List PyData → Prop
  | nil : DhAll H [] []
  | cons {v : V} {vs : List V} {d : PyData} {ds : List PyData} : Dh H v d → DhAll H vs ds → DhAll H (v :: vs) (d :: ds)
end
mutual
theorem Dh.same {H H' : Hp} (s : Same H H') : ∀ (d : PyData) (v : V), Dh H v d → Dh H' v d
  | .none, _, h => by cases h; exact .non
  | .bool b, _, h => by cases h; exact .bl b
  | .int b, _, h => by cases h; exact .int b
  | .str b, _, h => by cases h; exact .str b
  | .list ds, _, h => by
    cases h with
    | lst e a f => exact .lst (s _ _ e) (Dh.sameAll s ds _ a) f
  | .tuple ds, _, h => by
    cases h with
    | tup e a f => exact .tup (s _ _ e) (Dh.sameAll s ds _ a) f
  | .dict _, _, h => by cases h
theorem Dh.sameAll {H H' : Hp} (s : Same H H') : ∀ (ds : List PyData) (vs : List V), DhAll H vs ds → DhAll H' vs ds
  | [], _, h => by cases h; exact .nil
  | d :: ds, _, h => by
    cases h with
    | cons a b => exact .cons (Dh.same s d _ a) (Dh.sameAll s ds _ b)
end
theorem DhAll.len {H : Hp} : ∀ {ds : List PyData} {vs : List V}, DhAll H vs ds → vs.length = ds.length
  | [], _, h => by cases h; rfl
  | d :: ds, _, h => by
    cases h with
    | cons a b => rw [List.length_cons, List.length_cons, b.len]
theorem DhAll.get {H : Hp} : ∀ {ds : List PyData} {vs : List V} {i : Nat} {d : PyData}, DhAll H vs ds → ds[i]? = some d → ∃ v, vs[i]? = some v ∧ Dh H v d
  | [], _, _, _, _, e => by simp at e
  | d :: ds, _, 0, _, h, e => by
    cases h with
    | cons a b =>
      cases e
      exact ⟨_, rfl, a⟩
  | d :: ds, _, i + 1, _, h, e => by
    cases h with
    | cons a b => exact b.get e
def kitAnyB (a : String) : List String → Option Bool
  | [] => some false
  | c :: r => match kitB a c with
    | some true => some true
    | some false => kitAnyB a r
    | none => none
theorem kit_any {K : PySem.W.Frag} {a : String} : ∀ {bs : List String} {r : Bool}, kitAnyB a bs = some r → PySem.W.kitAny K (.type a) (bs.map .type) = some r
  | [], r, h => h
  | c :: bs, r, h => by
    unfold kitAnyB at h
    rw [List.map_cons]
    unfold PySem.W.kitAny
    cases e : kitB a c with
    | none => rw [e] at h; cases h
    | some b =>
      rw [e] at h
      rw [kit_ty (K := K) e]
      cases b with
      | true => exact h
      | false => exact kit_any h
end EV
namespace EV
open PySem L2 NT SX
theorem depth_mem : ∀ {ds : List PyData} {i : Nat} {d : PyData}, ds[i]? = some d → PyData.depth d ≤ PyData.depthAll ds
  | [], _, _, e => by simp at e
  | x :: ds, 0, _, e => by
    cases e
    show PyData.depth x ≤ max (PyData.depth x) (PyData.depthAll ds)
    exact Nat.le_max_left _ _
  | x :: ds, i + 1, _, e => by
    show _ ≤ max (PyData.depth x) (PyData.depthAll ds)
    exact Nat.le_trans (depth_mem (ds := ds) (i := i) e) (Nat.le_max_right _ _)
section
variable {P : Program} {w : PySem.World} {K : PySem.W.Frag} {mg : Str → Option Value} {base : Heap} {f : Addr} {fd : FuncData}
def sp_exact (n : Nat) : Sp := fun vs H Q _ => ∃ (x y : V) (d : PyData), vs = [x, y] ∧ Dh H x d ∧ Dh H y d ∧ PyData.depth d < n ∧ ∀ H', Same H H' → Q (.bl true) H'
/-- what is asked of a leaf's type -/
structure LeafT (t : String) : Prop where
  a : kitAnyB t ["list", "tuple"] = some false
  b : kitB t "dict" = some false
  c : kitAnyB t ["list", "tuple", "dict"] = some false
  i : ∃ r, kitB t "int" = some r
  s : ∃ r, kitB t "str" = some r
  o : ∃ r, kitB t "bool" = some r
theorem leaf_non : LeafT "NoneType" := ⟨by decide +kernel, by decide +kernel, by decide +kernel, ⟨false, by decide +kernel⟩, ⟨false, by decide +kernel⟩, ⟨false, by decide +kernel⟩⟩
theorem leaf_bl : LeafT "bool" := ⟨by decide +kernel, by decide +kernel, by decide +kernel, ⟨true, by decide +kernel⟩, ⟨false, by decide +kernel⟩, ⟨true, by decide +kernel⟩⟩
theorem leaf_int : LeafT "int" := ⟨by decide +kernel, by decide +kernel, by decide +kernel, ⟨true, by decide +kernel⟩, ⟨false, by decide +kernel⟩, ⟨false, by decide +kernel⟩⟩
theorem leaf_str : LeafT "str" := ⟨by decide +kernel, by decide +kernel, by decide +kernel, ⟨false, by decide +kernel⟩, ⟨true, by decide +kernel⟩, ⟨false, by decide +kernel⟩⟩
/-- a leaf, a list, or a tuple -/
theorem Dh.cases {H : Hp} {x y : V} {d : PyData} (hx : Dh H x d) (hy : Dh H y d) : (∃ t, x = y ∧ (∀ K H, TyX K H x (.type t)) ∧ LeafT t ∧ scal x x = true) ∨
    (∃ a b xs ys ds, x = .ref a ∧ y = .ref b ∧ d = .list ds ∧ H a = some (.lst xs) ∧ H b = some (.lst ys) ∧ DhAll H xs ds ∧ DhAll H ys ds ∧ xs.length < 5000) ∨
    ∃ a b xs ys ds, x = .ref a ∧ y = .ref b ∧ d = .tuple ds ∧ H a = some (.tup xs) ∧ H b = some (.tup ys) ∧ DhAll H xs ds ∧ DhAll H ys ds ∧ xs.length < 5000 := by
  cases hx with
  | non => cases hy; exact .inl ⟨_, rfl, fun _ _ => .base .non, leaf_non, rfl⟩
  | bl b => cases hy; exact .inl ⟨_, rfl, fun _ _ => .base (.bl b), leaf_bl, rfl⟩
  | int b => cases hy; exact .inl ⟨_, rfl, fun _ _ => .base (.int b), leaf_int, rfl⟩
  | str b => cases hy; exact .inl ⟨_, rfl, fun _ _ => .base (.str b), leaf_str, rfl⟩
  | lst e a f => cases hy with
    | lst e' a' f' => exact .inr (.inl ⟨_, _, _, _, _, rfl, rfl, rfl, e, e', a, a', f⟩)
  | tup e a f => cases hy with
    | tup e' a' f' => exact .inr (.inr ⟨_, _, _, _, _, rfl, rfl, rfl, e, e', a, a', f⟩)
theorem no_exact : FnOk P w K mg base CX0 0 f fd ["one", "other"] (sp_exact 0) := ⟨fun vs H Q E h => by obtain ⟨_, _, _, _, _, _, z, _⟩ := h; exact absurd z (Nat.not_lt_zero _), fun A outer s H as us vs Q E hr e0 hb rv h => by obtain ⟨_, _, _, _, _, _, z, _⟩ := h; exact absurd z (Nat.not_lt_zero _)⟩
end
end EV
namespace EV
open PySem L2 NT SX
/-- the mark of a way -/
def partM (ms : List Mn) : Str := if (ms.any fun m : Mn => decide (m.w = ("fill" : Str))) = true then "full" else if (ms.any fun m : Mn => decide (0 < m.ns.headD 0)) = true then "some" else "free"
theorem any_id {α : Type} (xs : List α) (p : α → Bool) : (xs.map p).any id = xs.any p := by rw [List.any_map]; rfl
section
variable {P : Program} {w : PySem.World} {K : PySem.W.Frag} {mg : Str → Option Value} {base : Heap} {f : Addr} {fd : FuncData}
def sp_part_mark : Sp := fun vs H Q _ => ∃ (l : Addr) (ps : List AM), vs = [.ref l] ∧ MnsAt H l ps ∧ (∀ p ∈ ps, EffK p.2.w p.2.ns) ∧ ps.length < 5000 ∧ ∀ H', Same H H' → Q (.str (partM (ps.map (·.2)))) H'
def tPM (K : PySem.W.Frag) (j : Int) : TE := tOp (rIxT K) (tOp (rIxT K) (tVar 1) (tC (.int 3))) (tC (.int j))
end
end EV
namespace EV
open PySem L2 NT SX
/-- a comprehension over one name with a test -/
theorem filt_lc {α : Type} {J : It} {G : Hp → Prop} {xs : List V} (w : Walk J xs.length G (YAt xs)) {i : Nat} {tt : TT} {te : TE} {σ : St} {H1 : Hp} {D : Addr} {Qd : Hp → Prop} (few : xs.length ≤ sizeLine) (as : List α) (la : as.length = xs.length) (pred : α → Bool) (val : α → V) (hD : H1 D = none) (hG : ∀ H', Same H1 H' → G H')
    (ht : ∀ (j : Nat) (x : V) (H : Hp) (a : α), xs[j]? = some x → as[j]? = some a → Same H1 H → ∀ Z : Bool → Hp → Prop, (∀ H2, Same H H2 → Z (pred a) H2) → tt ((wipe σ [i]).set i (some x)) H Z)
    (hs : ∀ (j : Nat) (x : V) (H : Hp) (a : α), xs[j]? = some x → as[j]? = some a → pred a = true → Same H1 H → ∀ Z : VK, (∀ H2, Same H H2 → Z (val a) H2) → te ((wipe σ [i]).set i (some x)) H Z)
    (hd : ∀ H', Same H1 H' → H' D = some (.lst ((as.filter pred).map val)) → Qd H') :
    ∃ W : Nat → Nat → Hp → Prop, (∃ m, W 0 m (upd H1 D (.lst []))) ∧ ∀ j m H, W j m H → (J.stop j H ∧ Qd H) ∨ (J.go j H ∧ ∃ Nx : Hp → Prop, (∀ H', Nx H' → ∃ m', m' < m ∧ W (j + 1) m' H') ∧ ∀ x H', J.yld j H x H' → gName i x (wipe σ [i]) H' fun σ2 H2 => wipe σ2 [i] = wipe σ [i] ∧ tt σ2 H2 fun b H3 =>
      if b = true then te σ2 H3 fun y H4 => ∃ acc, H4 D = some (.lst acc) ∧ acc.length < sizeLine ∧ Nx (upd H4 D (.lst (acc ++ [y]))) else Nx H3) := by
  refine lc_it w (fun j H' => Same H1 H' ∧ H' D = some (.lst (((as.take j).filter pred).map val))) ⟨new_same hD, upd_same⟩ (fun j H' _ z => hG H' z.1) ?_ ?_
  · rintro j x H H' hj ⟨s1, hd1⟩ ⟨rfl, hx⟩
    obtain ⟨a, ha⟩ : ∃ a, as[j]? = some a := ⟨_, List.getElem?_eq_getElem (by rw [la]; exact hj)⟩
    have tk : as.take (j + 1) = as.take j ++ [a] := by rw [List.take_add_one, ha]; rfl
    refine ⟨?_, ?_⟩
    · show List.set (List.set (List.set σ i none) i (some x)) i none = List.set σ i none
      rw [List.set_set, List.set_set]
    · refine ht j x H' a hx ha s1 _ fun H2 s2 => ?_
      by_cases p : pred a = true
      · rw [if_pos p]
        refine hs j x H2 a hx ha p (s1.trans s2) _ fun H3 s3 => ⟨_, (s2.trans s3) _ _ hd1, ?_, fun b o z => by rw [upd_ne (ne_of_none z hD)]; exact (s2.trans s3) _ _ (s1 _ _ z), ?_⟩
        · rw [List.length_map]
          have l1 := List.length_filter_le pred (as.take j)
          rw [List.length_take] at l1
          omega
        · rw [upd_same, tk, List.filter_append, List.filter_cons_of_pos p, List.map_append]
          rfl
      · rw [if_neg p]
        refine ⟨s1.trans s2, ?_⟩
        rw [tk, List.filter_append, List.filter_cons_of_neg p, List.filter_nil, List.append_nil]
        exact s2 _ _ hd1
  · rintro H' ⟨s1, hd1⟩
    rw [← la, List.take_length] at hd1
    exact hd H' s1 hd1
/-- a way: where it stands, and its manners -/
structure Row where
  t : Addr
  p : Str
  l : Addr
  ps : List AM
def RowAt (H : Hp) (r : Row) : Prop := H r.t = some (.tup [.str r.p, .ref r.l]) ∧ MnsAt H r.l r.ps
def RowsAt (H : Hp) (l : Addr) (rs : List Row) : Prop := H l = some (.lst (rs.map fun r => V.ref r.t)) ∧ ∀ r ∈ rs, RowAt H r
def rowV (r : Row) : Str × List Mn := (r.p, r.ps.map (·.2))
theorem RowAt.same {H H' : Hp} {r : Row} (h : RowAt H r) (s : Same H H') : RowAt H' r := ⟨s _ _ h.1, h.2.same s⟩
theorem RowsAt.same {H H' : Hp} {l : Addr} {rs : List Row} (h : RowsAt H l rs) (s : Same H H') : RowsAt H' l rs := ⟨s _ _ h.1, fun r hr => (h.2 r hr).same s⟩
def stepP (ms : List Mn) (j : Str) (r : Str × List Mn) : List (Str × List Mn) := (ms.filter fun m => decide (m.a = r.1 ∧ m.b = j)).map fun m => (m.c, r.2 ++ [m])
def partsOf (ms : List Mn) (b : List Str) (room : Str) : List (Str × List Mn) := b.foldl (fun rows j => rows.flatMap (stepP ms j)) [(room, [])]
theorem partsOf_snoc {ms : List Mn} {b : List Str} {j room : Str} : partsOf ms (b ++ [j]) room = (partsOf ms b room).flatMap (stepP ms j) := by
  unfold partsOf
  rw [List.foldl_append]
  rfl
section
variable {P : Program} {w : PySem.World} {K : PySem.W.Frag} {mg : Str → Option Value} {base : Heap} {f : Addr} {fd : FuncData}
def sp_parts : Sp := fun vs H Q _ => ∃ (W lm l1 l2 lr lj lb : Addr) (ps : List AM) (bs es rs js ws : List Str) (room : Str), vs = [.ref W, .ref lb, .str room] ∧ World H W lm l1 l2 lr lj ps bs es rs js ∧ ps.length < 60 ∧ WordsAt H lb ws ∧ ws.length ≤ 3 ∧
  ∀ (l : Addr) (rw : List Row) H', RowsAt H' l rw → rw.map rowV = partsOf (ps.map (·.2)) ws room → rw.length ≤ 64 ^ ws.length → (∀ r ∈ rw, r.ps.length ≤ ws.length) → Same H H' → Q (.ref l) H'
def tPtest (K : PySem.W.Frag) : TT := tAnd (tB (tOp rEq (tOp (rIxT K) (tVar 9) (tC (.int 0))) (tVar 6))) (tB (tOp rEq (tOp (rIxT K) (tVar 9) (tC (.int 1))) (tVar 4)))
def tPel (K : PySem.W.Frag) : TE := tTup (tCons (tOp (rIxT K) (tVar 9) (tC (.int 2))) (tCons (tOp rCat (tVar 7) (tLst (tCons (tVar 9) tNil))) tNil))
end
end EV
namespace EV
open PySem L2 NT SX
/-- the scope of the comprehension within: for .. : ..; rows.append(tuple([..])) -/
def lcOf (b : List Stmt) : Scope := match b with
  | [_, .For _ _ [_, .Expr (.Call _ [e] _ _) _] _ _, _] => lcIn e
  | _ => defScope (top 0)
def seenE (ms : List Mn) (b : List Str) (r g : Str) : List Str := ((partsOf ms b r).filter fun x => decide (x.1 = g)).map fun x => partM x.2
def seenC (ms : List Mn) (rs b : List Str) : List (List Str) := rs.map fun r => rs.map fun g => bestS (seenE ms b r g)
theorem seenC_ok {ms : List Mn} {rs b : List Str} : (seenC ms rs b).length = rs.length ∧ ∀ r ∈ seenC ms rs b, r.length = rs.length ∧ ∀ x ∈ r, x ∈ marks := by
  unfold seenC
  refine ⟨List.length_map .., fun r hr => ?_⟩
  obtain ⟨a, _, rfl⟩ := List.mem_map.mp hr
  refine ⟨List.length_map .., fun x hx => ?_⟩
  obtain ⟨b, _, rfl⟩ := List.mem_map.mp hx
  exact best_mem _
theorem parts_in2 {ms : List Mn} : ∀ (b : List Str) (rows : List (Str × List Mn)), (∀ x ∈ rows, ∀ m ∈ x.2, m ∈ ms) → ∀ x ∈ b.foldl (fun rows j => rows.flatMap (stepP ms j)) rows, ∀ m ∈ x.2, m ∈ ms
  | [], _, h => h
  | j :: b, rows, h => by
    rw [List.foldl_cons]
    refine parts_in2 b _ fun x hx m hm => ?_
    rw [List.mem_flatMap] at hx
    obtain ⟨y, hy, hx⟩ := hx
    unfold stepP at hx
    obtain ⟨z, hz, rfl⟩ := List.mem_map.mp hx
    rcases List.mem_append.mp hm with h' | h'
    · exact h y hy m h'
    · rw [List.mem_singleton] at h'
      rw [h']
      exact (List.mem_filter.mp hz).1
theorem parts_in {ms : List Mn} {r : Str} (b : List Str) (x : Str × List Mn) (hx : x ∈ partsOf ms b r) : ∀ m ∈ x.2, m ∈ ms := parts_in2 b _ (fun x hx m hm => by
  rw [List.mem_singleton] at hx
  rw [hx] at hm
  cases hm) x hx
def sp_law_best : Sp := fun vs H Q _ => ∃ (l : Addr) (ms : List Str), vs = [.ref l] ∧ WordsAt H l ms ∧ ∀ H', Same H H' → Q (.str (bestS ms)) H'
section
variable {P : Program} {w : PySem.World} {K : PySem.W.Frag} {mg : Str → Option Value} {base : Heap} {f : Addr} {fd : FuncData}
def sp_seen : Sp := fun vs H Q _ => ∃ (W lm l1 l2 lr lj lb : Addr) (ps : List AM) (bs es rs js ws : List Str), vs = [.ref W, .ref lb] ∧ World H W lm l1 l2 lr lj ps bs es rs js ∧ ps.length < 60 ∧ bs.length < 64 ∧ es.length < 64 ∧ (roomsOf ps bs es).length < 64 ∧ (∀ p ∈ ps, EffK p.2.w p.2.ns) ∧ WordsAt H lb ws ∧ ws.length ≤ 3 ∧
  ∀ (T : Addr) (H' : Hp) (cs : List (Addr × List Str)) (rms : List Str), PyProof.Rows.sortedS rms = true → OnceOf rms (roomsOf ps bs es) → Same H H' → H T = none → CardAt H' T cs → cs.map (·.2) = seenC (ps.map (·.2)) rms ws → Q (.ref T) H'
def tSin (K : PySem.W.Frag) : TE := tCall sp_part_mark [] E0 (tCons (tVar 8) tNil)
def tSmid (K : PySem.W.Frag) : TE := tCall sp_law_best [] E0 (tCons (tLc (iList K (tVar 5)) (gTup K 2 (gCons (gName 7) (gCons (gName 8) gNil))) (tB (tOp rEq (tVar 7) (tVar 6))) (tSin K) [7, 8]) tNil)
end
end EV
namespace EV
open PySem L2 NT SX
/-! ### the plain law: marks add by the best and multiply by the later -/
def sum2 (a b : Str) : Str := bestS [a, b]
def bst (b1 b2 b3 b4 : Bool) : Str := if b1 then "full" else if b2 then "free" else if b3 then "some" else if b4 then "many" else "never"
theorem best_bst (l : List Str) : bestS l = bst (decide (("full" : Str) ∈ l)) (decide (("free" : Str) ∈ l)) (decide (("some" : Str) ∈ l)) (decide (("many" : Str) ∈ l)) := by
  unfold bestS marks bst
  simp only [List.find?]
  generalize decide (("full" : Str) ∈ l) = b1
  generalize decide (("free" : Str) ∈ l) = b2
  generalize decide (("some" : Str) ∈ l) = b3
  generalize decide (("many" : Str) ∈ l) = b4
  generalize decide (("never" : Str) ∈ l) = b5
  cases b1 <;> cases b2 <;> cases b3 <;> cases b4 <;> cases b5 <;> rfl
theorem best_congr {l1 l2 : List Str} (h : ∀ x, x ∈ l1 ↔ x ∈ l2) : bestS l1 = bestS l2 := by
  rw [best_bst, best_bst]
  congr 1 <;> exact Bool.eq_iff_iff.mpr (by simp [h])
theorem marks_forall {p : Str → Prop} (h1 : p "full") (h2 : p "free") (h3 : p "some") (h4 : p "many") (h5 : p "never") : ∀ a ∈ marks, p a := by
  intro a ha
  unfold marks at ha
  simp only [List.mem_cons, List.not_mem_nil, or_false] at ha
  rcases ha with rfl | rfl | rfl | rfl | rfl <;> assumption
theorem mem_cons_dec {x a : Str} {l : List Str} : decide (x ∈ a :: l) = (decide (x = a) || decide (x ∈ l)) := by
  rw [Bool.eq_iff_iff]
  simp
theorem sum2_bst (b1 b2 b3 b4 : Bool) : ∀ a ∈ marks, sum2 a (bst b1 b2 b3 b4) = bst (decide (("full" : Str) = a) || b1) (decide (("free" : Str) = a) || b2) (decide (("some" : Str) = a) || b3) (decide (("many" : Str) = a) || b4) := by
  cases b1 <;> cases b2 <;> cases b3 <;> cases b4 <;> decide +kernel
theorem best_cons {a : Str} {l : List Str} (ha : a ∈ marks) : bestS (a :: l) = sum2 a (bestS l) := by
  rw [best_bst, best_bst l, sum2_bst _ _ _ _ a ha, mem_cons_dec, mem_cons_dec, mem_cons_dec, mem_cons_dec]
theorem best_nil : bestS [] = "never" := by decide +kernel
theorem later_mem : ∀ a ∈ marks, ∀ b ∈ marks, laterS a b ∈ marks := by decide +kernel
theorem later_assoc : ∀ a ∈ marks, ∀ b ∈ marks, ∀ c ∈ marks, laterS (laterS a b) c = laterS a (laterS b c) := by decide +kernel
theorem later_free : ∀ a ∈ marks, laterS a "free" = a := by decide +kernel
theorem later_never : ∀ a ∈ marks, laterS a "never" = "never" := by decide +kernel
theorem never_later : ∀ a ∈ marks, laterS "never" a = "never" := by decide +kernel
theorem dist_l : ∀ a ∈ marks, ∀ b ∈ marks, ∀ c ∈ marks, laterS a (sum2 b c) = sum2 (laterS a b) (laterS a c) := by decide +kernel
theorem dist_r : ∀ a ∈ marks, ∀ b ∈ marks, ∀ c ∈ marks, laterS (sum2 b c) a = sum2 (laterS b a) (laterS c a) := by decide +kernel
theorem sum2_assoc : ∀ a ∈ marks, ∀ b ∈ marks, ∀ c ∈ marks, sum2 (sum2 a b) c = sum2 a (sum2 b c) := by decide +kernel
theorem never_sum : ∀ a ∈ marks, sum2 "never" a = a := by decide +kernel
theorem best_append {l1 l2 : List Str} (h : ∀ x ∈ l1, x ∈ marks) : bestS (l1 ++ l2) = sum2 (bestS l1) (bestS l2) := by
  induction l1 with
  | nil => rw [List.nil_append, best_nil, never_sum _ (best_mem _)]
  | cons a l1 ih =>
    have ha := h a List.mem_cons_self
    rw [List.cons_append, best_cons ha, best_cons ha, ih fun x hx => h x (List.mem_cons_of_mem _ hx), sum2_assoc _ ha _ (best_mem _) _ (best_mem _)]
theorem later_best {a : Str} (ha : a ∈ marks) {l : List Str} (h : ∀ x ∈ l, x ∈ marks) : laterS a (bestS l) = bestS (l.map (laterS a)) := by
  induction l with
  | nil => rw [List.map_nil, best_nil, later_never a ha]
  | cons b l ih =>
    have hb := h b List.mem_cons_self
    rw [List.map_cons, best_cons hb, best_cons (later_mem a ha b hb), dist_l a ha b hb _ (best_mem _), ih fun x hx => h x (List.mem_cons_of_mem _ hx)]
theorem best_later {a : Str} (ha : a ∈ marks) {l : List Str} (h : ∀ x ∈ l, x ∈ marks) : laterS (bestS l) a = bestS (l.map fun x => laterS x a) := by
  induction l with
  | nil => rw [List.map_nil, best_nil, never_later a ha]
  | cons b l ih =>
    have hb := h b List.mem_cons_self
    rw [List.map_cons, best_cons hb, best_cons (later_mem b hb a ha), dist_r a ha b hb _ (best_mem _), ih fun x hx => h x (List.mem_cons_of_mem _ hx)]
theorem best_flat {α : Type} {L : List α} {f : α → List Str} (h : ∀ x ∈ L, ∀ y ∈ f x, y ∈ marks) : bestS (L.flatMap f) = bestS (L.map fun x => bestS (f x)) := by
  induction L with
  | nil => rfl
  | cons a L ih =>
    rw [List.flatMap_cons, List.map_cons, best_append (h a List.mem_cons_self), best_cons (best_mem _), ih fun x hx => h x (List.mem_cons_of_mem _ hx)]
/-! cards as functions of rooms -/
abbrev Mat := Str → Str → Str
def matL (rs : List Str) (F : Mat) : List (List Str) := rs.map fun r => rs.map fun g => F r g
def MarkM (F : Mat) : Prop := ∀ r g, F r g ∈ marks
def mulM (rs : List Str) (A B : Mat) : Mat := fun r g => bestS (rs.map fun t => laterS (A r t) (B t g))
theorem mulM_ok {rs : List Str} {A B : Mat} : MarkM (mulM rs A B) := fun _ _ => best_mem _
def EqM (rs : List Str) (F G : Mat) : Prop := ∀ r ∈ rs, ∀ g ∈ rs, F r g = G r g
theorem matL_congr {rs : List Str} {F G : Mat} (h : EqM rs F G) : matL rs F = matL rs G := by
  unfold matL
  exact List.map_congr_left fun r hr => List.map_congr_left fun g hg => h r hr g hg
theorem mulM_congr {rs : List Str} {A A' B B' : Mat} (h : EqM rs A A') (h' : EqM rs B B') : EqM rs (mulM rs A B) (mulM rs A' B') := fun r hr g hg => by
  unfold mulM
  congr 1
  exact List.map_congr_left fun t ht => by rw [h r hr t ht, h' t ht g hg]
theorem join_mat {rs : List Str} {A B : Mat} : joinC (matL rs A) (matL rs B) = matL rs (mulM rs A B) := by
  unfold joinC matL
  rw [List.map_map]
  refine List.map_congr_left fun r hr => ?_
  show rowB (rs.map fun g => A r g) (rs.map fun t => rs.map fun g => B t g) = _
  unfold rowB
  rw [List.length_map]
  refine List.ext_getElem? fun i => ?_
  rw [List.getElem?_map, List.getElem?_map]
  by_cases hi : i < rs.length
  · rw [List.getElem?_range hi, List.getElem?_eq_getElem hi]
    show some _ = some _
    congr 1
    show bestS (((rs.map fun g => A r g).zip (rs.map fun t => rs.map fun g => B t g)).map fun p => laterS p.1 (p.2.getD i "never")) = bestS (rs.map fun t => laterS (A r t) (B t rs[i]))
    congr 1
    rw [List.zip_map', List.map_map]
    refine List.map_congr_left fun t ht => ?_
    show laterS (A r t) ((rs.map fun g => B t g).getD i "never") = _
    rw [List.getD_eq_getElem?_getD, List.getElem?_map, List.getElem?_eq_getElem hi]
    rfl
  · rw [List.getElem?_eq_none (by simpa using hi), List.getElem?_eq_none (by simpa using hi)]
    rfl
theorem mul_assoc' {rs : List Str} {A B J : Mat} (ha : MarkM A) (hb : MarkM B) (hj : MarkM J) : mulM rs (mulM rs A B) J = mulM rs A (mulM rs B J) := by
  funext r g
  unfold mulM
  have e1 : (rs.map fun t => laterS (bestS (rs.map fun u => laterS (A r u) (B u t))) (J t g)) = rs.map fun t => bestS (rs.map fun u => laterS (laterS (A r u) (B u t)) (J t g)) :=
    List.map_congr_left fun t _ => by
      rw [best_later (hj t g) fun x hx => by
        obtain ⟨u, _, rfl⟩ := List.mem_map.mp hx
        exact later_mem _ (ha r u) _ (hb u t), List.map_map]
      rfl
  have e2 : (rs.map fun u => laterS (A r u) (bestS (rs.map fun t => laterS (B u t) (J t g)))) = rs.map fun u => bestS (rs.map fun t => laterS (A r u) (laterS (B u t) (J t g))) :=
    List.map_congr_left fun u _ => by
      rw [later_best (ha r u) fun x hx => by
        obtain ⟨t, _, rfl⟩ := List.mem_map.mp hx
        exact later_mem _ (hb u t) _ (hj t g), List.map_map]
      rfl
  rw [e1, e2, ← best_flat fun t _ y hy => by
    obtain ⟨u, _, rfl⟩ := List.mem_map.mp hy
    exact later_mem _ (later_mem _ (ha r u) _ (hb u t)) _ (hj t g), ← best_flat fun u _ y hy => by
    obtain ⟨t, _, rfl⟩ := List.mem_map.mp hy
    exact later_mem _ (ha r u) _ (later_mem _ (hb u t) _ (hj t g))]
  refine best_congr fun x => ?_
  simp only [List.mem_flatMap, List.mem_map]
  constructor
  · rintro ⟨t, ht, u, hu, rfl⟩
    exact ⟨u, hu, t, ht, (later_assoc _ (ha r u) _ (hb u t) _ (hj t g)).symm⟩
  · rintro ⟨u, hu, t, ht, rfl⟩
    exact ⟨t, ht, u, hu, later_assoc _ (ha r u) _ (hb u t) _ (hj t g)⟩
def idM : Mat := fun r g => if r = g then "free" else "never"
theorem idM_ok : MarkM idM := fun r g => by
  unfold idM
  split <;> decide +kernel
theorem mul_id {rs : List Str} {A : Mat} (ha : MarkM A) : EqM rs (mulM rs A idM) A := fun r _ g hg => by
  unfold mulM
  have e : bestS (rs.map fun t => laterS (A r t) (idM t g)) = bestS [A r g] := by
    have k : ∀ t, laterS (A r t) (idM t g) = if t = g then A r g else "never" := fun t => by
      unfold idM
      by_cases z : t = g
      · rw [if_pos z, if_pos z, later_free _ (ha r t), z]
      · rw [if_neg z, if_neg z, later_never _ (ha r t)]
    have e1 : bestS (rs.map fun t => laterS (A r t) (idM t g)) = bestS ("never" :: rs.map fun t => laterS (A r t) (idM t g)) := by
      rw [best_cons (by decide +kernel), never_sum _ (best_mem _)]
    have e2 : bestS [A r g] = bestS ["never", A r g] := by
      rw [best_cons (by decide +kernel : ("never" : Str) ∈ marks), never_sum _ (best_mem _)]
    rw [e1, e2]
    refine best_congr fun x => ?_
    simp only [List.mem_cons, List.mem_map, List.not_mem_nil, or_false]
    constructor
    · rintro (h | ⟨t, ht, h⟩)
      · exact .inl h
      · rw [k t] at h
        by_cases z : t = g
        · rw [if_pos z] at h
          exact .inr h.symm
        · rw [if_neg z] at h
          exact .inl h.symm
    · rintro (h | h)
      · exact .inl h
      · exact .inr ⟨g, hg, by rw [k g, if_pos rfl, h]⟩
  rw [e, best_cons (ha r g)]
  revert A
  intro A ha e
  have : ∀ a ∈ marks, sum2 a (bestS []) = a := by decide +kernel
  exact this _ (ha r g)
def jobM (ms : List Mn) (j : Str) : Mat := fun r g => bestS (gOf ms j (r, g))
theorem jobM_ok {ms : List Mn} {j : Str} : MarkM (jobM ms j) := fun _ _ => best_mem _
def bookM (ms : List Mn) (rs : List Str) (b : List Str) (F : Mat) : Mat := b.foldl (fun F j => mulM rs F (jobM ms j)) F
theorem bookM_ok {ms : List Mn} {rs : List Str} : ∀ (b : List Str) {F : Mat}, MarkM F → MarkM (bookM ms rs b F)
  | [], _, h => h
  | _ :: b, _, _ => bookM_ok b mulM_ok
theorem card_mat {ms : List Mn} {rs b : List Str} : cardC ms rs b = matL rs (bookM ms rs b idM) := by
  have key : ∀ (b : List Str) (F : Mat), b.foldl (fun c j => joinC c (jobC ms rs j)) (matL rs F) = matL rs (bookM ms rs b F) := by
    intro b
    induction b with
    | nil => intro F; rfl
    | cons j b ih =>
      intro F
      rw [List.foldl_cons, show jobC ms rs j = matL rs (jobM ms j) from rfl, join_mat, ih]
      rfl
  exact key b idM
theorem bookM_congr {ms : List Mn} {rs : List Str} : ∀ (b : List Str) {F G : Mat}, EqM rs F G → EqM rs (bookM ms rs b F) (bookM ms rs b G)
  | [], _, _, h => h
  | j :: b, _, _, h => bookM_congr b (mulM_congr h fun _ _ _ _ => rfl)
theorem bookM_mul {ms : List Mn} {rs : List Str} : ∀ (b : List Str) {A B : Mat}, MarkM A → MarkM B → bookM ms rs b (mulM rs A B) = mulM rs A (bookM ms rs b B)
  | [], _, _, _, _ => rfl
  | j :: b, A, B, ha, hb => by
    show bookM ms rs b (mulM rs (mulM rs A B) (jobM ms j)) = mulM rs A (bookM ms rs b (mulM rs B (jobM ms j)))
    rw [mul_assoc' ha hb jobM_ok, bookM_mul b ha mulM_ok]
/-- the card of one book behind another is the card of both -/
theorem card_append {ms : List Mn} {rs a b : List Str} : joinC (cardC ms rs a) (cardC ms rs b) = cardC ms rs (a ++ b) := by
  rw [card_mat, card_mat, card_mat, join_mat]
  refine matL_congr fun r hr g hg => ?_
  rw [← bookM_mul b (bookM_ok a idM_ok) idM_ok]
  rw [bookM_congr b (mul_id (bookM_ok a idM_ok)) r hr g hg]
  unfold bookM
  rw [List.foldl_append]
/-- only which manners there are counts -/
theorem card_perm {ms ns : List Mn} {rs b : List Str} (h : ∀ m, m ∈ ms ↔ m ∈ ns) : cardC ms rs b = cardC ns rs b := by
  have e : jobM ms = jobM ns := by
    funext j r g
    unfold jobM gOf
    refine best_congr fun x => ?_
    simp only [List.mem_map, List.mem_filter, h]
  rw [card_mat, card_mat]
  unfold bookM
  rw [e]
/-! ### the ways -/
theorem partM_snoc {ms : List Mn} {m : Mn} (h : EffK m.w m.ns) : partM (ms ++ [m]) = laterS (partM ms) (effMark m.w m.ns) := by
  unfold partM
  rw [List.any_append, List.any_append]
  simp only [List.any_cons, List.any_nil, Bool.or_false]
  generalize (ms.any fun m => decide (m.w = "fill")) = b1
  generalize (ms.any fun m => decide (0 < m.ns.headD 0)) = b2
  unfold effMark
  rcases h.1 with ⟨hw, hl⟩ | ⟨hw, hl⟩
  · match hn : m.ns, hl with
    | [n], _ =>
      have n0 : 0 ≤ n := (h.2 n (by rw [hn]; exact List.mem_cons_self)).1
      rw [hw]
      rw [show decide (("coins" : Str) = "fill") = false by decide +kernel, if_neg (show ¬ (("coins" : Str) = "fill") by decide +kernel)]
      show _ = laterS _ (if n = 0 then "free" else "some")
      show (if (b1 || false) = true then _ else if (b2 || decide (0 < n)) = true then _ else _) = _
      by_cases z : n = 0
      · rw [if_pos z, show decide (0 < n) = false from decide_eq_false (by omega)]
        cases b1 <;> cases b2 <;> decide +kernel
      · rw [if_neg z, show decide (0 < n) = true from decide_eq_true (by omega)]
        cases b1 <;> cases b2 <;> decide +kernel
  · rw [hw, if_pos (show ("fill" : Str) = "fill" from rfl), show decide (("fill" : Str) = "fill") = true by decide +kernel]
    rw [Bool.or_true, if_pos rfl]
    cases b1 <;> cases b2 <;> decide +kernel
theorem partM_mem (ms : List Mn) : partM ms ∈ marks := by
  unfold partM
  split
  · decide +kernel
  · split <;> decide +kernel
theorem eff_mem (w : Str) (ns : List Int) : effMark w ns ∈ marks := by
  unfold effMark
  split
  · decide +kernel
  · split <;> decide +kernel
theorem gOf_mem {ms : List Mn} {j : Str} {k : Str × Str} : ∀ x ∈ gOf ms j k, x ∈ marks := fun x hx => by
  unfold gOf at hx
  obtain ⟨m, _, rfl⟩ := List.mem_map.mp hx
  exact eff_mem _ _
def endsAt (R : List (Str × List Mn)) (g : Str) : List Str := (R.filter fun x => decide (x.1 = g)).map fun x => partM x.2
theorem ends_mem {R : List (Str × List Mn)} {g : Str} : ∀ x ∈ endsAt R g, x ∈ marks := fun x hx => by
  unfold endsAt at hx
  obtain ⟨m, _, rfl⟩ := List.mem_map.mp hx
  exact partM_mem _
theorem ends_step {ms : List Mn} {rs : List Str} {R : List (Str × List Mn)} {j g : Str} (hr : ∀ x ∈ R, x.1 ∈ rs) (hk : ∀ m ∈ ms, EffK m.w m.ns) :
    bestS (endsAt (R.flatMap (stepP ms j)) g) = bestS (rs.map fun t => laterS (bestS (endsAt R t)) (jobM ms j t g)) := by
  have e : (rs.map fun t => laterS (bestS (endsAt R t)) (jobM ms j t g)) = rs.map fun t => bestS ((endsAt R t).flatMap fun a => (gOf ms j (t, g)).map (laterS a)) :=
    List.map_congr_left fun t _ => by
      unfold jobM
      rw [best_later (best_mem _) ends_mem, best_flat fun a ha y hy => by
        obtain ⟨z, hz, rfl⟩ := List.mem_map.mp hy
        exact later_mem _ (ends_mem a ha) _ (gOf_mem z hz)]
      congr 1
      exact List.map_congr_left fun a ha => later_best (ends_mem a ha) gOf_mem
  rw [e, ← best_flat fun t _ y hy => by
    rw [List.mem_flatMap] at hy
    obtain ⟨a, ha, hy⟩ := hy
    obtain ⟨z, hz, rfl⟩ := List.mem_map.mp hy
    exact later_mem _ (ends_mem a ha) _ (gOf_mem z hz)]
  refine best_congr fun x => ?_
  unfold endsAt gOf stepP
  simp only [List.mem_flatMap, List.mem_map, List.mem_filter, decide_eq_true_eq]
  constructor
  · rintro ⟨z, ⟨⟨y, hy, m, ⟨hm, e1, e2⟩, rfl⟩, e3⟩, rfl⟩
    exact ⟨y.1, hr y hy, partM y.2, ⟨y, ⟨hy, rfl⟩, rfl⟩, effMark m.w m.ns, ⟨m, ⟨hm, e2, e1, e3⟩, rfl⟩, (partM_snoc (hk m hm)).symm⟩
  · rintro ⟨t, ht, a, ⟨y, ⟨hy, e1⟩, rfl⟩, b, ⟨m, ⟨hm, e2, e3, e4⟩, rfl⟩, rfl⟩
    exact ⟨(m.c, y.2 ++ [m]), ⟨⟨y, hy, m, ⟨hm, by rw [e3, e1], e2⟩, rfl⟩, e4⟩, partM_snoc (hk m hm)⟩
theorem ends_book {ms : List Mn} {rs : List Str} (hc : ∀ m ∈ ms, m.c ∈ rs) (hk : ∀ m ∈ ms, EffK m.w m.ns) {r : Str} : ∀ (b : List Str) (R : List (Str × List Mn)) (F : Mat), (∀ x ∈ R, x.1 ∈ rs) → (∀ t ∈ rs, bestS (endsAt R t) = F r t) →
    ∀ g ∈ rs, bestS (endsAt (b.foldl (fun rows j => rows.flatMap (stepP ms j)) R) g) = bookM ms rs b F r g
  | [], _, _, _, h => h
  | j :: b, R, F, hr, h => by
    rw [List.foldl_cons]
    refine ends_book hc hk b _ (mulM rs F (jobM ms j)) (fun x hx => ?_) fun t ht => ?_
    · rw [List.mem_flatMap] at hx
      obtain ⟨y, hy, hx⟩ := hx
      unfold stepP at hx
      obtain ⟨m, hm, rfl⟩ := List.mem_map.mp hx
      exact hc m (List.mem_filter.mp hm).1
    · rw [ends_step hr hk]
      unfold mulM
      congr 1
      exact List.map_congr_left fun u hu => by rw [h u hu]
/-- the card seen from the ways is the card of the book -/
theorem seen_card {ms : List Mn} {rs b : List Str} (hc : ∀ m ∈ ms, m.c ∈ rs) (hk : ∀ m ∈ ms, EffK m.w m.ns) : seenC ms rs b = cardC ms rs b := by
  rw [card_mat]
  refine List.map_congr_left fun r hr => List.map_congr_left fun g hg => ?_
  refine ends_book hc hk b [(r, [])] idM (fun x hx => ?_) (fun t ht => ?_) g hg
  · rw [List.mem_singleton] at hx
    rw [hx]
    exact hr
  · unfold endsAt idM
    by_cases z : r = t
    · subst z
      simp
      decide +kernel
    · simp [z]
      decide +kernel
end EV
namespace EV
open PySem L2 NT SX
open PyProof.Rows (sortedS)
/-- a world and its manual: what stands where -/
structure Sc where
  lm : Addr
  l1 : Addr
  l2 : Addr
  lr : Addr
  lj : Addr
  ps : List AM
  bs : List Str
  es : List Str
  rs0 : List Str
  js0 : List Str
  rows : Addr
  firsts : Addr
  lasts : Addr
  rooms : Addr
  jobs : Addr
  qs : List AM
  fs : List Str
  ls : List Str
  rs : List Str
  js : List Str
structure ScOk (z : Sc) : Prop where
  few : z.ps.length ≤ 16
  fb : z.bs.length ≤ 8
  fe : z.es.length ≤ 8
  ek : ∀ p ∈ z.ps, EffK p.2.w p.2.ns
  wj : ∀ p ∈ z.ps, IsWord p.2.b
  pq : z.qs.Perm z.ps
  sr : sortedS z.rs = true
  nr : z.rs.Nodup
  mr : ∀ x, x ∈ z.rs ↔ x ∈ roomsOf z.ps z.bs z.es
structure ScAt (C : Addr) (H : Hp) (W a : Addr) (z : Sc) : Prop where
  wd : World H W z.lm z.l1 z.l2 z.lr z.lj z.ps z.bs z.es z.rs0 z.js0
  ma : ManAt C H a z.rows z.firsts z.lasts z.rooms z.jobs z.qs z.fs z.ls z.rs z.js
theorem World.same {H H' : Hp} {W lm l1 l2 lr lj : Addr} {ps : List AM} {bs es rs js : List Str} (h : World H W lm l1 l2 lr lj ps bs es rs js) (s : Same H H') : World H' W lm l1 l2 lr lj ps bs es rs js := ⟨s _ _ h.top, h.ms.same s, s _ _ h.b, s _ _ h.e, s _ _ h.r, s _ _ h.j⟩
theorem ScAt.same {C : Addr} {H H' : Hp} {W a : Addr} {z : Sc} (h : ScAt C H W a z) (s : Same H H') : ScAt C H' W a z := ⟨h.wd.same s, h.ma.same s⟩
theorem World.but {H H' : Hp} {W lm l1 l2 lr lj p : Addr} {k : Nat} {ps : List AM} {bs es rs js : List Str} (h : World H W lm l1 l2 lr lj ps bs es rs js) (P : Pu H p k) (B : But p H H') : World H' W lm l1 l2 lr lj ps bs es rs js := by
  refine ⟨B W _ h.top fun z => ?_, h.ms.but P B, h.b.but P B, h.e.but P B, h.r.but P B, h.j.but P B⟩
  obtain ⟨xs, e, l⟩ := P.some
  have t := h.top
  rw [z, e] at t
  cases t
  cases l
theorem ManAt.but {C : Addr} {H H' : Hp} {a rows firsts lasts rooms jobs p : Addr} {k : Nat} {qs : List AM} {fs ls rs js : List Str} (m : ManAt C H a rows firsts lasts rooms jobs qs fs ls rs js) (P : Pu H p k) (B : But p H H') : ManAt C H' a rows firsts lasts rooms jobs qs fs ls rs js := by
  obtain ⟨dx, t⟩ := m.top
  refine ⟨⟨dx, B a _ t fun z => ?_⟩, m.ms.but P B, m.f.but P B, m.l.but P B, m.r.but P B, m.j.but P B⟩
  obtain ⟨xs, e, l⟩ := P.some
  rw [z, e] at t
  cases t
theorem ScAt.but {C : Addr} {H H' : Hp} {W a p : Addr} {k : Nat} {z : Sc} (h : ScAt C H W a z) (P : Pu H p k) (B : But p H H') : ScAt C H' W a z := ⟨h.wd.but P B, h.ma.but P B⟩
theorem ScOk.fall {z : Sc} (o : ScOk z) : (roomsOf z.ps z.bs z.es).length < 64 := by
  unfold roomsOf
  simp only [List.length_append, List.length_map]
  have := o.few
  have := o.fb
  have := o.fe
  omega
theorem ScOk.rlen {z : Sc} (o : ScOk z) : z.rs.length < 64 := by
  have h : z.rs.length ≤ (roomsOf z.ps z.bs z.es).length := o.nr.length_le_of_subset fun x hx => (o.mr x).mp hx
  have := o.fall
  omega
theorem ScOk.qlen {z : Sc} (o : ScOk z) : z.qs.length < 64 := by
  rw [o.pq.length_eq]
  have := o.few
  omega
theorem ScOk.qek {z : Sc} (o : ScOk z) : ∀ p ∈ z.qs, EffK p.2.w p.2.ns := fun p hp => o.ek p (o.pq.mem_iff.mp hp)
/-- the card of a book, by the scene -/
def Sc.card (z : Sc) (b : List Str) : List (List Str) := cardC (z.ps.map (·.2)) z.rs b
theorem ScOk.card {z : Sc} (o : ScOk z) (b : List Str) : cardC (z.qs.map (·.2)) z.rs b = z.card b := card_perm fun m => (o.pq.map (·.2)).mem_iff
theorem ScOk.seen {z : Sc} (o : ScOk z) {b rms : List Str} (h1 : sortedS rms = true) (h2 : OnceOf rms (roomsOf z.ps z.bs z.es)) : seenC (z.ps.map (·.2)) rms b = z.card b := by
  have e : rms = z.rs := sortedS_same h1 o.sr h2.1 o.nr fun x => (h2.2.1 x).trans (o.mr x).symm
  subst e
  refine seen_card (fun m hm => ?_) fun m hm => ?_
  · obtain ⟨p, hp, rfl⟩ := List.mem_map.mp hm
    rw [o.mr]
    unfold roomsOf
    refine List.mem_append_left _ (List.mem_append_left _ (List.mem_append_right _ (List.mem_map.mpr ⟨p, hp, rfl⟩)))
  · obtain ⟨p, hp, rfl⟩ := List.mem_map.mp hm
    exact o.ek p hp
def cardD (c : List (List Str)) : PyData := .tuple (c.map fun r => .tuple (r.map .str))
theorem ix3 : ∀ i : Nat, i < 2 → ixN 3 (0 + (i : Int)) = some i := by
  intro i hi
  have h : i = 0 ∨ i = 1 := by omega
  rcases h with rfl | rfl <;> decide
theorem word_zz : IsWord "zz" := by
  refine ⟨?_, ?_, ?_⟩ <;> decide +kernel
theorem dh_strs {H : Hp} : ∀ ws : List Str, DhAll H (ws.map V.str) (ws.map .str)
  | [] => .nil
  | x :: ws => .cons (.str x) (dh_strs ws)
theorem CardAt.dh {H : Hp} {t : Addr} {cs : List (Addr × List Str)} {n : Nat} (h : CardAt H t cs) (ok : CardOk n cs) (few : n < 64) : Dh H (.ref t) (cardD (cs.map (·.2))) := by
  have l := ok.1
  refine .tup h.1 ?_ (by rw [List.length_map]; omega)
  have h2 := h.2
  have o2 := ok.2
  clear h ok l
  induction cs with
  | nil => exact .nil
  | cons p cs ih =>
    refine .cons (.tup (h2 p List.mem_cons_self) (dh_strs _) (by rw [List.length_map, (o2 p List.mem_cons_self).1]; omega)) (ih (fun q hq => h2 q (List.mem_cons_of_mem _ hq)) fun q hq => o2 q (List.mem_cons_of_mem _ hq))
theorem depth_cardD (c : List (List Str)) : PyData.depth (cardD c) < 3 := by
  unfold cardD
  show PyData.depthAll (c.map fun r => PyData.tuple (r.map .str)) + 1 < 3
  have : PyData.depthAll (c.map fun r => PyData.tuple (r.map .str)) ≤ 1 := by
    induction c with
    | nil => exact Nat.zero_le _
    | cons r c ih =>
      show max (PyData.depthAll (r.map .str) + 1) _ ≤ 1
      rw [depth_strs]
      exact Nat.max_le.mpr ⟨Nat.le_refl _, ih⟩
  omega
theorem card_len {ms : List Mn} {rs b : List Str} : (cardC ms rs b).length = rs.length ∧ ∀ r ∈ cardC ms rs b, r.length = rs.length ∧ ∀ x ∈ r, x ∈ marks := by
  have key : ∀ (b : List Str) (c : List (List Str)), (c.length = rs.length ∧ ∀ r ∈ c, r.length = rs.length ∧ ∀ x ∈ r, x ∈ marks) → (b.foldl (fun c j => joinC c (jobC ms rs j)) c).length = rs.length ∧ ∀ r ∈ b.foldl (fun c j => joinC c (jobC ms rs j)) c, r.length = rs.length ∧ ∀ x ∈ r, x ∈ marks := by
    intro b
    induction b with
    | nil => intro c h; exact h
    | cons j b ih =>
      intro c h
      rw [List.foldl_cons]
      exact ih _ (joinC_ok h.1 h.2)
  exact key b _ emptyC_ok
/-- the card of a book, and what the law sees, are one -/
theorem check_same {C : Addr} {σ : St} {H : Hp} {Q : VK} {W a l1 l2 : Addr} {z : Sc} {ws : List Str} {im ib iw ib2 : Nat} (hm : σ[im]? = some (some (V.ref a))) (hb : σ[ib]? = some (some (V.ref l1))) (hw : σ[iw]? = some (some (V.ref W))) (hb2 : σ[ib2]? = some (some (V.ref l2)))
    (sc : ScAt C H W a z) (o : ScOk z) (h1 : WordsAt H l1 ws) (h2 : WordsAt H l2 ws) (iw' : ∀ x ∈ ws, IsWord x) (three : ws.length ≤ 3) (q : ∀ H', Same H H' → Q (.bl true) H') :
    tCall (sp_exact 3) [] E0 (tCons (tCall (sp_card_of C) [] E0 (tCons (tVar im) (tCons (tVar ib) tNil))) (tCons (tCall sp_seen [] E0 (tCons (tVar iw) (tCons (tVar ib2) tNil))) tNil)) σ H Q := by
  refine ⟨_, hm, _, hb, a, z.rows, z.firsts, z.lasts, z.rooms, z.jobs, l1, z.qs, z.fs, z.ls, z.rs, z.js, ws, rfl, sc.ma, o.qek, o.qlen, o.rlen, h1, iw', by omega, fun T1 H1 cs1 s1 hT1 c1 ok1 e1 => ?_⟩
  refine ⟨_, hw, _, hb2, W, z.lm, z.l1, z.l2, z.lr, z.lj, l2, z.ps, z.bs, z.es, z.rs0, z.js0, ws, rfl, sc.wd.same s1, by have := o.few; omega, by have := o.fb; omega, by have := o.fe; omega, o.fall, o.ek, s1 _ _ h2, three, fun T2 H2 cs2 rms r1 r2 s2 hT2 c2 e2 => ?_⟩
  rw [o.card] at e1
  rw [o.seen r1 r2] at e2
  have ok2 : CardOk z.rs.length cs2 := card_ok e2 card_len.1 card_len.2
  have d1 := (c1.same s2).dh ok1 o.rlen
  have d2 := c2.dh ok2 o.rlen
  rw [e1] at d1
  rw [e2] at d2
  exact ⟨_, _, _, rfl, d1, d2, depth_cardD _, fun H3 s3 => q H3 ((s1.trans s2).trans s3)⟩
section
variable {P : Program} {w : PySem.World} {K : PySem.W.Frag} {mg : Str → Option Value} {base : Heap} {f : Addr} {fd : FuncData}
def sp_grown (C : Addr) : Sp := fun vs H Q _ => ∃ (p a W : Addr) (z : Sc) (k : Nat), vs = [.ref p, .ref a, .ref W] ∧ ScAt C H W a z ∧ ScOk z ∧ Pu H p k ∧ k < 700000000 ∧ ∀ H', Pu H' p (k + 5) → But p H H' → Q (.bl true) H'
end
end EV
namespace EV
open PySem L2 NT SX
abbrev s_coins_left : Stmt := top 25
abbrev s_rests_job : Stmt := top 26
/-- a comprehension that makes a dict, over a list -/
theorem dc_list {K : PySem.W.Frag} {a : Addr} {xs : List V} {g : TG} {tt : TT} {tk tv : TE} {vs : List Nat} {σ : St} {H1 : Hp} {D : Addr} {Qd : Hp → Prop} (Pv : Nat → Hp → Prop) (h0 : Pv 0 (upd H1 D (.dK []))) (hl : ∀ i H, i ≤ xs.length → Pv i H → SqL K H a xs)
    (hs : ∀ i x H, xs[i]? = some x → Pv i H → g x (wipe σ vs) H fun σ2 H2 => wipe σ2 vs = wipe σ vs ∧ tt σ2 H2 fun b H3 =>
      if b = true then tk σ2 H3 fun y H4 => tv σ2 H4 fun z H5 => ∃ kvs k, y = kV k ∧ H5 D = some (.dK kvs) ∧ kvs.length < sizeLine ∧ Pv (i + 1) (upd H5 D (.dK (putK kvs k z))) else Pv (i + 1) H3) (hd : ∀ H, Pv xs.length H → Qd H) :
    ∃ W : Nat → Nat → Hp → Prop, (∃ m, W 0 m (upd H1 D (.dK []))) ∧ ∀ i m H, W i m H →
      ((Itl K a).stop i H ∧ Qd H) ∨ ((Itl K a).go i H ∧ ∃ Nx : Hp → Prop, (∀ H', Nx H' → ∃ m', m' < m ∧ W (i + 1) m' H') ∧ ∀ x H', (Itl K a).yld i H x H' → g x (wipe σ vs) H' fun σ2 H2 => wipe σ2 vs = wipe σ vs ∧ tt σ2 H2 fun b H3 =>
        if b = true then tk σ2 H3 fun y H4 => tv σ2 H4 fun z H5 => ∃ kvs k, y = kV k ∧ H5 D = some (.dK kvs) ∧ kvs.length < sizeLine ∧ Nx (upd H5 D (.dK (putK kvs k z))) else Nx H3) := by
  refine ⟨fun i m H => m = xs.length - i ∧ i ≤ xs.length ∧ Pv i H, ⟨xs.length, by simp, Nat.zero_le _, h0⟩, ?_⟩
  rintro i m H ⟨rfl, hi, p⟩
  have q := hl i H hi p
  by_cases hlt : i < xs.length
  · refine .inr ⟨⟨xs, xs[i], q, by simp [hlt]⟩, Pv (i + 1), fun H' p' => ⟨xs.length - (i + 1), by omega, rfl, hlt, p'⟩, fun x H' y => ?_⟩
    obtain ⟨e, y⟩ := y
    subst e
    exact hs i x _ (y xs q) p
  · have e : i = xs.length := by omega
    subst e
    exact .inl ⟨⟨xs, q, Nat.le_refl _⟩, hd H p⟩
/-! ### what is left behind a manner; rows of rests -/
def optV : Option Int → V
  | none => .non
  | some i => .int i
def leftS (w : Str) (ns : List Int) (c p : Int) : Option Int := if c < ns.headD 0 then none else if w = "coins" then some (c - ns.headD 0) else if ns.getD 1 0 ≤ p then some (p - ns.getD 1 0) else none
theorem left_nat {w : Str} {ns : List Int} {c p l : Int} (h : leftS w ns c p = some l) : 0 ≤ l := by
  unfold leftS at h
  split at h
  · cases h
  · split at h
    · cases h
      omega
    · split at h
      · cases h
        omega
      · cases h
abbrev Rw : Type := Str → Option Int
/-- at D a dict that holds the row F, its keys ks -/
structure RstAt (H : Hp) (D : Addr) (ks : List Str) (F : Rw) : Prop where
  d : H D = some (.dK (ks.map fun k => (.inr k, .int ((F k).getD 0))))
  nd : ks.Nodup
  mem : ∀ k, k ∈ ks ↔ (F k).isSome = true
theorem RstAt.same {H H' : Hp} {D : Addr} {ks : List Str} {F : Rw} (r : RstAt H D ks F) (s : Same H H') : RstAt H' D ks F := ⟨s _ _ r.d, r.nd, r.mem⟩
theorem row_val {ks : List Str} {F : Rw} (m : ∀ k, k ∈ ks ↔ (F k).isSome = true) (r : Str) : valV (ks.map fun k => ((.inr k : Key), V.int ((F k).getD 0))) (.inr r) = (F r).map V.int := by
  have key : ∀ ks : List Str, valV (ks.map fun k => ((.inr k : Key), V.int ((F k).getD 0))) (.inr r) = if r ∈ ks then some (.int ((F r).getD 0)) else none := by
    intro ks
    induction ks with
    | nil => rfl
    | cons k ks ih =>
      rw [List.map_cons]
      by_cases z : k = r
      · subst z
        rw [valV_pos rfl, if_pos List.mem_cons_self]
      · rw [valV_neg (fun e => z (Sum.inr.inj e)), ih]
        by_cases y : r ∈ ks
        · rw [if_pos y, if_pos (List.mem_cons_of_mem _ y)]
        · rw [if_neg y, if_neg (by simp [y, Ne.symm z])]
  rw [key]
  cases e : F r with
  | none => rw [if_neg (by rw [m, e]; simp)]; rfl
  | some c => rw [if_pos (by rw [m, e]; rfl)]; rfl
def putF (F : Rw) (r : Str) (l : Int) : Rw := fun k => if k = r then some l else F k
theorem put_any {κ : Type} [DecidableEq κ] {kvs : List (κ × V)} {k : κ} {v : V} : putK kvs k v = if (∃ p ∈ kvs, p.1 = k) then kvs.map (fun p => if p.1 = k then (p.1, v) else p) else kvs ++ [(k, v)] := by
  unfold putK
  by_cases h : ∃ p ∈ kvs, p.1 = k
  · rw [if_pos h, if_pos (by rw [List.any_eq_true]; obtain ⟨p, a, b⟩ := h; exact ⟨p, a, by simp [b]⟩)]
  · rw [if_neg h, if_neg (by rw [List.any_eq_true]; rintro ⟨p, a, b⟩; exact h ⟨p, a, by simpa using b⟩)]
/-- one more entry -/
theorem RstAt.put {H : Hp} {D : Addr} {ks : List Str} {F : Rw} (R : RstAt H D ks F) (r : Str) (l : Int) : ∃ ks', RstAt (upd H D (.dK (putK (ks.map fun k => ((.inr k : Key), V.int ((F k).getD 0))) (.inr r) (.int l)))) D ks' (putF F r l) ∧ ks'.length ≤ ks.length + 1 := by
  by_cases h : r ∈ ks
  · refine ⟨ks, ⟨?_, R.nd, fun k => ?_⟩, Nat.le_succ _⟩
    · rw [upd_same, put_any, if_pos ⟨_, List.mem_map.mpr ⟨r, h, rfl⟩, rfl⟩, List.map_map]
      congr 2
      refine List.map_congr_left fun k _ => ?_
      show (if (Sum.inr k : Key) = Sum.inr r then ((Sum.inr k : Key), V.int l) else _) = _
      unfold putF
      by_cases z : k = r
      · rw [if_pos (by rw [z]), if_pos z]
        rfl
      · rw [if_neg (fun e => z (Sum.inr.inj e)), if_neg z]
    · unfold putF
      by_cases z : k = r
      · rw [if_pos z, z]
        simp [h]
      · rw [if_neg z]
        exact R.mem k
  · refine ⟨ks ++ [r], ⟨?_, ?_, fun k => ?_⟩, by simp⟩
    · rw [upd_same, put_any, if_neg, List.map_append]
      · congr 2
        · congr 1
          · refine List.map_congr_left fun k hk => ?_
            unfold putF
            rw [if_neg (fun z => h (by rw [← z]; exact hk))]
          · unfold putF
            simp
      · rintro ⟨p, hp, e⟩
        obtain ⟨k, hk, rfl⟩ := List.mem_map.mp hp
        exact h (by rw [← Sum.inr.inj e]; exact hk)
    · rw [List.nodup_append]
      refine ⟨R.nd, by simp, fun a ha b hb => ?_⟩
      rw [List.mem_singleton] at hb
      rw [hb]
      intro z
      exact h (by rw [← z]; exact ha)
    · unfold putF
      rw [List.mem_append, List.mem_singleton]
      by_cases z : k = r
      · rw [if_pos z]
        simp [z]
      · rw [if_neg z, ← R.mem k]
        simp [z]
def stepF (F : Rw) (job : Str) (p : Int) (G : Rw) (m : Mn) : Rw :=
  if m.b = job then match F m.a with
    | none => G
    | some c => match leftS m.w m.ns c p with
      | none => G
      | some l => if (G m.c).getD (-1) < l then putF G m.c l else G
  else G
def restF (ms : List Mn) (F : Rw) (job : Str) (p : Int) : Rw := ms.foldl (stepF F job p) fun _ => none
section
variable {P : Program} {w : PySem.World} {K : PySem.W.Frag} {mg : Str → Option Value} {base : Heap} {f : Addr} {fd : FuncData}
theorem sc_coins_left : FnScope ["effect", "coins", "purse"] ["effect", "coins", "purse"] (defScope s_coins_left) := ⟨rfl, rfl, rfl, by decide +kernel, rfl, by decide +kernel, by decide +kernel⟩
def sp_coins_left : Sp := fun vs H Q _ => ∃ (e : Addr) (w : Str) (ns : List Int) (c p : Int), vs = [.ref e, .int c, .int p] ∧ EffAt H e w ns ∧ EffK w ns ∧ Q (optV (leftS w ns c p)) H
theorem ok_coins_left (F : FnP K "coins_left" s_coins_left f fd) : FnOk P w K mg base CX0 1 f fd ["effect", "coins", "purse"] sp_coins_left := by
  refine F.ok sc_coins_left (fun vs H Q E h => ?_) (fun cdv A outer s H vs Q E hr h => ?_)
  · obtain ⟨e, w, ns, c, p, rfl, _⟩ := h
    rfl
  · obtain ⟨e, w, ns, c, p, rfl, hat, hk, q⟩ := h
    refine ⟨_, PSs.nox (pss_cons (ps_if (pt_cmpR op_gt (pe_ix ix_tup (pv 0) pe_int (fun _ _ => rfl)) (pv 1) (nomark _)) (pss_one (ps_ret pe_non)) pss_nil)
      (pss_cons (ps_if (pt_cmpR op_eq (pe_ix ix_tup (pv 0) pe_int (fun _ _ => rfl)) pe_str (nomark _)) (pss_one (ps_ret (pe_op op_sub (pv 1) (pe_ix ix_tup (pv 0) pe_int (fun _ _ => rfl))))) pss_nil)
      (pss_one (ps_ret (pe_ifExp (pt_cmpR op_le (pe_ix ix_tup (pv 0) pe_int (fun _ _ => rfl)) (pv 2) (nomark _)) (pe_op op_sub (pv 2) (pe_ix ix_tup (pv 0) pe_int (fun _ _ => rfl))) pe_non))))), ?_⟩
    obtain ⟨n, t, rfl⟩ : ∃ n t, ns = n :: t := by
      rcases hk.1 with ⟨_, h⟩ | ⟨_, h⟩ <;> cases ns with
        | nil => cases h
        | cons n t => exact ⟨n, t, rfl⟩
    refine ⟨_, rfl, e, _, 1, .int n, rfl, rfl, SqT.of hat, atI_nat (j := 1) rfl, _, rfl, _, _, rfl, rfl, _, rfl, ?_⟩
    unfold leftS at q
    rw [show (n :: t).headD 0 = n from rfl] at q
    refine ite2 (fun h => ?_) fun h => ?_
    · rw [if_pos (by simpa using h)] at q
      exact q
    · rw [if_neg (by simpa using h)] at q
      refine ⟨_, rfl, e, _, 0, .str w, rfl, rfl, SqT.of hat, atI_nat (j := 0) rfl, rfl, _, rfl, ?_⟩
      rcases hk.1 with ⟨rfl, hl⟩ | ⟨rfl, hl⟩
      · rw [show decide (V.str "coins" = V.str "coins") = true by decide]
        rw [if_pos rfl] at q
        exact iteT ⟨_, rfl, _, rfl, e, _, 1, .int n, rfl, rfl, SqT.of hat, atI_nat (j := 1) rfl, _, _, rfl, rfl, q⟩
      · rw [show decide (V.str "fill" = V.str "coins") = false by decide]
        rw [if_neg (by decide)] at q
        obtain ⟨b, t', rfl⟩ : ∃ b t', t = b :: t' := by
          cases t with
          | nil => cases hl
          | cons b t => exact ⟨b, t, rfl⟩
        rw [show (n :: b :: t').getD 1 0 = b from rfl] at q
        refine iteF ⟨_, rfl, e, _, 2, .int b, rfl, rfl, SqT.of hat, atI_nat (j := 2) rfl, _, rfl, _, _, rfl, rfl, _, rfl, ?_⟩
        refine ite2 (fun h => ?_) fun h => ?_
        · rw [if_pos (by simpa using h)] at q
          exact ⟨_, rfl, _, rfl, e, _, 2, .int b, rfl, rfl, SqT.of hat, atI_nat (j := 2) rfl, _, _, rfl, rfl, q⟩
        · rw [if_neg (by simpa using h)] at q
          exact q
end
end EV
namespace EV
open PySem L2 NT SX PyProof.Rows
theorem step_else {F G : Rw} {job : Str} {p : Int} {m : Mn} (h : ¬ m.b = job) : stepF F job p G m = G := by
  unfold stepF
  rw [if_neg h]
theorem step_miss {F G : Rw} {job : Str} {p : Int} {m : Mn} (h : m.b = job) (hF : F m.a = none) : stepF F job p G m = G := by
  unfold stepF
  rw [if_pos h, hF]
theorem step_out {F G : Rw} {job : Str} {p c : Int} {m : Mn} (h : m.b = job) (hF : F m.a = some c) (hL : leftS m.w m.ns c p = none) : stepF F job p G m = G := by
  unfold stepF
  rw [if_pos h, hF]
  simp only
  rw [hL]
theorem step_in {F G : Rw} {job : Str} {p c l : Int} {m : Mn} (h : m.b = job) (hF : F m.a = some c) (hL : leftS m.w m.ns c p = some l) : stepF F job p G m = if (G m.c).getD (-1) < l then putF G m.c l else G := by
  unfold stepF
  rw [if_pos h, hF]
  simp only
  rw [hL]
section
variable {P : Program} {w : PySem.World} {K : PySem.W.Frag} {mg : Str → Option Value} {base : Heap} {f : Addr} {fd : FuncData}
theorem rest_snoc {ms : List Mn} {F G : Rw} {job : Str} {p : Int} {m : Mn} : (ms ++ [m]).foldl (stepF F job p) G = stepF F job p (ms.foldl (stepF F job p) G) m := by
  rw [List.foldl_append]
  rfl
theorem sc_rests : FnScope ["manners", "row", "job", "purse", "found", "room", "word", "other", "effect", "left"] ["manners", "row", "job", "purse"] (defScope s_rests_job) := ⟨rfl, rfl, rfl, by decide +kernel, rfl, by decide +kernel, by decide +kernel⟩
def RstOut (Q : VK) (H : Hp) (F : Rw) : Prop := ∀ T H' ks, Same H H' → H T = none → RstAt H' T ks F → sortedS ks = true → Q (.ref T) H'
def sp_rests : Sp := fun vs H Q _ => ∃ (lr r : Addr) (qs : List AM) (ks : List Str) (F : Rw) (job : Str) (p : Int), vs = [.ref lr, .ref r, .str job, .int p] ∧ MnsAt H lr qs ∧ (∀ x ∈ qs, EffK x.2.w x.2.ns) ∧ qs.length < 64 ∧ RstAt H r ks F ∧ RstOut Q H (restF (qs.map (·.2)) F job p)
theorem ok_rests (F : FnP K "rests_behind_job" s_rests_job f fd) (gSo : mg "sorted" = none)
    {fL : Addr} {dL : FuncData} (GL : FnOk P w K mg base CX0 1 fL dL ["effect", "coins", "purse"] sp_coins_left) (kL : PySem.W.keepIn K (.ref fL) = true) (bL : Binds K dL ["effect", "coins", "purse"] []) (gL : mg "coins_left" = some (.ref fL)) : FnOk P w K mg base CX0 2 f fd ["manners", "row", "job", "purse"] sp_rests := by
  refine F.ok sc_rests (fun vs H Q E h => ?_) (fun cdv A outer s H vs Q E hr h => ?_)
  · obtain ⟨lr, r, qs, ks, F, job, p, rfl, _⟩ := h
    rfl
  · obtain ⟨lr, r, qs, ks, F, job, pu, rfl, hm, ek, few, hrow, q⟩ := h
    refine ⟨_, PSs.nox (pss_cons (ps_set (i := 4) sc_rests.nd rfl (Or.inr rfl) pe_dnewK)
      (pss_cons (ps_for PassesOwn.never rfl (pi_list (pv 0)) (pg_tup (by rfl) (pgs_cons (pg_name (i := 5) sc_rests.nd rfl (Or.inl rfl)) (pgs_cons (pg_name (i := 6) sc_rests.nd rfl (Or.inl rfl)) (pgs_cons (pg_name (i := 7) sc_rests.nd rfl (Or.inl rfl)) (pgs_cons (pg_name (i := 8) sc_rests.nd rfl (Or.inl rfl)) pgs_nil)))))
        (pss_one (ps_if (PW.pt (pw_and (pt_cmpR op_eq (pv 6) (pv 2) (nomark _)) (pw_and1 (pt_cmp (pc_din (u1 hr.units) (pv 5) (pv 1))))))
          (pss_cons (ps_set (i := 9) sc_rests.nd rfl (Or.inl rfl) (pe_call GL hr rfl gL kL bL .nil pass0 (pa_cons (pv 8) (pa_cons (pe_dget (u1 hr.units) (pv 1) (pv 5) (fun _ _ => rfl)) (pa_cons (pv 3) pa_nil)))))
          (pss_one (ps_if (PW.pt (pw_and (pt_cmpR op_notN (pv 9) pe_non (nomark _)) (pw_and1 (pt_cmpR op_gt (pv 9) (pe_dget2 (u1 hr.units) (pv 4) (pv 7) (pe_un un_neg pe_int) ⟨rfl, rfl, rfl, rfl⟩) (nomark _)))))
            (pss_one (ps_dput (u1 hr.units) (pv 4) (pv 7) (pv 9) rfl)) pss_nil))) pss_nil)))
      (pss_one (ps_ret (pe_dc (own := [("room", 5)]) (g := gName 5) (tt := tYes) rfl sc_rests.nd (pi_list (pe_callB (call_sortedD rfl) (by rfl) gSo (by decide +kernel) (pa_cons (pv 4) pa_nil)))
        (blkOk_by (N := ["manners", "row", "job", "purse", "found", "room", "word", "other", "effect", "left"]) (sc := defScope s_rests_job) (by decide +kernel)) (fun _ _ _ _ _ => pg_name (i := 5) sc_rests.nd rfl (Or.inl rfl)) (fun _ _ _ _ _ => pts_nil)
        (fun _ _ _ _ _ => pv 5) (fun _ _ _ _ _ => pe_dget (u1 hr.units) (pv 4) (pv 5) (fun _ _ => rfl))))))), ?_⟩
    intro D hD
    have s0 := new_same (o := .dK []) hD
    have eD : upd H D (.dK []) D = some (.dK []) := upd_same
    generalize upd H D (.dK []) = H0 at s0 eD
    refine ⟨_, rfl, lr, rfl, ⟨_, SqL.of (s0 _ _ hm.1)⟩, ?_⟩
    refine for_list (xs := qs.map fun p => V.ref p.1) (fun i σ H' => Same H H' ∧ (∃ v5 v6 v7 v8 v9, σ = [some (.ref lr), some (.ref r), some (.str job), some (.int pu), some (.ref D), v5, v6, v7, v8, v9]) ∧ ∃ ks, ks.length ≤ i ∧ RstAt H' D ks (((qs.map (·.2)).take i).foldl (stepF F job pu) fun _ => none))
      ⟨s0, ⟨_, _, _, _, _, rfl⟩, [], Nat.zero_le _, eD, List.nodup_nil, fun k => by simp⟩ (fun i σ H' _ z => SqL.of (z.1 _ _ hm.1)) ?_ ?_
    · rintro i x σ H1 hi ⟨s1, ⟨v5, v6, v7, v8, v9, rfl⟩, kf, lk, G1⟩
      rw [List.getElem?_map] at hi
      cases hn : qs[i]? with
      | none => rw [hn] at hi; cases hi
      | some p =>
        rw [hn] at hi
        cases hi
        have mem := List.mem_of_getElem? hn
        have il : i < qs.length := (List.getElem?_eq_some_iff.mp hn).1
        obtain ⟨e, ht, he⟩ := mn_parts (MnAt.same (hm.2 p mem) s1)
        have tk : (qs.map (·.2)).take (i + 1) = (qs.map (·.2)).take i ++ [p.2] := by
          rw [List.take_add_one, List.getElem?_map, hn]
          rfl
        rw [tk, rest_snoc]
        generalize ((qs.map (·.2)).take i).foldl (stepF F job pu) (fun _ => none) = G at G1 ⊢
        refine ⟨p.1, _, rfl, SqT.of ht, rfl, _, _, rfl, _, _, rfl, _, _, rfl, _, _, rfl, rfl, ?_⟩
        refine ⟨_, rfl, _, rfl, rfl, _, rfl, ?_⟩
        by_cases w : p.2.b = job
        · rw [decide_eq_true (by rw [w])]
          refine iteT ⟨_, rfl, _, rfl, r, _, rfl, DGet.k (k := Sum.inr p.2.a) (s1 _ _ hrow.d), _, rfl, ?_⟩
          rw [row_val hrow.mem]
          cases hF : F p.2.a with
          | none => exact iteF ⟨s1, ⟨_, _, _, _, _, rfl⟩, kf, Nat.le_succ_of_le lk, by rw [step_miss w hF]; exact G1⟩
          | some c =>
            refine iteT ⟨_, rfl, _, rfl, _, rfl, r, _, rfl, (by
              have := DGet.k (k := Sum.inr p.2.a) (s1 _ _ hrow.d)
              rw [row_val hrow.mem, hF] at this
              exact this), _, rfl, e, p.2.w, p.2.ns, c, pu, rfl, he, ek p mem, ?_⟩
            refine ⟨_, rfl, rfl, _, rfl, ?_⟩
            cases hL : leftS p.2.w p.2.ns c pu with
            | none => exact iteF ⟨s1, ⟨_, _, _, _, _, rfl⟩, kf, Nat.le_succ_of_le lk, by rw [step_out w hF hL]; exact G1⟩
            | some l =>
              refine iteT ⟨_, rfl, _, rfl, D, rfl, .inl ⟨_, .inl G1.d⟩, _, rfl, _, rfl, _, DGet.k (k := Sum.inr p.2.c) G1.d, ?_⟩
              rw [row_val G1.mem]
              have dv : (Option.map V.int (G p.2.c)).getD (V.int (-1)) = V.int ((G p.2.c).getD (-1)) := by cases G p.2.c <;> rfl
              rw [dv]
              refine ⟨_, _, rfl, rfl, _, rfl, ?_⟩
              refine ite2 (fun h => ?_) fun h => ?_
              · have h' : (G p.2.c).getD (-1) < l := by simpa using h
                refine ⟨_, rfl, _, rfl, _, rfl, D, _, rfl, DPut.k (k := Sum.inr p.2.c) G1.d (by rw [List.length_map, PySem.sizeLine_eq]; omega), ?_⟩
                obtain ⟨ks', R', le⟩ := G1.put p.2.c l
                exact ⟨fun b o z => by rw [upd_ne (ne_of_none z hD)]; exact s1 _ _ z, ⟨_, _, _, _, _, rfl⟩, ks', by omega, by rw [step_in w hF hL, if_pos h']; exact R'⟩
              · have h' : ¬ (G p.2.c).getD (-1) < l := by simpa using h
                exact ⟨s1, ⟨_, _, _, _, _, rfl⟩, kf, Nat.le_succ_of_le lk, by rw [step_in w hF hL, if_neg h']; exact G1⟩
        · rw [decide_eq_false (fun e => w (V.str.inj e))]
          exact iteF ⟨s1, ⟨_, _, _, _, _, rfl⟩, kf, Nat.le_succ_of_le lk, by rw [step_else w]; exact G1⟩
    · rintro σ H1 ⟨s1, ⟨v5, v6, v7, v8, v9, rfl⟩, kf, lk, G1⟩
      rw [List.length_map, ← List.length_map (f := fun p : AM => p.2), List.take_length] at G1
      rw [List.length_map] at lk
      have q' : RstOut Q H ((qs.map (·.2)).foldl (stepF F job pu) fun _ => none) := q
      generalize (qs.map (·.2)).foldl (stepF F job pu) (fun _ => none) = G at G1 q'
      refine ⟨_, rfl, D, _, kf, rfl, .inl G1.d, by rw [List.map_map]; rfl, by omega, fun ys l pm hs hl => ?_⟩
      have s2 := new_same (o := .lst (ys.map V.str)) hl
      have el : upd H1 l (.lst (ys.map V.str)) l = some (.lst (ys.map V.str)) := upd_same
      generalize upd H1 l (.lst (ys.map V.str)) = H2 at s2 el
      refine ⟨l, rfl, ⟨_, SqL.of el⟩, fun N hN => ?_⟩
      have nd := pm.nodup_iff.mpr G1.nd
      have me : ∀ k, k ∈ ys ↔ (G k).isSome = true := fun k => by rw [pm.mem_iff]; exact G1.mem k
      have g2 := G1.same s2
      refine dc_list (xs := ys.map V.str) (fun i H' => Same H2 H' ∧ H' N = some (.dK ((ys.take i).map fun k => (.inr k, .int ((G k).getD 0))))) ⟨new_same hN, upd_same⟩ (fun i H' _ z => SqL.of (z.1 _ _ el)) ?_ ?_
      · rintro i x H' hi ⟨s3, hd⟩
        rw [List.getElem?_map] at hi
        cases hn : ys[i]? with
        | none => rw [hn] at hi; cases hi
        | some y =>
          rw [hn] at hi
          cases hi
          have il := (List.getElem?_eq_some_iff.mp hn).1
          have lys : ys.length = kf.length := pm.length_eq
          obtain ⟨c, hc⟩ := Option.isSome_iff_exists.mp ((me y).mp (List.mem_of_getElem? hn))
          refine ⟨rfl, _, rfl, _, rfl, _, rfl, D, _, rfl, (by
            have := DGet.k (k := Sum.inr y) (s3 _ _ g2.d)
            rw [row_val g2.mem, hc] at this
            exact this), _, .inr y, rfl, hd, by rw [List.length_map, List.length_take, PySem.sizeLine_eq]; omega, fun b o z => by rw [upd_ne (ne_of_none z hN)]; exact s3 _ _ z, ?_⟩
          rw [upd_same, put_any, if_neg, List.take_add_one, hn, List.map_append]
          · show some (HO.dK (_ ++ [(Sum.inr y, V.int c)])) = some (HO.dK (_ ++ [(Sum.inr y, V.int ((G y).getD 0))]))
            rw [hc]
            rfl
          · rintro ⟨p, hp, ep⟩
            obtain ⟨k, hk, rfl⟩ := List.mem_map.mp hp
            have ek : k = y := Sum.inr.inj ep
            subst ek
            obtain ⟨j, hj⟩ := List.mem_iff_getElem?.mp hk
            rw [List.getElem?_take] at hj
            split at hj
            · have := (List.getElem?_inj (List.getElem?_eq_some_iff.mp hj).1 nd).mp (hj.trans hn.symm)
              omega
            · cases hj
      · rintro H' ⟨s3, hd⟩
        rw [List.length_map, List.take_length] at hd
        have s13 := (s1.trans s2)
        exact q' N H' ys (s13.trans s3) (none_back s13 hN) ⟨hd, nd, me⟩ hs
end
end EV
namespace EV
open PySem L2 NT SX
abbrev s_is_endless : Stmt := top 34
abbrev s_check_endless : Stmt := top 35
/-- M, M M, M M M, .. -/
def powC (c : List (List Str)) : Nat → List (List Str)
  | 0 => c
  | i + 1 => joinC (powC c i) c
abbrev cdD (c : List (List Str)) : PyData := .tuple (c.map fun r => .tuple (r.map .str))
theorem cd_dp {K : PySem.W.Frag} {H : Hp} {t : Addr} {cs : List (Addr × List Str)} (h : CardAt H t cs) : Dp K H (.ref t) (cdD (cs.map (·.2))) := by
  refine .tup (SqT.of h.1) ?_
  have key : ∀ l : List (Addr × List Str), (∀ p ∈ l, H p.1 = some (.tup (p.2.map V.str))) → DpAll K H (l.map fun p => V.ref p.1) ((l.map (·.2)).map fun r => PyData.tuple (r.map .str)) := by
    intro l
    induction l with
    | nil => intro _; exact .nil
    | cons p l ih =>
      intro h
      exact .cons (.tup (SqT.of (h p List.mem_cons_self)) (dp_strs _)) (ih fun q hq => h q (List.mem_cons_of_mem _ hq))
  exact key cs h.2
theorem cd_eqv : ∀ a b : List (List Str), PyData.eqv (cdD a) (cdD b) = decide (a = b) := by
  intro a b
  show PyData.eqvAll _ _ = _
  induction a generalizing b with
  | nil => cases b <;> rfl
  | cons r a ih =>
    cases b with
    | nil => rfl
    | cons s b =>
      rw [List.map_cons, List.map_cons]
      unfold PyData.eqvAll
      rw [ih]
      have : PyData.eqv (.tuple (r.map .str)) (.tuple (s.map .str)) = decide (r = s) := eqv_strs r s
      rw [this, Bool.eq_iff_iff]
      simp
theorem mark_ok : ∀ x ∈ marks, TOk x = true := by decide +kernel
theorem cd_shaped {c : List (List Str)} (h : ∀ r ∈ c, ∀ x ∈ r, x ∈ marks) : SeqAt.shaped (cdD c) = true := by
  have k : PyData.canLayAll0 (c.map fun r => PyData.tuple (r.map .str)) = true ∧ PyData.depthAll (c.map fun r => PyData.tuple (r.map .str)) ≤ 1 := by
    induction c with
    | nil => exact ⟨rfl, Nat.zero_le _⟩
    | cons r c ih =>
      obtain ⟨i1, i2⟩ := ih fun x hx => h x (List.mem_cons_of_mem _ hx)
      rw [List.map_cons]
      unfold PyData.canLayAll0 PyData.depthAll
      rw [i1, show PyData.canLay0 (.tuple (r.map .str)) = PyData.canLayAll0 (r.map .str) from rfl, can_strs fun x hx => mark_ok x (h r List.mem_cons_self x hx),
        show PyData.depth (.tuple (r.map .str)) = PyData.depthAll (r.map .str) + 1 from rfl, depth_strs]
      exact ⟨rfl, by omega⟩
  unfold SeqAt.shaped
  rw [show PyData.canLay0 (cdD c) = PyData.canLayAll0 (c.map fun r => PyData.tuple (r.map .str)) from rfl, k.1, show PyData.depth (cdD c) = PyData.depthAll (c.map fun r => PyData.tuple (r.map .str)) + 1 from rfl, Bool.true_and, decide_eq_true_eq]
  omega
theorem ok_marks {n : Nat} {cs : List (Addr × List Str)} (o : CardOk n cs) : ∀ r ∈ cs.map (·.2), ∀ x ∈ r, x ∈ marks := fun r hr => by
  obtain ⟨p, hp, rfl⟩ := List.mem_map.mp hr
  exact (o.2 p hp).2
section
variable {P : Program} {w : PySem.World} {K : PySem.W.Frag} {mg : Str → Option Value} {base : Heap} {f : Addr} {fd : FuncData}
def sp_steady : Sp := fun vs H Q _ => ∃ (t : Addr) (n : Nat) (cs : List (Addr × List Str)), vs = [.ref t] ∧ CardAt H t cs ∧ CardOk n cs ∧ n < 64 ∧ (∃ N, joinC (powC (cs.map (·.2)) N) (powC (cs.map (·.2)) N) = powC (cs.map (·.2)) N) ∧
  ∀ (i : Nat) (S T : Addr) (H' : Hp) (cs' : List (Addr × List Str)), joinC (powC (cs.map (·.2)) i) (powC (cs.map (·.2)) i) = powC (cs.map (·.2)) i → Same H H' → H' S = some (.tup [.int ((i : Int) + 1), .ref T]) → CardAt H' T cs' → CardOk n cs' → cs'.map (·.2) = powC (cs.map (·.2)) i → Q (.ref S) H'
theorem sc_is_endless : FnScope ["value"] ["value"] (defScope s_is_endless) := ⟨rfl, rfl, rfl, by decide +kernel, rfl, by decide +kernel, by decide +kernel⟩
/-- at e a book without end -/
structure EndAt (H : Hp) (e h t : Addr) (hd tn : List Str) : Prop where
  top : H e = some (.tup [.ref h, .ref t])
  hd : WordsAt H h hd
  tn : WordsAt H t tn
theorem EndAt.same {H H' : Hp} {e h t : Addr} {hd tn : List Str} (x : EndAt H e h t hd tn) (s : Same H H') : EndAt H' e h t hd tn := ⟨s _ _ x.top, s _ _ x.hd, s _ _ x.tn⟩
def EndOk (hd tn : List Str) : Prop := (∀ x ∈ hd, IsWord x) ∧ hd.length < 1000 ∧ (∀ x ∈ tn, IsWord x) ∧ tn.length < 1000 ∧ tn ≠ []
def sp_is_endless : Sp := fun vs H Q _ => ∃ (e h t : Addr) (hd tn : List Str), vs = [.ref e] ∧ EndAt H e h t hd tn ∧ EndOk hd tn ∧ ∀ H', Same H H' → Q (.bl true) H'
theorem ok_is_endless (F : FnP K "is_endless" s_is_endless f fd) (gI : mg "isinstance" = none) (gt : mg "tuple" = none) (gL : mg "len" = none)
    {fB : Addr} {dB : FuncData} (GB : FnOk P w K mg base CX0 2 fB dB ["value"] sp_is_book) (kB : PySem.W.keepIn K (.ref fB) = true) (bB : Binds K dB ["value"] []) (gB : mg "is_book" = some (.ref fB)) : FnOk P w K mg base CX0 3 f fd ["value"] sp_is_endless := by
  refine F.ok sc_is_endless (fun vs H Q E h => ?_) (fun cdv A outer s H vs Q E hr h => ?_)
  · obtain ⟨e, h, t, hd, tn, rfl, _⟩ := h
    rfl
  · obtain ⟨e, h, t, hd, tn, rfl, hat, ⟨w1, l1, w2, l2, ne⟩, q⟩ := h
    refine ⟨_, PSs.nox (pss_cons (ps_if (PW.pt (pw_or (pt_not (pt_val (pe_callB call_isi (by rfl) gI (by decide +kernel) (pa_cons (pv 0) (pa_cons (pe_bltn (v := .ty "tuple") (by rfl) gt (by decide +kernel) rfl) pa_nil)))))
        (pw_or1 (pt_cmpR op_ne (pe_callB call_len_seq (by rfl) gL (by decide +kernel) (pa_cons (pv 0) pa_nil)) pe_int (nomark _))))) (pss_one ps_never) pss_nil)
      (pss_one (ps_ret (pe_and (pe_call GB hr rfl gB kB bB .nil pass0 (pa_cons (pe_ix ix_tup (pv 0) pe_int (fun _ _ => rfl)) pa_nil)) (pe_and (pe_call GB hr rfl gB kB bB .nil pass0 (pa_cons (pe_ix ix_tup (pv 0) pe_int (fun _ _ => rfl)) pa_nil))
        (pe_one (pe_cmpR (op_neD hr.units) (pe_ix ix_tup (pv 0) pe_int (fun _ _ => rfl)) (pe_lst pa_nil) (nomark _)))))))), ?_⟩
    have ty : TyX K H (.ref e) (.type "tuple") := .base (.tup hat.top)
    refine ⟨_, rfl, _, _, _, _, _, rfl, .ty "tuple", ty, kit_ty (by decide +kernel : kitB "tuple" "tuple" = some true), _, rfl, iteF ?_⟩
    refine ⟨_, rfl, e, _, rfl, .inr (SqT.of hat.top), rfl, _, rfl, iteF ?_⟩
    refine ⟨_, rfl, e, _, 0, .ref h, rfl, rfl, SqT.of hat.top, atI_nat (j := 0) rfl, h, hd, rfl, hat.hd, w1, l1, fun H1 s1 => ⟨_, rfl, iteT ?_⟩⟩
    refine ⟨_, rfl, e, _, 1, .ref t, rfl, rfl, SqT.of (s1 _ _ hat.top), atI_nat (j := 1) rfl, t, tn, rfl, s1 _ _ hat.tn, w2, l2, fun H2 s2 => ⟨_, rfl, iteT ?_⟩⟩
    have s12 := s1.trans s2
    refine ⟨_, rfl, e, _, 1, .ref t, rfl, rfl, SqT.of (s12 _ _ hat.top), atI_nat (j := 1) rfl, by show 0 ≤ sizeLine; exact Nat.zero_le _, fun N hN => ?_⟩
    have s3 := new_same (o := .lst []) hN
    refine ⟨wsD tn, .list [], WordsAt.dp (s3 _ _ (s12 _ _ hat.tn)), .lst (SqL.of upd_same) .nil, shaped_strs fun x hx => word_ok (w2 x hx), rfl, ?_⟩
    have z : (!PyData.eqv (wsD tn) (.list [])) = true := by
      cases tn with
      | nil => exact absurd rfl ne
      | cons _ _ => rfl
    rw [z]
    exact q _ (s12.trans s3)
theorem sc_check_endless : FnScope ["manual", "endless"] ["manual", "endless"] (defScope s_check_endless) := ⟨rfl, rfl, rfl, by decide +kernel, rfl, by decide +kernel, by decide +kernel⟩
def sp_check_endless (C : Addr) : Sp := fun vs H Q _ => ∃ (a rows firsts lasts rooms jobs e h t : Addr) (qs : List AM) (fs ls rs js hd tn : List Str), vs = [.ref a, .ref e] ∧ ManAt C H a rows firsts lasts rooms jobs qs fs ls rs js ∧ EndAt H e h t hd tn ∧ EndOk hd tn ∧ ∀ H', Same H H' → Q .non H'
theorem ok_check_endless {C : Addr} (F : FnP K "check_endless" s_check_endless f fd)
    {fC : Addr} {dC : FuncData} (GC : FnOk P w K mg base CX0 3 fC dC ["value"] (sp_check_manual C)) (kC : PySem.W.keepIn K (.ref fC) = true) (bC : Binds K dC ["value"] []) (gC : mg "check_manual" = some (.ref fC))
    {fE : Addr} {dE : FuncData} (GE : FnOk P w K mg base CX0 3 fE dE ["value"] sp_is_endless) (kE : PySem.W.keepIn K (.ref fE) = true) (bE : Binds K dE ["value"] []) (gE : mg "is_endless" = some (.ref fE)) : FnOk P w K mg base CX0 4 f fd ["manual", "endless"] (sp_check_endless C) := by
  refine F.ok sc_check_endless (fun vs H Q E h => ?_) (fun cdv A outer s H vs Q E hr h => ?_)
  · obtain ⟨a, rows, firsts, lasts, rooms, jobs, e, h, t, qs, fs, ls, rs, js, hd, tn, rfl, _⟩ := h
    rfl
  · obtain ⟨a, rows, firsts, lasts, rooms, jobs, e, h, t, qs, fs, ls, rs, js, hd, tn, rfl, m, ea, eo, q⟩ := h
    obtain ⟨dx, hdx⟩ := m.top
    exact ⟨_, PSs.nox (pss_cons (ps_expr (pe_call GC hr rfl gC kC bC .nil pass0 (pa_cons (pv 0) pa_nil))) (pss_one (ps_if (pt_not (pt_val (pe_call GE hr rfl gE kE bE .nil pass0 (pa_cons (pv 1) pa_nil)))) (pss_one ps_never) pss_nil))),
      _, rfl, a, dx, _, rfl, hdx, _, rfl, e, h, t, hd, tn, rfl, ea, eo, fun H' s1 => ⟨_, rfl, iteF (q H' s1)⟩⟩
end
end EV
namespace EV
open PySem L2 NT SX
def entC (c : List (List Str)) (i g : Nat) : Str := (c.getD i []).getD g "never"
def kin (fs rs : List Str) (row pw : List (List Str)) (i g : Nat) : List Str := if rs.getD i "" ∈ fs ∧ entC row i g ≠ "never" then [entC pw g g] else []
def krow (fs rs : List Str) (row pw : List (List Str)) (i : Nat) : List Str := (List.range rs.length).flatMap fun g => kin fs rs row pw i g
def kmarks (fs rs : List Str) (row pw : List (List Str)) : List Str := (List.range rs.length).flatMap fun i => krow fs rs row pw i
def kindM (L : List Str) : Str := if ("full" : Str) ∈ L ∨ ("free" : Str) ∈ L then "bounded" else if ("some" : Str) ∈ L then "grows" else "never"
theorem kin_len {fs rs : List Str} {row pw : List (List Str)} {i g : Nat} : (kin fs rs row pw i g).length ≤ 1 := by
  unfold kin
  split <;> simp
theorem flat_len {α : Type} {f : Nat → List α} {b : Nat} (h : ∀ i, (f i).length ≤ b) : ∀ n, ((List.range n).flatMap f).length ≤ n * b := by
  intro n
  induction n with
  | zero => simp
  | succ n ih =>
    rw [List.range_succ, List.flatMap_append, List.length_append, List.flatMap_singleton, Nat.succ_mul]
    exact Nat.add_le_add ih (h n)
theorem flat_succ {α : Type} {f : Nat → List α} {n : Nat} : (List.range (n + 1)).flatMap f = (List.range n).flatMap f ++ f n := by
  rw [List.range_succ, List.flatMap_append, List.flatMap_singleton]
theorem ent_at {H : Hp} {t : Addr} {cs : List (Addr × List Str)} {n i : Nat} (h : CardAt H t cs) (o : CardOk n cs) (hi : i < n) : ∃ p : Addr × List Str, cs[i]? = some p ∧ H p.1 = some (.tup (p.2.map V.str)) ∧ p.2.length = n ∧ (cs.map (·.2)).getD i [] = p.2 := by
  have hi' : i < cs.length := by rw [o.1]; exact hi
  refine ⟨cs[i], List.getElem?_eq_getElem hi', h.2 _ (List.getElem_mem hi'), (o.2 _ (List.getElem_mem hi')).1, ?_⟩
  rw [List.getD_eq_getElem?_getD, List.getElem?_map, List.getElem?_eq_getElem hi']
  rfl
theorem ix_row {cs : List (Addr × List Str)} {i : Nat} {p : Addr × List Str} (h : cs[i]? = some p) : (cs.map fun p => V.ref p.1)[i]? = some (V.ref p.1) := by
  rw [List.getElem?_map, h]
  rfl
theorem ix_ent {c : List (List Str)} {p : Addr × List Str} {n i g : Nat} (e : c.getD i [] = p.2) (l : p.2.length = n) (hg : g < n) : (p.2.map V.str)[g]? = some (V.str (entC c i g)) := by
  unfold entC
  rw [e, List.getD_eq_getElem?_getD, List.getElem?_map, List.getElem?_eq_getElem (by rw [l]; exact hg)]
  rfl
section
variable {P : Program} {w : PySem.World} {K : PySem.W.Frag} {mg : Str → Option Value} {base : Heap} {f : Addr} {fd : FuncData}
def sp_kind (C : Addr) : Sp := fun vs H Q _ => ∃ (a rows firsts lasts rooms jobs t1 t2 : Addr) (qs : List AM) (fs ls rs js : List Str) (cs1 cs2 : List (Addr × List Str)), vs = [.ref a, .ref t1, .ref t2] ∧ ManAt C H a rows firsts lasts rooms jobs qs fs ls rs js ∧ rs.length < 64 ∧
  CardAt H t1 cs1 ∧ CardOk rs.length cs1 ∧ CardAt H t2 cs2 ∧ CardOk rs.length cs2 ∧ ∀ H', Same H H' → Q (.str (kindM (kmarks fs rs (joinC (cs1.map (·.2)) (cs2.map (·.2))) (cs2.map (·.2))))) H'
end
end EV
namespace EV
open PySem L2 NT SX
open PyProof.Rows (sortedS)
abbrev s_row_book : Stmt := top 36
abbrev s_first_row : Stmt := top 37
/-- a book without end and its manual -/
structure ES where
  rows : Addr
  firsts : Addr
  lasts : Addr
  rooms : Addr
  jobs : Addr
  h : Addr
  t : Addr
  qs : List AM
  fs : List Str
  ls : List Str
  rs : List Str
  js : List Str
  hd : List Str
  tn : List Str
abbrev ES.ms (z : ES) : List Mn := z.qs.map (·.2)
structure ESAt (C : Addr) (H : Hp) (a e : Addr) (z : ES) : Prop where
  ma : ManAt C H a z.rows z.firsts z.lasts z.rooms z.jobs z.qs z.fs z.ls z.rs z.js
  en : EndAt H e z.h z.t z.hd z.tn
theorem ESAt.same {C : Addr} {H H' : Hp} {a e : Addr} {z : ES} (x : ESAt C H a e z) (s : Same H H') : ESAt C H' a e z := ⟨x.ma.same s, x.en.same s⟩
def ES.card (z : ES) : List (List Str) := cardC z.ms z.rs z.tn
def ES.idem (z : ES) (i : Nat) : Prop := joinC (powC z.card i) (powC z.card i) = powC z.card i
structure ESOk (z : ES) : Prop where
  ek : ∀ p ∈ z.qs, EffK p.2.w p.2.ns
  ql : z.qs.length < 64
  rl : z.rs.length < 64
  fn : z.fs.Nodup
  fl : z.fs.length < 64
  eo : EndOk z.hd z.tn
  id : ∃ N, z.idem N
def KindIs (z : ES) (k : Str) : Prop := ∃ i, z.idem i ∧ k = kindM (kmarks z.fs z.rs (joinC (cardC z.ms z.rs z.hd) (powC z.card i)) (powC z.card i))
section
variable {P : Program} {w : PySem.World} {K : PySem.W.Frag} {mg : Str → Option Value} {base : Heap} {f : Addr} {fd : FuncData}
def sp_endless_from (C : Addr) : Sp := fun vs H Q _ => ∃ (a e : Addr) (z : ES), vs = [.ref a, .ref e] ∧ ESAt C H a e z ∧ ESOk z ∧ ∀ k H', KindIs z k → Same H H' → Q (.str k) H'
/-! ### rows -/
def bookF (ms : List Mn) (F : Rw) (b : List Str) (p : Int) : Rw := b.foldl (fun F j => restF ms F j p) F
def firstF (fs : List Str) (p : Int) : Rw := fun r => if r ∈ fs then some p else none
theorem book_snoc {ms : List Mn} {F : Rw} {b : List Str} {j : Str} {p : Int} : bookF ms F (b ++ [j]) p = restF ms (bookF ms F b p) j p := by
  unfold bookF
  rw [List.foldl_append]
  rfl
theorem sc_row_book : FnScope ["manual", "row", "book", "purse", "job"] ["manual", "row", "book", "purse"] (defScope s_row_book) := ⟨rfl, rfl, rfl, by decide +kernel, rfl, by decide +kernel, by decide +kernel⟩
def sp_row_book (C : Addr) : Sp := fun vs H Q _ => ∃ (a rows firsts lasts rooms jobs r b : Addr) (qs : List AM) (fs ls rs js ks ws : List Str) (F : Rw) (p : Int), vs = [.ref a, .ref r, .ref b, .int p] ∧ ManAt C H a rows firsts lasts rooms jobs qs fs ls rs js ∧ (∀ p ∈ qs, EffK p.2.w p.2.ns) ∧ qs.length < 64 ∧
  RstAt H r ks F ∧ sortedS ks = true ∧ WordsAt H b ws ∧ ∀ T H' ks', Same H H' → RstAt H' T ks' (bookF (qs.map (·.2)) F ws p) → sortedS ks' = true → Q (.ref T) H'
theorem ok_row_book {C : Addr} (M : ManC K C) (F : FnP K "row_behind_book" s_row_book f fd)
    {fR : Addr} {dR : FuncData} (GR : FnOk P w K mg base CX0 2 fR dR ["manners", "row", "job", "purse"] sp_rests) (kR : PySem.W.keepIn K (.ref fR) = true) (bR : Binds K dR ["manners", "row", "job", "purse"] []) (gR : mg "rests_behind_job" = some (.ref fR)) : FnOk P w K mg base CX0 3 f fd ["manual", "row", "book", "purse"] (sp_row_book C) := by
  refine F.ok sc_row_book (fun vs H Q E h => ?_) (fun cdv A outer s H vs Q E hr h => ?_)
  · obtain ⟨a, rows, firsts, lasts, rooms, jobs, r, b, qs, fs, ls, rs, js, ks, ws, F, p, rfl, _⟩ := h
    rfl
  · obtain ⟨a, rows, firsts, lasts, rooms, jobs, r, b, qs, fs, ls, rs, js, ks, ws, F, p, rfl, m, ek, few, hrow, hs, hb, q⟩ := h
    obtain ⟨dx, hdx⟩ := m.top
    refine ⟨_, PSs.nox (pss_cons (ps_for PassesOwn.never rfl (pi_list (pv 2)) (pg_name (i := 4) sc_row_book.nd rfl (Or.inl rfl))
        (pss_one (ps_set (i := 1) sc_row_book.nd rfl (Or.inl rfl) (pe_call GR hr rfl gR kR bR .nil pass0 (pa_cons (pe_fld (pv 0) rfl) (pa_cons (pv 1) (pa_cons (pv 4) (pa_cons (pv 3) pa_nil))))))))
      (pss_one (ps_ret (pv 1)))), ?_⟩
    refine ⟨_, rfl, b, rfl, ⟨_, SqL.of hb⟩, ?_⟩
    refine for_list (xs := ws.map V.str) (fun i σ H' => Same H H' ∧ ∃ T v4 ks', σ = [some (.ref a), some (.ref T), some (.ref b), some (.int p), v4] ∧ RstAt H' T ks' (bookF (qs.map (·.2)) F (ws.take i) p) ∧ sortedS ks' = true)
      ⟨.refl _, r, _, ks, rfl, hrow, hs⟩ (fun i σ H' _ z => SqL.of (z.1 _ _ hb)) ?_ ?_
    · rintro i x σ H1 hi ⟨s1, T, v4, ks1, rfl, r1, so1⟩
      rw [List.getElem?_map] at hi
      cases hn : ws[i]? with
      | none => rw [hn] at hi; cases hi
      | some j =>
        rw [hn] at hi
        cases hi
        have tk : ws.take (i + 1) = ws.take i ++ [j] := by
          rw [List.take_add_one, hn]
          rfl
        rw [tk]
        have ms := m.same s1
        refine ⟨_, rfl, a, C, dx, _, _, rfl, s1 _ _ hdx, M.cl, M.rows, rfl, _, rfl, _, rfl, _, rfl, rows, T, qs, ks1, _, j, p, rfl, ms.ms, ek, few, r1, fun T2 H2 ks2 s2 _ r2 so2 => ?_⟩
        exact ⟨s1.trans s2, T2, _, ks2, rfl, by rw [book_snoc]; exact r2, so2⟩
    · rintro σ H1 ⟨s1, T, v4, ks1, rfl, r1, so1⟩
      rw [List.length_map, List.take_length] at r1
      exact ⟨_, rfl, q T H1 ks1 s1 r1 so1⟩
theorem sc_first_row : FnScope ["manual", "purse", "room"] ["manual", "purse"] (defScope s_first_row) := ⟨rfl, rfl, rfl, by decide +kernel, rfl, by decide +kernel, by decide +kernel⟩
def sp_first_row (C : Addr) : Sp := fun vs H Q _ => ∃ (a rows firsts lasts rooms jobs : Addr) (qs : List AM) (fs ls rs js : List Str) (p : Int), vs = [.ref a, .int p] ∧ ManAt C H a rows firsts lasts rooms jobs qs fs ls rs js ∧ fs.Nodup ∧ fs.length < 64 ∧ RstOut Q H (firstF fs p)
theorem ok_first_row {C : Addr} (M : ManC K C) (F : FnP K "first_row" s_first_row f fd) (gSo : mg "sorted" = none) : FnOk P w K mg base CX0 1 f fd ["manual", "purse"] (sp_first_row C) := by
  refine F.ok sc_first_row (fun vs H Q E h => ?_) (fun cdv A outer s H vs Q E hr h => ?_)
  · obtain ⟨a, rows, firsts, lasts, rooms, jobs, qs, fs, ls, rs, js, p, rfl, _⟩ := h
    rfl
  · obtain ⟨a, rows, firsts, lasts, rooms, jobs, qs, fs, ls, rs, js, p, rfl, m, nd0, few, q⟩ := h
    obtain ⟨dx, hdx⟩ := m.top
    refine ⟨_, PSs.nox (pss_one (ps_ret (pe_dc (own := [("room", 2)]) (g := gName 2) (tt := tYes) rfl sc_first_row.nd (pi_list (pe_callB cr_sortedS (by rfl) gSo (by decide +kernel) (pa_cons (pe_fld (pv 0) rfl) pa_nil)))
        (blkOk_by (N := ["manual", "purse", "room"]) (sc := defScope s_first_row) (by decide +kernel)) (fun _ _ _ _ _ => pg_name (i := 2) sc_first_row.nd rfl (Or.inl rfl)) (fun _ _ _ _ _ => pts_nil)
        (fun _ _ _ _ _ => pv 2) (fun _ _ _ _ _ => pv 1)))), ?_⟩
    refine ⟨_, rfl, a, C, dx, _, _, rfl, hdx, M.cl, M.firsts, rfl, firsts, fs, rfl, SqL.of m.f, few, fun ys l pm hs hl => ?_⟩
    have s2 := new_same (o := .lst (ys.map V.str)) hl
    have el : upd H l (.lst (ys.map V.str)) l = some (.lst (ys.map V.str)) := upd_same
    generalize upd H l (.lst (ys.map V.str)) = H2 at s2 el
    refine ⟨l, rfl, ⟨_, SqL.of el⟩, fun N hN => ?_⟩
    have nd : ys.Nodup := pm.nodup_iff.mpr nd0
    have lys : ys.length = fs.length := pm.length_eq
    have me : ∀ k, k ∈ ys ↔ (firstF fs p k).isSome = true := fun k => by
      rw [pm.mem_iff]
      unfold firstF
      by_cases z : k ∈ fs
      · rw [if_pos z]; simp [z]
      · rw [if_neg z]; simp [z]
    refine dc_list (xs := ys.map V.str) (fun i H' => Same H2 H' ∧ H' N = some (.dK ((ys.take i).map fun k => (.inr k, .int ((firstF fs p k).getD 0))))) ⟨new_same hN, upd_same⟩ (fun i H' _ z => SqL.of (z.1 _ _ el)) ?_ ?_
    · rintro i x H' hi ⟨s3, hd⟩
      rw [List.getElem?_map] at hi
      cases hn : ys[i]? with
      | none => rw [hn] at hi; cases hi
      | some y =>
        rw [hn] at hi
        cases hi
        have il := (List.getElem?_eq_some_iff.mp hn).1
        have hy : firstF fs p y = some p := by
          unfold firstF
          rw [if_pos (pm.mem_iff.mp (List.mem_of_getElem? hn))]
        refine ⟨rfl, _, rfl, _, rfl, _, .inr y, rfl, hd, by rw [List.length_map, List.length_take, PySem.sizeLine_eq]; omega, fun b o z => by rw [upd_ne (ne_of_none z hN)]; exact s3 _ _ z, ?_⟩
        rw [upd_same, put_any, if_neg, List.take_add_one, hn, List.map_append]
        · show some (HO.dK (_ ++ [(Sum.inr y, V.int p)])) = some (HO.dK (_ ++ [(Sum.inr y, V.int ((firstF fs p y).getD 0))]))
          rw [hy]
          rfl
        · rintro ⟨p', hp, ep⟩
          obtain ⟨k, hk, rfl⟩ := List.mem_map.mp hp
          have ek : k = y := Sum.inr.inj ep
          subst ek
          obtain ⟨j, hj⟩ := List.mem_iff_getElem?.mp hk
          rw [List.getElem?_take] at hj
          split at hj
          · have := (List.getElem?_inj (List.getElem?_eq_some_iff.mp hj).1 nd).mp (hj.trans hn.symm)
            omega
          · cases hj
    · rintro H' ⟨s3, hd⟩
      rw [List.length_map, List.take_of_length_le (Nat.le_refl _)] at hd
      exact q N H' ys (s2.trans s3) (none_back s2 hN) ⟨hd, nd, me⟩ hs
end
end EV
namespace EV
open PySem L2 NT SX
open PyProof.Rows (sortedS)
abbrev s_dry : Stmt := top 38
def rowN (z : ES) (p : Int) : Nat → Rw
  | 0 => bookF z.ms (firstF z.fs p) z.hd p
  | j + 1 => bookF z.ms (rowN z p j) z.tn p
def Emp (F : Rw) : Prop := ∀ r, F r = none
def DryOk (z : ES) (p : Int) : Prop := ∃ N, N < sizeLine ∧ (Emp (rowN z p N) ∨ ∃ j, j < N ∧ rowN z p j = rowN z p N)
/-- keys and what stands at them -/
structure KeyOk (ks : List Str) (F : Rw) : Prop where
  nd : ks.Nodup
  so : sortedS ks = true
  mem : ∀ k, k ∈ ks ↔ (F k).isSome = true
def keyOf (ks : List Str) (F : Rw) : SX.Row := ks.map fun k => (k, (F k).getD 0)
theorem key_fst {ks : List Str} {F : Rw} : (keyOf ks F).map (·.1) = ks := by
  unfold keyOf
  rw [List.map_map]
  exact List.map_id _
theorem key_row {ks ks' : List Str} {F F' : Rw} (h : KeyOk ks F) (h' : KeyOk ks' F') : keyOf ks F = keyOf ks' F' ↔ F = F' := by
  constructor
  · intro e
    have ek : ks = ks' := by
      have e1 := congrArg (List.map Prod.fst) e
      have a1 : (keyOf ks F).map Prod.fst = ks := key_fst
      have a2 : (keyOf ks' F').map Prod.fst = ks' := key_fst
      rw [a1, a2] at e1
      exact e1
    subst ek
    funext r
    by_cases z : r ∈ ks
    · have := List.map_inj_left.mp (show ks.map (fun k => (k, (F k).getD 0)) = ks.map (fun k => (k, (F' k).getD 0)) from e) r z
      have v := congrArg Prod.snd this
      obtain ⟨c, hc⟩ := Option.isSome_iff_exists.mp ((h.mem r).mp z)
      obtain ⟨c', hc'⟩ := Option.isSome_iff_exists.mp ((h'.mem r).mp z)
      rw [hc, hc'] at v ⊢
      exact congrArg some v
    · have n1 : F r = none := by
        cases e : F r with
        | none => rfl
        | some c => exact absurd ((h.mem r).mpr (by rw [e]; rfl)) z
      have n2 : F' r = none := by
        cases e : F' r with
        | none => rfl
        | some c => exact absurd ((h'.mem r).mpr (by rw [e]; rfl)) z
      rw [n1, n2]
  · intro e
    subst e
    have : ks = ks' := sortedS_same h.so h'.so h.nd h'.nd fun x => by rw [h.mem, h'.mem]
    rw [this]
theorem key_emp {ks : List Str} {F : Rw} (h : KeyOk ks F) : ks = [] ↔ Emp F := by
  constructor
  · intro e r
    cases q : F r with
    | none => rfl
    | some c => exact absurd ((h.mem r).mpr (by rw [q]; rfl)) (by rw [e]; exact List.not_mem_nil)
  · intro e
    cases ks with
    | nil => rfl
    | cons k ks =>
      have := (h.mem k).mp List.mem_cons_self
      rw [e k] at this
      cases this
theorem RstAt.key {H : Hp} {D : Addr} {ks : List Str} {F : Rw} (r : RstAt H D ks F) (s : sortedS ks = true) : KeyOk ks F := ⟨r.nd, s, r.mem⟩
/-- a row that comes back never runs dry -/
theorem never_dry {z : ES} {p : Int} {i j : Nat} (hj : j < i) (e : rowN z p j = rowN z p i) (h : ∀ k, k ≤ i → ¬ Emp (rowN z p k)) : ∀ k, ¬ Emp (rowN z p k) := by
  have shift : ∀ m, rowN z p (j + m) = rowN z p (i + m) := by
    intro m
    induction m with
    | zero => exact e
    | succ m ih =>
      show bookF _ (rowN z p (j + m)) _ _ = bookF _ (rowN z p (i + m)) _ _
      rw [ih]
  intro k
  induction k using Nat.strongRecOn with
  | _ k ih =>
    by_cases hk : k ≤ i
    · exact h k hk
    · have h1 : k = i + (k - i) := by omega
      have h2 := shift (k - i)
      rw [← h1] at h2
      rw [← h2]
      exact ih _ (by omega)
def tItems (K : PySem.W.Frag) (i : Nat) : TE := tCB (fun vs H Q => rTupItems vs H Q) (tCons (tBM0 K "dict" rItemsK (tVar i)) tNil)
section
variable {P : Program} {w : PySem.World} {K : PySem.W.Frag} {mg : Str → Option Value} {base : Heap} {f : Addr} {fd : FuncData}
/-- tuple(row.items()) -/
theorem items_key {σ : St} {H : Hp} {Q : VK} {i : Nat} {T : Addr} {ks : List Str} {F : Rw} (hi : σ[i]? = some (some (V.ref T))) (r : RstAt H T ks F) (q : ∀ t H', Same H H' → KeyAt H' t (keyOf ks F) → Q (.ref t) H') : tItems K i σ H Q := by
  refine ⟨_, hi, .inr (.inr (.inl ⟨rfl, .inl ⟨_, r.d⟩⟩)), T, _, rfl, rfl, r.d, fun p hp => ?_⟩
  have s1 := new_same (o := L2.DX.itemsO p T) hp
  refine ⟨p, T, _, rfl, upd_same, s1 _ _ r.d, fun H' t as s2 la ht hx => ?_⟩
  refine q t H' (s1.trans s2) ⟨as, ht, by rw [la, List.length_map]; unfold keyOf; rw [List.length_map], fun j b e hj he => ?_⟩
  unfold keyOf at he
  rw [List.getElem?_map] at he
  cases hk : ks[j]? with
  | none => rw [hk] at he; cases he
  | some k =>
    rw [hk] at he
    cases he
    exact hx j b (.inr k, .int ((F k).getD 0)) hj (by rw [List.getElem?_map, hk]; rfl)
theorem sc_dry : FnScope ["manual", "endless", "purse", "row", "seen", "many"] ["manual", "endless", "purse"] (defScope s_dry) := ⟨rfl, rfl, rfl, by decide +kernel, rfl, by decide +kernel, by decide +kernel⟩
def sp_dry (C : Addr) : Sp := fun vs H Q _ => ∃ (a e : Addr) (z : ES) (p : Int), vs = [.ref a, .ref e, .int p] ∧ ESAt C H a e z ∧ ESOk z ∧ DryOk z p ∧
  (∀ i : Nat, Emp (rowN z p i) → (∀ j, j < i → ¬ Emp (rowN z p j)) → ∀ H', Same H H' → Q (.int i) H') ∧ ((∀ j, ¬ Emp (rowN z p j)) → ∀ H', Same H H' → Q .non H')
theorem ok_dry {C : Addr} (F : FnP K "dry_from" s_dry f fd) (gT : mg "tuple" = none)
    {fB : Addr} {dB : FuncData} (GB : FnOk P w K mg base CX0 3 fB dB ["manual", "row", "book", "purse"] (sp_row_book C)) (kB : PySem.W.keepIn K (.ref fB) = true) (bB : Binds K dB ["manual", "row", "book", "purse"] []) (gB : mg "row_behind_book" = some (.ref fB))
    {fR : Addr} {dR : FuncData} (GR : FnOk P w K mg base CX0 3 fR dR ["manual", "purse"] (sp_first_row C)) (kR : PySem.W.keepIn K (.ref fR) = true) (bR : Binds K dR ["manual", "purse"] []) (gR : mg "first_row" = some (.ref fR)) : FnOk P w K mg base CX0 4 f fd ["manual", "endless", "purse"] (sp_dry C) := by
  refine F.ok sc_dry (fun vs H Q E h => ?_) (fun cdv A outer s H vs Q E hr h => ?_)
  · obtain ⟨a, e, z, p, rfl, _⟩ := h
    rfl
  · obtain ⟨a, e, z, p, rfl, sc, o, ⟨N, hN, hstop⟩, q1, q2⟩ := h
    refine ⟨_, PSs.nox (pss_cons (ps_par3 (i := 3) (j := 4) (l := 5) rfl sc_dry.nd rfl rfl rfl (by decide) (by decide) (by decide) rfl rfl rfl
          (pa_cons (pe_call GB hr rfl gB kB bB .nil pass0 (pa_cons (pv 0) (pa_cons (pe_call GR hr rfl gR kR bR .nil pass0 (pa_cons (pv 0) (pa_cons (pv 2) pa_nil))) (pa_cons (pe_ix ix_tup (pv 1) pe_int (fun _ _ => rfl)) (pa_cons (pv 2) pa_nil))))) (pa_cons pe_dnewS (pa_cons pe_int pa_nil))) rfl)
      (pss_cons (ps_while PassesOwn.never (PW.pt (pw_and (pt_cmpR (op_neD0 hr.units0) (pv 3) pe_dnewK (nomark _)) (pw_and1 (pt_cmpR (op_notInS hr.units) (show PE _ _ (tItems K 3) from pe_callTy (cr_tupItems rfl) (by rfl) gT (by decide +kernel) (pa_cons (pe_bm0 PySem.F.plainAttrs_dict PySem.F.slot_dict_items PySem.F.type_dict_items mt_itemsK (pv 3)) pa_nil)) (pv 4) rfl))))
        (pss_cons (ps_seenPut hr.units (pv 4) (show PE _ _ (tItems K 3) from pe_callTy (cr_tupItems rfl) (by rfl) gT (by decide +kernel) (pa_cons (pe_bm0 PySem.F.plainAttrs_dict PySem.F.slot_dict_items PySem.F.type_dict_items mt_itemsK (pv 3)) pa_nil)) pe_bl rfl)
        (pss_one (ps_par (i := 3) (j := 5) (by rfl) sc_dry.nd rfl rfl (by decide) rfl rfl (pa_cons (pe_call GB hr rfl gB kB bB .nil pass0 (pa_cons (pv 0) (pa_cons (pv 3) (pa_cons (pe_ix ix_tup (pv 1) pe_int (fun _ _ => rfl)) (pa_cons (pv 2) pa_nil))))) (pa_cons (pe_op op_add (pv 5) pe_int) pa_nil)) (by rfl)))))
      (pss_one (ps_ret (pe_ifExp (pt_cmpR (op_eqD0 hr.units0) (pv 3) pe_dnewK (nomark _)) (pv 5) pe_non))))), ?_⟩
    refine ⟨_, rfl, _, rfl, _, rfl, a, z.rows, z.firsts, z.lasts, z.rooms, z.jobs, z.qs, z.fs, z.ls, z.rs, z.js, p, rfl, sc.ma, o.fn, o.fl, fun T0 H1 k0 s1 _ r0 so0 => ?_⟩
    have sc1 := sc.same s1
    refine ⟨_, rfl, e, _, 0, .ref z.h, rfl, rfl, SqT.of sc1.en.top, atI_nat (j := 0) rfl, _, rfl, a, z.rows, z.firsts, z.lasts, z.rooms, z.jobs, T0, z.h, z.qs, z.fs, z.ls, z.rs, z.js, k0, z.hd, _, p, rfl, sc1.ma, o.ek, o.ql, r0, so0, sc1.en.hd, fun T1 H2 k1 s2 r1 so1 => ?_⟩
    intro D hD nsys
    have s3 := new_same (o := SeenO P w D []) hD
    have eD : upd H2 D (SeenO P w D []) D = some (SeenO P w D []) := upd_same
    have s12 := s1.trans s2
    have hD0 := none_back s12 hD
    have s13 := s12.trans s3
    refine ⟨_, _, _, rfl, ?_⟩
    refine ⟨fun m σ H' => Same H H' ∧ ∃ (i : Nat) (T : Addr) (ks : List Str) (L : List SX.Row), σ = [some (.ref a), some (.ref e), some (.int p), some (.ref T), some (.ref D), some (.int (i : Int))] ∧ RstAt H' T ks (rowN z p i) ∧ sortedS ks = true ∧ SeenAt P w H' D L ∧ L.length = i ∧
        (∀ k ∈ L, ∃ j kj, j < i ∧ KeyOk kj (rowN z p j) ∧ k = keyOf kj (rowN z p j)) ∧ (∀ j, j < i → ∃ kj, KeyOk kj (rowN z p j) ∧ keyOf kj (rowN z p j) ∈ L) ∧ (∀ j, j < i → ¬ Emp (rowN z p j)) ∧ i ≤ N ∧ m = N - i,
      ⟨N, s13, 0, T1, k1, [], rfl, r1.same s3, so1, seen_new eD nsys, rfl, (fun _ h => nomatch h), (fun _ h => nomatch h), (fun _ h => nomatch h), Nat.zero_le _, rfl⟩, ?_⟩
    rintro m σ H4 ⟨s4, i, T, ks, L, rfl, r4, so4, sn4, lL, hL1, hL2, hne, hi, rfl⟩
    have ko := r4.key so4
    obtain ⟨xs0, hxs0, _⟩ := sn4.ex
    haveI := Classical.propDecidable (Emp (rowN z p i))
    have dE : (ks.map fun k => ((.inr k : Key), V.int ((rowN z p i k).getD 0))).isEmpty = decide (Emp (rowN z p i)) := by
      rw [Bool.eq_iff_iff, decide_eq_true_iff, ← key_emp ko, List.isEmpty_iff, List.map_eq_nil_iff]
    refine ⟨_, rfl, fun N1 hN1 => ?_⟩
    have s5 := new_same (o := .dK []) hN1
    have eN1 : upd H4 N1 (.dK []) N1 = some (.dK []) := upd_same
    have nD1 : (upd H4 N1 (.dK [])) D = H4 D := upd_ne (ne_of_none hxs0 hN1)
    generalize upd H4 N1 (.dK []) = H5 at s5 eN1 nD1
    have r5 := r4.same s5
    refine ⟨T, N1, _, rfl, rfl, r5.d, eN1, _, rfl, ?_⟩
    rw [dE]
    by_cases hE : Emp (rowN z p i)
    · rw [decide_eq_true hE]
      refine iteF ⟨_, rfl, fun N2 hN2 => ?_⟩
      have s6 := new_same (o := .dK []) hN2
      refine ⟨T, N2, _, rfl, rfl, s6 _ _ r5.d, upd_same, _, rfl, ?_⟩
      rw [dE, decide_eq_true hE]
      exact iteT ⟨_, rfl, q1 i hE hne _ ((s4.trans s5).trans s6)⟩
    · rw [decide_eq_false hE]
      refine iteT ?_
      refine items_key rfl r5 fun t H6 s6 k6 => ?_
      have sn6 : SeenAt P w H6 D L := by
        obtain ⟨xs, h1, h2, h3, h4, h5, h6, h7⟩ := sn4.ex
        exact ⟨xs, s6 _ _ (by rw [nD1]; exact h1), h2, h3, h4, h5, fun x hx => let ⟨k, a, b, c⟩ := h6 x hx; ⟨k, a, b, (c.tups fun _ _ e => s5 _ _ e).tups fun _ _ e => s6 _ _ e⟩, h7⟩
      refine ⟨_, rfl, t, D, keyOf ks (rowN z p i), L, rfl, rfl, k6, sn6, _, rfl, ?_⟩
      by_cases hin : keyOf ks (rowN z p i) ∈ L
      · rw [decide_eq_true hin]
        refine iteF ⟨_, rfl, fun N2 hN2 => ?_⟩
        have s7 := new_same (o := .dK []) hN2
        refine ⟨T, N2, _, rfl, rfl, s7 _ _ (s6 _ _ r5.d), upd_same, _, rfl, ?_⟩
        rw [dE, decide_eq_false hE]
        refine iteF (q2 ?_ _ (((s4.trans s5).trans s6).trans s7))
        obtain ⟨j, kj, hj, kok, ek⟩ := hL1 _ hin
        refine never_dry hj ((key_row kok ko).mp ek.symm) fun k hk => ?_
        rcases Nat.lt_or_eq_of_le hk with h | h
        · exact hne k h
        · rw [h]
          exact hE
      · rw [decide_eq_false hin]
        have nrep : ∀ j, j < i → rowN z p j ≠ rowN z p i := fun j hj ej => by
          obtain ⟨kj, kok, hk⟩ := hL2 j hj
          rw [(key_row kok ko).mpr ej] at hk
          exact hin hk
        have lt : i < N := by
          rcases Nat.lt_or_eq_of_le hi with h | h
          · exact h
          · rcases hstop with h1 | ⟨j, hj, ej⟩
            · rw [h] at hE
              exact absurd h1 hE
            · rw [h] at nrep
              exact absurd ej (nrep j hj)
        refine iteT ⟨fun σ' H' => Same H H' ∧ ∃ (T : Addr) (ks : List Str) (L : List SX.Row), σ' = [some (.ref a), some (.ref e), some (.int p), some (.ref T), some (.ref D), some (.int ((i + 1 : Nat) : Int))] ∧ RstAt H' T ks (rowN z p (i + 1)) ∧ sortedS ks = true ∧ SeenAt P w H' D L ∧ L.length = i + 1 ∧
          (∀ k ∈ L, ∃ j kj, j < i + 1 ∧ KeyOk kj (rowN z p j) ∧ k = keyOf kj (rowN z p j)) ∧ (∀ j, j < i + 1 → ∃ kj, KeyOk kj (rowN z p j) ∧ keyOf kj (rowN z p j) ∈ L) ∧ (∀ j, j < i + 1 → ¬ Emp (rowN z p j)), ?_, ?_⟩
        · rintro σ' H' ⟨a1, T', ks', L', a2, a3, a4, a5, a6, a7, a8, a9⟩
          exact ⟨N - (i + 1), by omega, a1, i + 1, T', ks', L', a2, a3, a4, a5, a6, a7, a8, a9, lt, rfl⟩
        · have r6 := r5.same s6
          refine ⟨_, rfl, items_key rfl r6 fun t2 H7 s7 k7 => ?_⟩
          have sn7 : SeenAt P w H7 D L := by
            obtain ⟨xs, h1, h2, h3, h4, h5, h6, h7⟩ := sn6.ex
            exact ⟨xs, s7 _ _ h1, h2, h3, h4, h5, fun x hx => let ⟨k, a, b, c⟩ := h6 x hx; ⟨k, a, b, c.tups fun _ _ e => s7 _ _ e⟩, h7⟩
          refine ⟨D, t2, keyOf ks (rowN z p i), L, rfl, rfl, k7, sn7, hin, by omega, fun H8 sn8 k8 => ?_⟩
          have s47 := ((s4.trans s5).trans s6).trans s7
          have s8 : Same H H8 := fun b u hb => by
            rw [k8 b (ne_of_none hb hD0)]
            exact s47 _ _ hb
          have nT : T ≠ D := by
            intro hTD
            obtain ⟨xs, h1, _⟩ := sn7.ex
            have := (r6.same s7).d
            rw [hTD, h1] at this
            cases this
          have r8 : RstAt H8 T ks (rowN z p i) := ⟨by rw [k8 T nT]; exact (r6.same s7).d, r6.nd, r6.mem⟩
          have sc8 := sc.same s8
          refine ⟨_, rfl, _, rfl, _, rfl, e, _, 1, .ref z.t, rfl, rfl, SqT.of sc8.en.top, atI_nat (j := 1) rfl, _, rfl, a, z.rows, z.firsts, z.lasts, z.rooms, z.jobs, T, z.t, z.qs, z.fs, z.ls, z.rs, z.js, ks, z.tn, _, p, rfl, sc8.ma, o.ek, o.ql, r8, so4, sc8.en.tn, fun T9 H9 k9 s9 r9 so9 => ?_⟩
          have sn9 : SeenAt P w H9 D (keyOf ks (rowN z p i) :: L) := by
            obtain ⟨xs, h1, h2, h3, h4, h5, h6, h7⟩ := sn8.ex
            exact ⟨xs, s9 _ _ h1, h2, h3, h4, h5, fun x hx => let ⟨k, a, b, c⟩ := h6 x hx; ⟨k, a, b, c.tups fun _ _ e => s9 _ _ e⟩, h7⟩
          refine ⟨_, rfl, _, _, rfl, rfl, _, _, rfl, s8.trans s9, T9, k9, _, rfl, r9, so9, sn9, by rw [List.length_cons, lL], fun k hk => ?_, fun j hj => ?_, fun j hj => ?_⟩
          · rcases List.mem_cons.mp hk with rfl | hk
            · exact ⟨i, ks, Nat.lt_succ_self _, ko, rfl⟩
            · obtain ⟨j, kj, b1, b2, b3⟩ := hL1 k hk
              exact ⟨j, kj, Nat.lt_succ_of_lt b1, b2, b3⟩
          · rcases Nat.lt_or_eq_of_le (Nat.le_of_lt_succ hj) with h | h
            · obtain ⟨kj, b1, b2⟩ := hL2 j h
              exact ⟨kj, b1, List.mem_cons_of_mem _ b2⟩
            · subst h
              exact ⟨ks, ko, List.mem_cons_self⟩
          · rcases Nat.lt_or_eq_of_le (Nat.le_of_lt_succ hj) with h | h
            · exact hne j h
            · subst h
              exact hE
end
end EV
namespace EV
open PySem L2 NT SX
def LeastOk (z : ES) : Prop := KindIs z "bounded" → ∃ p0 : Nat, (∀ j, ¬ Emp (rowN z p0 j)) ∧ ∀ p : Nat, p ≤ p0 → DryOk z p
def NeedIs (z : ES) (o : Option Int) : Prop := (∃ k, KindIs z k ∧ k ≠ "bounded" ∧ o = none) ∨ ∃ p : Nat, o = some (p : Int) ∧ KindIs z "bounded" ∧ (∀ j, ¬ Emp (rowN z p j)) ∧ ∀ q : Nat, q < p → ∃ j, Emp (rowN z q j)
section
variable {P : Program} {w : PySem.World} {K : PySem.W.Frag} {mg : Str → Option Value} {base : Heap} {f : Addr} {fd : FuncData}
def sp_least (C : Addr) : Sp := fun vs H Q _ => ∃ (a e : Addr) (z : ES), vs = [.ref a, .ref e] ∧ ESAt C H a e z ∧ ESOk z ∧ LeastOk z ∧ (∃ k, KindIs z k) ∧ ∀ o H', NeedIs z o → Same H H' → Q (optV o) H'
end
end EV
namespace EV
open PySem L2 NT SX
/-! ### the plain law of books without end: ways, coins, rows -/
theorem left_some {w : Str} {ns : List Int} {c p l : Int} : leftS w ns c p = some l ↔ ns.headD 0 ≤ c ∧ (w = "coins" ∧ l = c - ns.headD 0 ∨ w ≠ "coins" ∧ ns.getD 1 0 ≤ p ∧ l = p - ns.getD 1 0) := by
  unfold leftS
  constructor
  · intro h
    split at h
    · cases h
    · rename_i h1
      refine ⟨by omega, ?_⟩
      split at h
      · rename_i h2
        cases h
        exact .inl ⟨h2, rfl⟩
      · rename_i h2
        split at h
        · rename_i h3
          cases h
          exact .inr ⟨h2, h3, rfl⟩
        · cases h
  · rintro ⟨h1, h⟩
    rw [if_neg (by omega)]
    rcases h with ⟨h2, rfl⟩ | ⟨h2, h3, rfl⟩
    · rw [if_pos h2]
    · rw [if_neg h2, if_pos h3]
/-- more coins, a greater purse -/
theorem left_mono {w : Str} {ns : List Int} {c p l c' d : Int} (h : leftS w ns c p = some l) (hd : 0 ≤ d) (hc : c + d ≤ c') : ∃ l', leftS w ns c' (p + d) = some l' ∧ l + d ≤ l' := by
  obtain ⟨h1, h2⟩ := left_some.mp h
  rcases h2 with ⟨hw, rfl⟩ | ⟨hw, h3, rfl⟩
  · exact ⟨c' - ns.headD 0, left_some.mpr ⟨by omega, .inl ⟨hw, rfl⟩⟩, by omega⟩
  · exact ⟨p + d - ns.getD 1 0, left_some.mpr ⟨by omega, .inr ⟨hw, by omega, rfl⟩⟩, by omega⟩
theorem left_mono2 {w : Str} {ns : List Int} {c p l c' p' : Int} (h : leftS w ns c p = some l) (hc : c ≤ c') (hp : p ≤ p') : ∃ l', leftS w ns c' p' = some l' ∧ l ≤ l' := by
  obtain ⟨h1, h2⟩ := left_some.mp h
  rcases h2 with ⟨hw, rfl⟩ | ⟨hw, h3, rfl⟩
  · exact ⟨c' - ns.headD 0, left_some.mpr ⟨by omega, .inl ⟨hw, rfl⟩⟩, by omega⟩
  · exact ⟨p' - ns.getD 1 0, left_some.mpr ⟨by omega, .inr ⟨hw, by omega, rfl⟩⟩, by omega⟩
/-- one job: what stands in the new row -/
theorem rest_of {F : Rw} {j : Str} {p : Int} {g : Str} {c : Int} : ∀ (ms : List Mn) (G : Rw), ms.foldl (stepF F j p) G g = some c → G g = some c ∨ ∃ m ∈ ms, m.b = j ∧ m.c = g ∧ ∃ c0, F m.a = some c0 ∧ leftS m.w m.ns c0 p = some c
  | [], G, h => .inl h
  | m :: ms, G, h => by
    rw [List.foldl_cons] at h
    rcases rest_of ms _ h with h1 | ⟨m', hm, h2⟩
    · by_cases hj : m.b = j
      · cases hF : F m.a with
        | none =>
          rw [step_miss hj hF] at h1
          exact .inl h1
        | some c0 =>
          cases hL : leftS m.w m.ns c0 p with
          | none =>
            rw [step_out hj hF hL] at h1
            exact .inl h1
          | some l =>
            rw [step_in hj hF hL] at h1
            split at h1
            · unfold putF at h1
              split at h1
              · rename_i hg
                cases h1
                exact .inr ⟨m, List.mem_cons_self, hj, hg.symm, c0, hF, hL⟩
              · exact .inl h1
            · exact .inl h1
      · rw [step_else hj] at h1
        exact .inl h1
    · exact .inr ⟨m', List.mem_cons_of_mem _ hm, h2⟩
theorem step_up {F G : Rw} {j : Str} {p : Int} {m : Mn} {g : Str} {c : Int} (h : G g = some c) : ∃ c', stepF F j p G m g = some c' ∧ c ≤ c' := by
  by_cases hj : m.b = j
  · cases hF : F m.a with
    | none => exact ⟨c, by rw [step_miss hj hF]; exact h, Int.le_refl _⟩
    | some c0 =>
      cases hL : leftS m.w m.ns c0 p with
      | none => exact ⟨c, by rw [step_out hj hF hL]; exact h, Int.le_refl _⟩
      | some l =>
        rw [step_in hj hF hL]
        split
        · rename_i hlt
          unfold putF
          by_cases hg : g = m.c
          · rw [if_pos hg]
            rw [hg] at h
            rw [h] at hlt
            exact ⟨l, rfl, Int.le_of_lt hlt⟩
          · rw [if_neg hg]
            exact ⟨c, h, Int.le_refl _⟩
        · exact ⟨c, h, Int.le_refl _⟩
  · exact ⟨c, by rw [step_else hj]; exact h, Int.le_refl _⟩
theorem fold_up {F : Rw} {j : Str} {p : Int} {g : Str} : ∀ (ms : List Mn) (G : Rw) (c : Int), G g = some c → ∃ c', ms.foldl (stepF F j p) G g = some c' ∧ c ≤ c'
  | [], G, c, h => ⟨c, h, Int.le_refl _⟩
  | m :: ms, G, c, h => by
    obtain ⟨c1, h1, l1⟩ := step_up (F := F) (j := j) (p := p) (m := m) h
    obtain ⟨c2, h2, l2⟩ := fold_up ms _ c1 h1
    exact ⟨c2, h2, Int.le_trans l1 l2⟩
theorem rest_max {F : Rw} {j : Str} {p c0 l : Int} {m : Mn} (hj : m.b = j) (hF : F m.a = some c0) (hL : leftS m.w m.ns c0 p = some l) : ∀ (ms : List Mn) (G : Rw), m ∈ ms → ∃ c', ms.foldl (stepF F j p) G m.c = some c' ∧ l ≤ c'
  | [], _, h => absurd h List.not_mem_nil
  | m' :: ms, G, h => by
    rcases List.mem_cons.mp h with rfl | h
    · rw [List.foldl_cons, step_in hj hF hL]
      split
      · exact fold_up ms _ l (by unfold putF; rw [if_pos rfl])
      · rename_i hlt
        cases e : G m.c with
        | none =>
          rw [e] at hlt
          have := left_nat hL
          exact absurd (show (-1 : Int) < l by omega) hlt
        | some c =>
          rw [e] at hlt
          obtain ⟨c2, h2, l2⟩ := fold_up (F := F) (j := j) (p := p) ms G c e
          have hlt' : ¬ c < l := hlt
          exact ⟨c2, h2, by omega⟩
    · rw [List.foldl_cons]
      exact rest_max hj hF hL ms _ h
theorem restF_of {ms : List Mn} {F : Rw} {j : Str} {p : Int} {g : Str} {c : Int} (h : restF ms F j p g = some c) : ∃ m ∈ ms, m.b = j ∧ m.c = g ∧ ∃ c0, F m.a = some c0 ∧ leftS m.w m.ns c0 p = some c := by
  rcases rest_of ms _ h with h1 | h1
  · cases h1
  · exact h1
theorem restF_max {ms : List Mn} {F : Rw} {j : Str} {p c0 l : Int} {m : Mn} (hm : m ∈ ms) (hj : m.b = j) (hF : F m.a = some c0) (hL : leftS m.w m.ns c0 p = some l) : ∃ c', restF ms F j p m.c = some c' ∧ l ≤ c' := rest_max hj hF hL ms _ hm
/-! ways -/
def Way (ms : List Mn) : List Str → Str → Str → List Mn → Prop
  | [], r, g, ws => r = g ∧ ws = []
  | j :: b, r, g, ws => ∃ m w, ws = m :: w ∧ m ∈ ms ∧ m.a = r ∧ m.b = j ∧ Way ms b m.c g w
def run (p : Int) : List Mn → Int → Option Int
  | [], c => some c
  | m :: ws, c => (leftS m.w m.ns c p).bind (run p ws)
section
variable {ms : List Mn}
theorem Way.mem : ∀ {b : List Str} {r g : Str} {ws : List Mn}, Way ms b r g ws → ∀ m ∈ ws, m ∈ ms
  | [], r, g, ws, h, m, hm => by
    rw [h.2] at hm
    cases hm
  | j :: b, r, g, ws, h, m, hm => by
    obtain ⟨m', w, rfl, h1, _, _, h4⟩ := h
    rcases List.mem_cons.mp hm with rfl | hm
    · exact h1
    · exact Way.mem h4 m hm
theorem Way.len : ∀ {b : List Str} {r g : Str} {ws : List Mn}, Way ms b r g ws → ws.length = b.length
  | [], r, g, ws, h => by rw [h.2]; rfl
  | j :: b, r, g, ws, h => by
    obtain ⟨m', w, rfl, h1, _, _, h4⟩ := h
    rw [List.length_cons, List.length_cons, Way.len h4]
theorem way_app : ∀ {b1 b2 : List Str} {r g : Str} {ws : List Mn}, Way ms (b1 ++ b2) r g ws ↔ ∃ x w1 w2, ws = w1 ++ w2 ∧ Way ms b1 r x w1 ∧ Way ms b2 x g w2
  | [], b2, r, g, ws => by
    constructor
    · intro h
      exact ⟨r, [], ws, rfl, ⟨rfl, rfl⟩, h⟩
    · rintro ⟨x, w1, w2, rfl, ⟨rfl, rfl⟩, h⟩
      exact h
  | j :: b1, b2, r, g, ws => by
    constructor
    · rintro ⟨m, w, rfl, h1, h2, h3, h4⟩
      obtain ⟨x, w1, w2, rfl, h5, h6⟩ := way_app.mp h4
      exact ⟨x, m :: w1, w2, rfl, ⟨m, w1, rfl, h1, h2, h3, h5⟩, h6⟩
    · rintro ⟨x, w1, w2, rfl, ⟨m, w, rfl, h1, h2, h3, h5⟩, h6⟩
      exact ⟨m, w ++ w2, rfl, h1, h2, h3, way_app.mpr ⟨x, w, w2, rfl, h5, h6⟩⟩
theorem run_app {p : Int} : ∀ (w1 w2 : List Mn) (c : Int), run p (w1 ++ w2) c = (run p w1 c).bind (run p w2)
  | [], w2, c => rfl
  | m :: w1, w2, c => by
    show (leftS m.w m.ns c p).bind (run p (w1 ++ w2)) = ((leftS m.w m.ns c p).bind (run p w1)).bind (run p w2)
    cases leftS m.w m.ns c p with
    | none => rfl
    | some l => exact run_app w1 w2 l
theorem run_some {p : Int} {w1 w2 : List Mn} {c c' : Int} : run p (w1 ++ w2) c = some c' ↔ ∃ x, run p w1 c = some x ∧ run p w2 x = some c' := by
  rw [run_app, Option.bind_eq_some_iff]
theorem run_nat {p : Int} : ∀ {ws : List Mn} {c c' : Int}, 0 ≤ c → run p ws c = some c' → 0 ≤ c'
  | [], c, c', h0, h => by cases h; exact h0
  | m :: ws, c, c', h0, h => by
    obtain ⟨l, h1, h2⟩ := Option.bind_eq_some_iff.mp h
    exact run_nat (left_nat h1) h2
theorem run_mono {p d : Int} (hd : 0 ≤ d) : ∀ {ws : List Mn} {c c' x : Int}, run p ws c = some x → c + d ≤ c' → ∃ x', run (p + d) ws c' = some x' ∧ x + d ≤ x'
  | [], c, c', x, h, hc => by cases h; exact ⟨c', rfl, hc⟩
  | m :: ws, c, c', x, h, hc => by
    obtain ⟨l, h1, h2⟩ := Option.bind_eq_some_iff.mp h
    obtain ⟨l', h3, h4⟩ := left_mono h1 hd hc
    obtain ⟨x', h5, h6⟩ := run_mono hd h2 h4
    exact ⟨x', Option.bind_eq_some_iff.mpr ⟨l', h3, h5⟩, h6⟩
theorem run_mono2 {p p' : Int} (hp : p ≤ p') : ∀ {ws : List Mn} {c c' x : Int}, run p ws c = some x → c ≤ c' → ∃ x', run p' ws c' = some x' ∧ x ≤ x'
  | [], c, c', x, h, hc => by cases h; exact ⟨c', rfl, hc⟩
  | m :: ws, c, c', x, h, hc => by
    obtain ⟨l, h1, h2⟩ := Option.bind_eq_some_iff.mp h
    obtain ⟨l', h3, h4⟩ := left_mono2 h1 hc hp
    obtain ⟨x', h5, h6⟩ := run_mono2 hp h2 h4
    exact ⟨x', Option.bind_eq_some_iff.mpr ⟨l', h3, h5⟩, h6⟩
/-- what a row holds: the most of all ways -/
theorem book_of {p : Int} : ∀ {b : List Str} {F : Rw} {g : Str} {c : Int}, bookF ms F b p g = some c → ∃ r ws c0, F r = some c0 ∧ Way ms b r g ws ∧ run p ws c0 = some c
  | [], F, g, c, h => ⟨g, [], c, h, ⟨rfl, rfl⟩, rfl⟩
  | j :: b, F, g, c, h => by
    obtain ⟨r, ws, c0, h1, h2, h3⟩ := book_of (b := b) (F := restF ms F j p) h
    obtain ⟨m, hm, hj, hc, c1, hF, hL⟩ := restF_of h1
    subst hc
    exact ⟨m.a, m :: ws, c1, hF, ⟨m, ws, rfl, hm, rfl, hj, h2⟩, Option.bind_eq_some_iff.mpr ⟨c0, hL, h3⟩⟩
theorem book_max {p : Int} : ∀ {b : List Str} {F : Rw} {r g : Str} {ws : List Mn} {c0 c : Int}, F r = some c0 → Way ms b r g ws → run p ws c0 = some c → ∃ c', bookF ms F b p g = some c' ∧ c ≤ c'
  | [], F, r, g, ws, c0, c, hF, hw, hr => by
    obtain ⟨rfl, rfl⟩ := hw
    cases hr
    exact ⟨c0, hF, Int.le_refl _⟩
  | j :: b, F, r, g, ws, c0, c, hF, hw, hr => by
    obtain ⟨m, w, rfl, hm, rfl, hj, hw2⟩ := hw
    obtain ⟨l, hL, hr2⟩ := Option.bind_eq_some_iff.mp hr
    obtain ⟨c1, h1, l1⟩ := restF_max hm hj hF hL
    obtain ⟨x, h2, l2⟩ := run_mono2 (Int.le_refl p) hr2 l1
    obtain ⟨c2, h3, l3⟩ := book_max (b := b) (F := restF ms F j p) h1 hw2 h2
    exact ⟨c2, h3, Int.le_trans l2 l3⟩
theorem book_app {F : Rw} {b1 b2 : List Str} {p : Int} : bookF ms F (b1 ++ b2) p = bookF ms (bookF ms F b1 p) b2 p := by
  unfold bookF
  rw [List.foldl_append]
theorem book_emp {F : Rw} {b : List Str} {p : Int} (h : Emp F) : Emp (bookF ms F b p) := fun r => by
  cases e : bookF ms F b p r with
  | none => rfl
  | some c =>
    obtain ⟨r0, ws, c0, h1, _⟩ := book_of e
    rw [h r0] at h1
    cases h1
def rep (tn : List Str) : Nat → List Str
  | 0 => []
  | n + 1 => tn ++ rep tn n
theorem rep_add {tn : List Str} {a b : Nat} : rep tn (a + b) = rep tn a ++ rep tn b := by
  induction a with
  | zero => rw [Nat.zero_add]; rfl
  | succ a ih =>
    rw [Nat.succ_add]
    show tn ++ rep tn (a + b) = (tn ++ rep tn a) ++ rep tn b
    rw [ih, List.append_assoc]
theorem rep_one {tn : List Str} : rep tn 1 = tn := List.append_nil tn
theorem rep_len {tn : List Str} {n : Nat} : (rep tn n).length = n * tn.length := by
  induction n with
  | zero => simp [rep]
  | succ n ih =>
    show (tn ++ rep tn n).length = _
    rw [List.length_append, ih, Nat.succ_mul, Nat.add_comm]
end
theorem rowN_eq {z : ES} {p : Int} {j : Nat} : rowN z p j = bookF z.ms (firstF z.fs p) (z.hd ++ rep z.tn j) p := by
  induction j with
  | zero => show _ = bookF _ _ (z.hd ++ []) _; rw [List.append_nil]; rfl
  | succ j ih =>
    show bookF z.ms (rowN z p j) z.tn p = _
    rw [ih, ← book_app, rep_add, rep_one, List.append_assoc]
/-! pigeons -/
theorem pigeon {α : Type} [DecidableEq α] : ∀ (L : List α) (f : Nat → α), (∀ i, i ≤ L.length → f i ∈ L) → ∃ i j, i < j ∧ j ≤ L.length ∧ f i = f j
  | [], f, h => absurd (h 0 (Nat.le_refl _)) List.not_mem_nil
  | a :: L, f, h => by
    by_cases hx : ∃ k, k ≤ L.length + 1 ∧ f k = a
    · obtain ⟨k, hk, ek⟩ := hx
      by_cases h2 : ∃ k', k' ≤ L.length + 1 ∧ k' ≠ k ∧ f k' = a
      · obtain ⟨k', hk', ne, ek'⟩ := h2
        rcases Nat.lt_or_gt_of_ne ne with q | q
        · exact ⟨k', k, q, hk, by rw [ek, ek']⟩
        · exact ⟨k, k', q, hk', by rw [ek, ek']⟩
      · obtain ⟨i, j, hij, hj, e⟩ := pigeon L (fun i => if i < k then f i else f (i + 1)) fun i hi => by
          have hne : ∀ k', k' ≤ L.length + 1 → k' ≠ k → f k' ∈ L := fun k' h1 h3 => by
            rcases List.mem_cons.mp (h k' h1) with e | e
            · exact absurd ⟨k', h1, h3, e⟩ h2
            · exact e
          show (if i < k then f i else f (i + 1)) ∈ L
          by_cases q : i < k
          · rw [if_pos q]
            exact hne i (by omega) (by omega)
          · rw [if_neg q]
            exact hne (i + 1) (by omega) (by omega)
        have e : (if i < k then f i else f (i + 1)) = (if j < k then f j else f (j + 1)) := e
        by_cases q1 : i < k
        · rw [if_pos q1] at e
          by_cases q2 : j < k
          · rw [if_pos q2] at e
            exact ⟨i, j, hij, by show j ≤ L.length + 1; omega, e⟩
          · rw [if_neg q2] at e
            exact ⟨i, j + 1, by omega, by show j + 1 ≤ L.length + 1; omega, e⟩
        · rw [if_neg q1, if_neg (by omega : ¬ j < k)] at e
          exact ⟨i + 1, j + 1, by omega, by show j + 1 ≤ L.length + 1; omega, e⟩
    · obtain ⟨i, j, hij, hj, e⟩ := pigeon L f fun i hi => by
        rcases List.mem_cons.mp (h i (by show i ≤ L.length + 1; omega)) with q | q
        · exact absurd ⟨i, by omega, q⟩ hx
        · exact q
      exact ⟨i, j, hij, by show j ≤ L.length + 1; omega, e⟩
def tuples {α : Type} (A : List α) : Nat → List (List α)
  | 0 => [[]]
  | n + 1 => A.flatMap fun a => (tuples A n).map fun t => a :: t
theorem tuples_mem {α : Type} {A : List α} : ∀ {l : List α}, (∀ x ∈ l, x ∈ A) → l ∈ tuples A l.length
  | [], _ => List.mem_cons_self
  | x :: l, h => by
    show x :: l ∈ A.flatMap _
    rw [List.mem_flatMap]
    exact ⟨x, h x List.mem_cons_self, List.mem_map.mpr ⟨l, tuples_mem fun y hy => h y (List.mem_cons_of_mem _ hy), rfl⟩⟩
theorem flatMap_len {α β : Type} {f : α → List β} {n : Nat} : ∀ (A : List α), (∀ a, (f a).length = n) → (A.flatMap f).length = A.length * n
  | [], _ => by simp
  | a :: A, h => by
    rw [List.flatMap_cons, List.length_append, flatMap_len A h, h a, List.length_cons, Nat.succ_mul, Nat.add_comm]
theorem tuples_len {α : Type} {A : List α} : ∀ n : Nat, (tuples A n).length = A.length ^ n
  | 0 => rfl
  | n + 1 => by
    show (A.flatMap _).length = _
    rw [flatMap_len (n := A.length ^ n) A fun a => by rw [List.length_map, tuples_len n], Nat.pow_succ, Nat.mul_comm]
end EV
namespace EV
open PySem L2 NT SX
/-! ### cards and ways -/
section
variable {ms : List Mn} {rs : List Str}
theorem parts_fold : ∀ (b : List Str) (R : List (Str × List Mn)) (x : Str × List Mn), x ∈ b.foldl (fun rows j => rows.flatMap (stepP ms j)) R ↔ ∃ y ∈ R, ∃ w, Way ms b y.1 x.1 w ∧ x.2 = y.2 ++ w
  | [], R, x => by
    constructor
    · intro h
      exact ⟨x, h, [], ⟨rfl, rfl⟩, (List.append_nil _).symm⟩
    · rintro ⟨y, hy, w, ⟨h1, rfl⟩, h2⟩
      rw [List.append_nil] at h2
      have : x = y := Prod.ext h1.symm h2
      rw [this]
      exact hy
  | j :: b, R, x => by
    rw [List.foldl_cons, parts_fold b]
    constructor
    · rintro ⟨y, hy, w, hw, hx⟩
      rw [List.mem_flatMap] at hy
      obtain ⟨r, hr, hy⟩ := hy
      unfold stepP at hy
      obtain ⟨m, hm, rfl⟩ := List.mem_map.mp hy
      rw [List.mem_filter, decide_eq_true_iff] at hm
      exact ⟨r, hr, m :: w, ⟨m, w, rfl, hm.1, hm.2.1, hm.2.2, hw⟩, by rw [hx, List.append_assoc]; rfl⟩
    · rintro ⟨r, hr, w, ⟨m, w', rfl, h1, h2, h3, h4⟩, hx⟩
      refine ⟨(m.c, r.2 ++ [m]), List.mem_flatMap.mpr ⟨r, hr, ?_⟩, w', h4, by rw [hx, List.append_assoc]; rfl⟩
      unfold stepP
      exact List.mem_map.mpr ⟨m, List.mem_filter.mpr ⟨h1, decide_eq_true ⟨h2, h3⟩⟩, rfl⟩
theorem parts_way {b : List Str} {r g : Str} {ws : List Mn} : (g, ws) ∈ partsOf ms b r ↔ Way ms b r g ws := by
  unfold partsOf
  rw [parts_fold]
  constructor
  · rintro ⟨y, hy, w, hw, hx⟩
    rw [List.mem_singleton] at hy
    subst hy
    have e : ws = w := hx
    rw [e]
    exact hw
  · intro h
    exact ⟨(r, []), List.mem_cons_self, ws, h, rfl⟩
theorem seen_way {b : List Str} {r g x : Str} : x ∈ seenE ms b r g ↔ ∃ ws, Way ms b r g ws ∧ x = partM ws := by
  unfold seenE
  simp only [List.mem_map, List.mem_filter, decide_eq_true_eq]
  constructor
  · rintro ⟨y, ⟨hy, e⟩, rfl⟩
    obtain ⟨y1, y2⟩ := y
    have e : y1 = g := e
    subst e
    exact ⟨y2, parts_way.mp hy, rfl⟩
  · rintro ⟨ws, h, rfl⟩
    exact ⟨(g, ws), ⟨parts_way.mpr h, rfl⟩, rfl⟩
def cell (ms : List Mn) (b : List Str) (r g : Str) : Str := bestS (seenE ms b r g)
theorem ent_cell {b : List Str} (hc : ∀ m ∈ ms, m.c ∈ rs) (hk : ∀ m ∈ ms, EffK m.w m.ns) {i g : Nat} (hi : i < rs.length) (hg : g < rs.length) : entC (cardC ms rs b) i g = cell ms b (rs.getD i "") (rs.getD g "") := by
  rw [← seen_card hc hk]
  unfold entC seenC
  rw [List.getD_eq_getElem?_getD, List.getD_eq_getElem?_getD, List.getElem?_map, List.getElem?_eq_getElem hi]
  show ((rs.map fun g => bestS (seenE ms b rs[i] g))[g]?).getD "never" = _
  rw [List.getElem?_map, List.getElem?_eq_getElem hg, List.getD_eq_getElem?_getD, List.getD_eq_getElem?_getD, List.getElem?_eq_getElem hi, List.getElem?_eq_getElem hg]
  rfl
theorem part_cases (ws : List Mn) : partM ws = "full" ∨ partM ws = "free" ∨ partM ws = "some" := by
  unfold partM
  split
  · exact .inl rfl
  · split
    · exact .inr (.inr rfl)
    · exact .inr (.inl rfl)
theorem cell_cases {b : List Str} {r g : Str} : cell ms b r g ≠ "many" := by
  unfold cell
  rw [best_bst]
  have no : decide (("many" : Str) ∈ seenE ms b r g) = false := by
    rw [decide_eq_false_iff_not]
    intro h
    obtain ⟨ws, _, e⟩ := seen_way.mp h
    rcases part_cases ws with q | q | q <;> rw [q] at e <;> exact absurd e (by decide +kernel)
  rw [no]
  generalize decide (("full" : Str) ∈ seenE ms b r g) = b1
  generalize decide (("free" : Str) ∈ seenE ms b r g) = b2
  generalize decide (("some" : Str) ∈ seenE ms b r g) = b3
  cases b1 <;> cases b2 <;> cases b3 <;> decide +kernel
theorem bst_never : ∀ b1 b2 b3 b4 : Bool, bst b1 b2 b3 b4 = "never" ↔ (b1 = false ∧ b2 = false ∧ b3 = false ∧ b4 = false) := by decide +kernel
theorem bst_good : ∀ b1 b2 b3 b4 : Bool, (bst b1 b2 b3 b4 = "full" ∨ bst b1 b2 b3 b4 = "free") ↔ (b1 = true ∨ b2 = true) := by decide +kernel
theorem cell_never {b : List Str} {r g : Str} : cell ms b r g = "never" ↔ ¬ ∃ ws, Way ms b r g ws := by
  unfold cell
  rw [best_bst, bst_never]
  simp only [decide_eq_false_iff_not]
  constructor
  · rintro ⟨h1, h2, h3, h4⟩ ⟨ws, hw⟩
    have h := seen_way.mpr ⟨ws, hw, rfl⟩
    rcases part_cases ws with q | q | q <;> rw [q] at h
    · exact h1 h
    · exact h2 h
    · exact h3 h
  · intro h
    have no : ∀ x : Str, x ∉ seenE ms b r g := fun x hx => by
      obtain ⟨ws, hw, _⟩ := seen_way.mp hx
      exact h ⟨ws, hw⟩
    exact ⟨no _, no _, no _, no _⟩
/-- a way with a fill, or one that takes no coins -/
def Good (ms : List Mn) (b : List Str) (r g : Str) : Prop := ∃ ws, Way ms b r g ws ∧ ((∃ m ∈ ws, m.w = "fill") ∨ ∀ m ∈ ws, m.w ≠ "fill" ∧ m.ns.headD 0 ≤ 0)
theorem part_good (ws : List Mn) : (partM ws = "full" ∨ partM ws = "free") ↔ ((∃ m ∈ ws, m.w = "fill") ∨ ∀ m ∈ ws, m.w ≠ "fill" ∧ m.ns.headD 0 ≤ 0) := by
  unfold partM
  by_cases h1 : (ws.any fun m : Mn => decide (m.w = ("fill" : Str))) = true
  · rw [if_pos h1]
    constructor
    · intro _
      rw [List.any_eq_true] at h1
      obtain ⟨m, hm, e⟩ := h1
      exact .inl ⟨m, hm, of_decide_eq_true e⟩
    · intro _
      exact .inl rfl
  · rw [if_neg h1]
    have n1 : ∀ m ∈ ws, m.w ≠ "fill" := fun m hm e => h1 (by rw [List.any_eq_true]; exact ⟨m, hm, decide_eq_true e⟩)
    by_cases h2 : (ws.any fun m : Mn => decide (0 < m.ns.headD 0)) = true
    · rw [if_pos h2]
      constructor
      · rintro (h | h) <;> exact absurd h (by decide +kernel)
      · rintro (⟨m, hm, e⟩ | h)
        · exact absurd e (n1 m hm)
        · rw [List.any_eq_true] at h2
          obtain ⟨m, hm, e⟩ := h2
          have := (h m hm).2
          have := of_decide_eq_true e
          omega
    · rw [if_neg h2]
      constructor
      · intro _
        refine .inr fun m hm => ⟨n1 m hm, ?_⟩
        apply Int.le_of_not_gt
        intro e
        exact h2 (by rw [List.any_eq_true]; exact ⟨m, hm, decide_eq_true e⟩)
      · intro _
        exact .inr rfl
theorem cell_good {b : List Str} {r g : Str} : (cell ms b r g = "full" ∨ cell ms b r g = "free") ↔ Good ms b r g := by
  unfold cell
  rw [best_bst, bst_good, decide_eq_true_iff, decide_eq_true_iff, seen_way, seen_way]
  constructor
  · rintro (⟨ws, hw, e⟩ | ⟨ws, hw, e⟩)
    · exact ⟨ws, hw, (part_good ws).mp (.inl e.symm)⟩
    · exact ⟨ws, hw, (part_good ws).mp (.inr e.symm)⟩
  · rintro ⟨ws, hw, h⟩
    rcases (part_good ws).mpr h with e | e
    · exact .inl ⟨ws, hw, e.symm⟩
    · exact .inr ⟨ws, hw, e.symm⟩
/-- what two equal cards say of ways -/
theorem card_ways {b1 b2 : List Str} (hc : ∀ m ∈ ms, m.c ∈ rs) (hk : ∀ m ∈ ms, EffK m.w m.ns) (e : cardC ms rs b1 = cardC ms rs b2) {r g : Str} (hr : r ∈ rs) (hg : g ∈ rs) : cell ms b1 r g = cell ms b2 r g := by
  obtain ⟨i, hi, rfl⟩ := List.mem_iff_getElem.mp hr
  obtain ⟨k, hk', rfl⟩ := List.mem_iff_getElem.mp hg
  have h1 := ent_cell (b := b1) hc hk hi hk'
  have h2 := ent_cell (b := b2) hc hk hi hk'
  rw [e, h2] at h1
  have g1 : rs.getD i "" = rs[i] := by rw [List.getD_eq_getElem?_getD, List.getElem?_eq_getElem hi]; rfl
  have g2 : rs.getD k "" = rs[k] := by rw [List.getD_eq_getElem?_getD, List.getElem?_eq_getElem hk']; rfl
  rw [g1, g2] at h1
  exact h1.symm
theorem pow_card {tn : List Str} : ∀ i : Nat, powC (cardC ms rs tn) i = cardC ms rs (rep tn (i + 1))
  | 0 => by show _ = cardC ms rs (rep tn 1); rw [rep_one]; rfl
  | i + 1 => by
    show joinC (powC (cardC ms rs tn) i) (cardC ms rs tn) = _
    rw [pow_card i, card_append, rep_add (a := i + 1) (b := 1), rep_one]
end
end EV
namespace EV
open PySem L2 NT SX
/-! ### powers of a card, kinds -/
structure ESW (z : ES) : Prop where
  hc : ∀ m ∈ z.ms, m.c ∈ z.rs
  hk : ∀ m ∈ z.ms, EffK m.w m.ns
  hf : ∀ f ∈ z.fs, f ∈ z.rs
  r3 : z.rs.length ≤ 3
  h3 : z.hd.length ≤ 3
  t4 : z.tn.length ≤ 5
theorem card_in {ms : List Mn} {rs b : List Str} : cardC ms rs b ∈ tuples (tuples marks rs.length) rs.length := by
  rw [card_mat]
  have h1 : ∀ r ∈ matL rs (bookM ms rs b idM), r ∈ tuples marks rs.length := fun r hr => by
    unfold matL at hr
    obtain ⟨x, _, rfl⟩ := List.mem_map.mp hr
    have := tuples_mem (A := marks) (l := rs.map fun g => bookM ms rs b idM x g) fun y hy => by
      obtain ⟨g, _, rfl⟩ := List.mem_map.mp hy
      exact bookM_ok b idM_ok _ _
    rw [List.length_map] at this
    exact this
  have := tuples_mem h1
  have l : (matL rs (bookM ms rs b idM)).length = rs.length := List.length_map ..
  rw [l] at this
  exact this
abbrev cpow (ms : List Mn) (rs tn : List Str) (k : Nat) : List (List Str) := cardC ms rs (rep tn k)
theorem cpow_add {ms : List Mn} {rs tn : List Str} {a b : Nat} : cpow ms rs tn (a + b) = joinC (cpow ms rs tn a) (cpow ms rs tn b) := by
  show cardC _ _ (rep tn (a + b)) = _
  rw [rep_add, card_append]
theorem idem_ex (z : ES) : ∃ N, z.idem N := by
  obtain ⟨i, j, hij, _, e⟩ := pigeon (tuples (tuples marks z.rs.length) z.rs.length) (fun k => cpow z.ms z.rs z.tn (k + 1)) fun _ _ => card_in
  have e : cpow z.ms z.rs z.tn (i + 1) = cpow z.ms z.rs z.tn (j + 1) := e
  have per : ∀ k, i + 1 ≤ k → cpow z.ms z.rs z.tn (k + (j - i)) = cpow z.ms z.rs z.tn k := fun k hk => by
    have h1 : k + (j - i) = (j + 1) + (k - (i + 1)) := by omega
    have h2 : k = (i + 1) + (k - (i + 1)) := by omega
    rw [h1, cpow_add, ← e, ← cpow_add, ← h2]
  have per2 : ∀ t k, i + 1 ≤ k → cpow z.ms z.rs z.tn (k + t * (j - i)) = cpow z.ms z.rs z.tn k := by
    intro t
    induction t with
    | zero => intro k _; rw [Nat.zero_mul, Nat.add_zero]
    | succ t ih =>
      intro k hk
      rw [Nat.succ_mul, ← Nat.add_assoc, per _ (by omega), ih k hk]
  have n1 : i + 1 ≤ (i + 1) * (j - i) := Nat.le_mul_of_pos_right _ (by omega)
  refine ⟨(i + 1) * (j - i) - 1, ?_⟩
  unfold ES.idem ES.card
  have n2 : (i + 1) * (j - i) - 1 + 1 = (i + 1) * (j - i) := by omega
  rw [pow_card, n2]
  show joinC (cpow z.ms z.rs z.tn _) (cpow z.ms z.rs z.tn _) = cpow z.ms z.rs z.tn _
  rw [← cpow_add, per2 (i + 1) _ n1]
theorem idem_mul {z : ES} {i : Nat} (h : z.idem i) : ∀ m : Nat, cpow z.ms z.rs z.tn ((i + 1) * (m + 1)) = cpow z.ms z.rs z.tn (i + 1) := by
  unfold ES.idem ES.card at h
  rw [pow_card] at h
  intro m
  induction m with
  | zero => rw [Nat.zero_add, Nat.mul_one]
  | succ m ih =>
    rw [show (i + 1) * (m + 1 + 1) = (i + 1) * (m + 1) + (i + 1) from rfl, cpow_add, ih]
    exact h
section
variable {z : ES} (W : ESW z)
include W
theorem cell_mul {i m : Nat} (h : z.idem i) {r g : Str} (hr : r ∈ z.rs) (hg : g ∈ z.rs) : cell z.ms (rep z.tn ((i + 1) * (m + 1))) r g = cell z.ms (rep z.tn (i + 1)) r g := card_ways W.hc W.hk (idem_mul h m) hr hg
theorem cell_mulH {i m : Nat} (h : z.idem i) {r g : Str} (hr : r ∈ z.rs) (hg : g ∈ z.rs) : cell z.ms (z.hd ++ rep z.tn ((i + 1) * (m + 1))) r g = cell z.ms (z.hd ++ rep z.tn (i + 1)) r g := by
  refine card_ways W.hc W.hk ?_ hr hg
  rw [← card_append, ← card_append]
  exact congrArg _ (idem_mul h m)
theorem marks_mem {i : Nat} {x : Str} : x ∈ kmarks z.fs z.rs (joinC (cardC z.ms z.rs z.hd) (powC z.card i)) (powC z.card i) ↔ ∃ f ∈ z.fs, ∃ g ∈ z.rs, (∃ ws, Way z.ms (z.hd ++ rep z.tn (i + 1)) f g ws) ∧ x = cell z.ms (rep z.tn (i + 1)) g g := by
  unfold ES.card
  rw [pow_card, card_append]
  unfold kmarks krow kin
  simp only [List.mem_flatMap, List.mem_range]
  constructor
  · rintro ⟨a, ha, g, hg, hx⟩
    split at hx
    · rename_i h
      rw [List.mem_singleton] at hx
      rw [ent_cell W.hc W.hk hg hg] at hx
      rw [ent_cell W.hc W.hk ha hg] at h
      have hg' : z.rs.getD g "" ∈ z.rs := by
        rw [List.getD_eq_getElem?_getD, List.getElem?_eq_getElem hg]
        exact List.getElem_mem hg
      refine ⟨_, h.1, _, hg', ?_, hx⟩
      exact Classical.byContradiction fun no => h.2 (cell_never.mpr no)
    · cases hx
  · rintro ⟨f, hf, g, hg, hw, rfl⟩
    obtain ⟨a, ha, ea⟩ := List.mem_iff_getElem.mp (W.hf f hf)
    obtain ⟨k, hk, ek⟩ := List.mem_iff_getElem.mp hg
    have g1 : z.rs.getD a "" = f := by rw [List.getD_eq_getElem?_getD, List.getElem?_eq_getElem ha]; exact ea
    have g2 : z.rs.getD k "" = g := by rw [List.getD_eq_getElem?_getD, List.getElem?_eq_getElem hk]; exact ek
    refine ⟨a, ha, k, hk, ?_⟩
    rw [ent_cell W.hc W.hk hk hk, ent_cell W.hc W.hk ha hk, g1, g2, if_pos ⟨hf, fun h => cell_never.mp h hw⟩]
    exact List.mem_cons_self
def BddC (z : ES) (n : Nat) : Prop := ∃ f ∈ z.fs, ∃ g ∈ z.rs, (∃ ws, Way z.ms (z.hd ++ rep z.tn n) f g ws) ∧ Good z.ms (rep z.tn n) g g
def AlvC (z : ES) (n : Nat) : Prop := ∃ f ∈ z.fs, ∃ g ∈ z.rs, (∃ ws, Way z.ms (z.hd ++ rep z.tn n) f g ws) ∧ ∃ ws, Way z.ms (rep z.tn n) g g ws
theorem kind_c {k : Str} (h : KindIs z k) : ∃ i, z.idem i ∧ (k = "bounded" ↔ BddC z (i + 1)) ∧ (k = "never" ↔ ¬ AlvC z (i + 1)) ∧ (k = "bounded" ∨ k = "grows" ∨ k = "never") := by
  obtain ⟨i, hi, rfl⟩ := h
  refine ⟨i, hi, ?_⟩
  have hm := @marks_mem z W i
  generalize kmarks z.fs z.rs (joinC (cardC z.ms z.rs z.hd) (powC z.card i)) (powC z.card i) = L at hm
  have hb : (("full" : Str) ∈ L ∨ ("free" : Str) ∈ L) ↔ BddC z (i + 1) := by
    rw [hm, hm]
    constructor
    · rintro (⟨f, hf, g, hg, hw, e⟩ | ⟨f, hf, g, hg, hw, e⟩)
      · exact ⟨f, hf, g, hg, hw, cell_good.mp (.inl e.symm)⟩
      · exact ⟨f, hf, g, hg, hw, cell_good.mp (.inr e.symm)⟩
    · rintro ⟨f, hf, g, hg, hw, hgood⟩
      rcases cell_good.mpr hgood with e | e
      · exact .inl ⟨f, hf, g, hg, hw, e.symm⟩
      · exact .inr ⟨f, hf, g, hg, hw, e.symm⟩
  have ha : (("full" : Str) ∈ L ∨ ("free" : Str) ∈ L ∨ ("some" : Str) ∈ L) ↔ AlvC z (i + 1) := by
    rw [hm, hm, hm]
    constructor
    · rintro (⟨f, hf, g, hg, hw, e⟩ | ⟨f, hf, g, hg, hw, e⟩ | ⟨f, hf, g, hg, hw, e⟩) <;>
        exact ⟨f, hf, g, hg, hw, Classical.byContradiction fun no => by rw [cell_never.mpr no] at e; exact absurd e (by decide +kernel)⟩
    · rintro ⟨f, hf, g, hg, hw, hw2⟩
      have mem := best_mem (seenE z.ms (rep z.tn (i + 1)) g g)
      have n1 : cell z.ms (rep z.tn (i + 1)) g g ≠ "never" := fun e => cell_never.mp e hw2
      have n2 : cell z.ms (rep z.tn (i + 1)) g g ≠ "many" := cell_cases
      have mem : cell z.ms (rep z.tn (i + 1)) g g ∈ marks := mem
      unfold marks at mem
      simp only [List.mem_cons, List.not_mem_nil, or_false] at mem
      rcases mem with e | e | e | e | e
      · exact .inl ⟨f, hf, g, hg, hw, e.symm⟩
      · exact .inr (.inl ⟨f, hf, g, hg, hw, e.symm⟩)
      · exact .inr (.inr ⟨f, hf, g, hg, hw, e.symm⟩)
      · exact absurd e n2
      · exact absurd e n1
  unfold kindM
  by_cases h1 : ("full" : Str) ∈ L ∨ ("free" : Str) ∈ L
  · rw [if_pos h1]
    refine ⟨⟨fun _ => hb.mp h1, fun _ => rfl⟩, ⟨fun e => absurd e (by decide +kernel), fun e => absurd (ha.mp ?_) e⟩, .inl rfl⟩
    rcases h1 with h1 | h1
    · exact .inl h1
    · exact .inr (.inl h1)
  · rw [if_neg h1]
    by_cases h2 : ("some" : Str) ∈ L
    · rw [if_pos h2]
      exact ⟨⟨fun e => absurd e (by decide +kernel), fun e => absurd (hb.mpr e) h1⟩, ⟨fun e => absurd e (by decide +kernel), fun e => absurd (ha.mp (.inr (.inr h2))) e⟩, .inr (.inl rfl)⟩
    · rw [if_neg h2]
      refine ⟨⟨fun e => absurd e (by decide +kernel), fun e => absurd (hb.mpr e) h1⟩, ⟨fun _ e => ?_, fun _ => rfl⟩, .inr (.inr rfl)⟩
      rcases ha.mpr e with q | q | q
      · exact h1 (.inl q)
      · exact h1 (.inr q)
      · exact h2 q
end
end EV
namespace EV
open PySem L2 NT SX
/-! ### a book without end is bounded if and only if some purse lasts -/
structure Steps {α : Type} (R : α → α → Prop) (P : Nat → α → α → Prop) : Prop where
  zero : ∀ x g, P 0 x g ↔ x = g
  succ : ∀ K x g, P (K + 1) x g ↔ ∃ u, R x u ∧ P K u g
section
variable {α : Type} {R : α → α → Prop} {P : Nat → α → α → Prop}
theorem Steps.seq (S : Steps R P) : ∀ (K : Nat) (x g : α), P K x g → ∃ y : Nat → α, y 0 = x ∧ y K = g ∧ ∀ i, i < K → R (y i) (y (i + 1))
  | 0, x, g, h => ⟨fun _ => x, rfl, (S.zero x g).mp h, fun i hi => absurd hi (Nat.not_lt_zero _)⟩
  | K + 1, x, g, h => by
    obtain ⟨u, h1, h2⟩ := (S.succ K x g).mp h
    obtain ⟨y, y0, yK, hy⟩ := S.seq K u g h2
    refine ⟨fun i => match i with | 0 => x | i + 1 => y i, rfl, yK, fun i hi => ?_⟩
    cases i with
    | zero => show R x (y 0); rw [y0]; exact h1
    | succ i => exact hy i (by omega)
theorem Steps.seg (S : Steps R P) {y : Nat → α} {K : Nat} (h : ∀ i, i < K → R (y i) (y (i + 1))) : ∀ (d a : Nat), a + d ≤ K → P d (y a) (y (a + d))
  | 0, a, _ => (S.zero _ _).mpr rfl
  | d + 1, a, hb => by
    refine (S.succ _ _ _).mpr ⟨y (a + 1), h a (by omega), ?_⟩
    have := S.seg h d (a + 1) (by omega)
    rw [show a + (d + 1) = a + 1 + d by omega]
    exact this
theorem Steps.add (S : Steps R P) {b : Nat} {u g : α} (h2 : P b u g) : ∀ (a : Nat) (x : α), P a x u → P (a + b) x g
  | 0, x, h1 => by
    rw [(S.zero _ _).mp h1, Nat.zero_add]
    exact h2
  | a + 1, x, h1 => by
    obtain ⟨v, h3, h4⟩ := (S.succ _ _ _).mp h1
    rw [Nat.succ_add]
    exact (S.succ _ _ _).mpr ⟨v, h3, S.add h2 a v h4⟩
end
section
variable {ms : List Mn}
theorem steps_way {tn : List Str} : Steps (fun x g => ∃ ws, Way ms tn x g ws) (fun K x g => ∃ ws, Way ms (rep tn K) x g ws) where
  zero := fun x g => ⟨fun ⟨ws, h⟩ => h.1, fun e => ⟨[], e, rfl⟩⟩
  succ := fun K x g => by
    constructor
    · rintro ⟨ws, h⟩
      obtain ⟨u, w1, w2, _, h1, h2⟩ := way_app.mp (show Way ms (tn ++ rep tn K) x g ws from h)
      exact ⟨u, ⟨w1, h1⟩, w2, h2⟩
    · rintro ⟨u, ⟨w1, h1⟩, w2, h2⟩
      exact ⟨w1 ++ w2, show Way ms (tn ++ rep tn K) x g _ from way_app.mpr ⟨u, w1, w2, rfl, h1, h2⟩⟩
def Run (ms : List Mn) (p : Int) (b : List Str) (x g : Str × Int) : Prop := ∃ ws, Way ms b x.1 g.1 ws ∧ run p ws x.2 = some g.2
theorem steps_run {tn : List Str} {p : Int} : Steps (Run ms p tn) (fun K x g => Run ms p (rep tn K) x g) where
  zero := fun x g => ⟨fun ⟨ws, h, hr⟩ => by
    obtain ⟨h1, rfl⟩ := h
    have e := Option.some.inj (show some x.2 = some g.2 from hr)
    exact Prod.ext h1 e, fun e => by rw [e]; exact ⟨[], ⟨rfl, rfl⟩, rfl⟩⟩
  succ := fun K x g => by
    constructor
    · rintro ⟨ws, h, hr⟩
      obtain ⟨u, w1, w2, rfl, h1, h2⟩ := way_app.mp (show Way ms (tn ++ rep tn K) x.1 g.1 ws from h)
      obtain ⟨c, r1, r2⟩ := run_some.mp hr
      exact ⟨(u, c), ⟨w1, h1, r1⟩, w2, h2, r2⟩
    · rintro ⟨u, ⟨w1, h1, r1⟩, w2, h2, r2⟩
      exact ⟨w1 ++ w2, show Way ms (tn ++ rep tn K) x.1 g.1 _ from way_app.mpr ⟨u.1, w1, w2, rfl, h1, h2⟩, run_some.mpr ⟨u.2, r1, r2⟩⟩
theorem rep_mul {tn : List Str} {n : Nat} : ∀ K, rep tn (n * K) = rep (rep tn n) K
  | 0 => rfl
  | K + 1 => by
    rw [Nat.mul_succ, Nat.add_comm, rep_add, rep_mul K]
    rfl
theorem way_in {rs : List Str} (hc : ∀ m ∈ ms, m.c ∈ rs) : ∀ {b : List Str} {r g : Str} {ws : List Mn}, r ∈ rs → Way ms b r g ws → g ∈ rs
  | [], r, g, ws, hr, h => by rw [← h.1]; exact hr
  | j :: b, r, g, ws, hr, h => by
    obtain ⟨m, w, rfl, h1, _, _, h4⟩ := h
    exact way_in hc (hc m h1) h4
/-- a shorter way -/
theorem shorten {rs tn : List Str} (hc : ∀ m ∈ ms, m.c ∈ rs) : ∀ (a : Nat) {x g : Str}, x ∈ rs → (∃ ws, Way ms (rep tn a) x g ws) → ∃ a', a' ≤ rs.length ∧ ∃ ws, Way ms (rep tn a') x g ws := by
  intro a
  induction a using Nat.strongRecOn with
  | _ a ih =>
    intro x g hx h
    by_cases ha : a ≤ rs.length
    · exact ⟨a, ha, h⟩
    · obtain ⟨y, y0, ya, hy⟩ := (steps_way (ms := ms) (tn := tn)).seq a x g h
      have iny : ∀ i, i ≤ a → y i ∈ rs := by
        intro i
        induction i with
        | zero => intro _; rw [y0]; exact hx
        | succ i ihi =>
          intro hi
          obtain ⟨w, hw⟩ := hy i (by omega)
          exact way_in hc (ihi (by omega)) hw
      obtain ⟨i, j, hij, hj, e⟩ := pigeon rs y fun i hi => iny i (by omega)
      have s1 := (steps_way (ms := ms) (tn := tn)).seg hy i 0 (by omega)
      have s2 := (steps_way (ms := ms) (tn := tn)).seg hy (a - j) j (by omega)
      rw [Nat.zero_add, y0, e] at s1
      rw [show j + (a - j) = a by omega, ya] at s2
      exact ih (i + (a - j)) (by omega) hx ((steps_way (ms := ms) (tn := tn)).add s2 i x s1)
/-- the round with a fill -/
theorem fill_round {tn : List Str} {m : Mn} : ∀ (n : Nat) {g h : Str} {ws : List Mn}, Way ms (rep tn n) g h ws → m ∈ ws → ∃ a b u v w, a + 1 + b = n ∧ (∃ w1, Way ms (rep tn a) g u w1) ∧ Way ms tn u v w ∧ m ∈ w ∧ ∃ w3, Way ms (rep tn b) v h w3
  | 0, g, h, ws, hw, hm => by
    rw [hw.2] at hm
    cases hm
  | n + 1, g, h, ws, hw, hm => by
    obtain ⟨u, w1, w2, rfl, h1, h2⟩ := way_app.mp (show Way ms (tn ++ rep tn n) g h ws from hw)
    rcases List.mem_append.mp hm with q | q
    · exact ⟨0, n, g, u, w1, by omega, ⟨[], rfl, rfl⟩, h1, q, w2, h2⟩
    · obtain ⟨a, b, u', v, w, e, p1, p2, p3, p4⟩ := fill_round n h2 q
      refine ⟨a + 1, b, u', v, w, by omega, ?_, p2, p3, p4⟩
      obtain ⟨w1', p1⟩ := p1
      exact ⟨w1 ++ w1', show Way ms (tn ++ rep tn a) g u' _ from way_app.mpr ⟨u, w1, w1', rfl, h1, p1⟩⟩
theorem effk {m : Mn} (h : EffK m.w m.ns) : 0 ≤ m.ns.headD 0 ∧ m.ns.headD 0 ≤ 3 ∧ 0 ≤ m.ns.getD 1 0 ∧ m.ns.getD 1 0 ≤ 3 ∧ (m.w = "coins" ∨ m.w = "fill") := by
  obtain ⟨h1, h2⟩ := h
  have hw : m.w = "coins" ∨ m.w = "fill" := by
    rcases h1 with ⟨e, _⟩ | ⟨e, _⟩
    · exact .inl e
    · exact .inr e
  generalize m.ns = ns at h1 h2
  match ns with
  | [] => exact ⟨by decide, by decide, by decide, by decide, hw⟩
  | [a] =>
    have := h2 a List.mem_cons_self
    exact ⟨this.1, this.2, Int.le_refl 0, by show (0 : Int) ≤ 3; decide, hw⟩
  | a :: b :: t =>
    have h3 := h2 a List.mem_cons_self
    have h4 := h2 b (List.mem_cons_of_mem _ List.mem_cons_self)
    exact ⟨h3.1, h3.2, h4.1, h4.2, hw⟩
theorem left_le {m : Mn} (h : EffK m.w m.ns) {c p l : Int} (hl : leftS m.w m.ns c p = some l) (hc : c ≤ p) : l ≤ p := by
  obtain ⟨e1, _, e3, _, _⟩ := effk h
  obtain ⟨h1, h2⟩ := left_some.mp hl
  rcases h2 with ⟨_, rfl⟩ | ⟨_, _, rfl⟩ <;> omega
theorem run_le {p : Int} : ∀ {ws : List Mn} {c c' : Int}, (∀ m ∈ ws, EffK m.w m.ns) → run p ws c = some c' → c ≤ p → c' ≤ p
  | [], c, c', _, h, hc => by cases h; exact hc
  | m :: ws, c, c', hk, h, hc => by
    obtain ⟨l, h1, h2⟩ := Option.bind_eq_some_iff.mp h
    exact run_le (fun x hx => hk x (List.mem_cons_of_mem _ hx)) h2 (left_le (hk m List.mem_cons_self) h1 hc)
theorem run_keep {p : Int} : ∀ {ws : List Mn} {c c' : Int}, (∀ m ∈ ws, EffK m.w m.ns) → (∀ m ∈ ws, m.w ≠ "fill") → run p ws c = some c' → c' ≤ c ∧ (c' = c → ∀ m ∈ ws, m.ns.headD 0 ≤ 0)
  | [], c, c', _, _, h => by cases h; exact ⟨Int.le_refl _, fun _ _ h => absurd h List.not_mem_nil⟩
  | m :: ws, c, c', hk, hf, h => by
    obtain ⟨l, h1, h2⟩ := Option.bind_eq_some_iff.mp h
    obtain ⟨i1, i2⟩ := run_keep (fun x hx => hk x (List.mem_cons_of_mem _ hx)) (fun x hx => hf x (List.mem_cons_of_mem _ hx)) h2
    obtain ⟨e1, _, _, _, e5⟩ := effk (hk m List.mem_cons_self)
    have hw : m.w = "coins" := e5.resolve_right (hf m List.mem_cons_self)
    obtain ⟨h3, h4⟩ := left_some.mp h1
    rcases h4 with ⟨_, rfl⟩ | ⟨h4, _⟩
    · refine ⟨by omega, fun e x hx => ?_⟩
      rcases List.mem_cons.mp hx with rfl | hx
      · omega
      · exact i2 (by omega) x hx
    · exact absurd hw h4
/-- with enough coins each way can be gone -/
theorem run_rich {p : Int} : ∀ {ws : List Mn} {c : Int}, (∀ m ∈ ws, EffK m.w m.ns) → 3 * (ws.length : Int) ≤ c → 3 * (ws.length : Int) ≤ p → ∃ c', run p ws c = some c' ∧ (c ≤ p → c - 3 * (ws.length : Int) ≤ c') ∧ (p ≤ c → p - 3 * (ws.length : Int) ≤ c')
  | [], c, _, _, _ => ⟨c, rfl, fun _ => by simp, fun h => by simpa using h⟩
  | m :: ws, c, hk, hc, hp => by
    rw [List.length_cons, Int.natCast_add] at hc hp
    obtain ⟨e1, e2, e3, e4, e5⟩ := effk (hk m List.mem_cons_self)
    have hcc : ((1 : Nat) : Int) = 1 := rfl
    rw [hcc] at hc hp
    have n0 : (0 : Int) ≤ (ws.length : Int) := Int.natCast_nonneg _
    rw [List.length_cons, Int.natCast_add, hcc]
    by_cases hw : m.w = "coins"
    · obtain ⟨c', h1, h2, h3⟩ := run_rich (p := p) (ws := ws) (c := c - m.ns.headD 0) (fun x hx => hk x (List.mem_cons_of_mem _ hx)) (by omega) (by omega)
      refine ⟨c', Option.bind_eq_some_iff.mpr ⟨_, left_some.mpr ⟨by omega, .inl ⟨hw, rfl⟩⟩, h1⟩, fun h => ?_, fun h => ?_⟩
      · have := h2 (by omega); omega
      · by_cases q : c - m.ns.headD 0 ≤ p
        · have := h2 q; omega
        · have := h3 (by omega); omega
    · obtain ⟨c', h1, h2, h3⟩ := run_rich (p := p) (ws := ws) (c := p - m.ns.getD 1 0) (fun x hx => hk x (List.mem_cons_of_mem _ hx)) (by omega) (by omega)
      refine ⟨c', Option.bind_eq_some_iff.mpr ⟨_, left_some.mpr ⟨by omega, .inr ⟨hw, by omega, rfl⟩⟩, h1⟩, fun h => ?_, fun h => ?_⟩
      · have := h2 (by omega); omega
      · have := h2 (by omega); omega
/-- a way with a fill leaves much, whatever was there -/
theorem run_fill {p : Int} : ∀ {ws : List Mn} {c : Int}, (∀ m ∈ ws, EffK m.w m.ns) → (∃ m ∈ ws, m.w = "fill") → 3 * (ws.length : Int) ≤ c → 3 * (ws.length : Int) ≤ p → ∃ c', run p ws c = some c' ∧ p - 3 * (ws.length : Int) ≤ c'
  | [], c, _, h, _, _ => by
    obtain ⟨m, hm, _⟩ := h
    cases hm
  | m :: ws, c, hk, hf, hc, hp => by
    rw [List.length_cons, Int.natCast_add] at hc hp
    obtain ⟨e1, e2, e3, e4, e5⟩ := effk (hk m List.mem_cons_self)
    have hcc : ((1 : Nat) : Int) = 1 := rfl
    rw [hcc] at hc hp
    have n0 : (0 : Int) ≤ (ws.length : Int) := Int.natCast_nonneg _
    rw [List.length_cons, Int.natCast_add, hcc]
    have hk' : ∀ x ∈ ws, EffK x.w x.ns := fun x hx => hk x (List.mem_cons_of_mem _ hx)
    by_cases hw : m.w = "coins"
    · have hf' : ∃ m ∈ ws, m.w = "fill" := by
        obtain ⟨x, hx, e⟩ := hf
        rcases List.mem_cons.mp hx with rfl | hx
        · rw [hw] at e
          exact absurd e (by decide +kernel)
        · exact ⟨x, hx, e⟩
      obtain ⟨c', h1, h2⟩ := run_fill (p := p) (ws := ws) (c := c - m.ns.headD 0) hk' hf' (by omega) (by omega)
      exact ⟨c', Option.bind_eq_some_iff.mpr ⟨_, left_some.mpr ⟨by omega, .inl ⟨hw, rfl⟩⟩, h1⟩, by omega⟩
    · obtain ⟨c', h1, h2, h3⟩ := run_rich (p := p) (ws := ws) (c := p - m.ns.getD 1 0) hk' (by omega) (by omega)
      have := h2 (by omega)
      exact ⟨c', Option.bind_eq_some_iff.mpr ⟨_, left_some.mpr ⟨by omega, .inr ⟨hw, by omega, rfl⟩⟩, h1⟩, by omega⟩
theorem run_zero {p : Int} : ∀ {ws : List Mn} {c : Int}, (∀ m ∈ ws, EffK m.w m.ns) → (∀ m ∈ ws, m.w ≠ "fill" ∧ m.ns.headD 0 ≤ 0) → 0 ≤ c → run p ws c = some c
  | [], c, _, _, _ => rfl
  | m :: ws, c, hk, hz, hc => by
    obtain ⟨e1, _, _, _, e5⟩ := effk (hk m List.mem_cons_self)
    obtain ⟨z1, z2⟩ := hz m List.mem_cons_self
    have ih := run_zero (p := p) (ws := ws) (c := c) (fun x hx => hk x (List.mem_cons_of_mem _ hx)) (fun x hx => hz x (List.mem_cons_of_mem _ hx)) hc
    exact Option.bind_eq_some_iff.mpr ⟨c, left_some.mpr ⟨by omega, .inl ⟨e5.resolve_right z1, by omega⟩⟩, ih⟩
end
end EV
namespace EV
open PySem L2 NT SX
def Surv (z : ES) (p : Int) : Prop := ∀ j, ¬ Emp (rowN z p j)
def Going (z : ES) (p : Int) (j : Nat) : Prop := ∃ f ∈ z.fs, ∃ g ws c, Way z.ms (z.hd ++ rep z.tn j) f g ws ∧ run p ws p = some c
def Alive (z : ES) : Prop := ∀ j, ∃ f ∈ z.fs, ∃ g ws, Way z.ms (z.hd ++ rep z.tn j) f g ws
theorem first_some {fs : List Str} {p : Int} {r : Str} {c : Int} : firstF fs p r = some c ↔ r ∈ fs ∧ c = p := by
  unfold firstF
  split
  · rename_i h
    constructor
    · intro e
      cases e
      exact ⟨h, rfl⟩
    · rintro ⟨_, rfl⟩
      rfl
  · rename_i h
    constructor
    · intro e
      cases e
    · rintro ⟨h', _⟩
      exact absurd h' h
theorem going_iff {z : ES} {p : Int} {j : Nat} : ¬ Emp (rowN z p j) ↔ Going z p j := by
  rw [rowN_eq]
  constructor
  · intro h
    refine Classical.byContradiction fun no => h fun g => ?_
    cases e : bookF z.ms (firstF z.fs p) (z.hd ++ rep z.tn j) p g with
    | none => rfl
    | some c =>
      obtain ⟨r, ws, c0, h1, h2, h3⟩ := book_of e
      obtain ⟨hr, rfl⟩ := first_some.mp h1
      exact absurd ⟨r, hr, g, ws, c, h2, h3⟩ no
  · rintro ⟨f, hf, g, ws, c, h1, h2⟩ he
    obtain ⟨c', h3, _⟩ := book_max (ms := z.ms) (F := firstF z.fs p) (first_some.mpr ⟨hf, rfl⟩) h1 h2
    rw [he g] at h3
    cases h3
theorem emp_add {z : ES} {p : Int} {j : Nat} (h : Emp (rowN z p j)) : ∀ d, Emp (rowN z p (j + d))
  | 0 => h
  | d + 1 => book_emp (emp_add h d)
theorem surv_of {z : ES} {p : Int} (h : ∀ j, ∃ k, j ≤ k ∧ Going z p k) : Surv z p := fun j e => by
  obtain ⟨k, hk, g⟩ := h j
  have := emp_add e (k - j)
  rw [show j + (k - j) = k by omega] at this
  exact going_iff.mpr g this
def top0 (z : ES) : Nat := max (3 * (z.hd.length + z.rs.length * z.tn.length) + 3 * ((2 * z.rs.length + 1) * z.tn.length)) (6 * ((2 * z.rs.length + 1) * z.tn.length))
section
variable {z : ES} (W : ESW z)
include W
theorem mk {b : List Str} {r g : Str} {ws : List Mn} (h : Way z.ms b r g ws) : ∀ m ∈ ws, EffK m.w m.ns := fun m hm => W.hk m (h.mem m hm)
/-- a ring that can be gone for ever -/
theorem ring {p : Int} {a R : Nat} {f g : Str} {w1 w : List Mn} {c0 lo : Int} (hf : f ∈ z.fs) (hR : 1 ≤ R) (h1 : Way z.ms (z.hd ++ rep z.tn a) f g w1) (r1 : run p w1 p = some c0) (l1 : lo ≤ c0)
    (h2 : Way z.ms (rep z.tn R) g g w) (r2 : ∀ c, lo ≤ c → ∃ c', run p w c = some c' ∧ lo ≤ c') : Surv z p := by
  have key : ∀ K : Nat, ∃ ws c, Way z.ms (z.hd ++ rep z.tn (a + K * R)) f g ws ∧ run p ws p = some c ∧ lo ≤ c := by
    intro K
    induction K with
    | zero => exact ⟨w1, c0, by rw [Nat.zero_mul, Nat.add_zero]; exact h1, r1, l1⟩
    | succ K ih =>
      obtain ⟨ws, c, h3, h4, h5⟩ := ih
      obtain ⟨c', h6, h7⟩ := r2 c h5
      refine ⟨ws ++ w, c', ?_, run_some.mpr ⟨c, h4, h6⟩, h7⟩
      rw [Nat.succ_mul, ← Nat.add_assoc, rep_add, ← List.append_assoc]
      exact way_app.mpr ⟨g, ws, w, rfl, h3, h2⟩
  refine surv_of fun j => ?_
  obtain ⟨ws, c, h3, h4, _⟩ := key j
  exact ⟨a + j * R, Nat.le_trans (Nat.le_mul_of_pos_right j hR) (Nat.le_add_left _ _), f, hf, g, ws, c, h3, h4⟩
theorem surv_bdd {n : Nat} (hn : 1 ≤ n) (h : BddC z n) : Surv z (top0 z : Nat) := by
  obtain ⟨f, hf, g, hg, ⟨ws, hw⟩, ws2, hw2, good⟩ := h
  obtain ⟨x, u1, u2, _, hu1, hu2⟩ := way_app.mp hw
  have hx : x ∈ z.rs := way_in W.hc (W.hf f hf) hu1
  obtain ⟨a, ha, v2, hv2⟩ := shorten W.hc n hx ⟨u2, hu2⟩
  have h1 : Way z.ms (z.hd ++ rep z.tn a) f g (u1 ++ v2) := way_app.mpr ⟨x, u1, v2, rfl, hu1, hv2⟩
  have len1 : (u1 ++ v2).length ≤ z.hd.length + z.rs.length * z.tn.length := by
    rw [h1.len, List.length_append, rep_len]
    exact Nat.add_le_add_left (Nat.mul_le_mul_right _ ha) _
  have k1 := mk W h1
  obtain ⟨c0, r1, c1, _⟩ := run_rich (p := (top0 z : Nat)) (ws := u1 ++ v2) (c := (top0 z : Nat)) k1 (by unfold top0; omega) (by unfold top0; omega)
  have c1 := c1 (Int.le_refl _)
  by_cases hfill : ∃ m ∈ ws2, m.w = "fill"
  · obtain ⟨m, hm, em⟩ := hfill
    obtain ⟨a1, b1, u, v, w, e, ⟨w1', p1⟩, p2, p3, w3, p4⟩ := fill_round n hw2 hm
    have hu : u ∈ z.rs := way_in W.hc hg p1
    have hv : v ∈ z.rs := way_in W.hc hu p2
    obtain ⟨a', ha', q1, hq1⟩ := shorten W.hc a1 hg ⟨w1', p1⟩
    obtain ⟨b', hb', q3, hq3⟩ := shorten W.hc b1 hv ⟨w3, p4⟩
    have hr : Way z.ms (rep z.tn (a' + 1 + b')) g g (q1 ++ w ++ q3) := by
      rw [rep_add, rep_add, rep_one]
      exact way_app.mpr ⟨v, q1 ++ w, q3, rfl, way_app.mpr ⟨u, q1, w, rfl, hq1, p2⟩, hq3⟩
    have kr := mk W hr
    have lr : (q1 ++ w ++ q3).length ≤ (2 * z.rs.length + 1) * z.tn.length := by
      rw [hr.len, rep_len]
      exact Nat.mul_le_mul_right _ (by omega)
    refine ring W (lo := 3 * (((q1 ++ w ++ q3).length : Nat) : Int)) hf (by omega) h1 r1 (by unfold top0 at c1; omega) hr fun c hc => ?_
    obtain ⟨c', r2, r3⟩ := run_fill (p := (top0 z : Nat)) (c := c) kr ⟨m, List.mem_append_left _ (List.mem_append_right _ p3), em⟩ hc (by unfold top0; omega)
    exact ⟨c', r2, by unfold top0 at r3; omega⟩
  · have hz : ∀ m ∈ ws2, m.w ≠ "fill" ∧ m.ns.headD 0 ≤ 0 := by
      rcases good with q | q
      · exact absurd q hfill
      · exact q
    exact ring W (lo := 0) hf hn h1 r1 (run_nat (by omega) r1) hw2 fun c hc => ⟨c, run_zero (mk W hw2) hz hc, hc⟩
theorem bdd_surv {i : Nat} (hi : z.idem i) {p : Nat} (h : Surv z p) : BddC z (i + 1) := by
  have hg := going_iff.mp (h ((i + 1) * (z.rs.length * (p + 1))))
  obtain ⟨f, hf, g, ws, c, hw, hr⟩ := hg
  obtain ⟨x, w1, w2, rfl, h1, h2⟩ := way_app.mp hw
  obtain ⟨c0, r1, r2⟩ := run_some.mp hr
  rw [rep_mul] at h2
  obtain ⟨y, y0, yK, hy⟩ := (steps_run (ms := z.ms) (tn := rep z.tn (i + 1)) (p := (p : Int))).seq _ (x, c0) (g, c) ⟨w2, h2, r2⟩
  have c0p : c0 ≤ p := run_le (mk W h1) r1 (Int.le_refl _)
  have c0n : 0 ≤ c0 := run_nat (Int.natCast_nonneg p) r1
  have hx : x ∈ z.rs := way_in W.hc (W.hf f hf) h1
  have iny : ∀ k, k ≤ z.rs.length * (p + 1) → (y k).1 ∈ z.rs ∧ 0 ≤ (y k).2 ∧ (y k).2 ≤ p := by
    intro k
    induction k with
    | zero =>
      intro _
      rw [y0]
      exact ⟨hx, c0n, c0p⟩
    | succ k ih =>
      intro hk
      obtain ⟨a1, a2, a3⟩ := ih (by omega)
      obtain ⟨w, hw, hr⟩ := hy k (by omega)
      exact ⟨way_in W.hc a1 hw, run_nat a2 hr, run_le (mk W hw) hr a3⟩
  have lenL : (z.rs.flatMap fun r => (List.range (p + 1)).map fun c : Nat => (r, (c : Int))).length = z.rs.length * (p + 1) := flatMap_len _ fun r => by rw [List.length_map, List.length_range]
  obtain ⟨a, b, hab, hb, e⟩ := pigeon (z.rs.flatMap fun r => (List.range (p + 1)).map fun c : Nat => (r, (c : Int))) y fun k hk => by
    obtain ⟨a1, a2, a3⟩ := iny k (by rw [← lenL]; exact hk)
    rw [List.mem_flatMap]
    refine ⟨(y k).1, a1, List.mem_map.mpr ⟨(y k).2.toNat, List.mem_range.mpr (by omega), ?_⟩⟩
    exact Prod.ext rfl (by show ((y k).2.toNat : Int) = (y k).2; omega)
  rw [lenL] at hb
  obtain ⟨ga, gn, gp⟩ := iny a (by omega)
  obtain ⟨wr, hwr, rwr⟩ := (steps_run (ms := z.ms) (tn := rep z.tn (i + 1)) (p := (p : Int))).seg hy (b - a) a (by omega)
  rw [show a + (b - a) = b by omega, ← e, ← rep_mul] at hwr
  rw [show a + (b - a) = b by omega, ← e] at rwr
  obtain ⟨wh, hwh, _⟩ := (steps_run (ms := z.ms) (tn := rep z.tn (i + 1)) (p := (p : Int))).seg hy b 0 (by omega)
  rw [Nat.zero_add, y0, ← e, ← rep_mul] at hwh
  have good : Good z.ms (rep z.tn ((i + 1) * (b - a))) (y a).1 (y a).1 := by
    refine ⟨wr, hwr, ?_⟩
    by_cases hfill : ∃ m ∈ wr, m.w = "fill"
    · exact .inl hfill
    · have nf : ∀ m ∈ wr, m.w ≠ "fill" := fun m hm e => hfill ⟨m, hm, e⟩
      exact .inr fun m hm => ⟨nf m hm, (run_keep (mk W hwr) nf rwr).2 rfl m hm⟩
  refine ⟨f, hf, (y a).1, ga, ?_, ?_⟩
  · have hh : ∃ ws, Way z.ms (z.hd ++ rep z.tn ((i + 1) * (b - 1 + 1))) f (y a).1 ws := ⟨w1 ++ wh, by
      rw [show b - 1 + 1 = b by omega]
      exact way_app.mpr ⟨x, w1, wh, rfl, h1, hwh⟩⟩
    refine Classical.byContradiction fun no => ?_
    have n1 := cell_never.mpr no
    rw [← cell_mulH W (m := b - 1) hi (W.hf f hf) ga] at n1
    exact cell_never.mp n1 hh
  · rw [← cell_good, ← cell_mul W (m := b - a - 1) hi ga ga, show b - a - 1 + 1 = b - a by omega, cell_good]
    exact good
theorem alive_alv {i : Nat} (hi : z.idem i) : AlvC z (i + 1) ↔ Alive z := by
  constructor
  · rintro ⟨f, hf, g, hg, ⟨w1, h1⟩, w2, h2⟩ j
    have key : ∀ K : Nat, ∃ ws, Way z.ms (z.hd ++ rep z.tn ((i + 1) + K * (i + 1))) f g ws := by
      intro K
      induction K with
      | zero => exact ⟨w1, by rw [Nat.zero_mul, Nat.add_zero]; exact h1⟩
      | succ K ih =>
        obtain ⟨ws, h3⟩ := ih
        refine ⟨ws ++ w2, ?_⟩
        rw [Nat.succ_mul, ← Nat.add_assoc, rep_add, ← List.append_assoc]
        exact way_app.mpr ⟨g, ws, w2, rfl, h3, h2⟩
    obtain ⟨ws, h3⟩ := key j
    have hj : j ≤ i + 1 + j * (i + 1) := Nat.le_trans (Nat.le_mul_of_pos_right j (by omega)) (Nat.le_add_left _ _)
    rw [show i + 1 + j * (i + 1) = j + (i + 1 + j * (i + 1) - j) by omega, rep_add, ← List.append_assoc] at h3
    obtain ⟨u, v1, v2, _, h4, _⟩ := way_app.mp h3
    exact ⟨f, hf, u, v1, h4⟩
  · intro h
    obtain ⟨f, hf, g, ws, hw⟩ := h ((i + 1) * z.rs.length)
    obtain ⟨x, w1, w2, rfl, h1, h2⟩ := way_app.mp hw
    rw [rep_mul] at h2
    obtain ⟨y, y0, yK, hy⟩ := (steps_way (ms := z.ms) (tn := rep z.tn (i + 1))).seq _ x g ⟨w2, h2⟩
    have hx : x ∈ z.rs := way_in W.hc (W.hf f hf) h1
    have iny : ∀ k, k ≤ z.rs.length → y k ∈ z.rs := by
      intro k
      induction k with
      | zero => intro _; rw [y0]; exact hx
      | succ k ih =>
        intro hk
        obtain ⟨w, hw⟩ := hy k (by omega)
        exact way_in W.hc (ih (by omega)) hw
    obtain ⟨a, b, hab, hb, e⟩ := pigeon z.rs y iny
    have ga := iny a (by omega)
    obtain ⟨wr, hwr⟩ := (steps_way (ms := z.ms) (tn := rep z.tn (i + 1))).seg hy (b - a) a (by omega)
    rw [show a + (b - a) = b by omega, ← e, ← rep_mul] at hwr
    obtain ⟨wh, hwh⟩ := (steps_way (ms := z.ms) (tn := rep z.tn (i + 1))).seg hy b 0 (by omega)
    rw [Nat.zero_add, y0, ← e, ← rep_mul] at hwh
    refine ⟨f, hf, y a, ga, ?_, ?_⟩
    · refine Classical.byContradiction fun no => ?_
      have n1 := cell_never.mpr no
      rw [← cell_mulH W (m := b - 1) hi (W.hf f hf) ga] at n1
      exact cell_never.mp n1 ⟨w1 ++ wh, by
        rw [show b - 1 + 1 = b by omega]
        exact way_app.mpr ⟨x, w1, wh, rfl, h1, hwh⟩⟩
    · refine Classical.byContradiction fun no => ?_
      have n1 := cell_never.mpr no
      rw [← cell_mul W (m := b - a - 1) hi ga ga] at n1
      exact cell_never.mp n1 ⟨wr, by
        rw [show b - a - 1 + 1 = b - a by omega]
        exact hwr⟩
def Bdd (z : ES) : Prop := ∃ p : Nat, Surv z p
/-- what the kind says -/
theorem kind_is {k : Str} (h : KindIs z k) : (k = "bounded" ↔ Bdd z) ∧ (k = "never" ↔ ¬ Alive z) ∧ (k = "bounded" ∨ k = "grows" ∨ k = "never") := by
  obtain ⟨i, hi, h1, h2, h3⟩ := kind_c W h
  refine ⟨?_, ?_, h3⟩
  · rw [h1]
    exact ⟨fun b => ⟨top0 z, surv_bdd W (by omega) b⟩, fun ⟨p, hp⟩ => bdd_surv W hi hp⟩
  · rw [h2, alive_alv W hi]
theorem top_le : top0 z ≤ 213 := by
  unfold top0
  have h1 : z.rs.length * z.tn.length ≤ 3 * 5 := Nat.mul_le_mul W.r3 W.t4
  have h2 : (2 * z.rs.length + 1) * z.tn.length ≤ 7 * 5 := Nat.mul_le_mul (by have := W.r3; omega) W.t4
  have := W.h3
  omega
theorem row_in {p : Int} (hp : 0 ≤ p) {j : Nat} {r : Str} {c : Int} (h : rowN z p j r = some c) : r ∈ z.rs ∧ 0 ≤ c ∧ c ≤ p := by
  rw [rowN_eq] at h
  obtain ⟨f, ws, c0, h1, h2, h3⟩ := book_of h
  obtain ⟨hf, rfl⟩ := first_some.mp h1
  exact ⟨way_in W.hc (W.hf f hf) h2, run_nat hp h3, run_le (mk W h2) h3 (Int.le_refl _)⟩
theorem dry_ok {p : Nat} (hp : p ≤ 213) : DryOk z p := by
  obtain ⟨i, j, hij, hj, e⟩ := pigeon (tuples (none :: (List.range (p + 1)).map some) z.rs.length) (fun j => z.rs.map fun r => (rowN z p j r).map Int.toNat) fun j _ => by
    have := tuples_mem (A := none :: (List.range (p + 1)).map some) (l := z.rs.map fun r => (rowN z p j r).map Int.toNat) fun x hx => by
      obtain ⟨r, _, rfl⟩ := List.mem_map.mp hx
      cases q : rowN z p j r with
      | none => exact List.mem_cons_self
      | some c =>
        obtain ⟨_, b1, b2⟩ := row_in W (Int.natCast_nonneg p) q
        exact List.mem_cons_of_mem _ (List.mem_map.mpr ⟨c.toNat, List.mem_range.mpr (by omega), rfl⟩)
    rw [List.length_map] at this
    exact this
  have hl : (tuples (none :: (List.range (p + 1)).map some) z.rs.length).length ≤ 215 ^ 3 := by
    rw [tuples_len, List.length_cons, List.length_map, List.length_range]
    exact Nat.le_trans (Nat.pow_le_pow_left (by omega : p + 1 + 1 ≤ 215) _) (Nat.pow_le_pow_right (by omega) W.r3)
  refine ⟨j, Nat.lt_of_le_of_lt (Nat.le_trans hj hl) (by decide), .inr ⟨i, hij, ?_⟩⟩
  funext r
  by_cases hr : r ∈ z.rs
  · have h := List.map_inj_left.mp e r hr
    cases q1 : rowN z p i r with
    | none =>
      cases q2 : rowN z p j r with
      | none => rfl
      | some c => rw [q1, q2] at h; cases h
    | some c =>
      cases q2 : rowN z p j r with
      | none => rw [q1, q2] at h; cases h
      | some c' =>
        rw [q1, q2] at h
        have h' : c.toNat = c'.toNat := Option.some.inj h
        have b1 := row_in W (Int.natCast_nonneg p) q1
        have b2 := row_in W (Int.natCast_nonneg p) q2
        congr 1
        omega
  · have n : ∀ k, rowN z p k r = none := fun k => by
      cases q : rowN z p k r with
      | none => rfl
      | some c => exact absurd (row_in W (Int.natCast_nonneg p) q).1 hr
    rw [n, n]
theorem least_ok : LeastOk z := fun h => by
  obtain ⟨i, hi, h1, _⟩ := kind_c W h
  refine ⟨top0 z, surv_bdd W (by omega) (h1.mp rfl), fun p hp => dry_ok W ?_⟩
  have := top_le W
  omega
theorem kind_ex : ∃ k, KindIs z k := by
  obtain ⟨N, hN⟩ := idem_ex z
  exact ⟨_, N, hN, rfl⟩
/-- what the need says -/
theorem need_is {o : Option Int} (h : NeedIs z o) : (o = none ∧ ¬ Bdd z) ∨ ∃ p : Nat, o = some (p : Int) ∧ Surv z p ∧ ∀ q : Nat, q < p → ¬ Surv z q := by
  rcases h with ⟨k, hk, hb, rfl⟩ | ⟨p, rfl, _, hs, hq⟩
  · exact .inl ⟨rfl, fun b => hb ((kind_is W hk).1.mpr b)⟩
  · refine .inr ⟨p, rfl, hs, fun q hlt s => ?_⟩
    obtain ⟨j, hj⟩ := hq q hlt
    exact s j hj
end
end EV
namespace EV
open PySem L2 NT SX
open PyProof.Rows (sortedS)
/-- at t a tuple of texts, ascending, each once -/
structure LotAt (H : Hp) (t : Addr) (ys : List Str) : Prop where
  t : H t = some (.tup (ys.map V.str))
  so : sortedS ys = true
  nd : ys.Nodup
theorem LotAt.same {H H' : Hp} {t : Addr} {ys : List Str} (x : LotAt H t ys) (s : Same H H') : LotAt H' t ys := ⟨s _ _ x.t, x.so, x.nd⟩
def lotS (ms : List Mn) (L : List Str) (j : Str) : List Str := (ms.filter fun m => decide (m.b = j ∧ m.a ∈ L)).map (·.c)
theorem lot_mem {ms : List Mn} {L : List Str} {j x : Str} : x ∈ lotS ms L j ↔ ∃ m ∈ ms, m.b = j ∧ m.a ∈ L ∧ m.c = x := by
  unfold lotS
  simp only [List.mem_map, List.mem_filter, decide_eq_true_eq]
  constructor
  · rintro ⟨m, ⟨h1, h2, h3⟩, h4⟩
    exact ⟨m, h1, h2, h3, h4⟩
  · rintro ⟨m, h1, h2, h3, h4⟩
    exact ⟨m, ⟨h1, h2, h3⟩, h4⟩
theorem ded_snoc {xs : List Str} {y : Str} : ded (xs ++ [y]) = ins (ded xs) y := by
  unfold ded
  rw [List.foldl_append]
  rfl
theorem ded_nodup (xs : List Str) : (ded xs).Nodup := by
  have key : ∀ (xs L : List Str), L.Nodup → (xs.foldl ins L).Nodup := by
    intro xs
    induction xs with
    | nil => intro L h; exact h
    | cons x xs ih =>
      intro L h
      refine ih _ ?_
      unfold ins
      split
      · exact h
      · rename_i hx
        exact List.nodup_cons.mpr ⟨hx, h⟩
  exact key xs [] List.nodup_nil
def tLot (K : PySem.W.Frag) : TT := tAnd (tB (tOp rEq (tOp (rIxT K) (tVar 3) (tC (.int 1))) (tVar 2))) (tB (tOp (rIn K false) (tOp (rIxT K) (tVar 3) (tC (.int 0))) (tVar 1)))
section
variable {P : Program} {w : PySem.World} {K : PySem.W.Frag} {mg : Str → Option Value} {base : Heap} {f : Addr} {fd : FuncData}
def sp_lot_behind : Sp := fun vs H Q _ => ∃ (lr t : Addr) (qs : List AM) (L : List Str) (j : Str), vs = [.ref lr, .ref t, .str j] ∧ MnsAt H lr qs ∧ qs.length < 64 ∧ H t = some (.tup (L.map V.str)) ∧ ∀ T H' ys, Same H H' → LotAt H' T ys → (∀ x, x ∈ ys ↔ x ∈ lotS (qs.map (·.2)) L j) → Q (.ref T) H'
/-- where a book can lead -/
def Ends (ms : List Mn) (fs b : List Str) (x : Str) : Prop := ∃ f ∈ fs, ∃ ws, Way ms b f x ws
theorem ends_nil {ms : List Mn} {fs : List Str} {x : Str} : Ends ms fs [] x ↔ x ∈ fs := by
  constructor
  · rintro ⟨f, hf, ws, rfl, _⟩
    exact hf
  · intro h
    exact ⟨x, h, [], rfl, rfl⟩
theorem ends_snoc {ms : List Mn} {fs b : List Str} {j x : Str} : Ends ms fs (b ++ [j]) x ↔ ∃ m ∈ ms, m.b = j ∧ Ends ms fs b m.a ∧ m.c = x := by
  constructor
  · rintro ⟨f, hf, ws, hw⟩
    obtain ⟨u, w1, w2, _, h1, m, w, _, h2, rfl, h3, h4, _⟩ := way_app.mp hw
    exact ⟨m, h2, h3, ⟨f, hf, w1, h1⟩, h4⟩
  · rintro ⟨m, h1, h2, ⟨f, hf, w1, h3⟩, rfl⟩
    exact ⟨f, hf, w1 ++ [m], way_app.mpr ⟨m.a, w1, [m], rfl, h3, m, [], rfl, h1, rfl, h2, rfl, rfl⟩⟩
def sp_lot_after (C : Addr) : Sp := fun vs H Q _ => ∃ (a rows firsts lasts rooms jobs b : Addr) (qs : List AM) (fs ls rs js ws : List Str), vs = [.ref a, .ref b] ∧ ManAt C H a rows firsts lasts rooms jobs qs fs ls rs js ∧ qs.length < 64 ∧ fs.Nodup ∧ sortedS fs = true ∧ WordsAt H b ws ∧
  ∀ T H' ys, Same H H' → LotAt H' T ys → (∀ x, x ∈ ys ↔ Ends (qs.map (·.2)) fs ws x) → Q (.ref T) H'
def sp_rooms_after (C : Addr) : Sp := fun vs H Q _ => ∃ (a rows firsts lasts rooms jobs b : Addr) (qs : List AM) (fs ls rs js ws : List Str), vs = [.ref a, .ref b] ∧ ManAt C H a rows firsts lasts rooms jobs qs fs ls rs js ∧ qs.length < 64 ∧ fs.Nodup ∧ sortedS fs = true ∧ WordsAt H b ws ∧
  (∀ x ∈ ws, IsWord x) ∧ ws.length < 1000 ∧ ∀ l H' ys, Same H H' → H l = none → WordsAt H' l ys → ys.Nodup → (∀ x, x ∈ ys ↔ Ends (qs.map (·.2)) fs ws x) → Q (.ref l) H'
end
end EV
namespace EV
open PySem L2 NT SX
open PyProof.Rows (sortedS)
abbrev s_rest_rows : Stmt := top 27
abbrev s_ends_in : Stmt := top 28
def servedB (ms : List Mn) (fs ls b : List Str) (p : Int) : Bool := ls.any fun l => (bookF ms (firstF fs p) b p l).isSome
theorem ix_last {α : Type} {xs : List α} {v : α} : atI (xs ++ [v]) (-1) = some v := by
  unfold atI
  have e : ixN (xs ++ [v]).length (-1) = some xs.length := by
    unfold ixN
    rw [List.length_append, List.length_singleton, if_neg (by decide), if_pos (by omega)]
    congr 1
    omega
  rw [e]
  show (xs ++ [v])[xs.length]? = some v
  rw [List.getElem?_append_right (Nat.le_refl _), Nat.sub_self]
  rfl
def tEI : TE := tDIn (tVar 2) (tVar 1)
section
variable {P : Program} {w : PySem.World} {K : PySem.W.Frag} {mg : Str → Option Value} {base : Heap} {f : Addr} {fd : FuncData}
theorem sc_rest_rows : FnScope ["manual", "book", "purse", "manners", "rows", "room", "job"] ["manual", "book", "purse"] (defScope s_rest_rows) := ⟨rfl, rfl, rfl, by decide +kernel, rfl, by decide +kernel, by decide +kernel⟩
def sp_rest_rows (C : Addr) : Sp := fun vs H Q _ => ∃ (a rows firsts lasts rooms jobs b : Addr) (qs : List AM) (fs ls rs js ws : List Str) (p : Int), vs = [.ref a, .ref b, .int p] ∧ ManAt C H a rows firsts lasts rooms jobs qs fs ls rs js ∧ (∀ p ∈ qs, EffK p.2.w p.2.ns) ∧ qs.length < 64 ∧ fs.Nodup ∧ fs.length < 64 ∧ WordsAt H b ws ∧ ws.length < 1000 ∧
  ∀ l H' xs T ks, Same H H' → H' l = some (.lst (xs ++ [V.ref T])) → RstAt H' T ks (bookF (qs.map (·.2)) (firstF fs p) ws p) → Q (.ref l) H'
theorem ok_rest_rows {C : Addr} (M : ManC K C) (F : FnP K "rest_rows" s_rest_rows f fd)
    {fR : Addr} {dR : FuncData} (GR : FnOk P w K mg base CX0 2 fR dR ["manners", "row", "job", "purse"] sp_rests) (kR : PySem.W.keepIn K (.ref fR) = true) (bR : Binds K dR ["manners", "row", "job", "purse"] []) (gR : mg "rests_behind_job" = some (.ref fR)) : FnOk P w K mg base CX0 3 f fd ["manual", "book", "purse"] (sp_rest_rows C) := by
  refine F.ok sc_rest_rows (fun vs H Q E h => ?_) (fun cdv A outer s H vs Q E hr h => ?_)
  · obtain ⟨a, rows, firsts, lasts, rooms, jobs, b, qs, fs, ls, rs, js, ws, p, rfl, _⟩ := h
    rfl
  · obtain ⟨a, rows, firsts, lasts, rooms, jobs, b, qs, fs, ls, rs, js, ws, p, rfl, m, ek, few, nd, fl, hb, lw, q⟩ := h
    obtain ⟨dx, hdx⟩ := m.top
    refine ⟨_, PSs.nox (pss_cons (ps_set (i := 3) sc_rest_rows.nd rfl (Or.inl rfl) (pe_fld (pv 0) rfl))
      (pss_cons (ps_set (i := 4) sc_rest_rows.nd rfl (Or.inl rfl) (pe_lst (pa_cons (pe_dc (own := [("room", 5)]) (g := gName 5) (tt := tYes) rfl sc_rest_rows.nd (pi_list (pe_fld (pv 0) rfl))
        (blkOk_by (N := ["manual", "book", "purse", "manners", "rows", "room", "job"]) (sc := defScope s_rest_rows) (by decide +kernel)) (fun _ _ _ _ _ => pg_name (i := 5) sc_rest_rows.nd rfl (Or.inl rfl)) (fun _ _ _ _ _ => pts_nil)
        (fun _ _ _ _ _ => pv 5) (fun _ _ _ _ _ => pv 2)) pa_nil)))
      (pss_cons (ps_for PassesOwn.never rfl (pi_list (pv 1)) (pg_name (i := 6) sc_rest_rows.nd rfl (Or.inl rfl))
        (pss_one (ps_expr (pe_bm PySem.F.plainAttrs_list PySem.F.slot_list_append PySem.F.type_list_append mt_append (pv 4)
          (pa_cons (pe_call GR hr rfl gR kR bR .nil pass0 (pa_cons (pv 3) (pa_cons (pe_ix ix_list (pv 4) (pe_un un_neg pe_int) (fun _ _ => rfl)) (pa_cons (pv 6) (pa_cons (pv 2) pa_nil))))) pa_nil)))))
      (pss_one (ps_ret (pv 4)))))), ?_⟩
    refine ⟨_, rfl, a, C, dx, _, _, rfl, hdx, M.cl, M.rows, rfl, ?_⟩
    refine ⟨_, rfl, a, C, dx, _, _, rfl, hdx, M.cl, M.firsts, rfl, firsts, rfl, ⟨_, SqL.of m.f⟩, fun N hN => ?_⟩
    have me : ∀ k, k ∈ fs ↔ (firstF fs p k).isSome = true := fun k => by
      unfold firstF
      by_cases z : k ∈ fs
      · rw [if_pos z]; simp [z]
      · rw [if_neg z]; simp [z]
    refine dc_list (xs := fs.map V.str) (fun i H' => Same H H' ∧ H' N = some (.dK ((fs.take i).map fun k => (.inr k, .int ((firstF fs p k).getD 0))))) ⟨new_same hN, upd_same⟩ (fun i H' _ z => SqL.of (z.1 _ _ m.f)) ?_ ?_
    · rintro i x H' hi ⟨s3, hd⟩
      rw [List.getElem?_map] at hi
      cases hn : fs[i]? with
      | none => rw [hn] at hi; cases hi
      | some y =>
        rw [hn] at hi
        cases hi
        have il := (List.getElem?_eq_some_iff.mp hn).1
        have hy : firstF fs p y = some p := by
          unfold firstF
          rw [if_pos (List.mem_of_getElem? hn)]
        refine ⟨rfl, _, rfl, _, rfl, _, .inr y, rfl, hd, by rw [List.length_map, List.length_take, PySem.sizeLine_eq]; omega, fun b o z => by rw [upd_ne (ne_of_none z hN)]; exact s3 _ _ z, ?_⟩
        rw [upd_same, put_any, if_neg, List.take_add_one, hn, List.map_append]
        · show some (HO.dK (_ ++ [(Sum.inr y, V.int p)])) = some (HO.dK (_ ++ [(Sum.inr y, V.int ((firstF fs p y).getD 0))]))
          rw [hy]
          rfl
        · rintro ⟨p', hp, ep⟩
          obtain ⟨k, hk, rfl⟩ := List.mem_map.mp hp
          have ek : k = y := Sum.inr.inj ep
          subst ek
          obtain ⟨j, hj⟩ := List.mem_iff_getElem?.mp hk
          rw [List.getElem?_take] at hj
          split at hj
          · have := (List.getElem?_inj (List.getElem?_eq_some_iff.mp hj).1 nd).mp (hj.trans hn.symm)
            omega
          · cases hj
    · rintro H1 ⟨s1, hd⟩
      rw [List.length_map, List.take_of_length_le (Nat.le_refl _)] at hd
      have r1 : RstAt H1 N fs (firstF fs p) := ⟨hd, nd, me⟩
      refine ⟨by show 1 ≤ sizeLine; decide, fun l hl => ?_⟩
      have hl0 := none_back s1 hl
      have s2 := new_same (o := .lst [V.ref N]) hl
      have el : upd H1 l (.lst [V.ref N]) l = some (.lst [V.ref N]) := upd_same
      generalize upd H1 l (.lst [V.ref N]) = H2 at s2 el
      have s12 := s1.trans s2
      refine ⟨_, rfl, b, rfl, ⟨_, SqL.of (s12 _ _ hb)⟩, ?_⟩
      refine for_list (xs := ws.map V.str) (fun i σ H' => Same H H' ∧ ∃ v5 v6 xs T ks, σ = [some (.ref a), some (.ref b), some (.int p), some (.ref rows), some (.ref l), v5, v6] ∧ H' l = some (.lst (xs ++ [V.ref T])) ∧ xs.length = i ∧ RstAt H' T ks (bookF (qs.map (·.2)) (firstF fs p) (ws.take i) p))
        ⟨s12, _, _, [], N, fs, rfl, el, rfl, r1.same s2⟩ (fun i σ H' _ z => SqL.of (z.1 _ _ hb)) ?_ ?_
      · rintro i x σ H3 hi ⟨s3, v5, v6, xs, T, ks, rfl, h3, lx, r3⟩
        rw [List.getElem?_map] at hi
        cases hn : ws[i]? with
        | none => rw [hn] at hi; cases hi
        | some j =>
          rw [hn] at hi
          cases hi
          have il := (List.getElem?_eq_some_iff.mp hn).1
          have tk : ws.take (i + 1) = ws.take i ++ [j] := by
            rw [List.take_add_one, hn]
            rfl
          have ix : atI (xs ++ [V.ref T]) (-1) = some (V.ref T) := ix_last
          refine ⟨_, rfl, .inl ⟨rfl, _, SqL.of h3⟩, _, rfl, _, rfl, _, rfl, l, _, _, _, rfl, rfl, SqL.of h3, ix, _, rfl, _, rfl, rows, T, qs, ks, _, j, p, rfl, m.ms.same s3, ek, few, r3, fun T4 H4 ks4 s4 hT4 r4 so4 => ?_⟩
          refine ⟨l, _, _, rfl, rfl, s4 _ _ h3, by rw [List.length_append, List.length_singleton, PySem.sizeLine_eq]; omega, ?_⟩
          have nT : T4 ≠ l := fun z => by
            rw [z, h3] at hT4
            cases hT4
          refine ⟨fun b' o z => by rw [upd_ne (ne_of_none z hl0)]; exact s4 _ _ (s3 _ _ z), _, _, xs ++ [V.ref T], T4, ks4, rfl, upd_same, by rw [List.length_append, lx]; rfl, ?_⟩
          rw [tk, book_snoc]
          exact ⟨by rw [upd_ne nT]; exact r4.d, r4.nd, r4.mem⟩
      · rintro σ H3 ⟨s3, v5, v6, xs, T, ks, rfl, h3, lx, r3⟩
        rw [List.length_map, List.take_length] at r3
        exact ⟨_, rfl, q l H3 xs T ks s3 h3 r3⟩
theorem sc_ends_in : FnScope ["manual", "row", "room"] ["manual", "row"] (defScope s_ends_in) := ⟨rfl, rfl, rfl, by decide +kernel, rfl, by decide +kernel, by decide +kernel⟩
def sp_ends_in (C : Addr) : Sp := fun vs H Q _ => ∃ (a rows firsts lasts rooms jobs r : Addr) (qs : List AM) (fs ls rs js ks : List Str) (F : Rw), vs = [.ref a, .ref r] ∧ ManAt C H a rows firsts lasts rooms jobs qs fs ls rs js ∧ ls.length < 64 ∧ RstAt H r ks F ∧ ∀ H', Same H H' → Q (.bl (ls.any fun l => (F l).isSome)) H'
theorem ok_ends_in {C : Addr} (M : ManC K C) (F : FnP K "ends_in" s_ends_in f fd) (gA : mg "any" = none) : FnOk P w K mg base CX0 1 f fd ["manual", "row"] (sp_ends_in C) := by
  refine F.ok sc_ends_in (fun vs H Q E h => ?_) (fun cdv A outer s H vs Q E hr h => ?_)
  · obtain ⟨a, rows, firsts, lasts, rooms, jobs, r, qs, fs, ls, rs, js, ks, F, rfl, _⟩ := h
    rfl
  · obtain ⟨a, rows, firsts, lasts, rooms, jobs, r, qs, fs, ls, rs, js, ks, F, rfl, m, ll, hrow, q⟩ := h
    obtain ⟨dx, hdx⟩ := m.top
    refine ⟨_, PSs.nox (pss_one (ps_ret (pe_callB (cr_any rfl) (by rfl) gA (by decide +kernel) (pa_cons (pe_lc (te := tEI) (own := [("room", 2)]) (g := gName 2) (tt := tYes) rfl sc_ends_in.nd (pi_list (pe_fld (pv 0) rfl))
      (blkOk_by (N := ["manual", "row", "room"]) (sc := defScope s_ends_in) (by decide +kernel)) (fun _ _ _ _ _ => pg_name (i := 2) sc_ends_in.nd rfl (Or.inl rfl)) (fun _ _ _ _ _ => pts_nil) (fun _ _ _ _ _ => pe_cmp (pc_din (u1 hr.units) (pv 2) (pv 1)) rfl)) pa_nil)))), ?_⟩
    refine ⟨_, rfl, a, C, dx, _, _, rfl, hdx, M.cl, M.lasts, rfl, lasts, rfl, ⟨_, SqL.of m.l⟩, fun D hD => ?_⟩
    refine val_lc (walk_list (xs := ls.map V.str)) (by rw [List.length_map]; omega) ((ls.map fun l => (F l).isSome).map V.bl) (by simp) hD (fun H' s => SqL.of (s _ _ m.l)) ?_ ?_
    · rintro j x H2 y hx hy s2 Z hZ
      rw [List.getElem?_map] at hx
      rw [List.map_map, List.getElem?_map] at hy
      cases hn : ls[j]? with
      | none => rw [hn] at hx; cases hx
      | some l =>
        rw [hn] at hx hy
        cases hx
        cases hy
        refine ⟨_, rfl, _, rfl, r, _, rfl, DGet.k (k := Sum.inr l) (s2 _ _ hrow.d), ?_⟩
        rw [row_val hrow.mem, Option.isSome_map]
        exact hZ _ (.refl _)
    · rintro H' s1 hd
      refine ⟨D, _, rfl, SqL.of hd, ?_⟩
      have e : (ls.map fun l => (F l).isSome).any id = ls.any fun l => (F l).isSome := by rw [List.any_map]; rfl
      rw [e]
      exact q H' s1
def sp_is_served (C : Addr) : Sp := fun vs H Q _ => ∃ (a rows firsts lasts rooms jobs b : Addr) (qs : List AM) (fs ls rs js ws : List Str) (p : Int), vs = [.ref a, .ref b, .int p] ∧ ManAt C H a rows firsts lasts rooms jobs qs fs ls rs js ∧ (∀ p ∈ qs, EffK p.2.w p.2.ns) ∧ qs.length < 64 ∧ fs.Nodup ∧ fs.length < 64 ∧ ls.length < 64 ∧ WordsAt H b ws ∧ ws.length < 1000 ∧
  ∀ H', Same H H' → Q (.bl (servedB (qs.map (·.2)) fs ls ws p)) H'
end
end EV
namespace EV
open PySem L2 NT SX
theorem served_iff {ms : List Mn} {fs ls b : List Str} {p : Int} : servedB ms fs ls b p = true ↔ ∃ l ∈ ls, ∃ f ∈ fs, ∃ ws c, Way ms b f l ws ∧ run p ws p = some c := by
  unfold servedB
  rw [List.any_eq_true]
  constructor
  · rintro ⟨l, hl, h⟩
    obtain ⟨c, hc⟩ := Option.isSome_iff_exists.mp h
    obtain ⟨f, ws, c0, h1, h2, h3⟩ := book_of hc
    obtain ⟨hf, rfl⟩ := first_some.mp h1
    exact ⟨l, hl, f, hf, ws, c, h2, h3⟩
  · rintro ⟨l, hl, f, hf, ws, c, h2, h3⟩
    obtain ⟨c', h4, _⟩ := book_max (ms := ms) (F := firstF fs p) (first_some.mpr ⟨hf, rfl⟩) h2 h3
    exact ⟨l, hl, by rw [h4]; rfl⟩
theorem served_mono {ms : List Mn} {fs ls b : List Str} {p p' : Int} (h : servedB ms fs ls b p = true) (hp : p ≤ p') : servedB ms fs ls b p' = true := by
  obtain ⟨l, hl, f, hf, ws, c, h2, h3⟩ := served_iff.mp h
  obtain ⟨x, h4, _⟩ := run_mono2 hp h3 hp
  exact served_iff.mpr ⟨l, hl, f, hf, ws, x, h2, h4⟩
section
variable {P : Program} {w : PySem.World} {K : PySem.W.Frag} {mg : Str → Option Value} {base : Heap} {f : Addr} {fd : FuncData}
def sp_need_of (C : Addr) : Sp := fun vs H Q _ => ∃ (a rows firsts lasts rooms jobs b : Addr) (qs : List AM) (fs ls rs js ws : List Str), vs = [.ref a, .ref b] ∧ ManAt C H a rows firsts lasts rooms jobs qs fs ls rs js ∧ (∀ p ∈ qs, EffK p.2.w p.2.ns) ∧ qs.length < 64 ∧ fs.Nodup ∧ fs.length < 64 ∧ ls.length < 64 ∧ WordsAt H b ws ∧ ws.length < 1000 ∧ (∀ x ∈ ws, IsWord x) ∧
  (servedB (qs.map (·.2)) fs ls ws ((3 * ws.length : Nat) : Int) = false → ∀ H', Same H H' → Q .non H') ∧
  ∀ p : Nat, servedB (qs.map (·.2)) fs ls ws p = true → (∀ q : Nat, q < p → servedB (qs.map (·.2)) fs ls ws q = false) → ∀ H', Same H H' → Q (.int p) H'
end
end EV
namespace EV
open PySem L2 NT SX
open PyProof.Rows (sortedS)
abbrev s_book_of : Stmt := top 66
abbrev s_some_endless : Stmt := top 67
abbrev s_any_world : Stmt := top 68
section
variable {P : Program} {w : PySem.World} {K : PySem.W.Frag} {mg : Str → Option Value} {base : Heap} {f : Addr} {fd : FuncData}
def tBoIn (K : PySem.W.Frag) : TE := tCall (sp_o K) [] E0 (tCons (tVar 0) (tCons (tVar 1) tNil))
theorem sc_book_of : FnScope ["purse", "jobs", "most", "turn"] ["purse", "jobs", "most"] (defScope s_book_of) := ⟨rfl, rfl, rfl, by decide +kernel, rfl, by decide +kernel, by decide +kernel⟩
def sp_book_of : Sp := fun vs H Q _ => ∃ (p jl : Addr) (k most : Nat) (jj : List Str), vs = [.ref p, .ref jl, .int most] ∧ Pu H p k ∧ k < 700000000 ∧ WordsAt H jl jj ∧ jj ≠ [] ∧ jj.length < 64 ∧ most ≤ 8 ∧
  ∀ (l : Addr) (ws : List Str) H', WordsAt H' l ws → ws.length ≤ most → (∀ x ∈ ws, x ∈ jj) → H l = none → Pu H' p (k + 10) → But p H H' → Q (.ref l) H'
theorem ok_book_of (F : FnP K "_law_book_of" s_book_of f fd) (gR : mg "range" = none)
    {fD : Addr} {dD : FuncData} (GD : FnOk P w K mg base CX0 3 fD dD ["purse", "many"] sp_d) (kD : PySem.W.keepIn K (.ref fD) = true) (bD : Binds K dD ["purse", "many"] []) (gD : mg "_law_draw" = some (.ref fD))
    {fO : Addr} {dO : FuncData} (GO : FnOk P w K mg base CX0 3 fO dO ["purse", "some"] (sp_o K)) (kO : PySem.W.keepIn K (.ref fO) = true) (bO : Binds K dO ["purse", "some"] []) (gO : mg "_law_one_of" = some (.ref fO)) : FnOk P w K mg base CX0 4 f fd ["purse", "jobs", "most"] sp_book_of := by
  refine F.ok sc_book_of (fun vs H Q E h => ?_) (fun cdv A outer s H vs Q E hr h => ?_)
  · obtain ⟨p, jl, k, most, jj, rfl, _⟩ := h
    rfl
  · obtain ⟨p, jl, k, most, jj, rfl, hp, hk, hj, ne, few, hm, q⟩ := h
    refine ⟨_, PSs.nox (pss_one (ps_ret (pe_lc (te := tBoIn K) (own := [("turn", 3)]) (g := gName 3) (tt := tYes) rfl sc_book_of.nd (pi_range1 rfl gR (pa_cons (pe_call GD hr rfl gD kD bD .nil pass0 (pa_cons (pv 0) (pa_cons (pe_op op_add (pv 2) pe_int) pa_nil))) pa_nil))
      (blkOk_by (N := ["purse", "jobs", "most", "turn"]) (sc := defScope s_book_of) (by decide +kernel)) (fun _ _ _ _ _ => pg_name (i := 3) sc_book_of.nd rfl (Or.inl rfl)) (fun _ _ _ _ _ => pts_nil)
      (fun _ _ _ _ _ => pe_call GO hr rfl gO kO bO .nil pass0 (pa_cons (pv 0) (pa_cons (pv 1) pa_nil)))))), ?_⟩
    refine ⟨_, rfl, _, rfl, _, _, rfl, rfl, p, _, k, rfl, hp, by omega, by omega, by omega, fun r H1 r0 r1 P1 B1 => ?_⟩
    refine ⟨r, rfl, by omega, by omega, fun D hD => ?_⟩
    have j1 := hj.but hp B1
    have hD0 := B1.free P1 hD
    have nDp : D ≠ p := fun e => by
      obtain ⟨xs, e2, _⟩ := P1.some
      rw [e, e2] at hD
      cases hD
    have jl0 : 0 < jj.length := by
      cases jj with
      | nil => exact absurd rfl ne
      | cons _ _ => exact Nat.succ_pos _
    refine lc_range (lo := 0) (n := r.toNat) (fun i H' => But p H1 H' ∧ Pu H' p (k + 1 + i) ∧ ∃ ws : List Str, H' D = some (.lst (ws.map V.str)) ∧ ws.length = i ∧ ∀ x ∈ ws, x ∈ jj)
      ⟨But.new hD, P1.same (new_same hD), [], upd_same, rfl, fun _ z => nomatch z⟩ ?_ ?_
    · rintro i H4 hi ⟨B4, P4, ws, hd4, l4, m4⟩
      have j4 := j1.but P1 B4
      refine ⟨rfl, ?_⟩
      refine ⟨_, rfl, _, rfl, p, jl, _, _, rfl, P4, by omega, SqL.of j4, j4.ne P4, by rw [List.length_map]; exact jl0, by rw [List.length_map]; omega, fun y H6 hy P6 B6 => ?_⟩
      obtain ⟨u, hu, rfl⟩ := List.mem_map.mp hy
      refine ⟨_, B6 _ _ hd4 nDp, by rw [List.length_map, PySem.sizeLine_eq]; omega, ?_, ?_, ws ++ [u], ?_, ?_, fun z hz => ?_⟩
      · intro b o e n
        rw [upd_ne (ne_of_none e hD)]
        exact B6 b o (B4 b o e n) n
      · obtain ⟨a, b, c', d, q1, q2⟩ := P6
        exact ⟨a, b, c', d, ⟨by rw [upd_ne nDp.symm]; exact q1.1, q1.2⟩, by omega⟩
      · rw [upd_same, List.map_append]
        rfl
      · rw [List.length_append, l4]
        rfl
      · rcases List.mem_append.mp hz with h | h
        · exact m4 z h
        · rw [List.mem_singleton] at h
          rw [h]
          exact hu
    · rintro H4 ⟨B4, P4, ws, hd4, l4, m4⟩
      exact q D ws H4 hd4 (by omega) m4 hD0 (P4.mono (by omega)) (B1.trans B4)
/-- a reading is replaced by a stronger one -/
theorem pe_weak' {X : Cx} {e : Expr} {t t' : TE} (h : PE X e t) (le : ∀ σ H Q, t' σ H Q → t σ H Q) : PE X e t' := ⟨fun pins s σ H Q I q => h.run pins s σ H Q I (le σ H Q q)⟩
/-- the jobs of a world, or ["zz"] -/
def tJb : TE := fun σ H Q => ∃ v, σ[1]? = some (some v) ∧ ∃ (W lm l1 l2 lr lj : Addr) (ps : List AM) (bs es rs js : List Str), v = .ref W ∧ World H W lm l1 l2 lr lj ps bs es rs js ∧ Right 9 ps bs es rs js ∧
  ∀ (jl : Addr) (jj : List Str) H1, Same H H1 → WordsAt H1 jl jj → jj ≠ [] → (∀ x ∈ jj, IsWord x) → jj.length < 64 → Q (.ref jl) H1
theorem jb_ok : ∀ σ H Q, tJb σ H Q → tIf (tTest (tOp (rNeD K) (tCall sp_law_jobs [] E0 (tCons (tVar 1) tNil)) (tLst tNil))) (tCall sp_law_jobs [] E0 (tCons (tVar 1) tNil)) (tLst (tCons (tC (.str "zz")) tNil)) σ H Q := fun σ H Q h => by
  obtain ⟨v, hv, W, lm, l1, l2, lr, lj, ps, bs, es, rs, js, rfl, wd, rt, q⟩ := h
  have fps : ps.length < 60 := by have := rt.few; omega
  have wj : ∀ {jj : List Str}, OnceOf jj (ps.map fun p => p.2.b) → (∀ x ∈ jj, IsWord x) ∧ jj.length < 64 := fun {jj} o => by
    refine ⟨fun x hx => ?_, ?_⟩
    · obtain ⟨pp, hpp, rfl⟩ := List.mem_map.mp ((o.2.1 x).mp hx)
      exact rt.j.1 _ (rt.of pp hpp).2.1
    · have := o.2.2
      rw [List.length_map] at this
      omega
  refine ⟨_, hv, W, lm, l1, l2, lr, lj, ps, bs, es, rs, js, rfl, wd, fps, fun jl jj H1 so on h1 f1 s1 => ?_⟩
  refine ⟨by show 0 ≤ sizeLine; exact Nat.zero_le _, fun N hN => ?_⟩
  have s2 := new_same (o := .lst []) hN
  refine ⟨wsD jj, .list [], WordsAt.dp (h1.same s2), .lst (SqL.of upd_same) .nil, shaped_strs fun x hx => word_ok ((wj on).1 x hx), rfl, _, rfl, ?_⟩
  generalize upd H1 N (.lst []) = H2 at s2
  have s12 := s1.trans s2
  cases jj with
  | nil =>
    refine iteF ⟨by show 1 ≤ sizeLine; decide, fun l hl => ?_⟩
    have s3 := new_same (o := .lst [.str "zz"]) hl
    exact q l ["zz"] _ (s12.trans s3) upd_same (fun z => nomatch z) (fun x hx => by rw [List.mem_singleton] at hx; rw [hx]; exact word_zz) (by decide)
  | cons j0 jr =>
    refine iteT ⟨_, hv, W, lm, l1, l2, lr, lj, ps, bs, es, rs, js, rfl, wd.same s12, fps, fun jl2 jj2 H3 so2 on2 h3 f3 s3 => ?_⟩
    refine q jl2 jj2 H3 (s12.trans s3) h3 (fun z => ?_) (wj on2).1 (wj on2).2
    subst z
    have := (on2.2.1 j0).mpr ((on.2.1 j0).mp List.mem_cons_self)
    cases this
theorem sc_some_endless : FnScope ["purse", "world", "jobs"] ["purse", "world"] (defScope s_some_endless) := ⟨rfl, rfl, rfl, by decide +kernel, rfl, by decide +kernel, by decide +kernel⟩
def sp_some_endless : Sp := fun vs H Q _ => ∃ (p W lm l1 l2 lr lj : Addr) (k : Nat) (ps : List AM) (bs es rs js : List Str), vs = [.ref p, .ref W] ∧ Pu H p k ∧ k < 600000000 ∧ World H W lm l1 l2 lr lj ps bs es rs js ∧ Right 9 ps bs es rs js ∧
  ∀ (e h t : Addr) (hd tn : List Str) H', EndAt H' e h t hd tn → EndOk hd tn → hd.length ≤ 3 → tn.length ≤ 4 → Pu H' p (k + 40) → But p H H' → Q (.ref e) H'
theorem ok_some_endless (F : FnP K "_law_some_endless" s_some_endless f fd)
    {fJ : Addr} {dJ : FuncData} (GJ : FnOk P w K mg base CX0 4 fJ dJ ["world"] sp_law_jobs) (kJ : PySem.W.keepIn K (.ref fJ) = true) (bJ : Binds K dJ ["world"] []) (gJ : mg "_law_jobs" = some (.ref fJ))
    {fB : Addr} {dB : FuncData} (GB : FnOk P w K mg base CX0 4 fB dB ["purse", "jobs", "most"] sp_book_of) (kB : PySem.W.keepIn K (.ref fB) = true) (bB : Binds K dB ["purse", "jobs", "most"] []) (gB : mg "_law_book_of" = some (.ref fB))
    {fO : Addr} {dO : FuncData} (GO : FnOk P w K mg base CX0 4 fO dO ["purse", "some"] (sp_o K)) (kO : PySem.W.keepIn K (.ref fO) = true) (bO : Binds K dO ["purse", "some"] []) (gO : mg "_law_one_of" = some (.ref fO)) : FnOk P w K mg base CX0 5 f fd ["purse", "world"] sp_some_endless := by
  refine F.ok sc_some_endless (fun vs H Q E h => ?_) (fun cdv A outer s H vs Q E hr h => ?_)
  · obtain ⟨p, W, lm, l1, l2, lr, lj, k, ps, bs, es, rs, js, rfl, _⟩ := h
    rfl
  · obtain ⟨p, W, lm, l1, l2, lr, lj, k, ps, bs, es, rs, js, rfl, hp, hk, wd, rt, q⟩ := h
    refine ⟨_, PSs.nox (pss_cons (ps_set (i := 2) sc_some_endless.nd rfl (Or.inl rfl) (pe_weak' (pe_ifExp (pt_cmpR (op_neD hr.units) (pe_call GJ hr rfl gJ kJ bJ .nil pass0 (pa_cons (pv 1) pa_nil)) (pe_lst pa_nil) (nomark _)) (pe_call GJ hr rfl gJ kJ bJ .nil pass0 (pa_cons (pv 1) pa_nil)) (pe_lst (pa_cons pe_str pa_nil))) (t' := tJb) jb_ok))
      (pss_one (ps_ret (pe_tup (pa_cons (pe_call GB hr rfl gB kB bB .nil pass0 (pa_cons (pv 0) (pa_cons (pv 2) (pa_cons (pe_call GO hr rfl gO kO bO .nil pass0 (pa_cons (pv 0) (pa_cons (pe_lst (pa_cons pe_int (pa_cons pe_int pa_nil))) pa_nil))) pa_nil))))
        (pa_cons (pe_op op_cat (pe_call GB hr rfl gB kB bB .nil pass0 (pa_cons (pv 0) (pa_cons (pv 2) (pa_cons (pe_call GO hr rfl gO kO bO .nil pass0 (pa_cons (pv 0) (pa_cons (pe_lst (pa_cons pe_int (pa_cons pe_int pa_nil))) pa_nil))) pa_nil))))
          (pe_lst (pa_cons (pe_call GO hr rfl gO kO bO .nil pass0 (pa_cons (pv 0) (pa_cons (pv 2) pa_nil))) pa_nil))) pa_nil)))))), ?_⟩
    have most13 : ∀ x : V, x ∈ [V.int 1, V.int 3] → ∃ m : Nat, x = .int (m : Int) ∧ m ≤ 3 := fun x hx => by
      rcases List.mem_cons.mp hx with rfl | hx
      · exact ⟨1, rfl, by omega⟩
      · rw [List.mem_singleton] at hx
        exact ⟨3, hx, by omega⟩
    refine ⟨_, rfl, W, lm, l1, l2, lr, lj, ps, bs, es, rs, js, rfl, wd, rt, fun jl jj H1 s1 j1 jne jw jf => ?_⟩
    have hp1 := hp.same s1
    have B1 : But p H H1 := But.same s1
    have jl0 : 0 < jj.length := by
      cases jj with
      | nil => exact absurd rfl jne
      | cons _ _ => exact Nat.succ_pos _
    -- the head
    refine ⟨_, rfl, _, rfl, _, rfl, by show 2 ≤ sizeLine; decide, fun N1 hN1 => ?_⟩
    have s2 := new_same (o := .lst [.int 1, .int 3]) hN1
    have e2 : upd H1 N1 (.lst [.int 1, .int 3]) N1 = some (.lst [.int 1, .int 3]) := upd_same
    have hp2 := hp1.same s2
    have n2 : N1 ≠ p := fun z => by
      obtain ⟨xs, e, _⟩ := hp1.some
      rw [z, e] at hN1
      cases hN1
    have j2 := j1.same s2
    generalize upd H1 N1 (.lst [.int 1, .int 3]) = H2 at s2 e2 hp2 j2
    refine ⟨p, N1, _, k, rfl, hp2, by omega, SqL.of e2, n2, by decide, by decide, fun x H3 hx P3 B3 => ?_⟩
    obtain ⟨m1, rfl, hm1⟩ := most13 x hx
    have j3 := j2.but hp2 B3
    refine ⟨p, jl, _, m1, jj, rfl, P3, by omega, j3, jne, jf, by omega, fun h hd H4 hh lh mh fh P4 B4 => ?_⟩
    have j4 := j3.but P3 B4
    -- the round
    refine ⟨_, rfl, _, rfl, _, rfl, by show 2 ≤ sizeLine; decide, fun N2 hN2 => ?_⟩
    have s5 := new_same (o := .lst [.int 1, .int 3]) hN2
    have e5 : upd H4 N2 (.lst [.int 1, .int 3]) N2 = some (.lst [.int 1, .int 3]) := upd_same
    have hp5 := P4.same s5
    have n5 : N2 ≠ p := fun z => by
      obtain ⟨xs, e, _⟩ := P4.some
      rw [z, e] at hN2
      cases hN2
    have j5 := j4.same s5
    have hh5 := hh.same s5
    generalize upd H4 N2 (.lst [.int 1, .int 3]) = H5 at s5 e5 hp5 j5 hh5
    refine ⟨p, N2, _, _, rfl, hp5, by omega, SqL.of e5, n5, by decide, by decide, fun x H6 hx P6 B6 => ?_⟩
    obtain ⟨m2, rfl, hm2⟩ := most13 x hx
    have j6 := j5.but hp5 B6
    have hh6 := hh5.but hp5 B6
    refine ⟨p, jl, _, m2, jj, rfl, P6, by omega, j6, jne, jf, by omega, fun t0 tn0 H7 ht lt mt ft P7 B7 => ?_⟩
    have j7 := j6.but P6 B7
    have hh7 := hh6.but P6 B7
    refine ⟨_, rfl, _, rfl, p, jl, _, _, rfl, P7, by omega, SqL.of j7, j7.ne P7, by rw [List.length_map]; exact jl0, by rw [List.length_map]; omega, fun y H8 hy P8 B8 => ?_⟩
    obtain ⟨u, hu, rfl⟩ := List.mem_map.mp hy
    have hh8 := hh7.but P7 B8
    have ht8 := ht.but P7 B8
    refine ⟨by show 1 ≤ sizeLine; decide, fun N3 hN3 => ?_⟩
    have s9 := new_same (o := .lst [.str u]) hN3
    have e9 : upd H8 N3 (.lst [.str u]) N3 = some (.lst [.str u]) := upd_same
    have hp9 := P8.same s9
    have hh9 := hh8.same s9
    have ht9 := ht8.same s9
    generalize upd H8 N3 (.lst [.str u]) = H9 at s9 e9 hp9 hh9 ht9
    refine ⟨t0, N3, _, _, rfl, rfl, ht9, e9, by rw [List.length_map, PySem.sizeLine_eq]; show tn0.length + 1 ≤ 16777216; omega, fun T hT => ?_⟩
    have s10 := new_same (o := .lst (tn0.map V.str ++ [V.str u])) hT
    have e10 : WordsAt (upd H9 T (.lst (tn0.map V.str ++ [V.str u]))) T (tn0 ++ [u]) := by
      show upd H9 T _ T = _
      rw [upd_same, List.map_append]
      rfl
    have hp10 := hp9.same s10
    have hh10 := hh9.same s10
    generalize upd H9 T (.lst (tn0.map V.str ++ [V.str u])) = H10 at s10 e10 hp10 hh10
    refine ⟨by show 2 ≤ sizeLine; decide, fun e he => ?_⟩
    have s11 := new_same (o := .tup [.ref h, .ref T]) he
    have B : But p H (upd H10 e (.tup [.ref h, .ref T])) := ((((((((((B1.step s2).trans B3).trans B4).step s5).trans B6).trans B7).trans B8).step s9).step s10).step s11)
    refine q e h T hd (tn0 ++ [u]) _ ⟨upd_same, hh10.same s11, e10.same s11⟩ ⟨fun x hx => jw x (mh x hx), by omega, fun x hx => ?_, by rw [List.length_append, List.length_singleton]; omega, by simp⟩ (by omega) (by rw [List.length_append, List.length_singleton]; omega) ((hp10.same s11).mono (by omega)) B
    rcases List.mem_append.mp hx with hx | hx
    · exact jw x (mt x hx)
    · rw [List.mem_singleton] at hx
      rw [hx]
      exact jw u hu
end
end EV
namespace EV
open PySem L2 NT SX
/-! ### heads and rounds apart, in plain words -/
def Go0 (ms : List Mn) (fs hd tn : List Str) (p : Int) (j : Nat) : Prop := ∃ f ∈ fs, ∃ g ws c, Way ms (hd ++ rep tn j) f g ws ∧ run p ws p = some c
def Las (ms : List Mn) (fs hd tn : List Str) (p : Int) : Prop := ∀ j, Go0 ms fs hd tn p j
def Alv (ms : List Mn) (fs hd tn : List Str) : Prop := ∀ j, ∃ f ∈ fs, ∃ g ws, Way ms (hd ++ rep tn j) f g ws
theorem way_congr {ms ns : List Mn} (h : ∀ m, m ∈ ms ↔ m ∈ ns) : ∀ {b : List Str} {r g : Str} {ws : List Mn}, Way ms b r g ws → Way ns b r g ws
  | [], r, g, ws, hw => hw
  | j :: b, r, g, ws, ⟨m, w, e, h1, h2, h3, h4⟩ => ⟨m, w, e, (h m).mp h1, h2, h3, way_congr h h4⟩
theorem las_congr {ms ns : List Mn} {fs gs hd tn : List Str} {p : Int} (h : ∀ m, m ∈ ms ↔ m ∈ ns) (h2 : ∀ f, f ∈ fs ↔ f ∈ gs) : Las ms fs hd tn p ↔ Las ns gs hd tn p := by
  constructor
  · intro H j
    obtain ⟨f, hf, g, ws, c, hw, hr⟩ := H j
    exact ⟨f, (h2 f).mp hf, g, ws, c, way_congr h hw, hr⟩
  · intro H j
    obtain ⟨f, hf, g, ws, c, hw, hr⟩ := H j
    exact ⟨f, (h2 f).mpr hf, g, ws, c, way_congr (fun m => (h m).symm) hw, hr⟩
theorem alv_congr {ms ns : List Mn} {fs gs hd tn : List Str} (h : ∀ m, m ∈ ms ↔ m ∈ ns) (h2 : ∀ f, f ∈ fs ↔ f ∈ gs) : Alv ms fs hd tn ↔ Alv ns gs hd tn := by
  constructor
  · intro H j
    obtain ⟨f, hf, g, ws, hw⟩ := H j
    exact ⟨f, (h2 f).mp hf, g, ws, way_congr h hw⟩
  · intro H j
    obtain ⟨f, hf, g, ws, hw⟩ := H j
    exact ⟨f, (h2 f).mpr hf, g, ws, way_congr (fun m => (h m).symm) hw⟩
theorem surv_las {z : ES} {p : Int} : Surv z p ↔ Las z.ms z.fs z.hd z.tn p := forall_congr' fun _ => going_iff
theorem alive_alv0 {z : ES} : Alive z ↔ Alv z.ms z.fs z.hd z.tn := Iff.rfl
section
variable {ms : List Mn} {tn : List Str}
theorem go_down {x : Str} {p : Int} {j k : Nat} (h : j ≤ k) (g : Go0 ms [x] [] tn p k) : Go0 ms [x] [] tn p j := by
  obtain ⟨f, hf, g, ws, c, hw, hr⟩ := g
  have hw : Way ms (rep tn k) f g ws := hw
  rw [show k = j + (k - j) by omega, rep_add] at hw
  obtain ⟨u, w1, w2, rfl, h1, _⟩ := way_app.mp hw
  obtain ⟨c1, r1, _⟩ := run_some.mp hr
  exact ⟨f, hf, u, w1, c1, h1, r1⟩
theorem alv_down {x : Str} {j k : Nat} (h : j ≤ k) (g : ∃ g ws, Way ms (rep tn k) x g ws) : ∃ g ws, Way ms (rep tn j) x g ws := by
  obtain ⟨g, ws, hw⟩ := g
  rw [show k = j + (k - j) by omega, rep_add] at hw
  obtain ⟨u, w1, w2, rfl, h1, _⟩ := way_app.mp hw
  exact ⟨u, w1, h1⟩
/-- of finitely many, one serves for all -/
theorem one_all {X : List Str} {G : Str → Nat → Prop} (down : ∀ x j k, j ≤ k → G x k → G x j) (h : ∀ j, ∃ x ∈ X, G x j) : ∃ x ∈ X, ∀ j, G x j := by
  refine Classical.byContradiction fun no => ?_
  have bad : ∀ x ∈ X, ∃ j, ¬ G x j := fun x hx => Classical.byContradiction fun n2 => no ⟨x, hx, fun j => Classical.byContradiction fun n3 => n2 ⟨j, n3⟩⟩
  have key : ∀ L : List Str, (∀ x ∈ L, ∃ j, ¬ G x j) → ∃ J, ∀ x ∈ L, ¬ G x J := by
    intro L
    induction L with
    | nil => intro _; exact ⟨0, fun _ h => nomatch h⟩
    | cons x L ih =>
      intro hL
      obtain ⟨J, hJ⟩ := ih fun y hy => hL y (List.mem_cons_of_mem _ hy)
      obtain ⟨j, hj⟩ := hL x List.mem_cons_self
      refine ⟨J + j, fun y hy => ?_⟩
      rcases List.mem_cons.mp hy with rfl | hy
      · exact fun g => hj (down _ _ _ (Nat.le_add_left _ _) g)
      · exact fun g => hJ y hy (down _ _ _ (Nat.le_add_right _ _) g)
  obtain ⟨J, hJ⟩ := key X bad
  obtain ⟨x, hx, g⟩ := h J
  exact hJ x hx g
theorem las_room {fs hd X : List Str} {p : Int} (hk : ∀ m ∈ ms, EffK m.w m.ns) (hX : ∀ x, Ends ms fs hd x → x ∈ X) (h : Las ms fs hd tn p) : ∃ x ∈ X, Las ms [x] [] tn p := by
  refine one_all (G := fun x j => Go0 ms [x] [] tn p j) (fun x j k hjk g => go_down hjk g) fun j => ?_
  obtain ⟨f, hf, g, ws, c, hw, hr⟩ := h j
  obtain ⟨x, w1, w2, rfl, h1, h2⟩ := way_app.mp hw
  obtain ⟨c0, r1, r2⟩ := run_some.mp hr
  have c0p : c0 ≤ p := run_le (fun m hm => hk m (h1.mem m hm)) r1 (Int.le_refl _)
  obtain ⟨c', r3, _⟩ := run_mono2 (Int.le_refl p) r2 c0p
  exact ⟨x, hX x ⟨f, hf, w1, h1⟩, x, List.mem_cons_self, g, w2, c', h2, r3⟩
theorem las_join {fs hd : List Str} {x : Str} {a b : Int} (hb : 0 ≤ b) (ha : 0 ≤ a) {f : Str} (hf : f ∈ fs) {w1 : List Mn} (h1 : Way ms hd f x w1) {c : Int} (r1 : run a w1 a = some c) (h : Las ms [x] [] tn b) : Las ms fs hd tn (a + b) := by
  intro j
  obtain ⟨y, hy, g, w2, c2, h2, r2⟩ := h j
  rw [List.mem_singleton] at hy
  subst hy
  have c0 : 0 ≤ c := run_nat ha r1
  obtain ⟨c', r3, l3⟩ := run_mono (p := a) (d := b) hb r1 (c' := a + b) (Int.le_refl _)
  obtain ⟨c'', r4, _⟩ := run_mono2 (p := b) (p' := a + b) (by omega) r2 (c' := c') (by omega)
  exact ⟨f, hf, g, w1 ++ w2, c'', way_app.mpr ⟨y, w1, w2, rfl, h1, h2⟩, run_some.mpr ⟨c', r3, r4⟩⟩
/-- a way that leads somewhere needs no more than three coins a job -/
theorem way_rich {b : List Str} {f x : Str} {w : List Mn} (hk : ∀ m ∈ ms, EffK m.w m.ns) (h : Way ms b f x w) : ∃ c, run ((3 * b.length : Nat) : Int) w ((3 * b.length : Nat) : Int) = some c := by
  have hl := h.len
  obtain ⟨c, hc, _⟩ := run_rich (p := ((3 * b.length : Nat) : Int)) (ws := w) (c := ((3 * b.length : Nat) : Int)) (fun m hm => hk m (h.mem m hm)) (by rw [hl]; omega) (by rw [hl]; omega)
  exact ⟨c, hc⟩
theorem alv_room {fs hd X : List Str} (hX : ∀ x, x ∈ X ↔ Ends ms fs hd x) : Alv ms fs hd tn ↔ ∃ x ∈ X, Alv ms [x] [] tn := by
  constructor
  · intro h
    obtain ⟨x, hx, g⟩ := one_all (X := X) (G := fun x j => ∃ g ws, Way ms (rep tn j) x g ws) (fun x j k hjk g => alv_down hjk g) fun j => by
      obtain ⟨f, hf, g, ws, hw⟩ := h j
      obtain ⟨x, w1, w2, rfl, h1, h2⟩ := way_app.mp hw
      exact ⟨x, (hX x).mpr ⟨f, hf, w1, h1⟩, g, w2, h2⟩
    exact ⟨x, hx, fun j => ⟨x, List.mem_cons_self, g j⟩⟩
  · rintro ⟨x, hx, h⟩ j
    obtain ⟨f, hf, w1, h1⟩ := (hX x).mp hx
    obtain ⟨y, hy, g, w2, h2⟩ := h j
    rw [List.mem_singleton] at hy
    subst hy
    exact ⟨f, hf, g, w1 ++ w2, way_app.mpr ⟨y, w1, w2, rfl, h1, h2⟩⟩
theorem bdd_room {fs hd X : List Str} (hk : ∀ m ∈ ms, EffK m.w m.ns) (hX : ∀ x, x ∈ X ↔ Ends ms fs hd x) : (∃ p : Nat, Las ms fs hd tn p) ↔ ∃ x ∈ X, ∃ p : Nat, Las ms [x] [] tn p := by
  constructor
  · rintro ⟨p, h⟩
    obtain ⟨x, hx, g⟩ := las_room hk (fun x h => (hX x).mpr h) h
    exact ⟨x, hx, p, g⟩
  · rintro ⟨x, hx, b, h⟩
    obtain ⟨f, hf, w1, h1⟩ := (hX x).mp hx
    obtain ⟨c, hc⟩ := way_rich hk h1
    refine ⟨3 * hd.length + b, ?_⟩
    have := las_join (tn := tn) (Int.natCast_nonneg b) (Int.natCast_nonneg _) hf h1 hc h
    rw [← Int.natCast_add] at this
    exact this
end
/-- what a need is: the least purse, None if there is none -/
def NeedM (ms : List Mn) (fs hd tn : List Str) (o : Option Int) : Prop := (o = none ∧ ¬ ∃ p : Nat, Las ms fs hd tn p) ∨ ∃ p : Nat, o = some (p : Int) ∧ Las ms fs hd tn p ∧ ∀ q : Nat, q < p → ¬ Las ms fs hd tn q
def KindM (ms : List Mn) (fs hd tn : List Str) (k : Str) : Prop := (k = "bounded" ↔ ∃ p : Nat, Las ms fs hd tn p) ∧ (k = "never" ↔ ¬ Alv ms fs hd tn) ∧ (k = "bounded" ∨ k = "grows" ∨ k = "never")
theorem las_alv {ms : List Mn} {fs hd tn : List Str} {p : Int} (h : Las ms fs hd tn p) : Alv ms fs hd tn := fun j => by
  obtain ⟨f, hf, g, ws, c, hw, _⟩ := h j
  exact ⟨f, hf, g, ws, hw⟩
def dueK (ks : List Str) : Str := if ("bounded" : Str) ∈ ks then "bounded" else if ("grows" : Str) ∈ ks then "grows" else "never"
/-- the kind is the best of the kinds begun behind the head -/
theorem due_kind {ms : List Mn} {fs hd tn X ks : List Str} {k : Str} (hk : ∀ m ∈ ms, EffK m.w m.ns) (hX : ∀ x, x ∈ X ↔ Ends ms fs hd x) (h : KindM ms fs hd tn k) (hl : ks.length = X.length) (hks : ∀ (i : Nat) (x y : Str), X[i]? = some x → ks[i]? = some y → KindM ms [x] [] tn y) : k = dueK ks := by
  have mem : ∀ {y : Str}, y ∈ ks → ∃ x ∈ X, KindM ms [x] [] tn y := fun {y} hy => by
    obtain ⟨i, hi⟩ := List.mem_iff_getElem?.mp hy
    have il : i < X.length := by rw [← hl]; exact (List.getElem?_eq_some_iff.mp hi).1
    exact ⟨X[i], List.getElem_mem il, hks i _ y (List.getElem?_eq_getElem il) hi⟩
  have mem2 : ∀ {x : Str}, x ∈ X → ∃ y ∈ ks, KindM ms [x] [] tn y := fun {x} hx => by
    obtain ⟨i, hi⟩ := List.mem_iff_getElem?.mp hx
    have il : i < ks.length := by rw [hl]; exact (List.getElem?_eq_some_iff.mp hi).1
    exact ⟨ks[i], List.getElem_mem il, hks i x _ hi (List.getElem?_eq_getElem il)⟩
  obtain ⟨h1, h2, h3⟩ := h
  have b : (∃ p : Nat, Las ms fs hd tn p) ↔ ("bounded" : Str) ∈ ks := by
    rw [bdd_room hk hX]
    constructor
    · rintro ⟨x, hx, hp⟩
      obtain ⟨y, hy, g1, _, _⟩ := mem2 hx
      rw [g1.mpr hp] at hy
      exact hy
    · intro hb
      obtain ⟨x, hx, g1, _, _⟩ := mem hb
      exact ⟨x, hx, g1.mp rfl⟩
  have a : Alv ms fs hd tn ↔ ("bounded" : Str) ∈ ks ∨ ("grows" : Str) ∈ ks := by
    rw [alv_room hX]
    constructor
    · rintro ⟨x, hx, ha⟩
      obtain ⟨y, hy, _, g2, g3⟩ := mem2 hx
      rcases g3 with e | e | e
      · rw [e] at hy; exact .inl hy
      · rw [e] at hy; exact .inr hy
      · exact absurd ha (g2.mp e)
    · rintro (hb | hb)
      · obtain ⟨x, hx, g1, _, _⟩ := mem hb
        obtain ⟨p, hp⟩ := g1.mp rfl
        exact ⟨x, hx, las_alv hp⟩
      · obtain ⟨x, hx, _, g2, _⟩ := mem hb
        exact ⟨x, hx, Classical.byContradiction fun no => absurd (g2.mpr no) (by decide +kernel)⟩
  unfold dueK
  by_cases c1 : ("bounded" : Str) ∈ ks
  · rw [if_pos c1]
    exact h1.mpr (b.mpr c1)
  · rw [if_neg c1]
    have n1 : k ≠ "bounded" := fun e => c1 (b.mp (h1.mp e))
    by_cases c2 : ("grows" : Str) ∈ ks
    · rw [if_pos c2]
      rcases h3 with e | e | e
      · exact absurd e n1
      · exact e
      · exact absurd (a.mpr (.inr c2)) (h2.mp e)
    · rw [if_neg c2]
      refine h2.mpr fun al => ?_
      rcases a.mp al with q | q
      · exact c1 q
      · exact c2 q
end EV
namespace EV
open PySem L2 NT SX
open PyProof.Rows (sortedS)
theorem Right.mono {m n : Nat} {ps : List AM} {bs es rs js : List Str} (r : Right m ps bs es rs js) (h : m ≤ n) : Right n ps bs es rs js := ⟨Nat.le_trans r.few h, r.nd, r.of, r.b, r.e, r.r, r.j⟩
abbrev mkES (rows firsts lasts rooms jobs h t : Addr) (qs : List AM) (fs ls rs js hd tn : List Str) : ES := ⟨rows, firsts, lasts, rooms, jobs, h, t, qs, fs, ls, rs, js, hd, tn⟩
section
variable {C : Addr} {H : Hp} {a : Addr} {ps qs : List AM} {bs es rs0 js0 bs' es' fs ls rs js : List Str}
theorem man_hk (rt : Right 9 ps bs es rs0 js0) : ∀ m ∈ ps.map (·.2), EffK m.w m.ns := fun m hm => by
  obtain ⟨p, hp, rfl⟩ := List.mem_map.mp hm
  exact (rt.of p hp).2.2.2
theorem man_mem (mo : ManOf C H a ps bs' es' qs fs ls rs js) : ∀ m, m ∈ qs.map (·.2) ↔ m ∈ ps.map (·.2) := fun m => (mo.pq.map _).mem_iff
theorem man_rs (rt : Right 9 ps bs es rs0 js0) (hb : ∀ x ∈ bs', x ∈ rs0) (he : ∀ x ∈ es', x ∈ rs0) (mo : ManOf C H a ps bs' es' qs fs ls rs js) : rs.length ≤ rs0.length := by
  refine mo.nr.length_le_of_subset fun x hx => ?_
  rcases (mo.mr x).mp hx with h | h | ⟨p, hp, h | h⟩
  · exact hb x h
  · exact he x h
  · rw [h]; exact (rt.of p hp).1
  · rw [h]; exact (rt.of p hp).2.2.1
theorem es_ok5 (rt : Right 9 ps bs es rs0 js0) (r3 : rs0.length ≤ 3) (hb : ∀ x ∈ bs', x ∈ rs0) (nb : bs'.Nodup) (he : ∀ x ∈ es', x ∈ rs0) (mo : ManOf C H a ps bs' es' qs fs ls rs js) {rows firsts lasts rooms jobs h t : Addr} {hd tn : List Str} (eo : EndOk hd tn) (h3 : hd.length ≤ 3) (t4 : tn.length ≤ 5) :
    ESOk (mkES rows firsts lasts rooms jobs h t qs fs ls rs js hd tn) ∧ ESW (mkES rows firsts lasts rooms jobs h t qs fs ls rs js hd tn) := by
  have lr := man_rs rt hb he mo
  have hk : ∀ m ∈ qs.map (·.2), EffK m.w m.ns := fun m hm => man_hk rt m ((man_mem mo m).mp hm)
  have nf : fs.Nodup := mo.pf.nodup_iff.mpr nb
  have lf : fs.length ≤ rs0.length := nf.length_le_of_subset fun x hx => hb x (mo.pf.mem_iff.mp hx)
  refine ⟨⟨fun p hp => hk _ (List.mem_map.mpr ⟨p, hp, rfl⟩), ?_, ?_, nf, ?_, eo, idem_ex _⟩, ⟨fun m hm => ?_, hk, fun f hf => ?_, Nat.le_trans lr r3, h3, t4⟩⟩
  · show qs.length < 64
    rw [mo.pq.length_eq]
    have := rt.few
    omega
  · show rs.length < 64
    omega
  · show fs.length < 64
    omega
  · obtain ⟨p, hp, rfl⟩ := List.mem_map.mp ((man_mem mo m).mp hm)
    exact (mo.mr _).mpr (.inr (.inr ⟨p, hp, .inr rfl⟩))
  · exact (mo.mr _).mpr (.inl (mo.pf.mem_iff.mp hf))
theorem es_ok (rt : Right 9 ps bs es rs0 js0) (r3 : rs0.length ≤ 3) (hb : ∀ x ∈ bs', x ∈ rs0) (nb : bs'.Nodup) (he : ∀ x ∈ es', x ∈ rs0) (mo : ManOf C H a ps bs' es' qs fs ls rs js) {rows firsts lasts rooms jobs h t : Addr} {hd tn : List Str} (eo : EndOk hd tn) (h3 : hd.length ≤ 3) (t4 : tn.length ≤ 4) :
    ESOk (mkES rows firsts lasts rooms jobs h t qs fs ls rs js hd tn) ∧ ESW (mkES rows firsts lasts rooms jobs h t qs fs ls rs js hd tn) :=
  es_ok5 rt r3 hb nb he mo eo h3 (Nat.le_succ_of_le t4)
/-- the kind of a manual that is made of the world's manners -/
theorem man_kind (rt : Right 9 ps bs es rs0 js0) (mo : ManOf C H a ps bs' es' qs fs ls rs js) {rows firsts lasts rooms jobs h t : Addr} {hd tn : List Str} (W : ESW (mkES rows firsts lasts rooms jobs h t qs fs ls rs js hd tn)) {k : Str} (hk : KindIs (mkES rows firsts lasts rooms jobs h t qs fs ls rs js hd tn) k) : KindM (ps.map (·.2)) bs' hd tn k := by
  obtain ⟨h1, h2, h3⟩ := kind_is W hk
  have e1 : Bdd (mkES rows firsts lasts rooms jobs h t qs fs ls rs js hd tn) ↔ ∃ p : Nat, Las (ps.map (·.2)) bs' hd tn p := by
    unfold Bdd
    constructor
    · rintro ⟨p, hp⟩
      exact ⟨p, (las_congr (man_mem mo) fun f => mo.pf.mem_iff).mp (surv_las.mp hp)⟩
    · rintro ⟨p, hp⟩
      exact ⟨p, surv_las.mpr ((las_congr (man_mem mo) fun f => mo.pf.mem_iff).mpr hp)⟩
  have e2 : Alive (mkES rows firsts lasts rooms jobs h t qs fs ls rs js hd tn) ↔ Alv (ps.map (·.2)) bs' hd tn := alive_alv0.trans (alv_congr (man_mem mo) fun f => mo.pf.mem_iff)
  rw [e1] at h1
  rw [e2] at h2
  exact ⟨h1, h2, h3⟩
theorem man_need (rt : Right 9 ps bs es rs0 js0) (mo : ManOf C H a ps bs' es' qs fs ls rs js) {rows firsts lasts rooms jobs h t : Addr} {hd tn : List Str} (W : ESW (mkES rows firsts lasts rooms jobs h t qs fs ls rs js hd tn)) {o : Option Int} (hn : NeedIs (mkES rows firsts lasts rooms jobs h t qs fs ls rs js hd tn) o) : NeedM (ps.map (·.2)) bs' hd tn o := by
  have e : ∀ p : Int, Surv (mkES rows firsts lasts rooms jobs h t qs fs ls rs js hd tn) p ↔ Las (ps.map (·.2)) bs' hd tn p := fun p => surv_las.trans (las_congr (man_mem mo) fun f => mo.pf.mem_iff)
  rcases need_is W hn with ⟨rfl, h⟩ | ⟨p, rfl, h1, h2⟩
  · exact .inl ⟨rfl, fun ⟨p, hp⟩ => h ⟨p, (e p).mpr hp⟩⟩
  · exact .inr ⟨p, rfl, (e p).mp h1, fun q hq hl => h2 q hq ((e q).mpr hl)⟩
end
section
variable {P : Program} {w : PySem.World} {K : PySem.W.Frag} {mg : Str → Option Value} {base : Heap} {f : Addr} {fd : FuncData}
theorem sc_any_world : FnScope ["purse"] ["purse"] (defScope s_any_world) := ⟨rfl, rfl, rfl, by decide +kernel, rfl, by decide +kernel, by decide +kernel⟩
def sp_any_world : Sp := fun vs H Q _ => ∃ (p : Addr) (k : Nat), vs = [.ref p] ∧ Pu H p k ∧ k < 300000000 ∧
  ∀ (W lm l1 l2 lr lj : Addr) (ps : List AM) (bs es rs js : List Str) H', World H' W lm l1 l2 lr lj ps bs es rs js → Right 9 ps bs es rs js → rs.length ≤ 3 → js.length ≤ 3 → Pu H' p (k + 1400) → But p H H' → H W = none → Q (.ref W) H'
theorem ok_any_world (F : FnP K "_law_any_world" s_any_world f fd)
    {fD : Addr} {dD : FuncData} (GD : FnOk P w K mg base CX0 6 fD dD ["purse", "many"] sp_d) (kD : PySem.W.keepIn K (.ref fD) = true) (bD : Binds K dD ["purse", "many"] []) (gD : mg "_law_draw" = some (.ref fD))
    {fO : Addr} {dO : FuncData} (GO : FnOk P w K mg base CX0 6 fO dO ["purse", "some"] (sp_o K)) (kO : PySem.W.keepIn K (.ref fO) = true) (bO : Binds K dO ["purse", "some"] []) (gO : mg "_law_one_of" = some (.ref fO))
    {fW : Addr} {dW : FuncData} (GW : FnOk P w K mg base CX0 6 fW dW ["purse", "rooms", "jobs", "most"] sp_world) (kW : PySem.W.keepIn K (.ref fW) = true) (bW : Binds K dW ["purse", "rooms", "jobs", "most"] []) (gW : mg "_law_world" = some (.ref fW)) : FnOk P w K mg base CX0 7 f fd ["purse"] sp_any_world := by
  refine F.ok sc_any_world (fun vs H Q E h => ?_) (fun cdv A outer s H vs Q E hr h => ?_)
  · obtain ⟨p, k, rfl, _⟩ := h
    rfl
  · obtain ⟨p, k, rfl, hp, hk, q⟩ := h
    refine ⟨_, PSs.nox (pss_one (ps_ret (pe_call GW hr rfl gW kW bW .nil pass0 (pa_cons (pv 0) (pa_cons (pe_op op_add pe_int (pe_call GD hr rfl gD kD bD .nil pass0 (pa_cons (pv 0) (pa_cons pe_int pa_nil)))) (pa_cons (pe_op op_add pe_int (pe_call GD hr rfl gD kD bD .nil pass0 (pa_cons (pv 0) (pa_cons pe_int pa_nil))))
      (pa_cons (pe_call GO hr rfl gO kO bO .nil pass0 (pa_cons (pv 0) (pa_cons (pe_lst (pa_cons pe_int (pa_cons pe_int (pa_cons pe_int pa_nil)))) pa_nil))) pa_nil))))))), ?_⟩
    refine ⟨_, rfl, _, rfl, p, 3, k, rfl, hp, by omega, by decide, by decide, fun r H1 r0 r1 P1 B1 => ?_⟩
    refine ⟨_, _, rfl, rfl, _, rfl, p, 3, _, rfl, P1, by omega, by decide, by decide, fun r' H2 r0' r1' P2 B2 => ?_⟩
    refine ⟨_, _, rfl, rfl, _, rfl, by show 3 ≤ sizeLine; decide, fun N hN => ?_⟩
    have s3 := new_same (o := .lst [.int 3, .int 6, .int 9]) hN
    have e3 : upd H2 N (.lst [.int 3, .int 6, .int 9]) N = some (.lst [.int 3, .int 6, .int 9]) := upd_same
    have n3 : N ≠ p := fun z => by
      obtain ⟨xs, e, _⟩ := P2.some
      rw [z, e] at hN
      cases hN
    have P3 := P2.same s3
    generalize upd H2 N (.lst [.int 3, .int 6, .int 9]) = H3 at s3 e3 P3
    refine ⟨p, N, _, _, rfl, P3, by omega, SqL.of e3, n3, by decide, by decide, fun x H4 hx P4 B4 => ?_⟩
    obtain ⟨m, rfl, hm⟩ : ∃ m : Nat, x = .int (m : Int) ∧ m ≤ 9 := by
      simp only [List.mem_cons, List.not_mem_nil, or_false] at hx
      rcases hx with rfl | rfl | rfl
      · exact ⟨3, rfl, by omega⟩
      · exact ⟨6, rfl, by omega⟩
      · exact ⟨9, rfl, by omega⟩
    have B := ((B1.trans B2).step s3).trans B4
    obtain ⟨a1, ha1⟩ : ∃ a1 : Nat, 1 + r = (a1 : Int) := ⟨(1 + r).toNat, by omega⟩
    obtain ⟨a2, ha2⟩ : ∃ a2 : Nat, 1 + r' = (a2 : Int) := ⟨(1 + r').toNat, by omega⟩
    refine ⟨p, _, a1, a2, m, ?_, P4, by omega, by omega, by omega, by omega, by omega, by omega, fun W lm l1 l2 lr lj ps bs es rs js H5 wd rt l3 l4 P5 B5 hW => ?_⟩
    · rw [← ha1, ← ha2]
      rfl
    · refine q W lm l1 l2 lr lj ps bs es rs js H5 wd (rt.mono hm) (by omega) (by omega) (P5.mono (by omega)) (B.trans B5) ?_
      exact B.free P4 hW
def sp_begun (C : Addr) : Sp := fun vs H Q _ => ∃ (W lm l1 l2 lr lj : Addr) (ps : List AM) (bs es rs js : List Str) (x : Str), vs = [.ref W, .str x] ∧ World H W lm l1 l2 lr lj ps bs es rs js ∧ Right 9 ps bs es rs js ∧ x ∈ rs ∧
  ∀ (H' : Hp) (a : Addr) (qs : List AM) (fs ls rs js : List Str), ManOf C H' a ps [x] [] qs fs ls rs js → Same H H' → H a = none → Q (.ref a) H'
/-- what is shown ahead of a call of __init__ -/
theorem make_man {C : Addr} {H : Hp} {m1 m2 m3 x dx : Addr} {ps : List AM} {b' e' bs es rs js : List Str} (rt : Right 9 ps bs es rs js) (a1 : MnsAt H m1 ps) (a2 : WordsAt H m2 b') (a3 : WordsAt H m3 e') (hb : ∀ y ∈ b', y ∈ rs) (nb : b'.Nodup) (fb : b'.length < 64) (he : ∀ y ∈ e', y ∈ rs) (ne' : e'.Nodup) (fe : e'.length < 64)
    (hx : H x = none) (hdx : H dx = none) (ne : x ≠ dx) {R : VK} (q : ∀ (H' : Hp) (qs : List AM) (fs ls rs js : List Str), ManOf C H' x ps b' e' qs fs ls rs js → Same H H' → R .non H') :
    sp_minit C [.ref x, .ref m1, .ref m2, .ref m3] (upd (upd H dx (.own x)) x (.ins C dx [])) R E0 := by
  have t4 := new_same (o := .own x) hdx
  have hx4 : upd H dx (.own x) x = none := by rw [upd_ne ne]; exact hx
  have t5 := new_same (o := .ins C dx []) hx4
  have t35 := t4.trans t5
  have e5 : upd (upd H dx (.own x)) x (.ins C dx []) x = some (.ins C dx []) := upd_same
  generalize upd (upd H dx (.own x)) x (.ins C dx []) = H5 at t35 e5
  refine ⟨x, m1, m2, m3, dx, ps, b', e', rfl, e5, a1.same t35, t35 _ _ a2, t35 _ _ a3, fun p hp => ?_, rt.nd, by have := rt.few; omega, fun y hy => rt.r.1 y (hb y hy), nb, fb, fun y hy => rt.r.1 y (he y hy), ne', fe, ?_⟩
  · have o := rt.of p hp
    exact ⟨rt.r.1 _ o.1, rt.j.1 _ o.2.1, rt.r.1 _ o.2.2.1, o.2.2.2⟩
  · intro H' rows firsts lasts rooms jobs qs fs ls rs' js' m pq sq pf sf pl sl sr nr mr sj nj mj B
    exact q H' qs fs ls rs' js' ⟨⟨rows, firsts, lasts, rooms, jobs, m⟩, pq, sq, pf, sf, pl, sl, sr, nr, mr, sj, nj, mj⟩ fun b o e => B b o (t35 b o e) fun z => by rw [z, hx] at e; cases e
end
end EV
namespace EV
open PySem L2 NT SX EVX
open PyProof.Rows (sortedS)
/-! ### repr of a world -/
structure Fine (d : PyData) (B n : Nat) : Prop where
  sh : d.showable = true
  lv : d.leavesShort 13 = true
  wt : d.weight ≤ B
  dp : d.depth ≤ n
theorem fine_all {B n : Nat} : ∀ {ds : List PyData}, (∀ d ∈ ds, Fine d B n) → PyData.showableAll ds = true ∧ PyData.leavesShortAll 13 ds = true ∧ PyData.weightAll ds ≤ (B + 1) * ds.length ∧ PyData.depthAll ds ≤ n
  | [], _ => ⟨rfl, rfl, Nat.zero_le _, Nat.zero_le _⟩
  | d :: ds, h => by
    obtain ⟨h1, h2, h3, h4⟩ := fine_all fun x hx => h x (List.mem_cons_of_mem _ hx)
    have f := h d List.mem_cons_self
    refine ⟨?_, ?_, ?_, ?_⟩
    · simp only [PyData.showableAll, f.sh, h1, Bool.and_self]
    · simp only [PyData.leavesShortAll, f.lv, h2, Bool.and_self]
    · simp only [PyData.weightAll, List.length_cons, Nat.mul_succ]
      have := f.wt
      omega
    · simp only [PyData.depthAll]
      exact Nat.max_le.mpr ⟨f.dp, h4⟩
theorem fine_list {ds : List PyData} {B n m : Nat} (h : ∀ d ∈ ds, Fine d B n) (hm : ds.length ≤ m) : Fine (.list ds) ((B + 1) * m) (n + 1) := by
  obtain ⟨h1, h2, h3, h4⟩ := fine_all h
  exact ⟨h1, h2, Nat.le_trans h3 (Nat.mul_le_mul_left _ hm), Nat.succ_le_succ h4⟩
theorem fine_tup {ds : List PyData} {B n m : Nat} (h : ∀ d ∈ ds, Fine d B n) (hm : ds.length ≤ m) : Fine (.tuple ds) ((B + 1) * m) (n + 1) := by
  obtain ⟨h1, h2, h3, h4⟩ := fine_all h
  exact ⟨h1, h2, Nat.le_trans h3 (Nat.mul_le_mul_left _ hm), Nat.succ_le_succ h4⟩
theorem Fine.mono {d : PyData} {B n B' n' : Nat} (f : Fine d B n) (h1 : B ≤ B') (h2 : n ≤ n') : Fine d B' n' := ⟨f.sh, f.lv, Nat.le_trans f.wt h1, Nat.le_trans f.dp h2⟩
theorem fine_word {x : Str} (h : IsWord x) : Fine (.str x) 8 0 := ⟨rfl, List.all_eq_true.mpr fun c hc => decide_eq_true (Nat.lt_of_le_of_lt (h.2.2 c hc).2 (by decide)), h.2.1, Nat.le_refl _⟩
theorem fine_eff {x : Str} (h : x = "coins" ∨ x = "fill") : Fine (.str x) 8 0 := by
  rcases h with rfl | rfl
  · exact ⟨rfl, by decide +kernel, by decide +kernel, Nat.le_refl _⟩
  · exact ⟨rfl, by decide +kernel, by decide +kernel, Nat.le_refl _⟩
theorem fine_int {i : Int} (h : 0 ≤ i ∧ i ≤ 3) : Fine (.int i) 8 0 := by
  have h3 : i.natAbs ≤ 3 := by omega
  have hl : i.natAbs.log2 < 2 := by
    by_cases z : i.natAbs = 0
    · rw [z]; decide
    · exact (Nat.log2_lt z).mpr (by omega)
  refine ⟨?_, ?_, ?_, Nat.le_refl _⟩
  · simp only [PyData.showable, decide_eq_true_eq]
    omega
  · simp only [PyData.leavesShort, decide_eq_true_eq]
    exact PyData.shown_int_le (by omega)
  · simp only [PyData.weight]
    split <;> omega
theorem fine_words {ws : List Str} {m : Nat} (h : ∀ x ∈ ws, IsWord x) (hm : ws.length ≤ m) : Fine (wsD ws) (9 * m) 1 := fine_list (fun d hd => by
  obtain ⟨x, hx, rfl⟩ := List.mem_map.mp hd
  exact fine_word (h x hx)) (by rw [List.length_map]; exact hm)
theorem fine_mn {rs js : List Str} {m : Mn} (h : MnOf rs js m) (hr : ∀ x ∈ rs, IsWord x) (hj : ∀ x ∈ js, IsWord x) : Fine (mnD m) 112 2 := by
  obtain ⟨h1, h2, h3, h4⟩ := h
  have fe : Fine (.tuple (.str m.w :: m.ns.map .int)) 27 1 := fine_tup (B := 8) (n := 0) (m := 3) (fun d hd => by
    rcases List.mem_cons.mp hd with rfl | hd
    · refine fine_eff ?_
      rcases h4.1 with ⟨e, _⟩ | ⟨e, _⟩
      · exact .inl e
      · exact .inr e
    · obtain ⟨i, hi, rfl⟩ := List.mem_map.mp hd
      exact fine_int (h4.2 i hi)) (by
    rw [List.length_cons, List.length_map]
    rcases h4.1 with ⟨_, e⟩ | ⟨_, e⟩ <;> omega)
  refine fine_tup (B := 27) (n := 1) (m := 4) (fun d hd => ?_) (Nat.le_refl _)
  simp only [List.mem_cons, List.not_mem_nil, or_false] at hd
  rcases hd with rfl | rfl | rfl | rfl
  · exact (fine_word (hr _ h1)).mono (by omega) (by omega)
  · exact (fine_word (hj _ h2)).mono (by omega) (by omega)
  · exact (fine_word (hr _ h3)).mono (by omega) (by omega)
  · exact fe
def worldD (ps : List AM) (bs es rs js : List Str) : PyData := .list [mnsD (ps.map (·.2)), wsD bs, wsD es, wsD rs, wsD js]
theorem fine_world {ps : List AM} {bs es rs js : List Str} (rt : Right 9 ps bs es rs js) (h1 : rs.length ≤ 3) (h2 : js.length ≤ 3) : Fine (worldD ps bs es rs js) 5090 4 := by
  have lb : bs.length ≤ 9 := Nat.le_trans (rt.b.2.length_le_of_subset fun x hx => rt.b.1 x hx) (by omega)
  have le : es.length ≤ 9 := Nat.le_trans (rt.e.2.length_le_of_subset fun x hx => rt.e.1 x hx) (by omega)
  refine fine_list (B := 1017) (n := 3) (m := 5) (fun d hd => ?_) (Nat.le_refl _)
  simp only [List.mem_cons, List.not_mem_nil, or_false] at hd
  rcases hd with rfl | rfl | rfl | rfl | rfl
  · refine fine_list (B := 112) (n := 2) (m := 9) (fun d hd => ?_) (by rw [List.length_map, List.length_map]; exact rt.few)
    obtain ⟨m, hm, rfl⟩ := List.mem_map.mp hd
    obtain ⟨p, hp, rfl⟩ := List.mem_map.mp hm
    exact fine_mn (rt.of p hp) rt.r.1 rt.j.1
  · exact (fine_words (fun x hx => rt.r.1 x (rt.b.1 x hx)) lb).mono (by omega) (by omega)
  · exact (fine_words (fun x hx => rt.r.1 x (rt.e.1 x hx)) le).mono (by omega) (by omega)
  · exact (fine_words rt.r.1 (Nat.le_trans h1 (by omega : 3 ≤ 9))).mono (by omega) (by omega)
  · exact (fine_words rt.j.1 (Nat.le_trans h2 (by omega : 3 ≤ 9))).mono (by omega) (by omega)
section
variable {K : PySem.W.Frag} {H : Hp}
theorem dq_strs : ∀ ws : List Str, DqAll K H (ws.map V.str) (ws.map .str)
  | [] => .nil
  | x :: ws => .cons (.str x) (dq_strs ws)
theorem dq_ints : ∀ ws : List Int, DqAll K H (ws.map V.int) (ws.map .int)
  | [] => .nil
  | x :: ws => .cons (.int x) (dq_ints ws)
theorem mn_dq {t : Addr} {m : Mn} (h : MnAt H t m) : Dq K H (.ref t) (mnD m) := by
  obtain ⟨e, h1, h2⟩ := mn_parts h
  exact .tup (SqT.of h1) (.cons (.str _) (.cons (.str _) (.cons (.str _) (.cons (.tup (SqT.of h2) (.cons (.str _) (dq_ints _))) .nil))))
theorem mns_dq {l : Addr} {ps : List AM} (h : MnsAt H l ps) : Dq K H (.ref l) (mnsD (ps.map (·.2))) := by
  refine .lst (SqL.of h.1) ?_
  have key : ∀ L : List AM, (∀ p ∈ L, MnAt H p.1 p.2) → DqAll K H (L.map fun p => V.ref p.1) ((L.map (·.2)).map mnD) := by
    intro L
    induction L with
    | nil => intro _; exact .nil
    | cons p L ih => intro h; exact .cons (mn_dq (h p List.mem_cons_self)) (ih fun q hq => h q (List.mem_cons_of_mem _ hq))
  exact key ps h.2
theorem ws_dq {l : Addr} {ws : List Str} (h : WordsAt H l ws) : Dq K H (.ref l) (wsD ws) := .lst (SqL.of h) (dq_strs ws)
theorem world_dq {W lm l1 l2 lr lj : Addr} {ps : List AM} {bs es rs js : List Str} (h : World H W lm l1 l2 lr lj ps bs es rs js) : Dq K H (.ref W) (worldD ps bs es rs js) :=
  .lst (SqL.of h.top) (.cons (mns_dq h.ms) (.cons (ws_dq h.b) (.cons (ws_dq h.e) (.cons (ws_dq h.r) (.cons (ws_dq h.j) .nil)))))
theorem fine_shown {d : PyData} (f : Fine d 5090 4) : d.shown.length ≤ sizeLine := PyData.shown_fits (B := 13) (by decide) (by decide) f.lv (Nat.le_trans f.wt (by decide))
/-- repr(world) -/
theorem repr_world {W lm l1 l2 lr lj : Addr} {ps : List AM} {bs es rs js : List Str} {Q : VK} (h : World H W lm l1 l2 lr lj ps bs es rs js) (rt : Right 9 ps bs es rs js) (h1 : rs.length ≤ 3) (h2 : js.length ≤ 3) (q : Q (.str (worldD ps bs es rs js).shown) H) : rRepr K [.ref W] H Q := by
  have f := fine_world rt h1 h2
  exact ⟨_, _, rfl, world_dq h, f.sh, PyData.shown_fits (B := 13) (by decide) (by decide) f.lv (Nat.le_trans f.wt (by decide)), Nat.le_trans f.dp (by decide), q⟩
end
/-! ### a manual that is begun in one room, a book without end without head -/
def tAx (C : Addr) (i1 ir i6 : Nat) : TA := tCons (tCall (sp_begun C) [] E0 (tCons (tVar i1) (tCons (tVar ir) tNil))) (tCons (tTup (tCons (tLst tNil) (tCons (tVar i6) tNil))) tNil)
section
variable {C : Addr} {σ : St} {H : Hp} {Q : VK} {W lm l1 l2 lr lj t : Addr} {ps : List AM} {bs es rs js tn : List Str} {x : Str} {i1 ir i6 : Nat}
theorem args_x {R : List V → Hp → Prop} (h1 : σ[i1]? = some (some (V.ref W))) (h2 : σ[ir]? = some (some (V.str x))) (h3 : σ[i6]? = some (some (V.ref t))) (wd : World H W lm l1 l2 lr lj ps bs es rs js) (rt : Right 9 ps bs es rs js) (hx : x ∈ rs) (ht : WordsAt H t tn)
    (q : ∀ (a e rows firsts lasts rooms jobs h : Addr) (qs : List AM) (fs ls rs' js' : List Str) (H1 H' : Hp), ManOf C H1 a ps [x] [] qs fs ls rs' js' → ESAt C H' a e (mkES rows firsts lasts rooms jobs h t qs fs ls rs' js' [] tn) → Same H H' → R [.ref a, .ref e] H') : tAx C i1 ir i6 σ H R := by
  refine ⟨_, h1, _, h2, W, lm, l1, l2, lr, lj, ps, bs, es, rs, js, x, rfl, wd, rt, hx, fun H1 a qs fs ls rs' js' mo s1 _ => ?_⟩
  obtain ⟨rows, firsts, lasts, rooms, jobs, ma⟩ := mo.at_
  refine ⟨by show 0 ≤ sizeLine; exact Nat.zero_le _, fun h hh => ?_⟩
  have s2 := new_same (o := .lst []) hh
  have e2 : WordsAt (upd H1 h (.lst [])) h [] := upd_same
  generalize upd H1 h (.lst []) = H2 at s2 e2
  refine ⟨_, h3, by show 2 ≤ sizeLine; decide, fun e he => ?_⟩
  have s3 := new_same (o := .tup [.ref h, .ref t]) he
  exact q a e rows firsts lasts rooms jobs h qs fs ls rs' js' H1 _ mo ⟨ma.same (s2.trans s3), upd_same, e2.same s3, ((ht.same s1).same s2).same s3⟩ ((s1.trans s2).trans s3)
def tKx (C : Addr) (i1 ir i6 : Nat) : TE := tCall (sp_endless_from C) [] E0 (tAx C i1 ir i6)
def tNx (C : Addr) (i1 ir i6 : Nat) : TE := tCall (sp_least C) [] E0 (tAx C i1 ir i6)
theorem kind_x (h1 : σ[i1]? = some (some (V.ref W))) (h2 : σ[ir]? = some (some (V.str x))) (h3 : σ[i6]? = some (some (V.ref t))) (wd : World H W lm l1 l2 lr lj ps bs es rs js) (rt : Right 9 ps bs es rs js) (r3 : rs.length ≤ 3) (hx : x ∈ rs) (ht : WordsAt H t tn) (eo : EndOk [] tn) (t4 : tn.length ≤ 4)
    (q : ∀ k H', KindM (ps.map (·.2)) [x] [] tn k → Same H H' → Q (.str k) H') : tKx C i1 ir i6 σ H Q := by
  unfold tKx tCall
  refine args_x h1 h2 h3 wd rt hx ht fun a e rows firsts lasts rooms jobs h qs fs ls rs' js' H1 H' mo sc s1 => ?_
  obtain ⟨o, W'⟩ := es_ok (bs' := [x]) (es' := []) (rows := rows) (firsts := firsts) (lasts := lasts) (rooms := rooms) (jobs := jobs) (h := h) (t := t) rt r3 (fun z hz => by rw [List.mem_singleton] at hz; rw [hz]; exact hx) (by simp) (fun z hz => nomatch hz) mo eo (by show 0 ≤ 3; omega) t4
  exact ⟨a, e, _, rfl, sc, o, fun k H2 hk s2 => q k H2 (man_kind rt mo W' hk) (s1.trans s2)⟩
theorem need_x (h1 : σ[i1]? = some (some (V.ref W))) (h2 : σ[ir]? = some (some (V.str x))) (h3 : σ[i6]? = some (some (V.ref t))) (wd : World H W lm l1 l2 lr lj ps bs es rs js) (rt : Right 9 ps bs es rs js) (r3 : rs.length ≤ 3) (hx : x ∈ rs) (ht : WordsAt H t tn) (eo : EndOk [] tn) (t4 : tn.length ≤ 4)
    (q : ∀ o H', NeedM (ps.map (·.2)) [x] [] tn o → Same H H' → Q (optV o) H') : tNx C i1 ir i6 σ H Q := by
  unfold tNx tCall
  refine args_x h1 h2 h3 wd rt hx ht fun a e rows firsts lasts rooms jobs h qs fs ls rs' js' H1 H' mo sc s1 => ?_
  obtain ⟨o, W'⟩ := es_ok (bs' := [x]) (es' := []) (rows := rows) (firsts := firsts) (lasts := lasts) (rooms := rooms) (jobs := jobs) (h := h) (t := t) rt r3 (fun z hz => by rw [List.mem_singleton] at hz; rw [hz]; exact hx) (by simp) (fun z hz => nomatch hz) mo eo (by show 0 ≤ 3; omega) t4
  exact ⟨a, e, _, rfl, sc, o, least_ok W', kind_ex W', fun k H2 hk s2 => q k H2 (man_need rt mo W' hk) (s1.trans s2)⟩
end
/-! ### the needs behind the head -/
section
variable {ms : List Mn} {fs hd tn X : List Str}
/-- the parts: rooms and their needs -/
structure Parts (ms : List Mn) (tn X : List Str) (L : List (Str × Int)) : Prop where
  is : ∀ p ∈ L, p.1 ∈ X ∧ ∃ b : Nat, p.2 = (b : Int) ∧ Las ms [p.1] [] tn b
  all : ∀ x ∈ X, ∀ b : Nat, Las ms [x] [] tn b → ∃ p ∈ L, p.1 = x ∧ p.2 ≤ b
theorem need_none {o : Option Int} {L : List (Str × Int)} (hk : ∀ m ∈ ms, EffK m.w m.ns) (hX : ∀ x, x ∈ X ↔ Ends ms fs hd x) (h : NeedM ms fs hd tn o) (pt : Parts ms tn X L) : o = none ↔ L = [] := by
  have key : (∃ p : Nat, Las ms fs hd tn p) ↔ L ≠ [] := by
    rw [bdd_room hk hX]
    constructor
    · rintro ⟨x, hx, b, hb⟩ e
      obtain ⟨p, hp, _⟩ := pt.all x hx b hb
      rw [e] at hp
      cases hp
    · intro ne
      cases L with
      | nil => exact absurd rfl ne
      | cons p L =>
        obtain ⟨h1, b, _, h2⟩ := pt.is p List.mem_cons_self
        exact ⟨p.1, h1, b, h2⟩
  rcases h with ⟨rfl, h⟩ | ⟨p, rfl, h1, _⟩
  · rw [key] at h
    exact ⟨fun _ => Classical.byContradiction h, fun _ => rfl⟩
  · exact ⟨(fun e => nomatch e), fun e => absurd e (key.mp ⟨p, h1⟩)⟩
theorem need_ge {n : Int} {L : List (Str × Int)} (hk : ∀ m ∈ ms, EffK m.w m.ns) (hX : ∀ x, x ∈ X ↔ Ends ms fs hd x) (h : NeedM ms fs hd tn (some n)) (pt : Parts ms tn X L) : ∃ p ∈ L, p.2 ≤ n := by
  rcases h with ⟨e, _⟩ | ⟨p, e, h1, _⟩
  · cases e
  · cases e
    obtain ⟨x, hx, hl⟩ := las_room hk (fun x h => (hX x).mpr h) h1
    obtain ⟨q, hq, _, le⟩ := pt.all x hx p hl
    exact ⟨q, hq, le⟩
theorem need_le {n : Int} {a : Nat} {x : Str} {b : Int} {L : List (Str × Int)} (h : NeedM ms fs hd tn (some n)) (pt : Parts ms tn X L) (hp : (x, b) ∈ L) {f : Str} (hf : f ∈ fs) {w1 : List Mn} (h1 : Way ms hd f x w1) {c : Int} (r1 : run (a : Int) w1 a = some c) : n ≤ a + b := by
  obtain ⟨_, b', e, hl⟩ := pt.is _ hp
  have e : b = (b' : Int) := e
  subst e
  rcases h with ⟨e, _⟩ | ⟨p, e, _, h2⟩
  · cases e
  · cases e
    apply Int.le_of_not_gt
    intro lt
    have := las_join (tn := tn) (Int.natCast_nonneg b') (Int.natCast_nonneg a) hf h1 r1 hl
    rw [← Int.natCast_add] at this
    exact h2 (a + b') (by omega) this
/-- without a head: the least over the beginnings -/
theorem need_alone {o : Option Int} {L : List (Str × Int)} (hk : ∀ m ∈ ms, EffK m.w m.ns) (h : NeedM ms fs [] tn o) (pt : Parts ms tn fs L) : (L = [] → o = none) ∧ ∀ m, (∃ p ∈ L, p.2 = m) → (∀ p ∈ L, m ≤ p.2) → o = some m := by
  have hX : ∀ x, x ∈ fs ↔ Ends ms fs [] x := fun x => ends_nil.symm
  refine ⟨fun e => (need_none hk hX h pt).mpr e, fun m ⟨p, hp, e⟩ hm => ?_⟩
  cases o with
  | none =>
    have := (need_none hk hX h pt).mp rfl
    rw [this] at hp
    cases hp
  | some n =>
    obtain ⟨q, hq, le⟩ := need_ge hk hX h pt
    have l1 := hm q hq
    obtain ⟨hx, b, eb, hl⟩ := pt.is p hp
    have l2 := need_le (a := 0) (x := p.1) (b := p.2) h pt hp hx (w1 := []) (show Way ms [] p.1 p.1 [] from ⟨rfl, rfl⟩) (c := 0) rfl
    congr 1
    omega
end
end EV
namespace EV
open PySem L2 NT SX
open PyProof.Rows (sortedS)
abbrev s_beginnings : Stmt := inClass (top 20) 2
abbrev s_with_ends : Stmt := top 41
abbrev s_opened : Stmt := top 42
/-- manners, beginnings and ends of which a manual can be made -/
structure MkOk (ps : List AM) (bs es : List Str) : Prop where
  w : ∀ p ∈ ps, MnW p.2
  nd : (ps.map (·.2)).Nodup
  few : ps.length < 64
  bw : ∀ x ∈ bs, IsWord x
  bn : bs.Nodup
  bf : bs.length < 64
  ew : ∀ x ∈ es, IsWord x
  en : es.Nodup
  ef : es.length < 64
/-- what is shown ahead of a call of __init__ -/
theorem make_man2 {C : Addr} {H : Hp} {m1 m2 m3 x dx : Addr} {ps : List AM} {b' e' : List Str} (mk : MkOk ps b' e') (a1 : MnsAt H m1 ps) (a2 : WordsAt H m2 b') (a3 : WordsAt H m3 e')
    (hx : H x = none) (hdx : H dx = none) (ne : x ≠ dx) {R : VK} (q : ∀ (H' : Hp) (qs : List AM) (fs ls rs js : List Str), ManOf C H' x ps b' e' qs fs ls rs js → Same H H' → R .non H') :
    sp_minit C [.ref x, .ref m1, .ref m2, .ref m3] (upd (upd H dx (.own x)) x (.ins C dx [])) R E0 := by
  have t4 := new_same (o := .own x) hdx
  have hx4 : upd H dx (.own x) x = none := by rw [upd_ne ne]; exact hx
  have t5 := new_same (o := .ins C dx []) hx4
  have t35 := t4.trans t5
  have e5 : upd (upd H dx (.own x)) x (.ins C dx []) x = some (.ins C dx []) := upd_same
  generalize upd (upd H dx (.own x)) x (.ins C dx []) = H5 at t35 e5
  refine ⟨x, m1, m2, m3, dx, ps, b', e', rfl, e5, a1.same t35, t35 _ _ a2, t35 _ _ a3, mk.w, mk.nd, mk.few, mk.bw, mk.bn, mk.bf, mk.ew, mk.en, mk.ef, ?_⟩
  intro H' rows firsts lasts rooms jobs qs fs ls rs' js' m pq sq pf sf pl sl sr nr mr sj nj mj B
  exact q H' qs fs ls rs' js' ⟨⟨rows, firsts, lasts, rooms, jobs, m⟩, pq, sq, pf, sf, pl, sl, sr, nr, mr, sj, nj, mj⟩ fun b o e => B b o (t35 b o e) fun z => by rw [z, hx] at e; cases e
section
variable {P : Program} {w : PySem.World} {K : PySem.W.Frag} {mg : Str → Option Value} {base : Heap} {f : Addr} {fd : FuncData}
theorem sc_beginnings : FnScope ["self"] ["self"] (defScope s_beginnings) := ⟨rfl, rfl, rfl, by decide +kernel, rfl, by decide +kernel, by decide +kernel⟩
def sp_beginnings (C : Addr) : Sp := fun vs H Q _ => ∃ (a rows firsts lasts rooms jobs : Addr) (qs : List AM) (fs ls rs js : List Str), vs = [.ref a] ∧ ManAt C H a rows firsts lasts rooms jobs qs fs ls rs js ∧ ∀ l, H l = none → Q (.ref l) (upd H l (.lst (fs.map V.str)))
theorem ok_beginnings {C : Addr} (M : ManC K C) (F : FnM K "beginnings" "Manual.beginnings" s_beginnings f fd) (gl : mg "list" = none) : FnOk P w K mg base CX0 1 f fd ["self"] (sp_beginnings C) := by
  refine F.ok sc_beginnings (fun vs H Q E h => ?_) (fun cdv A outer s H vs Q E hr h => ?_)
  · obtain ⟨a, rows, firsts, lasts, rooms, jobs, qs, fs, ls, rs, js, rfl, _⟩ := h
    rfl
  · obtain ⟨a, rows, firsts, lasts, rooms, jobs, qs, fs, ls, rs, js, rfl, m, q⟩ := h
    obtain ⟨dx, top⟩ := m.top
    exact ⟨_, PSs.nox (pss_one (ps_ret (pe_callTy call_list_of (by rfl) gl (by decide +kernel) (pa_cons (pe_fld (pv 0) rfl) pa_nil)))), _, rfl, a, C, dx, _, _, rfl, top, M.cl, M.firsts, rfl, firsts, _, rfl, .inl (SqL.of m.f), q⟩
theorem sc_with_ends : FnScope ["manual", "ends"] ["manual", "ends"] (defScope s_with_ends) := ⟨rfl, rfl, rfl, by decide +kernel, rfl, by decide +kernel, by decide +kernel⟩
def sp_with_ends (C : Addr) : Sp := fun vs H Q _ => ∃ (a l rows firsts lasts rooms jobs : Addr) (qs : List AM) (fs ls rs js es : List Str), vs = [.ref a, .ref l] ∧ ManAt C H a rows firsts lasts rooms jobs qs fs ls rs js ∧ WordsAt H l es ∧ MkOk qs fs es ∧
  ∀ (H' : Hp) (a' : Addr) (qs' : List AM) (fs' ls' rs' js' : List Str), ManOf C H' a' qs fs es qs' fs' ls' rs' js' → Same H H' → H a' = none → Q (.ref a') H'
theorem ok_with_ends {C : Addr} (M : ManC K C) (F : FnP K "with_ends" s_with_ends f fd)
    {fA : Addr} {dA : FuncData} (mA : Meth K C "manners" fA) (GA : FnOk P w K mg base CX0 6 fA dA ["self"] (sp_manners C)) (bA : Binds K dA ["self"] [])
    {fB : Addr} {dB : FuncData} (mB : Meth K C "beginnings" fB) (GB : FnOk P w K mg base CX0 6 fB dB ["self"] (sp_beginnings C)) (bB : Binds K dB ["self"] [])
    {fI : Addr} {dI : FuncData} (MK : Mk K C fI) (gC : mg "Manual" = some (.ref C)) (GI : FnOk P w K mg base CX0 5 fI dI ["self", "manners", "beginnings", "ends"] (sp_minit C)) (bI : Binds K dI ["self", "manners", "beginnings", "ends"] []) : FnOk P w K mg base CX0 7 f fd ["manual", "ends"] (sp_with_ends C) := by
  refine F.ok sc_with_ends (fun vs H Q E h => ?_) (fun cdv A outer s H vs Q E hr h => ?_)
  · obtain ⟨a, l, rows, firsts, lasts, rooms, jobs, qs, fs, ls, rs, js, es, rfl, _⟩ := h
    rfl
  · obtain ⟨a, l, rows, firsts, lasts, rooms, jobs, qs, fs, ls, rs, js, es, rfl, m, hl, mk, q⟩ := h
    obtain ⟨dx, top⟩ := m.top
    refine ⟨_, PSs.nox (pss_one (ps_ret (pe_make MK GI hr rfl gC bI .nil pass0
      (pa_cons (pe_meth0 (pv 0) M.cl mA GA hr bA .nil pass0) (pa_cons (pe_meth0 (pv 0) M.cl mB GB hr bB .nil pass0) (pa_cons (pv 1) pa_nil)))))), ?_⟩
    refine ⟨_, rfl, a, dx, _, rfl, top, rfl, a, rows, firsts, lasts, rooms, jobs, qs, fs, ls, rs, js, rfl, m, fun m1 hm1 => ?_⟩
    have t1 := new_same (o := .lst (qs.map fun p => V.ref p.1)) hm1
    have a1 : MnsAt (upd H m1 (.lst (qs.map fun p => V.ref p.1))) m1 qs := ⟨upd_same, fun p hp => MnAt.same (m.ms.2 p hp) t1⟩
    generalize upd H m1 (.lst (qs.map fun p => V.ref p.1)) = H1 at t1 a1
    refine ⟨_, rfl, a, dx, _, rfl, t1 _ _ top, rfl, a, rows, firsts, lasts, rooms, jobs, qs, fs, ls, rs, js, rfl, m.same t1, fun m2 hm2 => ?_⟩
    have t2 := new_same (o := .lst (fs.map V.str)) hm2
    have a2 : WordsAt (upd H1 m2 (.lst (fs.map V.str))) m2 fs := upd_same
    generalize upd H1 m2 (.lst (fs.map V.str)) = H2 at t2 a2
    have t02 := t1.trans t2
    refine ⟨_, rfl, ?_⟩
    intro y dy hy hdy ne
    exact make_man2 mk (a1.same t2) a2 (hl.same t02) hy hdy ne.symm fun H' qs' fs' ls' rs' js' mo s5 => ⟨rfl, q H' y qs' fs' ls' rs' js' mo (t02.trans s5) (none_back t02 hy)⟩
theorem sc_opened : FnScope ["manual"] ["manual"] (defScope s_opened) := ⟨rfl, rfl, rfl, by decide +kernel, rfl, by decide +kernel, by decide +kernel⟩
def sp_opened (C : Addr) : Sp := fun vs H Q _ => ∃ (a rows firsts lasts rooms jobs : Addr) (qs : List AM) (fs ls rs js : List Str), vs = [.ref a] ∧ ManAt C H a rows firsts lasts rooms jobs qs fs ls rs js ∧ MkOk qs fs rs ∧
  ∀ (H' : Hp) (a' : Addr) (qs' : List AM) (fs' ls' rs' js' : List Str), ManOf C H' a' qs fs rs qs' fs' ls' rs' js' → Same H H' → H a' = none → Q (.ref a') H'
theorem ok_opened {C : Addr} (M : ManC K C) (F : FnP K "opened" s_opened f fd) (gl : mg "list" = none)
    {fC : Addr} {dC : FuncData} (GC : FnOk P w K mg base CX0 7 fC dC ["value"] (sp_check_manual C)) (kC : PySem.W.keepIn K (.ref fC) = true) (bC : Binds K dC ["value"] []) (gC : mg "check_manual" = some (.ref fC))
    {fW : Addr} {dW : FuncData} (GW : FnOk P w K mg base CX0 7 fW dW ["manual", "ends"] (sp_with_ends C)) (kW : PySem.W.keepIn K (.ref fW) = true) (bW : Binds K dW ["manual", "ends"] []) (gW : mg "with_ends" = some (.ref fW)) : FnOk P w K mg base CX0 8 f fd ["manual"] (sp_opened C) := by
  refine F.ok sc_opened (fun vs H Q E h => ?_) (fun cdv A outer s H vs Q E hr h => ?_)
  · obtain ⟨a, rows, firsts, lasts, rooms, jobs, qs, fs, ls, rs, js, rfl, _⟩ := h
    rfl
  · obtain ⟨a, rows, firsts, lasts, rooms, jobs, qs, fs, ls, rs, js, rfl, m, mk, q⟩ := h
    obtain ⟨dx, top⟩ := m.top
    refine ⟨_, PSs.nox (pss_cons (ps_expr (pe_call GC hr rfl gC kC bC .nil pass0 (pa_cons (pv 0) pa_nil)))
      (pss_one (ps_ret (pe_call GW hr rfl gW kW bW .nil pass0 (pa_cons (pv 0) (pa_cons (pe_callTy call_list_of (by rfl) gl (by decide +kernel) (pa_cons (pe_fld (pv 0) rfl) pa_nil)) pa_nil)))))), ?_⟩
    refine ⟨_, rfl, a, dx, _, rfl, top, ?_⟩
    refine ⟨_, rfl, _, rfl, a, C, dx, _, _, rfl, top, M.cl, M.rooms, rfl, rooms, _, rfl, .inl (SqL.of m.r), fun l hl => ?_⟩
    have t1 := new_same (o := .lst (rs.map V.str)) hl
    have a1 : WordsAt (upd H l (.lst (rs.map V.str))) l rs := upd_same
    generalize upd H l (.lst (rs.map V.str)) = H1 at t1 a1
    exact ⟨a, l, rows, firsts, lasts, rooms, jobs, qs, fs, ls, rs, js, rs, rfl, m.same t1, a1, mk, fun H' a' qs' fs' ls' rs' js' mo s2 na => q H' a' qs' fs' ls' rs' js' mo (t1.trans s2) (none_back t1 na)⟩
end
/-- of a world's manual another one can be made, its rooms the ends -/
theorem mkok_of {C : Addr} {H : Hp} {a : Addr} {ps qs : List AM} {bs es rs0 js0 fs ls rs js : List Str} (rt : Right 9 ps bs es rs0 js0) (r3 : rs0.length ≤ 3) (mo : ManOf C H a ps bs es qs fs ls rs js) : MkOk qs fs rs := by
  have lr := man_rs rt rt.b.1 rt.e.1 mo
  have rr : ∀ x ∈ rs, x ∈ rs0 := fun x hx => by
    rcases (mo.mr x).mp hx with h | h | ⟨p, hp, h | h⟩
    · exact rt.b.1 x h
    · exact rt.e.1 x h
    · rw [h]; exact (rt.of p hp).1
    · rw [h]; exact (rt.of p hp).2.2.1
  have nf : fs.Nodup := mo.pf.nodup_iff.mpr rt.b.2
  have lf : fs.length ≤ rs0.length := nf.length_le_of_subset fun x hx => rt.b.1 x (mo.pf.mem_iff.mp hx)
  refine ⟨fun p hp => ?_, ?_, ?_, fun x hx => rt.r.1 x (rt.b.1 x (mo.pf.mem_iff.mp hx)), nf, by omega, fun x hx => rt.r.1 x (rr x hx), mo.nr, by omega⟩
  · have o := rt.of p (mo.pq.mem_iff.mp hp)
    exact ⟨rt.r.1 _ o.1, rt.j.1 _ o.2.1, rt.r.1 _ o.2.2.1, o.2.2.2⟩
  · exact (mo.pq.map _).nodup_iff.mpr rt.nd
  · rw [mo.pq.length_eq]
    have := rt.few
    omega
end EV
namespace EV
open PySem L2 NT SX EVX
/-! ### needs of beginnings, in plain words -/
section
variable {ms : List Mn} {rs fs hd tn : List Str}
theorem go_pre {p : Int} {j k : Nat} (h : j ≤ k) (g : Go0 ms fs hd tn p k) : Go0 ms fs hd tn p j := by
  obtain ⟨f, hf, g, ws, c, hw, hr⟩ := g
  rw [show k = j + (k - j) by omega, rep_add, ← List.append_assoc] at hw
  obtain ⟨u, w1, w2, rfl, h1, _⟩ := way_app.mp hw
  obtain ⟨c1, r1, _⟩ := run_some.mp hr
  exact ⟨f, hf, u, w1, c1, h1, r1⟩
theorem go_more {p q : Int} (h : p ≤ q) {k : Nat} (g : Go0 ms fs hd tn p k) : Go0 ms fs hd tn q k := by
  obtain ⟨f, hf, g, ws, c, hw, hr⟩ := g
  obtain ⟨x, h4, _⟩ := run_mono2 h hr h
  exact ⟨f, hf, g, ws, x, hw, h4⟩
/-- rounds enough: a spot comes back -/
theorem go_las (hc : ∀ m ∈ ms, m.c ∈ rs) (hk : ∀ m ∈ ms, EffK m.w m.ns) (hf : ∀ f ∈ fs, f ∈ rs) {p M : Nat} (hM : rs.length * (p + 1) ≤ M) (h : Go0 ms fs hd tn p M) : Las ms fs hd tn p := by
  have h := go_pre hM h
  obtain ⟨f, hf', g, ws, c, hw, hr⟩ := h
  obtain ⟨x, w1, w2, rfl, h1, h2⟩ := way_app.mp hw
  obtain ⟨c0, r1, r2⟩ := run_some.mp hr
  have mk : ∀ {b : List Str} {r g : Str} {ws : List Mn}, Way ms b r g ws → ∀ m ∈ ws, EffK m.w m.ns := fun h m hm => hk m (h.mem m hm)
  obtain ⟨y, y0, yK, hy⟩ := (steps_run (ms := ms) (tn := tn) (p := (p : Int))).seq _ (x, c0) (g, c) ⟨w2, h2, r2⟩
  have c0p : c0 ≤ p := run_le (mk h1) r1 (Int.le_refl _)
  have c0n : 0 ≤ c0 := run_nat (Int.natCast_nonneg p) r1
  have hx : x ∈ rs := way_in hc (hf f hf') h1
  have iny : ∀ k, k ≤ rs.length * (p + 1) → (y k).1 ∈ rs ∧ 0 ≤ (y k).2 ∧ (y k).2 ≤ p := by
    intro k
    induction k with
    | zero =>
      intro _
      rw [y0]
      exact ⟨hx, c0n, c0p⟩
    | succ k ih =>
      intro hk
      obtain ⟨a1, a2, a3⟩ := ih (by omega)
      obtain ⟨w, hw, hr⟩ := hy k (by omega)
      exact ⟨way_in hc a1 hw, run_nat a2 hr, run_le (mk hw) hr a3⟩
  have lenL : (rs.flatMap fun r => (List.range (p + 1)).map fun c : Nat => (r, (c : Int))).length = rs.length * (p + 1) := flatMap_len _ fun r => by rw [List.length_map, List.length_range]
  obtain ⟨a, b, hab, hb, e⟩ := pigeon (rs.flatMap fun r => (List.range (p + 1)).map fun c : Nat => (r, (c : Int))) y fun k hk => by
    obtain ⟨a1, a2, a3⟩ := iny k (by rw [← lenL]; exact hk)
    rw [List.mem_flatMap]
    refine ⟨(y k).1, a1, List.mem_map.mpr ⟨(y k).2.toNat, List.mem_range.mpr (by omega), ?_⟩⟩
    exact Prod.ext rfl (by show ((y k).2.toNat : Int) = (y k).2; omega)
  rw [lenL] at hb
  have S := steps_run (ms := ms) (tn := tn) (p := (p : Int))
  have ring : Run ms p (rep tn (b - a)) (y a) (y a) := by
    have z := S.seg hy (b - a) a (by omega)
    rw [show a + (b - a) = b by omega, ← e] at z
    exact z
  have first : Run ms p (rep tn a) (x, c0) (y a) := by
    have z := S.seg hy a 0 (by omega)
    rw [Nat.zero_add, y0] at z
    exact z
  have key : ∀ K : Nat, Run ms p (rep tn (a + K * (b - a))) (x, c0) (y a) := by
    intro K
    induction K with
    | zero => rw [Nat.zero_mul, Nat.add_zero]; exact first
    | succ K ih =>
      rw [Nat.succ_mul, ← Nat.add_assoc]
      exact S.add ring _ _ ih
  intro j
  obtain ⟨w3, h3, r3⟩ := key j
  refine go_pre (k := a + j * (b - a)) (Nat.le_trans (Nat.le_mul_of_pos_right j (by omega)) (Nat.le_add_left _ _)) ⟨f, hf', (y a).1, w1 ++ w3, (y a).2, way_app.mpr ⟨x, w1, w3, rfl, h1, h3⟩, run_some.mpr ⟨c0, r1, r3⟩⟩
/-- a way of so many rounds as there are rooms: a room comes back -/
theorem way_alv (hc : ∀ m ∈ ms, m.c ∈ rs) (hf : ∀ f ∈ fs, f ∈ rs) {M : Nat} (hM : rs.length ≤ M) {f g : Str} {ws : List Mn} (hf' : f ∈ fs) (hw : Way ms (hd ++ rep tn M) f g ws) : Alv ms fs hd tn := by
  obtain ⟨x, w1, w2, rfl, h1, h2⟩ := way_app.mp hw
  rw [show M = rs.length + (M - rs.length) by omega, rep_add] at h2
  obtain ⟨u, w3, w4, rfl, h3, _⟩ := way_app.mp h2
  have S := steps_way (ms := ms) (tn := tn)
  obtain ⟨y, y0, yK, hy⟩ := S.seq _ x u ⟨w3, h3⟩
  have hx : x ∈ rs := way_in hc (hf f hf') h1
  have iny : ∀ k, k ≤ rs.length → y k ∈ rs := by
    intro k
    induction k with
    | zero => intro _; rw [y0]; exact hx
    | succ k ih =>
      intro hk
      obtain ⟨w, hw⟩ := hy k (by omega)
      exact way_in hc (ih (by omega)) hw
  obtain ⟨a, b, hab, hb, e⟩ := pigeon rs y iny
  have ring : ∃ ws, Way ms (rep tn (b - a)) (y a) (y a) ws := by
    have z := S.seg hy (b - a) a (by omega)
    rw [show a + (b - a) = b by omega, ← e] at z
    exact z
  have first : ∃ ws, Way ms (rep tn a) x (y a) ws := by
    have z := S.seg hy a 0 (by omega)
    rw [Nat.zero_add, y0] at z
    exact z
  have key : ∀ K : Nat, ∃ ws, Way ms (rep tn (a + K * (b - a))) x (y a) ws := by
    intro K
    induction K with
    | zero => rw [Nat.zero_mul, Nat.add_zero]; exact first
    | succ K ih =>
      rw [Nat.succ_mul, ← Nat.add_assoc]
      exact S.add ring _ _ ih
  intro j
  obtain ⟨w5, h5⟩ := key j
  have hj : j ≤ a + j * (b - a) := Nat.le_trans (Nat.le_mul_of_pos_right j (by omega)) (Nat.le_add_left _ _)
  rw [show a + j * (b - a) = j + (a + j * (b - a) - j) by omega, rep_add] at h5
  obtain ⟨v, w6, w7, _, h6, _⟩ := way_app.mp h5
  exact ⟨f, hf', v, w1 ++ w6, way_app.mpr ⟨x, w1, w6, rfl, h1, h6⟩⟩
/-- the need of so many rounds -/
def PartM (ms : List Mn) (fs hd tn : List Str) (j : Nat) (o : Option Int) : Prop := (o = none ∧ ¬ ∃ p : Nat, Go0 ms fs hd tn p j) ∨ ∃ p : Nat, o = some (p : Int) ∧ Go0 ms fs hd tn p j ∧ ∀ q : Nat, q < p → ¬ Go0 ms fs hd tn q j
theorem part_up {j k : Nat} (h : j ≤ k) {a b : Int} (h1 : PartM ms fs hd tn j (some a)) (h2 : PartM ms fs hd tn k (some b)) : a ≤ b := by
  rcases h1 with ⟨e, _⟩ | ⟨p, e, g1, l1⟩
  · cases e
  · cases e
    rcases h2 with ⟨e, _⟩ | ⟨q, e, g2, _⟩
    · cases e
    · cases e
      apply Int.le_of_not_gt
      intro lt
      exact l1 q (by omega) (go_pre h g2)
theorem go_of_alv (hk : ∀ m ∈ ms, EffK m.w m.ns) (h : Alv ms fs hd tn) (j : Nat) : ∃ p : Nat, Go0 ms fs hd tn p j := by
  obtain ⟨f, hf, g, ws, hw⟩ := h j
  obtain ⟨c, hc⟩ := way_rich hk hw
  exact ⟨_, f, hf, g, ws, c, hw, hc⟩
theorem part_some (hk : ∀ m ∈ ms, EffK m.w m.ns) (h : Alv ms fs hd tn) {j : Nat} {o : Option Int} (h1 : PartM ms fs hd tn j o) : ∃ p : Nat, o = some (p : Int) ∧ Go0 ms fs hd tn p j ∧ ∀ q : Nat, q < p → ¬ Go0 ms fs hd tn q j := by
  rcases h1 with ⟨_, no⟩ | h1
  · exact absurd (go_of_alv hk h j) no
  · exact h1
theorem part_le {j : Nat} {b n : Int} (h : NeedM ms fs hd tn (some n)) (h1 : PartM ms fs hd tn j (some b)) : b ≤ n := by
  rcases h with ⟨e, _⟩ | ⟨p, e, l, _⟩
  · cases e
  · cases e
    rcases h1 with ⟨e, _⟩ | ⟨q, e, _, l1⟩
    · cases e
    · cases e
      apply Int.le_of_not_gt
      intro lt
      exact l1 p (by omega) (l j)
/-- from some number of rounds on it is the need -/
theorem part_need (hc : ∀ m ∈ ms, m.c ∈ rs) (hk : ∀ m ∈ ms, EffK m.w m.ns) (hf : ∀ f ∈ fs, f ∈ rs) {j : Nat} {n : Int} {o : Option Int} (h : NeedM ms fs hd tn (some n)) (hj : rs.length * n.toNat ≤ j) (h1 : PartM ms fs hd tn j o) : o = some n := by
  have h0 := h
  rcases h with ⟨e, _⟩ | ⟨p, e, l, m⟩
  · cases e
  · cases e
    obtain ⟨q, rfl, g, _⟩ := part_some hk (las_alv l) h1
    have le := part_le h0 h1
    congr 1
    apply Int.le_antisymm le
    apply Int.le_of_not_gt
    intro lt
    refine m q (by omega) (go_las hc hk hf (Nat.le_trans (Nat.mul_le_mul_left _ ?_) hj) g)
    rw [Int.toNat_natCast]
    omega
theorem part_grows (hc : ∀ m ∈ ms, m.c ∈ rs) (hk : ∀ m ∈ ms, EffK m.w m.ns) (hf : ∀ f ∈ fs, f ∈ rs) (r3 : rs.length ≤ 3) {j : Nat} {o : Option Int} (hb : ¬ ∃ p : Nat, Las ms fs hd tn p) (ha : Alv ms fs hd tn) (h1 : PartM ms fs hd tn j o) : ∃ b : Int, o = some b ∧ (j : Int) < 3 * b + 3 := by
  obtain ⟨q, rfl, g, _⟩ := part_some hk ha h1
  refine ⟨q, rfl, ?_⟩
  apply Int.lt_of_not_ge
  intro ge
  refine hb ⟨q, go_las hc hk hf (Nat.le_trans (Nat.mul_le_mul_right _ r3) ?_) g⟩
  omega
theorem part_never (hc : ∀ m ∈ ms, m.c ∈ rs) (hf : ∀ f ∈ fs, f ∈ rs) {j : Nat} {o : Option Int} (ha : ¬ Alv ms fs hd tn) (hj : rs.length ≤ j) (h1 : PartM ms fs hd tn j o) : o = none := by
  rcases h1 with ⟨e, _⟩ | ⟨p, _, ⟨f, hf', g, ws, c, hw, _⟩, _⟩
  · exact e
  · exact absurd (way_alv hc hf hj hf' hw) ha
end
end EV
namespace EV
open PySem L2 NT SX EVX
/-! ### small helps -/
theorem norm2 {R : St → Hp → Prop} {σ σ' : St} {H : Hp} (e : σ = σ') (h : R σ' H) : R σ H := e ▸ h
theorem norm_g {i : Nat} {x : V} {R : St → Hp → Prop} {σ σ' : St} {H : Hp} (e : σ.set i (some x) = σ') (h : R σ' H) : gName i x σ H R := by
  subst e
  exact h
theorem cut {A B : Prop} (h1 : B → A) (h2 : B) : A := h1 h2
theorem rep_flat {tn : List Str} : ∀ k : Nat, (List.replicate k (tn.map V.str)).flatten = (rep tn k).map V.str
  | 0 => rfl
  | k + 1 => by
    rw [List.replicate_succ, List.flatten_cons, rep_flat k, ← List.map_append]
    rfl
theorem rep_mem {tn : List Str} {x : Str} : ∀ {r : Nat}, x ∈ rep tn r → x ∈ tn
  | 0, h => nomatch h
  | r + 1, h => by
    rcases List.mem_append.mp (show x ∈ tn ++ rep tn r from h) with h | h
    · exact h
    · exact rep_mem h
theorem book_words {hd tn : List Str} {r : Nat} (eo : EndOk hd tn) : ∀ x ∈ hd ++ rep tn r, IsWord x := fun x hx => by
  rcases List.mem_append.mp hx with h | h
  · exact eo.1 x h
  · exact eo.2.2.1 x (rep_mem h)
/-- the rooms of a world, as the law tells them, are few -/
theorem rooms_few {ps : List AM} {bs es rs js ws : List Str} (rt : Right 9 ps bs es rs js) (r3 : rs.length ≤ 3) (once : OnceOf ws (roomsOf ps bs es)) : ws.length ≤ 3 ∧ (∀ m ∈ ps.map (·.2), m.c ∈ ws) ∧ ∀ f ∈ bs, f ∈ ws := by
  refine ⟨Nat.le_trans (once.1.length_le_of_subset fun x hx => ?_) r3, fun m hm => ?_, fun f hf => ?_⟩
  · have z := (once.2.1 x).mp hx
    unfold roomsOf at z
    simp only [List.mem_append, List.mem_map] at z
    rcases z with ((⟨q, hq, rfl⟩ | ⟨q, hq, rfl⟩) | z) | z
    · exact (rt.of q hq).1
    · exact (rt.of q hq).2.2.1
    · exact rt.b.1 x z
    · exact rt.e.1 x z
  · obtain ⟨q, hq, rfl⟩ := List.mem_map.mp hm
    refine (once.2.1 _).mpr ?_
    unfold roomsOf
    simp only [List.mem_append, List.mem_map]
    exact .inl (.inl (.inr ⟨q, hq, rfl⟩))
  · refine (once.2.1 _).mpr ?_
    unfold roomsOf
    simp only [List.mem_append, List.mem_map]
    exact .inl (.inr hf)
theorem rooms_len {ps : List AM} {bs es rs js : List Str} (rt : Right 9 ps bs es rs js) (r3 : rs.length ≤ 3) : ps.length < 64 ∧ bs.length < 64 ∧ es.length < 64 ∧ (roomsOf ps bs es).length < 64 := by
  have lb : bs.length ≤ 3 := Nat.le_trans (rt.b.2.length_le_of_subset fun x hx => rt.b.1 x hx) r3
  have le : es.length ≤ 3 := Nat.le_trans (rt.e.2.length_le_of_subset fun x hx => rt.e.1 x hx) r3
  have few : ps.length ≤ 9 := rt.few
  refine ⟨by omega, by omega, by omega, ?_⟩
  unfold roomsOf
  simp only [List.length_append, List.length_map]
  omega
theorem kind_congr {ms ns : List Mn} {fs gs hd tn : List Str} {k : Str} (h : ∀ m, m ∈ ms ↔ m ∈ ns) (h2 : ∀ f, f ∈ fs ↔ f ∈ gs) (km : KindM ms fs hd tn k) : KindM ns gs hd tn k := by
  obtain ⟨a, b, c⟩ := km
  refine ⟨a.trans ?_, b.trans (not_congr (alv_congr h h2)), c⟩
  exact exists_congr fun p => las_congr h h2
theorem need_congr {ms ns : List Mn} {fs gs hd tn : List Str} {o : Option Int} (h : ∀ m, m ∈ ms ↔ m ∈ ns) (h2 : ∀ f, f ∈ fs ↔ f ∈ gs) (nm : NeedM ms fs hd tn o) : NeedM ns gs hd tn o := by
  rcases nm with ⟨e, no⟩ | ⟨p, e, l, m⟩
  · exact .inl ⟨e, fun ⟨p, hp⟩ => no ⟨p, (las_congr h h2).mpr hp⟩⟩
  · exact .inr ⟨p, e, (las_congr h h2).mp l, fun q hq hl => m q hq ((las_congr h h2).mpr hl)⟩
/-- of a world, a manual's parts make one again -/
theorem right_man {C a : Addr} {H : Hp} {ps qs : List AM} {bs es rs0 js0 fs ls rs js : List Str} (rt : Right 9 ps bs es rs0 js0) (mo : ManOf C H a ps bs es qs fs ls rs js) : Right 9 qs fs ls rs0 js0 ∧ Right 9 qs fs rs rs0 js0 := by
  have few := rt.few
  have rr : ∀ x ∈ rs, x ∈ rs0 := fun x hx => by
    rcases (mo.mr x).mp hx with h | h | ⟨p, hp, h | h⟩
    · exact rt.b.1 x h
    · exact rt.e.1 x h
    · rw [h]; exact (rt.of p hp).1
    · rw [h]; exact (rt.of p hp).2.2.1
  have a1 : qs.length ≤ 9 := by rw [mo.pq.length_eq]; exact few
  have a2 : (qs.map (·.2)).Nodup := (mo.pq.map _).nodup_iff.mpr rt.nd
  have a3 : ∀ p ∈ qs, MnOf rs0 js0 p.2 := fun p hp => rt.of p (mo.pq.mem_iff.mp hp)
  have a4 : (∀ x ∈ fs, x ∈ rs0) ∧ fs.Nodup := ⟨fun x hx => rt.b.1 x (mo.pf.mem_iff.mp hx), mo.pf.nodup_iff.mpr rt.b.2⟩
  exact ⟨⟨a1, a2, a3, a4, ⟨fun x hx => rt.e.1 x (mo.pl.mem_iff.mp hx), mo.pl.nodup_iff.mpr rt.e.2⟩, rt.r, rt.j⟩, ⟨a1, a2, a3, a4, ⟨rr, mo.nr⟩, rt.r, rt.j⟩⟩
theorem mkok_ends {C a : Addr} {H : Hp} {ps qs : List AM} {bs es rs0 js0 fs ls rs js : List Str} (rt : Right 9 ps bs es rs0 js0) (r3 : rs0.length ≤ 3) (mo : ManOf C H a ps bs es qs fs ls rs js) : MkOk qs fs ls := by
  have z := mkok_of rt r3 mo
  have r1 := (right_man rt mo).1
  have ll : ls.length ≤ rs0.length := r1.e.2.length_le_of_subset fun x hx => r1.e.1 x hx
  exact ⟨z.w, z.nd, z.few, z.bw, z.bn, z.bf, fun x hx => rt.r.1 x (r1.e.1 x hx), r1.e.2, by omega⟩
theorem kind_one {ms : List Mn} {fs hd tn : List Str} {k k' : Str} (h : KindM ms fs hd tn k) (h' : KindM ms fs hd tn k') : k = k' := by
  obtain ⟨a, b, c⟩ := h
  obtain ⟨a', b', c'⟩ := h'
  rcases c with e | e | e
  · rw [e, a'.mpr (a.mp e)]
  · rcases c' with e' | e' | e'
    · rw [e', a.mpr (a'.mp e')]
    · rw [e, e']
    · rw [e', b.mpr (b'.mp e')]
  · rw [e, b'.mpr (b.mp e)]
theorem need_one {ms : List Mn} {fs hd tn : List Str} {o o' : Option Int} (h : NeedM ms fs hd tn o) (h' : NeedM ms fs hd tn o') : o = o' := by
  rcases h with ⟨e, no⟩ | ⟨p, e, l, m⟩
  · rcases h' with ⟨e', _⟩ | ⟨p', _, l', _⟩
    · rw [e, e']
    · exact absurd ⟨p', l'⟩ no
  · rcases h' with ⟨_, no⟩ | ⟨p', e', l', m'⟩
    · exact absurd ⟨p, l⟩ no
    · have : p = p' := by
        rcases Nat.lt_trichotomy p p' with z | z | z
        · exact absurd l (m' p z)
        · exact z
        · exact absurd l' (m p' z)
      rw [e, e', this]
def dOpt : Option Int → PyData
  | none => .none
  | some i => .int i
theorem dh_opt {H : Hp} : ∀ o : Option Int, Dh H (optV o) (dOpt o)
  | none => .non
  | some i => .int i
theorem dOpt_depth : ∀ o : Option Int, PyData.depth (dOpt o) < 3
  | none => by show 0 < 3; decide
  | some i => by show 0 < 3; decide
theorem ends_congr {ms ns : List Mn} {fs gs b : List Str} {x : Str} (h : ∀ m, m ∈ ms ↔ m ∈ ns) (h2 : ∀ f, f ∈ fs ↔ f ∈ gs) : Ends ms fs b x ↔ Ends ns gs b x := by
  constructor
  · rintro ⟨f, hf, ws, hw⟩
    exact ⟨f, (h2 f).mp hf, ws, way_congr h hw⟩
  · rintro ⟨f, hf, ws, hw⟩
    exact ⟨f, (h2 f).mpr hf, ws, way_congr (fun m => (h m).symm) hw⟩
theorem ends_in_rs {ps : List AM} {bs es rs js b : List Str} {x : Str} (rt : Right 9 ps bs es rs js) (h : Ends (ps.map (·.2)) bs b x) : x ∈ rs := by
  obtain ⟨f, hf, ws, hw⟩ := h
  exact way_in (fun m hm => by obtain ⟨q, hq, rfl⟩ := List.mem_map.mp hm; exact (rt.of q hq).2.2.1) (rt.b.1 f hf) hw
end EV
namespace EV
open PySem L2 NT SX EVX
open PyProof.Rows (sortedS)
abbrev s_check_count : Stmt := top 13
abbrev s_dry_round : Stmt := top 39
mutual
theorem Dh.dp {K : PySem.W.Frag} {H : Hp} : ∀ (d : PyData) (v : V), Dh H v d → Dp K H v d
  | .none, _, h => by cases h; exact .non
  | .bool b, _, h => by cases h; exact .bl b
  | .int b, _, h => by cases h; exact .int b
  | .str b, _, h => by cases h; exact .str b
  | .list ds, _, h => by
    cases h with
    | lst e a f => exact .lst (SqL.of e) (Dh.dpAll ds _ a)
  | .tuple ds, _, h => by
    cases h with
    | tup e a f => exact .tup (SqT.of e) (Dh.dpAll ds _ a)
theorem Dh.dpAll {K : PySem.W.Frag} {H : Hp} : ∀ (ds : List PyData) (vs : List V), DhAll H vs ds → DpAll K H vs ds
  | [], _, h => by cases h; exact .nil
  | d :: ds, _, h => by
    cases h with
    | cons a b => exact .cons (Dh.dp d _ a) (Dh.dpAll ds _ b)
end
theorem DhAll.at {H : Hp} : ∀ {vs : List V} {ds : List PyData}, DhAll H vs ds → ∀ {i : Nat} {v : V}, vs[i]? = some v → ∃ d, ds[i]? = some d ∧ Dh H v d
  | [], _, _, i, v, hi => by simp at hi
  | v0 :: vs, _, h, i, v, hi => by
    cases h with
    | cons a b =>
      cases i with
      | zero =>
        cases hi
        exact ⟨_, rfl, a⟩
      | succ i => exact DhAll.at b (by simpa using hi)
theorem mn_dh {H : Hp} {t : Addr} {m : Mn} (few : m.ns.length < 1000) (h : MnAt H t m) : Dh H (.ref t) (mnD m) := by
  obtain ⟨e, h1, h2⟩ := mn_parts h
  refine .tup h1 (.cons (.str _) (.cons (.str _) (.cons (.str _) (.cons (.tup h2 (.cons (.str _) ?_) ?_) .nil)))) (by show 4 < 5000; decide)
  · have key : ∀ ns : List Int, DhAll H (ns.map V.int) (ns.map .int) := fun ns => by
      induction ns with
      | nil => exact .nil
      | cons n ns ih => exact .cons (.int n) ih
    exact key _
  · rw [List.length_cons, List.length_map]
    omega
theorem mns_dhAll {H : Hp} : ∀ {qs : List AM}, (∀ q ∈ qs, q.2.ns.length < 1000) → (∀ q ∈ qs, MnAt H q.1 q.2) → DhAll H (qs.map fun q => V.ref q.1) (qs.map fun q => mnD q.2)
  | [], _, _ => .nil
  | q :: qs, f, h => .cons (mn_dh (f q List.mem_cons_self) (h q List.mem_cons_self)) (mns_dhAll (fun x hx => f x (List.mem_cons_of_mem _ hx)) fun x hx => h x (List.mem_cons_of_mem _ hx))
def dropD (xs : List V) (ds : List PyData) (d : PyData) : List V := ((xs.zip ds).filter fun y => !PyData.eqv y.2 d).map (·.1)
theorem drop_mns (m : Mn) : ∀ qs : List AM, dropD (qs.map fun q => V.ref q.1) (qs.map fun q => mnD q.2) (mnD m) = (qs.filter fun q => decide (q.2 ≠ m)).map fun q => V.ref q.1
  | [] => rfl
  | q :: qs => by
    have ih := drop_mns m qs
    unfold dropD at ih ⊢
    rw [List.map_cons, List.map_cons, List.zip_cons_cons]
    by_cases c : q.2 = m
    · rw [List.filter_cons_of_neg (by simp [eqv_mn, c]), List.filter_cons_of_neg (by simp [c]), ih]
    · rw [List.filter_cons_of_pos (by simp [eqv_mn, c]), List.filter_cons_of_pos (by simp [c]), List.map_cons, List.map_cons, ih]
theorem drop_words (x : Str) : ∀ ws : List Str, dropD (ws.map V.str) (ws.map .str) (.str x) = (ws.filter fun w => decide (w ≠ x)).map V.str
  | [] => rfl
  | w :: ws => by
    have ih := drop_words x ws
    unfold dropD at ih ⊢
    rw [List.map_cons, List.map_cons, List.zip_cons_cons]
    have e : PyData.eqv (.str w) (.str x) = decide (w = x) := by
      show (w == x) = _
      by_cases c : w = x
      · rw [decide_eq_true c]; exact beq_iff_eq.mpr c
      · rw [decide_eq_false c]; exact beq_eq_false_iff_ne.mpr c
    by_cases c : w = x
    · rw [List.filter_cons_of_neg (by show ¬ (!(PyData.eqv (.str w) (.str x))) = true; rw [e, decide_eq_true c]; decide), List.filter_cons_of_neg (by simp [c]), ih]
    · rw [List.filter_cons_of_pos (by show (!(PyData.eqv (.str w) (.str x))) = true; rw [e, decide_eq_false c]; rfl), List.filter_cons_of_pos (by simp [c]), List.map_cons, List.map_cons, ih]
section
variable {P : Program} {w : PySem.World} {K : PySem.W.Frag} {mg : Str → Option Value} {base : Heap} {f : Addr} {fd : FuncData}
def sp_shuffledM : Sp := fun vs H Q _ => ∃ (p l : Addr) (k : Nat) (ws : List AM), vs = [.ref p, .ref l] ∧ Pu H p k ∧ k < 700000000 ∧ MnsAt H l ws ∧ ws.length < 64 ∧
  ∀ (r : Addr) (us : List AM) H', us.Perm ws → MnsAt H' r us → H r = none → Pu H' p (k + ws.length) → But p H H' → Q (.ref r) H'
def sp_turned : Sp := fun vs H Q _ => ∃ (l : Addr) (xs : List V) (ds : List PyData) (v : V) (d : PyData) (comes : Bool), vs = [.ref l, v, .bl comes] ∧ H l = some (.lst xs) ∧ DhAll H xs ds ∧ Dh H v d ∧ SeqAt.shaped d = true ∧ SeqAt.shaped (.list ds) = true ∧ (∀ x ∈ ds, SeqAt.shaped x = true) ∧ xs.length < 1000 ∧
  (ds.any fun z => PyData.eqv z d) = !comes ∧ ∀ r H', Same H H' → H r = none → H' r = some (.lst (if comes = true then xs ++ [v] else dropD xs ds d)) → Q (.ref r) H'
def tTu (K : PySem.W.Frag) : TT := tTest (tOp (rNeD K) (tVar 3) (tVar 1))
theorem sc_check_count : FnScope ["value", "most"] ["value", "most"] (defScope s_check_count) := ⟨rfl, rfl, rfl, by decide +kernel, rfl, by decide +kernel, by decide +kernel⟩
def sp_check_count : Sp := fun vs H Q _ => ∃ n : Int, vs = [.int n, .non] ∧ 0 ≤ n ∧ Q .non H
theorem ok_check_count (F : FnD1 K "check_count" s_check_count [.non] f fd) {fC : Addr} {dC : FuncData} (GC : FnOk P w K mg base CX0 2 fC dC ["value", "most"] sp_is_count) (kC : PySem.W.keepIn K (.ref fC) = true) (bC : Binds K dC ["value", "most"] []) (gC : mg "is_count" = some (.ref fC)) : FnOk P w K mg base CX0 3 f fd ["value", "most"] sp_check_count := by
  refine F.ok sc_check_count (fun vs H Q E h => ?_) (fun cdv A outer s H vs Q E hr h => ?_)
  · obtain ⟨n, rfl, _⟩ := h
    rfl
  · obtain ⟨n, rfl, h0, q⟩ := h
    exact ⟨_, PSs.nox (pss_one (ps_if (pt_not (pt_val (pe_call GC hr rfl gC kC bC .nil pass0 (pa_cons (pv 0) (pa_cons (pv 1) pa_nil))))) (pss_one ps_never) pss_nil)), _, rfl, _, rfl, n, .non, rfl, h0, .inl rfl, _, rfl, iteF q⟩
def sp_check_effect : Sp := fun vs H Q _ => ∃ (e : Addr) (w : Str) (ns : List Int), vs = [.ref e] ∧ EffAt H e w ns ∧ EffK w ns ∧ ∀ H', Same H H' → Q .non H'
/-- an effect is never dearer than another one -/
def beatB (w : Str) (ns : List Int) (w' : Str) (ns' : List Int) : Bool := if w = "coins" then (decide (w' = "coins") && decide (ns.headD 0 ≤ ns'.headD 0)) else (decide (ns.headD 0 ≤ ns'.headD 0) && decide (ns.getD 1 0 ≤ ns'.getLastD 0))
def sp_beats : Sp := fun vs H Q _ => ∃ (e e' : Addr) (w : Str) (ns : List Int) (w' : Str) (ns' : List Int), vs = [.ref e, .ref e'] ∧ EffAt H e w ns ∧ EffK w ns ∧ EffAt H e' w' ns' ∧ EffK w' ns' ∧ ∀ H', Same H H' → Q (.bl (beatB w ns w' ns')) H'
theorem sc_dry_round : FnScope ["manual", "endless", "purse"] ["manual", "endless", "purse"] (defScope s_dry_round) := ⟨rfl, rfl, rfl, by decide +kernel, rfl, by decide +kernel, by decide +kernel⟩
def sp_dry_round (C : Addr) : Sp := fun vs H Q _ => ∃ (a e : Addr) (z : ES) (p : Int), vs = [.ref a, .ref e, .int p] ∧ 0 ≤ p ∧ ESAt C H a e z ∧ ESOk z ∧ DryOk z p ∧
  (∀ i : Nat, Emp (rowN z p i) → (∀ j, j < i → ¬ Emp (rowN z p j)) → ∀ H', Same H H' → Q (.int i) H') ∧ ((∀ j, ¬ Emp (rowN z p j)) → ∀ H', Same H H' → Q .non H')
theorem ok_dry_round {C : Addr} (F : FnP K "dry_round" s_dry_round f fd)
    {fE : Addr} {dE : FuncData} (GE : FnOk P w K mg base CX0 5 fE dE ["manual", "endless"] (sp_check_endless C)) (kE : PySem.W.keepIn K (.ref fE) = true) (bE : Binds K dE ["manual", "endless"] []) (gE : mg "check_endless" = some (.ref fE))
    {fC : Addr} {dC : FuncData} {dsC : List Value} (vC : Vals [.non] dsC) (GC : FnOk P w K mg base CX0 5 fC dC ["value", "most"] sp_check_count) (kC : PySem.W.keepIn K (.ref fC) = true) (bC : Binds K dC ["value", "most"] dsC) (gC : mg "check_count" = some (.ref fC))
    {fD : Addr} {dD : FuncData} (GD : FnOk P w K mg base CX0 5 fD dD ["manual", "endless", "purse"] (sp_dry C)) (kD : PySem.W.keepIn K (.ref fD) = true) (bD : Binds K dD ["manual", "endless", "purse"] []) (gD : mg "dry_from" = some (.ref fD)) : FnOk P w K mg base CX0 6 f fd ["manual", "endless", "purse"] (sp_dry_round C) := by
  refine F.ok sc_dry_round (fun vs H Q E h => ?_) (fun cdv A outer s H vs Q E hr h => ?_)
  · obtain ⟨a, e, z, p, rfl, _⟩ := h
    rfl
  · obtain ⟨a, e, z, p, rfl, p0, at_, ok, dok, q1, q2⟩ := h
    refine ⟨_, PSs.nox (pss_cons (ps_expr (pe_call GE hr rfl gE kE bE .nil pass0 (pa_cons (pv 0) (pa_cons (pv 1) pa_nil)))) (pss_cons (ps_expr (pe_call GC hr rfl gC kC bC vC pass0 (pa_cons (pv 2) pa_nil)))
      (pss_one (ps_ret (pe_call GD hr rfl gD kD bD .nil pass0 (pa_cons (pv 0) (pa_cons (pv 1) (pa_cons (pv 2) pa_nil)))))))), ?_⟩
    refine ⟨_, rfl, _, rfl, a, z.rows, z.firsts, z.lasts, z.rooms, z.jobs, e, z.h, z.t, z.qs, z.fs, z.ls, z.rs, z.js, z.hd, z.tn, rfl, at_.ma, at_.en, ok.eo, fun H1 s1 => ?_⟩
    refine ⟨_, rfl, p, rfl, p0, ?_⟩
    exact ⟨_, rfl, _, rfl, _, rfl, a, e, z, p, rfl, at_.same s1, ok, dok, fun i h1 h2 H2 s2 => q1 i h1 h2 H2 (s1.trans s2), fun h H2 s2 => q2 h H2 (s1.trans s2)⟩
end
end EV
namespace EV
open PySem L2 NT SX EVX
open PyProof.Rows (sortedS)
abbrev s_paper_of : Stmt := top 29
abbrev s_dry_at : Stmt := top 32
abbrev s_paper_row : Stmt := top 30
abbrev s_is_paper : Stmt := top 31
abbrev s_check_purse : Stmt := top 49
/-- the rows of rests behind the first jobs of a book -/
def RRows (H : Hp) (l : Addr) (ms : List Mn) (fs ws : List Str) (p : Int) (Rs : List (Addr × List Str)) : Prop :=
  H l = some (.lst (Rs.map fun r => V.ref r.1)) ∧ Rs.length = ws.length + 1 ∧ ∀ i r, Rs[i]? = some r → RstAt H r.1 r.2 (bookF ms (firstF fs p) (ws.take i) p)
theorem RRows.same {H H' : Hp} {l : Addr} {ms : List Mn} {fs ws : List Str} {p : Int} {Rs : List (Addr × List Str)} (x : RRows H l ms fs ws p Rs) (s : Same H H') : RRows H' l ms fs ws p Rs := ⟨s _ _ x.1, x.2.1, fun i r e => (x.2.2 i r e).same s⟩
theorem last_of {α : Type} {xs : List α} {n : Nat} (h : xs.length = n + 1) : ∃ ys x, xs = ys ++ [x] ∧ ys.length = n := by
  have ne : xs ≠ [] := fun z => by rw [z] at h; cases h
  refine ⟨xs.dropLast, xs.getLast ne, (List.dropLast_concat_getLast ne).symm, ?_⟩
  rw [List.length_dropLast, h]
  rfl
theorem RRows.last {H : Hp} {l : Addr} {ms : List Mn} {fs ws : List Str} {p : Int} {Rs : List (Addr × List Str)} (x : RRows H l ms fs ws p Rs) : ∃ r : Addr × List Str, atI (Rs.map fun r => V.ref r.1) (-1) = some (.ref r.1) ∧ RstAt H r.1 r.2 (bookF ms (firstF fs p) ws p) := by
  obtain ⟨ys, r, rfl, hl⟩ := last_of x.2.1
  refine ⟨r, by rw [List.map_append]; exact ix_last, ?_⟩
  have z := x.2.2 ws.length r (by rw [List.getElem?_append_right (by omega), hl, Nat.sub_self]; rfl)
  rwa [List.take_length] at z
section
variable {P : Program} {w : PySem.World} {K : PySem.W.Frag} {mg : Str → Option Value} {base : Heap} {f : Addr} {fd : FuncData}
def sp_rest_rows2 (C : Addr) : Sp := fun vs H Q _ => ∃ (a rows firsts lasts rooms jobs b : Addr) (qs : List AM) (fs ls rs js ws : List Str) (p : Int), vs = [.ref a, .ref b, .int p] ∧ ManAt C H a rows firsts lasts rooms jobs qs fs ls rs js ∧ (∀ p ∈ qs, EffK p.2.w p.2.ns) ∧ qs.length < 64 ∧ fs.Nodup ∧ fs.length < 64 ∧ WordsAt H b ws ∧ ws.length < 1000 ∧
  ∀ l H' Rs, Same H H' → RRows H' l (qs.map (·.2)) fs ws p Rs → Q (.ref l) H'
theorem ok_rest_rows2 {C : Addr} (M : ManC K C) (F : FnP K "rest_rows" s_rest_rows f fd)
    {fR : Addr} {dR : FuncData} (GR : FnOk P w K mg base CX0 2 fR dR ["manners", "row", "job", "purse"] sp_rests) (kR : PySem.W.keepIn K (.ref fR) = true) (bR : Binds K dR ["manners", "row", "job", "purse"] []) (gR : mg "rests_behind_job" = some (.ref fR)) : FnOk P w K mg base CX0 3 f fd ["manual", "book", "purse"] (sp_rest_rows2 C) := by
  refine F.ok sc_rest_rows (fun vs H Q E h => ?_) (fun cdv A outer s H vs Q E hr h => ?_)
  · obtain ⟨a, rows, firsts, lasts, rooms, jobs, b, qs, fs, ls, rs, js, ws, p, rfl, _⟩ := h
    rfl
  · obtain ⟨a, rows, firsts, lasts, rooms, jobs, b, qs, fs, ls, rs, js, ws, p, rfl, m, ek, few, nd, fl, hb, lw, q⟩ := h
    obtain ⟨dx, hdx⟩ := m.top
    refine ⟨_, PSs.nox (pss_cons (ps_set (i := 3) sc_rest_rows.nd rfl (Or.inl rfl) (pe_fld (pv 0) rfl))
      (pss_cons (ps_set (i := 4) sc_rest_rows.nd rfl (Or.inl rfl) (pe_lst (pa_cons (pe_dc (own := [("room", 5)]) (g := gName 5) (tt := tYes) rfl sc_rest_rows.nd (pi_list (pe_fld (pv 0) rfl))
        (blkOk_by (N := ["manual", "book", "purse", "manners", "rows", "room", "job"]) (sc := defScope s_rest_rows) (by decide +kernel)) (fun _ _ _ _ _ => pg_name (i := 5) sc_rest_rows.nd rfl (Or.inl rfl)) (fun _ _ _ _ _ => pts_nil)
        (fun _ _ _ _ _ => pv 5) (fun _ _ _ _ _ => pv 2)) pa_nil)))
      (pss_cons (ps_for PassesOwn.never rfl (pi_list (pv 1)) (pg_name (i := 6) sc_rest_rows.nd rfl (Or.inl rfl))
        (pss_one (ps_expr (pe_bm PySem.F.plainAttrs_list PySem.F.slot_list_append PySem.F.type_list_append mt_append (pv 4)
          (pa_cons (pe_call GR hr rfl gR kR bR .nil pass0 (pa_cons (pv 3) (pa_cons (pe_ix ix_list (pv 4) (pe_un un_neg pe_int) (fun _ _ => rfl)) (pa_cons (pv 6) (pa_cons (pv 2) pa_nil))))) pa_nil)))))
      (pss_one (ps_ret (pv 4)))))), ?_⟩
    refine ⟨_, rfl, a, C, dx, _, _, rfl, hdx, M.cl, M.rows, rfl, ?_⟩
    refine ⟨_, rfl, a, C, dx, _, _, rfl, hdx, M.cl, M.firsts, rfl, firsts, rfl, ⟨_, SqL.of m.f⟩, fun N hN => ?_⟩
    have me : ∀ k, k ∈ fs ↔ (firstF fs p k).isSome = true := fun k => by
      unfold firstF
      by_cases z : k ∈ fs
      · rw [if_pos z]; simp [z]
      · rw [if_neg z]; simp [z]
    refine dc_list (xs := fs.map V.str) (fun i H' => Same H H' ∧ H' N = some (.dK ((fs.take i).map fun k => (.inr k, .int ((firstF fs p k).getD 0))))) ⟨new_same hN, upd_same⟩ (fun i H' _ z => SqL.of (z.1 _ _ m.f)) ?_ ?_
    · rintro i x H' hi ⟨s3, hd⟩
      rw [List.getElem?_map] at hi
      cases hn : fs[i]? with
      | none => rw [hn] at hi; cases hi
      | some y =>
        rw [hn] at hi
        cases hi
        have il := (List.getElem?_eq_some_iff.mp hn).1
        have hy : firstF fs p y = some p := by
          unfold firstF
          rw [if_pos (List.mem_of_getElem? hn)]
        refine ⟨rfl, _, rfl, _, rfl, _, .inr y, rfl, hd, by rw [List.length_map, List.length_take, PySem.sizeLine_eq]; omega, fun b o z => by rw [upd_ne (ne_of_none z hN)]; exact s3 _ _ z, ?_⟩
        rw [upd_same, put_any, if_neg, List.take_add_one, hn, List.map_append]
        · show some (HO.dK (_ ++ [(Sum.inr y, V.int p)])) = some (HO.dK (_ ++ [(Sum.inr y, V.int ((firstF fs p y).getD 0))]))
          rw [hy]
          rfl
        · rintro ⟨p', hp, ep⟩
          obtain ⟨k, hk, rfl⟩ := List.mem_map.mp hp
          have ek : k = y := Sum.inr.inj ep
          subst ek
          obtain ⟨j, hj⟩ := List.mem_iff_getElem?.mp hk
          rw [List.getElem?_take] at hj
          split at hj
          · have := (List.getElem?_inj (List.getElem?_eq_some_iff.mp hj).1 nd).mp (hj.trans hn.symm)
            omega
          · cases hj
    · rintro H1 ⟨s1, hd⟩
      rw [List.length_map, List.take_of_length_le (Nat.le_refl _)] at hd
      have r1 : RstAt H1 N fs (firstF fs p) := ⟨hd, nd, me⟩
      refine ⟨by show 1 ≤ sizeLine; decide, fun l hl => ?_⟩
      have hl0 := none_back s1 hl
      have s2 := new_same (o := .lst [V.ref N]) hl
      have el : upd H1 l (.lst [V.ref N]) l = some (.lst [V.ref N]) := upd_same
      generalize upd H1 l (.lst [V.ref N]) = H2 at s2 el
      have s12 := s1.trans s2
      refine ⟨_, rfl, b, rfl, ⟨_, SqL.of (s12 _ _ hb)⟩, ?_⟩
      refine for_list (xs := ws.map V.str) (fun i σ H' => Same H H' ∧ i ≤ ws.length ∧ ∃ v5 v6 Rs, σ = [some (.ref a), some (.ref b), some (.int p), some (.ref rows), some (.ref l), v5, v6] ∧ RRows H' l (qs.map (·.2)) fs (ws.take i) p Rs)
        ⟨s12, Nat.zero_le _, _, _, [(N, fs)], rfl, el, rfl, fun i r hi => by
          cases i with
          | zero => cases hi; exact r1.same s2
          | succ i => cases hi⟩ (fun i σ H' _ z => SqL.of (z.1 _ _ hb)) ?_ ?_
      · rintro i x σ H3 hi ⟨s3, il0, v5, v6, Rs, rfl, r3⟩
        rw [List.getElem?_map] at hi
        cases hn : ws[i]? with
        | none => rw [hn] at hi; cases hi
        | some j =>
          rw [hn] at hi
          cases hi
          have il := (List.getElem?_eq_some_iff.mp hn).1
          have tk : ws.take (i + 1) = ws.take i ++ [j] := by
            rw [List.take_add_one, hn]
            rfl
          obtain ⟨r, ix, rr⟩ := r3.last
          have h3 := r3.1
          have len3 : Rs.length = i + 1 := by
            have z := r3.2.1
            rw [List.length_take] at z
            omega
          refine ⟨_, rfl, .inl ⟨rfl, _, SqL.of h3⟩, _, rfl, _, rfl, _, rfl, l, _, _, _, rfl, rfl, SqL.of h3, ix, _, rfl, _, rfl, rows, r.1, qs, r.2, _, j, p, rfl, m.ms.same s3, ek, few, rr, fun T4 H4 ks4 s4 hT4 r4 so4 => ?_⟩
          refine ⟨l, _, _, rfl, rfl, s4 _ _ h3, by rw [List.length_map, PySem.sizeLine_eq]; omega, ?_⟩
          have nT : T4 ≠ l := fun z => by
            rw [z, h3] at hT4
            cases hT4
          refine ⟨fun b' o z => by rw [upd_ne (ne_of_none z hl0)]; exact s4 _ _ (s3 _ _ z), il, _, _, Rs ++ [(T4, ks4)], rfl, by rw [upd_same, List.map_append]; rfl, by rw [List.length_append, List.length_take, len3]; show i + 1 + 1 = _; omega, fun i' r' hi' => ?_⟩
          have low : ∀ {D : Addr} {ks : List Str} {G : Rw}, RstAt H4 D ks G → RstAt (upd H4 l (.lst (Rs.map (fun r => V.ref r.1) ++ [V.ref T4]))) D ks G := fun z => ⟨by
            have hl4 := s4 _ _ h3
            rw [upd_ne (fun e => by
              have := z.d
              rw [e, hl4] at this
              cases this)]
            exact z.d, z.nd, z.mem⟩
          by_cases c : i' < Rs.length
          · rw [List.getElem?_append_left c] at hi'
            have z := (r3.2.2 i' r' hi').same s4
            rw [List.take_take, Nat.min_eq_left (by omega)] at z ⊢
            exact low z
          · rw [List.getElem?_append_right (by omega)] at hi'
            have e0 : i' - Rs.length = 0 := by
              have := (List.getElem?_eq_some_iff.mp hi').1
              rw [List.length_singleton] at this
              omega
            rw [e0] at hi'
            cases hi'
            have ei : i' = i + 1 := by omega
            rw [ei, List.take_take, Nat.min_self, tk, book_snoc]
            exact low r4
      · rintro σ H3 ⟨s3, il0, v5, v6, Rs, rfl, r3⟩
        rw [List.length_map, List.take_length] at r3
        exact ⟨_, rfl, q l H3 Rs s3 r3⟩
theorem sc_check_purse : FnScope ["manual", "purse"] ["manual", "purse"] (defScope s_check_purse) := ⟨rfl, rfl, rfl, by decide +kernel, rfl, by decide +kernel, by decide +kernel⟩
def sp_check_purse (C : Addr) : Sp := fun vs H Q _ => ∃ (a dx : Addr) (fs : List (Str × V)) (p : Int), vs = [.ref a, .int p] ∧ H a = some (.ins C dx fs) ∧ 0 ≤ p ∧ Q .non H
theorem ok_check_purse {C : Addr} (F : FnP K "check_purse" s_check_purse f fd)
    {fM : Addr} {dM : FuncData} (GM : FnOk P w K mg base CX0 4 fM dM ["value"] (sp_check_manual C)) (kM : PySem.W.keepIn K (.ref fM) = true) (bM : Binds K dM ["value"] []) (gM : mg "check_manual" = some (.ref fM))
    {fC : Addr} {dC : FuncData} {dsC : List Value} (vC : Vals [.non] dsC) (GC : FnOk P w K mg base CX0 4 fC dC ["value", "most"] sp_check_count) (kC : PySem.W.keepIn K (.ref fC) = true) (bC : Binds K dC ["value", "most"] dsC) (gC : mg "check_count" = some (.ref fC)) : FnOk P w K mg base CX0 5 f fd ["manual", "purse"] (sp_check_purse C) := by
  refine F.ok sc_check_purse (fun vs H Q E h => ?_) (fun cdv A outer s H vs Q E hr h => ?_)
  · obtain ⟨a, dx, fs, p, rfl, _⟩ := h
    rfl
  · obtain ⟨a, dx, fs, p, rfl, ha, p0, q⟩ := h
    refine ⟨_, PSs.nox (pss_cons (ps_expr (pe_call GM hr rfl gM kM bM .nil pass0 (pa_cons (pv 0) pa_nil))) (pss_one (ps_expr (pe_call GC hr rfl gC kC bC vC pass0 (pa_cons (pv 1) pa_nil))))), ?_⟩
    refine ⟨_, rfl, a, dx, fs, rfl, ha, ?_⟩
    exact ⟨_, rfl, p, rfl, p0, q⟩
abbrev endsB (ms : List Mn) (fs ls ws : List Str) (p : Int) : Bool := ls.any fun l => (bookF ms (firstF fs p) ws p l).isSome
theorem sc_paper_of : FnScope ["manual", "book", "purse", "rows"] ["manual", "book", "purse"] (defScope s_paper_of) := ⟨rfl, rfl, rfl, by decide +kernel, rfl, by decide +kernel, by decide +kernel⟩
def sp_paper_of (C : Addr) : Sp := fun vs H Q _ => ∃ (a rows firsts lasts rooms jobs b : Addr) (qs : List AM) (fs ls rs js ws : List Str) (p : Int), vs = [.ref a, .ref b, .int p] ∧ ManAt C H a rows firsts lasts rooms jobs qs fs ls rs js ∧ (∀ p ∈ qs, EffK p.2.w p.2.ns) ∧ qs.length < 64 ∧ fs.Nodup ∧ fs.length < 64 ∧ ls.length < 64 ∧ WordsAt H b ws ∧ (∀ x ∈ ws, IsWord x) ∧ ws.length < 1000 ∧ 0 ≤ p ∧
  (endsB (qs.map (·.2)) fs ls ws p = true → ∀ H', Same H H' → Q .non H') ∧ (endsB (qs.map (·.2)) fs ls ws p = false → ∀ l H' Rs, Same H H' → RRows H' l (qs.map (·.2)) fs ws p Rs → Q (.ref l) H')
theorem ok_paper_of {C : Addr} (F : FnP K "paper_of" s_paper_of f fd)
    {fM : Addr} {dM : FuncData} (GM : FnOk P w K mg base CX0 4 fM dM ["value"] (sp_check_manual C)) (kM : PySem.W.keepIn K (.ref fM) = true) (bM : Binds K dM ["value"] []) (gM : mg "check_manual" = some (.ref fM))
    {fB : Addr} {dB : FuncData} (GB : FnOk P w K mg base CX0 4 fB dB ["value"] sp_check_book) (kB : PySem.W.keepIn K (.ref fB) = true) (bB : Binds K dB ["value"] []) (gB : mg "check_book" = some (.ref fB))
    {fC : Addr} {dC : FuncData} {dsC : List Value} (vC : Vals [.non] dsC) (GC : FnOk P w K mg base CX0 4 fC dC ["value", "most"] sp_check_count) (kC : PySem.W.keepIn K (.ref fC) = true) (bC : Binds K dC ["value", "most"] dsC) (gC : mg "check_count" = some (.ref fC))
    {fR : Addr} {dR : FuncData} (GR : FnOk P w K mg base CX0 4 fR dR ["manual", "book", "purse"] (sp_rest_rows2 C)) (kR : PySem.W.keepIn K (.ref fR) = true) (bR : Binds K dR ["manual", "book", "purse"] []) (gR : mg "rest_rows" = some (.ref fR))
    {fE : Addr} {dE : FuncData} (GE : FnOk P w K mg base CX0 4 fE dE ["manual", "row"] (sp_ends_in C)) (kE : PySem.W.keepIn K (.ref fE) = true) (bE : Binds K dE ["manual", "row"] []) (gE : mg "ends_in" = some (.ref fE)) : FnOk P w K mg base CX0 5 f fd ["manual", "book", "purse"] (sp_paper_of C) := by
  refine F.ok sc_paper_of (fun vs H Q E h => ?_) (fun cdv A outer s H vs Q E hr h => ?_)
  · obtain ⟨a, rows, firsts, lasts, rooms, jobs, b, qs, fs, ls, rs, js, ws, p, rfl, _⟩ := h
    rfl
  · obtain ⟨a, rows, firsts, lasts, rooms, jobs, b, qs, fs, ls, rs, js, ws, p, rfl, m, ek, few, nd, fl, ll, hb, iw, lw, p0, q1, q2⟩ := h
    obtain ⟨dx, hdx⟩ := m.top
    refine ⟨_, PSs.nox (pss_cons (ps_expr (pe_call GM hr rfl gM kM bM .nil pass0 (pa_cons (pv 0) pa_nil))) (pss_cons (ps_expr (pe_call GB hr rfl gB kB bB .nil pass0 (pa_cons (pv 1) pa_nil))) (pss_cons (ps_expr (pe_call GC hr rfl gC kC bC vC pass0 (pa_cons (pv 2) pa_nil)))
      (pss_cons (ps_set (i := 3) sc_paper_of.nd rfl (Or.inl rfl) (pe_call GR hr rfl gR kR bR .nil pass0 (pa_cons (pv 0) (pa_cons (pv 1) (pa_cons (pv 2) pa_nil)))))
      (pss_one (ps_ret (pe_ifExp (pt_val (pe_call GE hr rfl gE kE bE .nil pass0 (pa_cons (pv 0) (pa_cons (pe_ix ix_list (pv 3) (pe_un un_neg pe_int) (fun _ _ => rfl)) pa_nil)))) pe_non (pv 3)))))))), ?_⟩
    refine ⟨_, rfl, a, dx, _, rfl, hdx, ?_⟩
    refine ⟨_, rfl, b, ws, rfl, hb, iw, lw, fun H1 s1 => ?_⟩
    refine ⟨_, rfl, p, rfl, p0, ?_⟩
    refine ⟨_, rfl, _, rfl, _, rfl, a, rows, firsts, lasts, rooms, jobs, b, qs, fs, ls, rs, js, ws, p, rfl, m.same s1, ek, few, nd, fl, s1 _ _ hb, lw, fun l H2 Rs s2 r2 => ?_⟩
    obtain ⟨r, ix, rr⟩ := r2.last
    refine ⟨_, rfl, _, rfl, _, rfl, l, _, _, _, rfl, rfl, SqL.of r2.1, ix, ?_⟩
    refine ⟨a, rows, firsts, lasts, rooms, jobs, r.1, qs, fs, ls, rs, js, r.2, _, rfl, m.same (s1.trans s2), ll, rr, fun H3 s3 => ?_⟩
    refine ⟨_, rfl, ?_⟩
    have hc : (ls.any fun l => (bookF (qs.map (·.2)) (firstF fs p) ws p l).isSome) = true ∨ (ls.any fun l => (bookF (qs.map (·.2)) (firstF fs p) ws p l).isSome) = false := by cases (ls.any fun l => (bookF (qs.map (·.2)) (firstF fs p) ws p l).isSome) <;> simp
    rcases hc with c | c
    · rw [c]
      exact iteT (q1 c H3 ((s1.trans s2).trans s3))
    · rw [c]
      exact iteF ⟨_, rfl, q2 c l H3 Rs ((s1.trans s2).trans s3) (r2.same s3)⟩
end
end EV
namespace EV
open PySem L2 NT SX EVX
open PyProof.Rows (sortedS)
theorem rst_empty {H : Hp} {D : Addr} {ks : List Str} {F : Rw} (r : RstAt H D ks F) : (ks.map fun k => ((.inr k : Key), V.int ((F k).getD 0))).isEmpty = true ↔ Emp F := by
  rw [List.isEmpty_iff, List.map_eq_nil_iff]
  constructor
  · intro e x
    cases h : F x with
    | none => rfl
    | some c =>
      have := (r.mem x).mpr (by rw [h]; rfl)
      rw [e] at this
      cases this
  · intro e
    cases ks with
    | nil => rfl
    | cons k ks =>
      have := (r.mem k).mp List.mem_cons_self
      rw [e k] at this
      cases this
section
variable {P : Program} {w : PySem.World} {K : PySem.W.Frag} {mg : Str → Option Value} {base : Heap} {f : Addr} {fd : FuncData}
abbrev NDa : List Str := ["manual", "book", "purse", "rows", "at"]
theorem sc_dry_at : FnScope NDa ["manual", "book", "purse"] (defScope s_dry_at) := ⟨rfl, rfl, rfl, by decide +kernel, rfl, by decide +kernel, by decide +kernel⟩
def sp_dry_at (C : Addr) : Sp := fun vs H Q _ => ∃ (a rows firsts lasts rooms jobs b : Addr) (qs : List AM) (fs ls rs js ws : List Str) (p : Int), vs = [.ref a, .ref b, .int p] ∧ ManAt C H a rows firsts lasts rooms jobs qs fs ls rs js ∧ (∀ p ∈ qs, EffK p.2.w p.2.ns) ∧ qs.length < 64 ∧ fs.Nodup ∧ fs.length < 64 ∧ ls.length < 64 ∧ WordsAt H b ws ∧ (∀ x ∈ ws, IsWord x) ∧ ws.length < 1000 ∧ 0 ≤ p ∧
  (endsB (qs.map (·.2)) fs ls ws p = true → ∀ H', Same H H' → Q .non H') ∧ (endsB (qs.map (·.2)) fs ls ws p = false → ∀ (n : Nat) H', n = 0 ∨ (n ≤ ws.length ∧ ¬ Emp (bookF (qs.map (·.2)) (firstF fs p) (ws.take n) p)) → Same H H' → Q (.int (n : Int)) H')
theorem ok_dry_at {C : Addr} (F : FnP K "dry_at" s_dry_at f fd) (gL : mg "len" = none) (gRg : mg "range" = none) (gMx : mg "max" = none)
    {fM : Addr} {dM : FuncData} (GM : FnOk P w K mg base CX0 4 fM dM ["value"] (sp_check_manual C)) (kM : PySem.W.keepIn K (.ref fM) = true) (bM : Binds K dM ["value"] []) (gM : mg "check_manual" = some (.ref fM))
    {fB : Addr} {dB : FuncData} (GB : FnOk P w K mg base CX0 4 fB dB ["value"] sp_check_book) (kB : PySem.W.keepIn K (.ref fB) = true) (bB : Binds K dB ["value"] []) (gB : mg "check_book" = some (.ref fB))
    {fC : Addr} {dC : FuncData} {dsC : List Value} (vC : Vals [.non] dsC) (GC : FnOk P w K mg base CX0 4 fC dC ["value", "most"] sp_check_count) (kC : PySem.W.keepIn K (.ref fC) = true) (bC : Binds K dC ["value", "most"] dsC) (gC : mg "check_count" = some (.ref fC))
    {fR : Addr} {dR : FuncData} (GR : FnOk P w K mg base CX0 4 fR dR ["manual", "book", "purse"] (sp_rest_rows2 C)) (kR : PySem.W.keepIn K (.ref fR) = true) (bR : Binds K dR ["manual", "book", "purse"] []) (gR : mg "rest_rows" = some (.ref fR))
    {fE : Addr} {dE : FuncData} (GE : FnOk P w K mg base CX0 4 fE dE ["manual", "row"] (sp_ends_in C)) (kE : PySem.W.keepIn K (.ref fE) = true) (bE : Binds K dE ["manual", "row"] []) (gE : mg "ends_in" = some (.ref fE)) : FnOk P w K mg base CX0 5 f fd ["manual", "book", "purse"] (sp_dry_at C) := by
  refine F.ok sc_dry_at (fun vs H Q E h => ?_) (fun cdv A outer s H vs Q E hr h => ?_)
  · obtain ⟨a, rows, firsts, lasts, rooms, jobs, b, qs, fs, ls, rs, js, ws, p, rfl, _⟩ := h
    rfl
  · obtain ⟨a, rows, firsts, lasts, rooms, jobs, b, qs, fs, ls, rs, js, ws, p, rfl, m, ek, few, nd, fl, ll, hb, iw, lw, p0, q1, q2⟩ := h
    obtain ⟨dx, hdx⟩ := m.top
    refine ⟨_, PSs.nox (pss_cons (ps_expr (pe_call GM hr rfl gM kM bM .nil pass0 (pa_cons (pv 0) pa_nil))) (pss_cons (ps_expr (pe_call GB hr rfl gB kB bB .nil pass0 (pa_cons (pv 1) pa_nil))) (pss_cons (ps_expr (pe_call GC hr rfl gC kC bC vC pass0 (pa_cons (pv 2) pa_nil)))
      (pss_cons (ps_set (i := 3) sc_dry_at.nd rfl (Or.inr rfl) (pe_call GR hr rfl gR kR bR .nil pass0 (pa_cons (pv 0) (pa_cons (pv 1) (pa_cons (pv 2) pa_nil)))))
      (pss_cons (ps_if (pt_val (pe_call GE hr rfl gE kE bE .nil pass0 (pa_cons (pv 0) (pa_cons (pe_ix ix_list (pv 3) (pe_un un_neg pe_int) (fun _ _ => rfl)) pa_nil)))) (pss_one (ps_ret pe_non)) pss_nil)
      (pss_one (ps_ret (pe_callBK (cr_maxN rfl hr.units) (by rfl) gMx (by decide +kernel) (pa_cons (pe_lc (te := tVar 4) (own := [("at", 4)]) (g := gName 4) (tt := tTest (tOp rNeD0 (tOp (rIxL K) (tVar 3) (tVar 4)) tDNewK)) rfl sc_dry_at.nd (pi_range1 rfl gRg (pa_cons (pe_callB call_len_seq (by rfl) gL (by decide +kernel) (pa_cons (pv 3) pa_nil)) pa_nil))
          (blkOk_by (N := NDa) (sc := defScope s_dry_at) (by decide +kernel)) (fun _ _ _ _ _ => pg_name (i := 4) sc_dry_at.nd rfl (Or.inl rfl)) (fun _ _ _ _ _ => pts_one (pt_cmpR (op_neD0 hr.units0) (pe_ix ix_list (pv 3) (pv 4) (fun _ _ => rfl)) pe_dnewK (nomark _))) (fun _ _ _ _ _ => pv 4)) pa_nil) (pk_cons pe_int pk_nil))))))))), ?_⟩
    refine ⟨_, rfl, a, dx, _, rfl, hdx, ?_⟩
    refine ⟨_, rfl, b, ws, rfl, hb, iw, lw, fun H1 s1 => ?_⟩
    refine ⟨_, rfl, p, rfl, p0, ?_⟩
    refine ⟨_, rfl, _, rfl, _, rfl, a, rows, firsts, lasts, rooms, jobs, b, qs, fs, ls, rs, js, ws, p, rfl, m.same s1, ek, few, nd, fl, s1 _ _ hb, lw, fun l H2 Rs s2 r2 => ?_⟩
    obtain ⟨r, ix, rr⟩ := r2.last
    refine ⟨_, rfl, _, rfl, _, rfl, l, _, _, _, rfl, rfl, SqL.of r2.1, ix, ?_⟩
    refine ⟨a, rows, firsts, lasts, rooms, jobs, r.1, qs, fs, ls, rs, js, r.2, _, rfl, m.same (s1.trans s2), ll, rr, fun H3 s3 => ?_⟩
    refine ⟨_, rfl, ?_⟩
    have s03 := (s1.trans s2).trans s3
    have r3 := r2.same s3
    have hc : (ls.any fun l => (bookF (qs.map (·.2)) (firstF fs p) ws p l).isSome) = true ∨ (ls.any fun l => (bookF (qs.map (·.2)) (firstF fs p) ws p l).isSome) = false := by cases (ls.any fun l => (bookF (qs.map (·.2)) (firstF fs p) ws p l).isSome) <;> simp
    rcases hc with c | c
    · rw [c]
      exact iteT (q1 c H3 s03)
    · rw [c]
      refine iteF ?_
      refine ⟨_, rfl, l, _, rfl, .inl (SqL.of r3.1), ?_⟩
      rw [List.length_map, r3.2.1]
      refine ⟨_, rfl, by show -(2 ^ 62 : Int) ≤ _; omega, by show _ < (2 ^ 62 : Int); omega, fun D hD => ?_⟩
      rw [Int.toNat_natCast]
      refine lc_range (lo := 0) (n := ws.length + 1) (fun i H' => Same H3 H' ∧ ∃ ns : List Int, H' D = some (.lst (ns.map V.int)) ∧ ns.length ≤ i ∧ ∀ n ∈ ns, ∃ j : Nat, n = (j : Int) ∧ j < i ∧ ¬ Emp (bookF (qs.map (·.2)) (firstF fs p) (ws.take j) p)) ⟨new_same hD, [], upd_same, Nat.zero_le _, fun _ z => nomatch z⟩ ?_ ?_
      · rintro j H4 hj ⟨s4, ns, hd, hl, hns⟩
        have r4 := r3.same s4
        obtain ⟨x, hx⟩ : ∃ x, Rs[j]? = some x := ⟨_, List.getElem?_eq_getElem (by rw [r3.2.1]; exact hj)⟩
        have rx := r4.2.2 j x hx
        refine ⟨rfl, ?_⟩
        refine ⟨_, rfl, _, rfl, l, _, _, .ref x.1, rfl, rfl, SqL.of r4.1, by rw [Int.zero_add]; exact atI_nat (by rw [List.getElem?_map, hx]; rfl), fun N hN => ?_⟩
        have s5 := new_same (o := .dK []) hN
        have eN : upd H4 N (.dK []) N = some (.dK []) := upd_same
        generalize upd H4 N (.dK []) = H5 at s5 eN
        refine ⟨x.1, N, _, rfl, rfl, s5 _ _ rx.d, eN, _, rfl, ?_⟩
        by_cases hE : Emp (bookF (qs.map (·.2)) (firstF fs p) (ws.take j) p)
        · rw [(rst_empty rx).mpr hE]
          exact iteF ⟨s4.trans s5, ns, s5 _ _ hd, by omega, fun n hn => by
            obtain ⟨i, a, b, c⟩ := hns n hn
            exact ⟨i, a, by omega, c⟩⟩
        · rw [show ((x.2.map fun k => ((.inr k : Key), V.int ((bookF (qs.map (·.2)) (firstF fs p) (ws.take j) p k).getD 0))).isEmpty) = false from Bool.eq_false_iff.mpr fun z => hE ((rst_empty rx).mp z)]
          refine iteT ⟨_, rfl, _, s5 _ _ hd, by rw [List.length_map, PySem.sizeLine_eq]; omega, fun b o z => by rw [upd_ne (ne_of_none z hD)]; exact s5 _ _ (s4 _ _ z), ns ++ [(j : Int)], by rw [upd_same, List.map_append, Int.zero_add]; rfl, by rw [List.length_append]; simp; omega, fun n hn => ?_⟩
          rcases List.mem_append.mp hn with h | h
          · obtain ⟨i, a, b, c⟩ := hns n h
            exact ⟨i, a, by omega, c⟩
          · exact ⟨j, List.mem_singleton.mp h, by omega, hE⟩
      · rintro H4 ⟨s4, ns, hd, hl, hns⟩
        refine ⟨D, ns, 0, rfl, rfl, SqL.of hd, fun e => q2 c 0 H4 (.inl rfl) (s03.trans s4), fun n hn _ => ?_⟩
        obtain ⟨j, rfl, hj, ne⟩ := hns n hn
        exact q2 c j H4 (.inr ⟨by omega, ne⟩) (s03.trans s4)
end
end EV
namespace EV
open PySem L2 NT SX EVX
open PyProof.Rows (sortedS)
def gPair (K : PySem.W.Frag) (i j : Nat) : TG := gTup K 2 (gCons (gName i) (gCons (gName j) gNil))
/-- one item of a row that is looked at -/
def tPr : TE := fun σ H Q => ∃ (v2 : Option V) (lr : Addr) (p c : Int) (x : Str) (rs : List Str), σ = [some (.ref lr), some (.int p), v2, some (.str x), some (.int c)] ∧ WordsAt H lr rs ∧ x ∈ rs ∧ 0 ≤ c ∧ c ≤ p ∧ Q (.bl true) H
section
variable {P : Program} {w : PySem.World} {K : PySem.W.Frag} {mg : Str → Option Value} {base : Heap} {f : Addr} {fd : FuncData}
abbrev NPr : List Str := ["rooms", "purse", "row", "room", "coins"]
theorem sc_paper_row : FnScope NPr ["rooms", "purse", "row"] (defScope s_paper_row) := ⟨rfl, rfl, rfl, by decide +kernel, rfl, by decide +kernel, by decide +kernel⟩
def sp_paper_row : Sp := fun vs H Q _ => ∃ (lr D : Addr) (rs ks : List Str) (F : Rw) (p : Int), vs = [.ref lr, .int p, .ref D] ∧ WordsAt H lr rs ∧ RstAt H D ks F ∧ ks.length < 1000 ∧ (∀ k c, F k = some c → k ∈ rs ∧ 0 ≤ c ∧ c ≤ p) ∧ ∀ H', Same H H' → Q (.bl true) H'
theorem ok_paper_row (F : FnP K "is_paper_row" s_paper_row f fd) (gI : mg "isinstance" = none) (gd : mg "dict" = none) (gA : mg "all" = none)
    {fC : Addr} {dC : FuncData} (GC : FnOk P w K mg base CX0 2 fC dC ["value", "most"] sp_is_count) (kC : PySem.W.keepIn K (.ref fC) = true) (bC : Binds K dC ["value", "most"] []) (gC : mg "is_count" = some (.ref fC)) : FnOk P w K mg base CX0 3 f fd ["rooms", "purse", "row"] sp_paper_row := by
  refine F.ok sc_paper_row (fun vs H Q E h => ?_) (fun cdv A outer s H vs Q E hr h => ?_)
  · obtain ⟨lr, D, rs, ks, F, p, rfl, _⟩ := h
    rfl
  · obtain ⟨lr, D, rs, ks, F, p, rfl, hlr, hD, lk, hF, q⟩ := h
    refine ⟨_, PSs.nox (pss_cons (ps_if (pt_not (pt_val (pe_callB call_isi (by rfl) gI (by decide +kernel) (pa_cons (pv 2) (pa_cons (pe_bltn (v := .ty "dict") (by rfl) gd (by decide +kernel) rfl) pa_nil))))) (pss_one (ps_ret pe_bl)) pss_nil)
      (pss_one (ps_ret (pe_lock (pe_callB (cr_all rfl) (by rfl) gA (by decide +kernel) (pa_cons (pe_lc (te := tPr) (own := [("room", 3), ("coins", 4)]) (g := gPair K 3 4) (tt := tYes) rfl sc_paper_row.nd (pi_items (pv 2))
          (blkOk_by (N := NPr) (sc := defScope s_paper_row) (by decide +kernel)) (fun _ _ _ _ _ => pg_tup rfl (pgs_cons (pg_name (i := 3) sc_paper_row.nd rfl (Or.inl rfl)) (pgs_cons (pg_name (i := 4) sc_paper_row.nd rfl (Or.inl rfl)) pgs_nil))) (fun _ _ _ _ _ => pts_nil)
          (fun _ _ _ _ _ => pe_weak' (t' := tPr) (pe_and (pe_cmpR op_in_seq (pv 3) (pv 0) rfl) (pe_one (pe_call GC hr rfl gC kC bC .nil pass0 (pa_cons (pv 4) (pa_cons (pv 1) pa_nil))))) ?hp)) pa_nil)))))), ?_⟩
    case hp =>
      intro σ H1 Q h
      obtain ⟨v2, lr, p, c, x, rs, rfl, hl, hx, c0, c1, q⟩ := h
      refine ⟨_, rfl, _, rfl, lr, _, rfl, .inl (SqL.of hl), rfl, flat_strs rs, _, rfl, ?_⟩
      rw [inV_str, decide_eq_true hx]
      exact iteT ⟨_, rfl, _, rfl, c, .int p, rfl, c0, .inr ⟨p, rfl, c1⟩, q⟩
    have ty : TyX K H (.ref D) (.type "dict") := .base (.dK hD.d)
    refine ⟨_, rfl, _, _, _, _, _, rfl, .ty "dict", ty, kit_ty (by decide +kernel : kitB "dict" "dict" = some true), _, rfl, iteF ?_⟩
    refine ⟨D, _, hD.d, trivial, fun od => ?_⟩
    have nlr : lr ≠ D := fun z => by
      have a := hD.d
      rw [← z, show H lr = _ from hlr] at a
      cases a
    refine ⟨_, rfl, D, od, _, rfl, upd_same, fun L hL => ?_⟩
    have LD : L ≠ D := fun z => by rw [z, upd_same] at hL; cases hL
    have hL0 : H L = none := by rw [upd_ne LD] at hL; exact hL
    refine lc_it walk_items (fun i H' => (∀ b o, H b = some o → b ≠ D → H' b = some o) ∧ H' D = some (.frz od (.dK (ks.map fun k => (.inr k, .int ((F k).getD 0))))) ∧ H' L = some (.lst ((List.replicate i true).map V.bl)))
      ⟨fun b o e n => by rw [upd_ne (ne_of_none e hL0), upd_ne n]; exact e, by rw [upd_ne (Ne.symm LD), upd_same], upd_same⟩ (fun i H' _ z => z.2.1) ?_ ?_
    · rintro i x H2 H3 hi ⟨kp, hfr, hl⟩ ⟨T, a, b, rfl, hT, rfl, hx, hy⟩
      have hx : ((ks.map fun k => ((Sum.inr k : Key), V.int ((F k).getD 0)))[i]?).map (fun kv => kV kv.1) = some a := hx
      have hy : ((ks.map fun k => ((Sum.inr k : Key), V.int ((F k).getD 0)))[i]?).map Prod.snd = some b := hy
      rw [List.getElem?_map] at hx hy
      cases hk : ks[i]? with
      | none => rw [hk] at hx; cases hx
      | some k =>
        rw [hk] at hx hy
        cases hx
        cases hy
        have hin := (hD.mem k).mp (List.mem_of_getElem? hk)
        obtain ⟨c, hc⟩ := Option.isSome_iff_exists.mp hin
        obtain ⟨o1, o2, o3⟩ := hF k c hc
        have hlr3 : WordsAt (upd H2 T (.tup [kV (Sum.inr k), V.int ((F k).getD 0)])) lr rs := by
          show _ = _
          rw [upd_ne (ne_of_none (kp _ _ hlr nlr) hT)]
          exact kp _ _ hlr nlr
        refine ⟨T, _, rfl, SqT.of upd_same, rfl, _, _, rfl, _, _, rfl, rfl, rfl, ?_⟩
        refine ⟨_, lr, p, (F k).getD 0, k, rs, rfl, hlr3, o1, by rw [hc]; exact o2, by rw [hc]; exact o3, ?_⟩
        have hl3 : upd H2 T (.tup [kV (Sum.inr k), V.int ((F k).getD 0)]) L = _ := upd_ne (ne_of_none hl hT)
        refine ⟨_, hl3.trans hl, by rw [List.length_map, List.length_replicate, PySem.sizeLine_eq]; have := (List.getElem?_eq_some_iff.mp hk).1; omega, fun b o e n => ?_, ?_, ?_⟩
        · rw [upd_ne (ne_of_none e hL0), upd_ne (ne_of_none (kp b o e n) hT)]
          exact kp b o e n
        · rw [upd_ne (Ne.symm LD), upd_ne (ne_of_none hfr hT)]
          exact hfr
        · rw [upd_same, List.replicate_succ', List.map_append]
          rfl
    · rintro H2 ⟨kp, hfr, hl⟩
      rw [List.length_map] at hl
      refine ⟨L, List.replicate ks.length true, rfl, SqL.of hl, ?_⟩
      rw [all_true]
      refine ⟨hfr, q _ fun b o e => ?_⟩
      by_cases n : b = D
      · rw [n, upd_same, ← hD.d, ← n]
        exact e
      · rw [upd_ne n]
        exact kp b o e n
abbrev NIp : List Str := ["manual", "book", "purse", "value", "rooms", "at", "least", "row", "room"]
theorem sc_is_paper : FnScope NIp ["manual", "book", "purse", "value"] (defScope s_is_paper) := ⟨rfl, rfl, rfl, by decide +kernel, rfl, by decide +kernel, by decide +kernel⟩
def tFst : TE := fun σ H Q => ∃ (v0 v1 v4 v5 v6 v7 : Option V) (l D : Addr) (xs : List V) (p : Int) (x : Str) (ks : List Str) (F : Rw), σ = [v0, v1, some (.int p), some (.ref l), v4, v5, v6, v7, some (.str x)] ∧ H l = some (.lst (V.ref D :: xs)) ∧ RstAt H D ks F ∧ F x = some p ∧ Q (.bl true) H
def tGe : TE := fun σ H Q => ∃ (v0 v1 v2 v4 v7 : Option V) (l D L od : Addr) (i : Nat) (xs : List V) (c : Int) (x : Str) (ks ks' : List (Key × V)) (o : Obj), σ = [v0, v1, v2, some (.ref l), v4, some (.int (i : Int)), some (.ref L), v7, some (.str x)] ∧ H l = some (.lst xs) ∧ xs[i + 1]? = some (.ref D) ∧ H D = some (.dK ks) ∧ valV ks (.inr x) = some (.int c) ∧ H L = some (.frz o (.dK ks')) ∧ valV ks' (.inr x) = some (.int c) ∧ Q (.bl true) H
def sp_is_paper (C : Addr) : Sp := fun vs H Q _ => ∃ (a rows firsts lasts rooms jobs b l : Addr) (qs : List AM) (fs ls rs js ws : List Str) (p : Int) (Rs : List (Addr × List Str)), vs = [.ref a, .ref b, .int p, .ref l] ∧ ManAt C H a rows firsts lasts rooms jobs qs fs ls rs js ∧ (∀ p ∈ qs, EffK p.2.w p.2.ns) ∧ qs.length < 64 ∧ fs.Nodup ∧ fs.length < 64 ∧ ls.length < 64 ∧ rs.length < 64 ∧ (∀ q ∈ qs, q.2.c ∈ rs) ∧ (∀ x ∈ fs, x ∈ rs) ∧ WordsAt H b ws ∧ (∀ x ∈ ws, IsWord x) ∧ ws.length < 1000 ∧ 0 ≤ p ∧
  RRows H l (qs.map (·.2)) fs ws p Rs ∧ endsB (qs.map (·.2)) fs ls ws p = false ∧ ∀ H', Same H H' → Q (.bl true) H'
theorem book_inr {ms : List Mn} {rs fs b : List Str} {p : Int} (hc : ∀ m ∈ ms, m.c ∈ rs) (hk : ∀ m ∈ ms, EffK m.w m.ns) (hf : ∀ x ∈ fs, x ∈ rs) (hp : 0 ≤ p) {k : Str} {c : Int} (h : bookF ms (firstF fs p) b p k = some c) : k ∈ rs ∧ 0 ≤ c ∧ c ≤ p := by
  obtain ⟨r, ws, c0, h1, h2, h3⟩ := book_of h
  obtain ⟨h4, rfl⟩ := first_some.mp h1
  exact ⟨way_in hc (hf _ h4) h2, run_nat hp h3, run_le (fun m hm => hk m (h2.mem m hm)) h3 (Int.le_refl _)⟩
theorem ok_is_paper {C : Addr} (M : ManC K C) (F : FnP K "is_paper" s_is_paper f fd) (gI : mg "isinstance" = none) (gl : mg "list" = none) (gL : mg "len" = none) (gA : mg "all" = none) (gRg : mg "range" = none)
    {fM : Addr} {dM : FuncData} (GM : FnOk P w K mg base CX0 4 fM dM ["value"] (sp_check_manual C)) (kM : PySem.W.keepIn K (.ref fM) = true) (bM : Binds K dM ["value"] []) (gM : mg "check_manual" = some (.ref fM))
    {fB : Addr} {dB : FuncData} (GB : FnOk P w K mg base CX0 4 fB dB ["value"] sp_check_book) (kB : PySem.W.keepIn K (.ref fB) = true) (bB : Binds K dB ["value"] []) (gB : mg "check_book" = some (.ref fB))
    {fC : Addr} {dC : FuncData} {dsC : List Value} (vC : Vals [.non] dsC) (GC : FnOk P w K mg base CX0 4 fC dC ["value", "most"] sp_check_count) (kC : PySem.W.keepIn K (.ref fC) = true) (bC : Binds K dC ["value", "most"] dsC) (gC : mg "check_count" = some (.ref fC))
    {fP : Addr} {dP : FuncData} (GP : FnOk P w K mg base CX0 4 fP dP ["rooms", "purse", "row"] sp_paper_row) (kP : PySem.W.keepIn K (.ref fP) = true) (bP : Binds K dP ["rooms", "purse", "row"] []) (gP : mg "is_paper_row" = some (.ref fP))
    {fR : Addr} {dR : FuncData} (GR : FnOk P w K mg base CX0 4 fR dR ["manners", "row", "job", "purse"] sp_rests) (kR : PySem.W.keepIn K (.ref fR) = true) (bR : Binds K dR ["manners", "row", "job", "purse"] []) (gR : mg "rests_behind_job" = some (.ref fR))
    {fE : Addr} {dE : FuncData} (GE : FnOk P w K mg base CX0 4 fE dE ["manual", "row"] (sp_ends_in C)) (kE : PySem.W.keepIn K (.ref fE) = true) (bE : Binds K dE ["manual", "row"] []) (gE : mg "ends_in" = some (.ref fE)) : FnOk P w K mg base CX0 5 f fd ["manual", "book", "purse", "value"] (sp_is_paper C) := by
  refine F.ok sc_is_paper (fun vs H Q E h => ?_) (fun cdv A outer s H vs Q E hr h => ?_)
  · obtain ⟨a, rows, firsts, lasts, rooms, jobs, b, l, qs, fs, ls, rs, js, ws, p, Rs, rfl, _⟩ := h
    rfl
  · obtain ⟨a, rows, firsts, lasts, rooms, jobs, b, l, qs, fs, ls, rs, js, ws, p, Rs, rfl, m, ek, few, nd, fl, ll, rl, hcr, hfr, hb, iw, lw, p0, rr, ne, q⟩ := h
    obtain ⟨dx, hdx⟩ := m.top
    refine ⟨_, PSs.nox (pss_cons (ps_expr (pe_call GM hr rfl gM kM bM .nil pass0 (pa_cons (pv 0) pa_nil))) (pss_cons (ps_expr (pe_call GB hr rfl gB kB bB .nil pass0 (pa_cons (pv 1) pa_nil))) (pss_cons (ps_expr (pe_call GC hr rfl gC kC bC vC pass0 (pa_cons (pv 2) pa_nil)))
      (pss_cons (ps_set (i := 4) sc_is_paper.nd rfl (Or.inr rfl) (pe_fld (pv 0) rfl))
      (pss_cons (ps_if (PW.pt (pw_or (pt_not (pt_val (pe_callB call_isi (by rfl) gI (by decide +kernel) (pa_cons (pv 3) (pa_cons (pe_bltn (v := .ty "list") (by rfl) gl (by decide +kernel) rfl) pa_nil)))))
          (pw_or1 (pt_cmpR op_ne (pe_callB call_len_seq (by rfl) gL (by decide +kernel) (pa_cons (pv 3) pa_nil)) (pe_op op_add (pe_callB call_len_seq (by rfl) gL (by decide +kernel) (pa_cons (pv 1) pa_nil)) pe_int) (nomark _))))) (pss_one (ps_ret pe_bl)) pss_nil)
      (pss_cons (ps_if (pt_not (pt_val (pe_callB (cr_all rfl) (by rfl) gA (by decide +kernel) (pa_cons (pe_lc (te := tCall sp_paper_row [] E0 (tCons (tVar 4) (tCons (tVar 2) (tCons (tVar 7) tNil)))) (own := [("row", 7)]) (g := gName 7) (tt := tYes) rfl sc_is_paper.nd (pi_list (pv 3))
          (blkOk_by (N := NIp) (sc := defScope s_is_paper) (by decide +kernel)) (fun _ _ _ _ _ => pg_name (i := 7) sc_is_paper.nd rfl (Or.inl rfl)) (fun _ _ _ _ _ => pts_nil) (fun _ _ _ _ _ => pe_call GP hr rfl gP kP bP .nil pass0 (pa_cons (pv 4) (pa_cons (pv 2) (pa_cons (pv 7) pa_nil))))) pa_nil)))) (pss_one (ps_ret pe_bl)) pss_nil)
      (pss_cons (ps_if (PW.pt (pw_or (pt_not (pt_val (pe_callB (cr_all rfl) (by rfl) gA (by decide +kernel) (pa_cons (pe_lc (te := tFst) (own := [("room", 8)]) (g := gName 8) (tt := tYes) rfl sc_is_paper.nd (pi_list (pe_fld (pv 0) rfl))
          (blkOk_by (N := NIp) (sc := defScope s_is_paper) (by decide +kernel)) (fun _ _ _ _ _ => pg_name (i := 8) sc_is_paper.nd rfl (Or.inl rfl)) (fun _ _ _ _ _ => pts_nil)
          (fun _ _ _ _ _ => pe_weak' (t' := tFst) (pe_cmpR op_eq (pe_dget1 (u1 hr.units) (pe_ix ix_list (pv 3) pe_int (fun _ _ => rfl)) (pv 8) ⟨rfl, rfl, rfl, rfl⟩) (pv 2) (nomark _)) ?h1)) pa_nil))))
          (pw_or1 (pt_val (pe_call GE hr rfl gE kE bE .nil pass0 (pa_cons (pv 0) (pa_cons (pe_ix ix_list (pv 3) (pe_un un_neg pe_int) (fun _ _ => rfl)) pa_nil))))))) (pss_one (ps_ret pe_bl)) pss_nil)
      (pss_cons (ps_for PassesOwn.never rfl (pi_range1 rfl gRg (pa_cons (pe_callB call_len_seq (by rfl) gL (by decide +kernel) (pa_cons (pv 1) pa_nil)) pa_nil)) (pg_name (i := 5) sc_is_paper.nd rfl (Or.inr rfl))
        (pss_cons (ps_set (i := 6) sc_is_paper.nd rfl (Or.inr rfl) (pe_call GR hr rfl gR kR bR .nil pass0 (pa_cons (pe_fld (pv 0) rfl) (pa_cons (pe_ix ix_list (pv 3) (pv 5) (fun _ _ => rfl)) (pa_cons (pe_ix ix_list (pv 1) (pv 5) (fun _ _ => rfl)) (pa_cons (pv 2) pa_nil))))))
        (pss_one (ps_if (pt_not (pt_val (pe_lock (pe_callB (cr_all rfl) (by rfl) gA (by decide +kernel) (pa_cons (pe_lc (te := tGe) (own := [("room", 8)]) (g := gName 8) (tt := tYes) rfl sc_is_paper.nd (pi_keys (pv 6))
            (blkOk_by (N := NIp) (sc := defScope s_is_paper) (by decide +kernel)) (fun _ _ _ _ _ => pg_name (i := 8) sc_is_paper.nd rfl (Or.inl rfl)) (fun _ _ _ _ _ => pts_nil)
            (fun _ _ _ _ _ => pe_weak' (t' := tGe) (pe_cmpR op_ge (pe_dget2 (u1 hr.units) (pe_ix ix_list (pv 3) (pe_op op_add (pv 5) pe_int) (fun _ _ => rfl)) (pv 8) (pe_un un_neg pe_int) ⟨rfl, rfl, rfl, rfl⟩) (pe_dget (u1 hr.units) (pv 6) (pv 8) (fun _ _ => rfl)) (nomark _)) ?h2)) pa_nil))))) (pss_one (ps_ret pe_bl)) pss_nil))))
      (pss_one (ps_ret pe_bl)))))))))), ?_⟩
    case h1 =>
      intro σ H1 Q h
      obtain ⟨v0, v1, v4, v5, v6, v7, l, D, xs, p, x, ks, G, rfl, hl, hD, hx, q⟩ := h
      refine ⟨_, rfl, l, _, 0, .ref D, rfl, rfl, SqL.of hl, atI_nat (j := 0) rfl, D, rfl, .inl ⟨_, .inl hD.d⟩, _, rfl, _, DGet.k (k := Sum.inr x) hD.d, ?_⟩
      rw [row_val hD.mem, hx]
      refine ⟨_, rfl, rfl, ?_⟩
      show Q (.bl (decide (V.int p = V.int p))) H1
      rw [decide_eq_true rfl]
      exact q
    case h2 =>
      intro σ H1 Q h
      obtain ⟨v0, v1, v2, v4, v7, l, D, L, od, i, xs, c, x, ks, ks', o, rfl, hl, hi, hD, hv, hL, hv', q⟩ := h
      refine ⟨_, rfl, _, rfl, _, _, rfl, rfl, l, _, _, .ref D, rfl, rfl, SqL.of hl, atI_nat hi, D, rfl, .inl ⟨_, .inl hD⟩, _, rfl, _, rfl, _, DGet.k (k := Sum.inr x) hD, ?_⟩
      rw [hv]
      refine ⟨_, rfl, _, rfl, L, _, rfl, .inl ⟨ks', Sum.inr x, .inr ⟨o, hL⟩, rfl, hv'.symm⟩, _, _, rfl, rfl, ?_⟩
      show Q (.bl (decide (c ≤ c))) H1
      rw [decide_eq_true (Int.le_refl c)]
      exact q
    have hcm : ∀ m ∈ qs.map (·.2), m.c ∈ rs := fun m hm => by
      obtain ⟨q, hq, rfl⟩ := List.mem_map.mp hm
      exact hcr q hq
    have hkm : ∀ m ∈ qs.map (·.2), EffK m.w m.ns := fun m hm => by
      obtain ⟨q, hq, rfl⟩ := List.mem_map.mp hm
      exact ek q hq
    have kfew : ∀ {i : Nat} {r : Addr × List Str}, Rs[i]? = some r → r.2.length < 1000 := fun {i r} e => by
      have z := rr.2.2 i r e
      have := z.nd.length_le_of_subset (l₂ := rs) fun k hk => by
        obtain ⟨c, hc⟩ := Option.isSome_iff_exists.mp ((z.mem k).mp hk)
        exact (book_inr hcm hkm hfr p0 hc).1
      omega
    refine ⟨_, rfl, a, dx, _, rfl, hdx, ?_⟩
    refine ⟨_, rfl, b, ws, rfl, hb, iw, lw, fun H1 s1 => ?_⟩
    refine ⟨_, rfl, p, rfl, p0, ?_⟩
    have rr1 := rr.same s1
    have m1 := m.same s1
    have hb1 : WordsAt H1 b ws := s1 _ _ hb
    refine ⟨_, rfl, a, C, dx, _, _, rfl, s1 _ _ hdx, M.cl, M.rooms, rfl, ?_⟩
    have ty : TyX K H1 (.ref l) (.type "list") := .base (.lst rr1.1)
    refine ⟨_, rfl, _, _, _, _, _, rfl, .ty "list", ty, kit_ty (by decide +kernel : kitB "list" "list" = some true), _, rfl, iteF ?_⟩
    refine ⟨_, rfl, l, _, rfl, .inl (SqL.of rr1.1), _, rfl, b, _, rfl, .inl (SqL.of hb1), _, _, rfl, rfl, rfl, _, rfl, ?_⟩
    rw [List.length_map, List.length_map, rr1.2.1]
    rw [show (!decide (V.int ((ws.length + 1 : Nat) : Int) = V.int ((ws.length : Int) + 1))) = false by rw [decide_eq_true (by simp)]; rfl]
    refine iteF ?_
    refine norm2 (σ' := [some (.ref a), some (.ref b), some (.int p), some (.ref l), some (.ref rooms), none, none, none, none]) rfl ?_
    -- all rows
    refine ⟨_, rfl, l, rfl, ⟨_, SqL.of rr1.1⟩, fun D hD => ?_⟩
    refine val_lc (walk_list (xs := Rs.map fun r => V.ref r.1)) (by rw [List.length_map, rr1.2.1]; omega) ((List.replicate Rs.length true).map V.bl) (by simp) hD (fun H' s => SqL.of (s _ _ rr1.1)) ?_ ?_
    · rintro j x H2 y hx hy s2 Z hZ
      rw [List.getElem?_map] at hx hy
      cases hn : Rs[j]? with
      | none => rw [hn] at hx; cases hx
      | some r =>
        rw [hn] at hx
        cases hx
        have yt : y = .bl true := by
          rw [List.getElem?_replicate, if_pos (List.getElem?_eq_some_iff.mp hn).1] at hy
          cases hy
          rfl
        subst yt
        refine ⟨_, rfl, _, rfl, _, rfl, rooms, r.1, rs, r.2, _, p, rfl, m1.r.same s2, ((rr1.2.2 j r hn).same s2), kfew hn, fun k c hc => book_inr hcm hkm hfr p0 hc, fun H3 s3 => hZ H3 s3⟩
    · rintro H2 s2 hd
      refine ⟨D, List.replicate Rs.length true, rfl, SqL.of hd, ?_⟩
      rw [all_true]
      refine ⟨_, rfl, iteF ?_⟩
      have s02 := s1.trans s2
      have rr2 := rr1.same s2
      have m2 := m.same s02
      have hb2 : WordsAt H2 b ws := s02 _ _ hb
      -- the first row
      refine ⟨_, rfl, a, C, dx, _, _, rfl, s02 _ _ hdx, M.cl, M.firsts, rfl, firsts, rfl, ⟨_, SqL.of m2.f⟩, fun D2 hD2 => ?_⟩
      refine val_lc (walk_list (xs := fs.map V.str)) (by rw [List.length_map]; omega) ((List.replicate fs.length true).map V.bl) (by simp) hD2 (fun H' s => SqL.of (s _ _ m2.f)) ?_ ?_
      · rintro j x H3 y hx hy s3 Z hZ
        rw [List.getElem?_map] at hx hy
        cases hn : fs[j]? with
        | none => rw [hn] at hx; cases hx
        | some r =>
          rw [hn] at hx
          cases hx
          have yt : y = .bl true := by
            rw [List.getElem?_replicate, if_pos (List.getElem?_eq_some_iff.mp hn).1] at hy
            cases hy
            rfl
          subst yt
          have rr3 := rr2.same s3
          cases hRs : Rs with
          | nil =>
            have := rr3.2.1
            rw [hRs] at this
            cases this
          | cons r0 rest =>
            have h0 : Rs[0]? = some r0 := by rw [hRs]; rfl
            have hl3 := rr3.1
            rw [hRs] at hl3
            exact ⟨_, _, _, _, _, _, l, r0.1, _, p, r, r0.2, _, rfl, hl3, rr3.2.2 0 r0 h0, by show firstF fs p r = some p; unfold firstF; rw [if_pos (List.mem_of_getElem? hn)], hZ _ (.refl _)⟩
      · rintro H3 s3 hd3
        refine ⟨D2, List.replicate fs.length true, rfl, SqL.of hd3, ?_⟩
        rw [all_true]
        refine ⟨_, rfl, ?_⟩
        have s03 := s02.trans s3
        have rr3 := rr2.same s3
        have m3 := m.same s03
        obtain ⟨rl_, ix, rlast⟩ := rr3.last
        refine iteF ⟨_, rfl, _, rfl, _, rfl, l, _, _, _, rfl, rfl, SqL.of rr3.1, ix, ?_⟩
        refine ⟨a, rows, firsts, lasts, rooms, jobs, rl_.1, qs, fs, ls, rs, js, rl_.2, _, rfl, m3, ll, rlast, fun H4 s4 => ?_⟩
        have ne : (ls.any fun l => (bookF (qs.map (·.2)) (firstF fs p) ws p l).isSome) = false := ne
        rw [ne]
        refine ⟨_, rfl, iteF ?_⟩
        have s04 := s03.trans s4
        have hb4 : WordsAt H4 b ws := s04 _ _ hb
        -- the jobs
        refine ⟨_, rfl, b, _, rfl, .inl (SqL.of hb4), ?_⟩
        rw [List.length_map]
        refine ⟨_, rfl, by show -(2 ^ 62 : Int) ≤ _; omega, by show _ < (2 ^ 62 : Int); omega, ?_⟩
        rw [Int.toNat_natCast]
        refine for_range (n := ws.length) (fun i σ H' => Same H4 H' ∧ ∃ v5 v6 v7 v8, σ = [some (.ref a), some (.ref b), some (.int p), some (.ref l), some (.ref rooms), v5, v6, v7, v8]) ⟨.refl _, _, _, _, _, rfl⟩ ?_ ?_
        · rintro i σ H5 hi ⟨s5, v5, v6, v7, v8, rfl⟩
          have s05 := s04.trans s5
          have rr5 := rr.same s05
          have m5 := m.same s05
          have hb5 : WordsAt H5 b ws := s05 _ _ hb
          obtain ⟨j, hj⟩ : ∃ j, ws[i]? = some j := ⟨_, List.getElem?_eq_getElem hi⟩
          obtain ⟨r, hri⟩ : ∃ r, Rs[i]? = some r := ⟨_, List.getElem?_eq_getElem (by rw [rr.2.1]; omega)⟩
          obtain ⟨r', hri'⟩ : ∃ r, Rs[i + 1]? = some r := ⟨_, List.getElem?_eq_getElem (by rw [rr.2.1]; omega)⟩
          have tk : ws.take (i + 1) = ws.take i ++ [j] := by rw [List.take_add_one, hj]; rfl
          refine norm_g (σ' := [some (.ref a), some (.ref b), some (.int p), some (.ref l), some (.ref rooms), some (.int (i : Int)), v6, v7, v8]) (by rw [Int.zero_add]; rfl) ?_
          refine ⟨_, rfl, a, C, dx, _, _, rfl, s05 _ _ hdx, M.cl, M.rows, rfl, _, rfl, _, rfl, l, _, _, .ref r.1, rfl, rfl, SqL.of rr5.1, atI_nat (by rw [List.getElem?_map, hri]; rfl), _, rfl, _, rfl, b, _, _, .str j, rfl, rfl, SqL.of hb5, atI_nat (by rw [List.getElem?_map, hj]; rfl), _, rfl, ?_⟩
          refine ⟨rows, r.1, qs, r.2, _, j, p, rfl, m5.ms, ek, few, rr5.2.2 i r hri, fun T4 H6 ks4 s6 hT4 r4 so4 => ?_⟩
          refine norm2 (σ' := [some (.ref a), some (.ref b), some (.int p), some (.ref l), some (.ref rooms), some (.int (i : Int)), some (.ref T4), v7, v8]) rfl ?_
          refine ⟨T4, _, r4.d, trivial, fun od => ?_⟩
          have old : ∀ b0 o, H5 b0 = some o → b0 ≠ T4 := fun b0 o e z => by rw [z, hT4] at e; cases e
          refine ⟨_, rfl, T4, od, rfl, .inl ⟨_, upd_same, fun L hL => ?_⟩⟩
          have LT : L ≠ T4 := fun z => by rw [z, upd_same] at hL; cases hL
          have hL6 : H6 L = none := by rw [upd_ne LT] at hL; exact hL
          have hL5 : H5 L = none := none_back s6 hL6
          refine lc_it walk_keys (fun k H' => (∀ b o, H6 b = some o → b ≠ T4 → H' b = some o) ∧ H' T4 = some (.frz od (.dK (ks4.map fun k => (.inr k, .int ((restF (qs.map (·.2)) (bookF (qs.map (·.2)) (firstF fs p) (ws.take i) p) j p k).getD 0))))) ∧ H' L = some (.lst ((List.replicate k true).map V.bl)))
            ⟨fun b0 o e n => by rw [upd_ne (ne_of_none e hL6), upd_ne n]; exact e, by rw [upd_ne (Ne.symm LT), upd_same], upd_same⟩ (fun k H' _ z => z.2.1) ?_ ?_
          · rintro k x H7 H8 hk ⟨kp, hfz, hl⟩ ⟨rfl, key, v, hkv, rfl⟩
            rw [List.getElem?_map] at hkv
            cases hx : ks4[k]? with
            | none => rw [hx] at hkv; cases hkv
            | some x =>
              rw [hx] at hkv
              cases hkv
              obtain ⟨c, hc⟩ := Option.isSome_iff_exists.mp ((r4.mem x).mp (List.mem_of_getElem? hx))
              have r' := rr5.2.2 (i + 1) r' hri'
              rw [tk, book_snoc] at r'
              have kp5 : ∀ b0 o, H5 b0 = some o → H8 b0 = some o := fun b0 o e => kp _ _ (s6 _ _ e) (old _ _ e)
              refine ⟨rfl, ?_⟩
              refine ⟨_, _, _, _, _, l, _, T4, 0, i, _, c, x, _, _, od, rfl, kp5 _ _ rr5.1, by rw [List.getElem?_map, hri']; rfl, kp5 _ _ r'.d, by rw [row_val r'.mem, hc]; rfl, hfz, by rw [row_val r4.mem, hc]; rfl, ?_⟩
              have lk4 := r4.nd.length_le_of_subset (l₂ := rs) fun y hy => by
                obtain ⟨d, hd⟩ := Option.isSome_iff_exists.mp ((r4.mem y).mp hy)
                rw [← book_snoc] at hd
                exact (book_inr hcm hkm hfr p0 hd).1
              refine ⟨_, hl, by rw [List.length_map, List.length_replicate, PySem.sizeLine_eq]; have := (List.getElem?_eq_some_iff.mp hx).1; omega, fun b0 o e n => ?_, ?_, ?_⟩
              · rw [upd_ne (ne_of_none e hL6)]
                exact kp _ _ e n
              · rw [upd_ne (Ne.symm LT)]
                exact hfz
              · rw [upd_same, List.replicate_succ', List.map_append]
                rfl
          · rintro H7 ⟨kp, hfz, hl⟩
            rw [List.length_map] at hl
            refine ⟨L, List.replicate ks4.length true, rfl, SqL.of hl, ?_⟩
            rw [all_true]
            refine ⟨hfz, _, rfl, iteF ⟨fun b0 o e => ?_, _, _, _, _, rfl⟩⟩
            have e5 := s5 _ _ e
            rw [upd_ne (old _ _ e5)]
            exact kp _ _ (s6 _ _ e5) (old _ _ e5)
        · rintro σ H5 ⟨s5, v5, v6, v7, v8, rfl⟩
          exact q H5 (s04.trans s5)
end
end EV
namespace EV
open PySem L2 NT SX EVX
open PyProof.Rows (sortedS)
abbrev s_left_of : Stmt := top 46
abbrev s_winit : Stmt := inClass (top 47) 0
abbrev s_wstep : Stmt := inClass (top 47) 1
abbrev s_wbook : Stmt := inClass (top 47) 4
abbrev s_shown : Stmt := top 48
abbrev s_rests_of : Stmt := top 50
/-- a comprehension that makes a dict -/
theorem dc_it {J : It} {n : Nat} {G : Hp → Prop} {Y : Nat → Hp → V → Hp → Prop} (w : Walk J n G Y) {g : TG} {tt : TT} {tk tv : TE} {vs : List Nat} {σ : St} {H1 : Hp} {D : Addr} {Qd : Hp → Prop} (Pv : Nat → Hp → Prop) (h0 : Pv 0 (upd H1 D (.dK []))) (hG : ∀ i H, i ≤ n → Pv i H → G H)
    (hs : ∀ i x H H', i < n → Pv i H → Y i H x H' → g x (wipe σ vs) H' fun σ2 H2 => wipe σ2 vs = wipe σ vs ∧ tt σ2 H2 fun b H3 =>
      if b = true then tk σ2 H3 fun y H4 => tv σ2 H4 fun z H5 => ∃ kvs k, y = kV k ∧ H5 D = some (.dK kvs) ∧ kvs.length < sizeLine ∧ Pv (i + 1) (upd H5 D (.dK (putK kvs k z))) else Pv (i + 1) H3) (hd : ∀ H, Pv n H → Qd H) :
    ∃ W : Nat → Nat → Hp → Prop, (∃ m, W 0 m (upd H1 D (.dK []))) ∧ ∀ i m H, W i m H →
      (J.stop i H ∧ Qd H) ∨ (J.go i H ∧ ∃ Nx : Hp → Prop, (∀ H', Nx H' → ∃ m', m' < m ∧ W (i + 1) m' H') ∧ ∀ x H', J.yld i H x H' → g x (wipe σ vs) H' fun σ2 H2 => wipe σ2 vs = wipe σ vs ∧ tt σ2 H2 fun b H3 =>
        if b = true then tk σ2 H3 fun y H4 => tv σ2 H4 fun z H5 => ∃ kvs k, y = kV k ∧ H5 D = some (.dK kvs) ∧ kvs.length < sizeLine ∧ Nx (upd H5 D (.dK (putK kvs k z))) else Nx H3) := by
  refine ⟨fun i m H => m = n - i ∧ i ≤ n ∧ Pv i H, ⟨n, by simp, Nat.zero_le _, h0⟩, ?_⟩
  rintro i m H ⟨rfl, hi, p⟩
  have q := hG i H hi p
  by_cases hlt : i < n
  · exact .inr ⟨w.goes i H hlt q, Pv (i + 1), fun H' p' => ⟨n - (i + 1), by omega, rfl, hlt, p'⟩, fun x H' y => hs i x H H' hlt p (w.yields i H x H' hlt q y)⟩
  · have e : i = n := by omega
    subst e
    exact .inl ⟨w.stops H q, hd H p⟩
/-- the places of rooms -/
def atK : Nat → List Str → List (Key × V)
  | _, [] => []
  | n, r :: rs => (.inr r, .int (n : Int)) :: atK (n + 1) rs
theorem atK_snoc (x : Str) : ∀ (rs : List Str) (n : Nat), atK n (rs ++ [x]) = atK n rs ++ [(.inr x, .int ((n + rs.length : Nat) : Int))]
  | [], n => rfl
  | r :: rs, n => by
    show (_, _) :: atK (n + 1) (rs ++ [x]) = _
    rw [atK_snoc x rs (n + 1), List.length_cons, show n + 1 + rs.length = n + (rs.length + 1) by omega]
    rfl
theorem atK_len : ∀ (rs : List Str) (n : Nat), (atK n rs).length = rs.length
  | [], _ => rfl
  | r :: rs, n => by show (atK (n + 1) rs).length + 1 = _; rw [atK_len rs (n + 1)]; rfl
theorem atK_key {k : Key} {v : V} : ∀ {rs : List Str} {n : Nat}, (k, v) ∈ atK n rs → ∃ r ∈ rs, k = .inr r
  | r :: rs, n, h => by
    rcases List.mem_cons.mp h with e | h
    · cases e
      exact ⟨r, List.mem_cons_self, rfl⟩
    · obtain ⟨r', h1, h2⟩ := atK_key h
      exact ⟨r', List.mem_cons_of_mem _ h1, h2⟩
theorem idx_ne {x r : Str} {rs : List Str} (e : x ≠ r) : (x :: rs).idxOf r = rs.idxOf r + 1 := by
  rw [List.idxOf_cons, beq_eq_false_iff_ne.mpr e]
  rfl
theorem atK_val (r : Str) : ∀ (rs : List Str) (n : Nat), r ∈ rs → valV (atK n rs) (.inr r) = some (.int ((n + rs.idxOf r : Nat) : Int))
  | x :: rs, n, h => by
    unfold atK
    by_cases e : x = r
    · subst e
      rw [valV_pos rfl, List.idxOf_cons_self]
      rfl
    · rw [valV_neg (fun z => e (Sum.inr.inj z)), atK_val r rs (n + 1) ((List.mem_cons.mp h).resolve_left (fun z => e z.symm)), idx_ne e]
      rw [show n + 1 + rs.idxOf r = n + (rs.idxOf r + 1) by omega]
theorem idx_get {α : Type} {W : Str → α} {r : Str} {rs : List Str} (h : r ∈ rs) : (rs.map W)[rs.idxOf r]? = some (W r) := by
  have l := List.idxOf_lt_length_iff.mpr h
  rw [List.getElem?_map, List.getElem?_eq_getElem l, List.getElem_idxOf l]
  rfl
theorem idx_set {α : Type} {W : Str → α} {g : Str} {v : α} : ∀ {rs : List Str}, rs.Nodup → g ∈ rs → (rs.map W).set (rs.idxOf g) v = rs.map fun r => if r = g then v else W r
  | x :: rs, nd, h => by
    by_cases e : x = g
    · subst e
      rw [List.idxOf_cons_self, List.map_cons, List.map_cons, if_pos rfl]
      show v :: rs.map W = _
      congr 1
      refine List.map_congr_left fun r hr => ?_
      rw [if_neg (fun z : r = x => (List.nodup_cons.mp nd).1 (z ▸ hr))]
    · rw [idx_ne e, List.map_cons, List.map_cons, if_neg e]
      show W x :: (rs.map W).set (rs.idxOf g) v = _
      rw [idx_set (List.nodup_cons.mp nd).2 ((List.mem_cons.mp h).resolve_left (fun z => e z.symm))]
def leftI (w : Str) (ns : List Int) (c p : Int) : Int := (leftS w ns c p).getD (-1)
section
variable {P : Program} {w : PySem.World} {K : PySem.W.Frag} {mg : Str → Option Value} {base : Heap} {f : Addr} {fd : FuncData}
theorem sc_left_of : FnScope ["effect", "coins", "purse"] ["effect", "coins", "purse"] (defScope s_left_of) := ⟨rfl, rfl, rfl, by decide +kernel, rfl, by decide +kernel, by decide +kernel⟩
def sp_left_of : Sp := fun vs H Q _ => ∃ (e : Addr) (w : Str) (ns : List Int) (c p : Int), vs = [.ref e, .int c, .int p] ∧ EffAt H e w ns ∧ EffK w ns ∧ Q (.int (leftI w ns c p)) H
theorem ok_left_of {tk : Tok} (F : FnP K "left_of" s_left_of f fd) (gS : mg "SHORT" = some (.int (-1) tk)) : FnOk P w K mg base CX0 1 f fd ["effect", "coins", "purse"] sp_left_of := by
  refine F.ok sc_left_of (fun vs H Q E h => ?_) (fun cdv A outer s H vs Q E hr h => ?_)
  · obtain ⟨e, w, ns, c, p, rfl, _⟩ := h
    rfl
  · obtain ⟨e, w, ns, c, p, rfl, hat, hk, q⟩ := h
    refine ⟨_, PSs.nox (pss_cons (ps_if (pt_cmpR op_lt (pv 1) (pe_ix ix_tup (pv 0) pe_int (fun _ _ => rfl)) (nomark _)) (pss_one (ps_ret (pe_glob (v := .int (-1)) rfl gS ⟨_, rfl⟩))) pss_nil)
      (pss_cons (ps_if (pt_cmpR op_eq (pe_ix ix_tup (pv 0) pe_int (fun _ _ => rfl)) pe_str (nomark _)) (pss_one (ps_ret (pe_op op_sub (pv 1) (pe_ix ix_tup (pv 0) pe_int (fun _ _ => rfl))))) pss_nil)
      (pss_one (ps_ret (pe_ifExp (pt_cmpR op_le (pe_ix ix_tup (pv 0) pe_int (fun _ _ => rfl)) (pv 2) (nomark _)) (pe_op op_sub (pv 2) (pe_ix ix_tup (pv 0) pe_int (fun _ _ => rfl))) (pe_glob (v := .int (-1)) rfl gS ⟨_, rfl⟩)))))), ?_⟩
    obtain ⟨n, t, rfl⟩ : ∃ n t, ns = n :: t := by
      rcases hk.1 with ⟨_, h⟩ | ⟨_, h⟩ <;> cases ns with
        | nil => cases h
        | cons n t => exact ⟨n, t, rfl⟩
    unfold leftI leftS at q
    rw [show (n :: t).headD 0 = n from rfl] at q
    refine ⟨_, rfl, _, rfl, e, _, 1, .int n, rfl, rfl, SqT.of hat, atI_nat (j := 1) rfl, _, _, rfl, rfl, _, rfl, ?_⟩
    refine ite2 (fun h => ?_) fun h => ?_
    · rw [if_pos (by simpa using h)] at q
      exact q
    · rw [if_neg (by simpa using h)] at q
      refine ⟨_, rfl, e, _, 0, .str w, rfl, rfl, SqT.of hat, atI_nat (j := 0) rfl, rfl, _, rfl, ?_⟩
      rcases hk.1 with ⟨rfl, hl⟩ | ⟨rfl, hl⟩
      · rw [show decide (V.str "coins" = V.str "coins") = true by decide]
        rw [if_pos rfl] at q
        exact iteT ⟨_, rfl, _, rfl, e, _, 1, .int n, rfl, rfl, SqT.of hat, atI_nat (j := 1) rfl, _, _, rfl, rfl, q⟩
      · rw [show decide (V.str "fill" = V.str "coins") = false by decide]
        rw [if_neg (by decide)] at q
        obtain ⟨b, t', rfl⟩ : ∃ b t', t = b :: t' := by
          cases t with
          | nil => cases hl
          | cons b t => exact ⟨b, t, rfl⟩
        rw [show (n :: b :: t').getD 1 0 = b from rfl] at q
        refine iteF ⟨_, rfl, e, _, 2, .int b, rfl, rfl, SqT.of hat, atI_nat (j := 2) rfl, _, rfl, _, _, rfl, rfl, _, rfl, ?_⟩
        refine ite2 (fun h => ?_) fun h => ?_
        · rw [if_pos (by simpa using h)] at q
          exact ⟨_, rfl, _, rfl, e, _, 2, .int b, rfl, rfl, SqT.of hat, atI_nat (j := 2) rfl, _, _, rfl, rfl, q⟩
        · rw [if_neg (by simpa using h)] at q
          exact q
/-! ### the class Walk -/
structure WkC (K : PySem.W.Frag) (C : Addr) : Prop where
  cl : Cls K C
  manual : NoAttr K C "manual"
  purse : NoAttr K C "purse"
  at_ : NoAttr K C "at"
  first : NoAttr K C "first"
  goals : NoAttr K C "goals"
/-- the row ahead of all books -/
def firstW (fs : List Str) (p : Int) : Str → Int := fun r => if r ∈ fs then p else -2
structure WkAt (C2 : Addr) (H : Hp) (o a D T : Addr) (rs fs : List Str) (p : Int) : Prop where
  top : ∃ dx G, H o = some (.ins C2 dx [("manual", .ref a), ("purse", .int p), ("at", .ref D), ("first", .ref T), ("goals", .ref G)])
  d : H D = some (.dK (atK 0 rs))
  t : H T = some (.tup (rs.map fun r => V.int (firstW fs p r)))
theorem WkAt.same {C2 : Addr} {H H' : Hp} {o a D T : Addr} {rs fs : List Str} {p : Int} (x : WkAt C2 H o a D T rs fs p) (s : Same H H') : WkAt C2 H' o a D T rs fs p := by
  obtain ⟨dx, G, h⟩ := x.top
  exact ⟨⟨dx, G, s _ _ h⟩, s _ _ x.d, s _ _ x.t⟩
abbrev NWi : List Str := ["self", "manual", "purse", "place", "room"]
theorem sc_winit : FnScope NWi ["self", "manual", "purse"] (defScope s_winit) := ⟨rfl, rfl, rfl, by decide +kernel, rfl, by decide +kernel, by decide +kernel⟩
theorem fld_go0 {H4 : Hp} {a C dx : Addr} {fs' : List (Str × V)} {Nx : Hp → Prop} (h : ∀ H6, But a H4 H6 → H6 a = some (.ins C dx fs') → Nx H6) : Nx (upd H4 a (.ins C dx fs')) := h _ (fun b u e n => by rw [upd_ne n]; exact e) upd_same
theorem ManAt.insB {C C2 : Addr} {H H' : Hp} {a o dx rows firsts lasts rooms jobs : Addr} {qs : List AM} {fs ls rs js : List Str} (m : ManAt C H a rows firsts lasts rooms jobs qs fs ls rs js) (ho : H o = some (.ins C2 dx [])) (B : But o H H') : ManAt C H' a rows firsts lasts rooms jobs qs fs ls rs js := by
  obtain ⟨dy, top⟩ := m.top
  exact ⟨⟨dy, B _ _ top fun z => by rw [z, ho] at top; cases top⟩, MnsAt.ins m.ms ho B, WordsAt.ins m.f ho B, WordsAt.ins m.l ho B, WordsAt.ins m.r ho B, WordsAt.ins m.j ho B⟩
def tW2 (C : Addr) : TE := fun σ H Q => ∃ (v0 v3 : Option V) (a rows firsts lasts rooms jobs : Addr) (qs : List AM) (fs ls rs js : List Str) (p : Int) (x : Str), σ = [v0, some (.ref a), some (.int p), v3, some (.str x)] ∧ ManAt C H a rows firsts lasts rooms jobs qs fs ls rs js ∧ Q (.int (firstW fs p x)) H
def tW3 (C2 : Addr) : TE := fun σ H Q => ∃ (v1 v2 v3 : Option V) (o dx D : Addr) (fl : List (Str × V)) (rs : List Str) (x : Str), σ = [some (.ref o), v1, v2, v3, some (.str x)] ∧ H o = some (.ins C2 dx fl) ∧ fl.lookup ("at" : Str) = some (V.ref D) ∧ H D = some (.dK (atK 0 rs)) ∧ x ∈ rs ∧ Q (.int (rs.idxOf x : Nat)) H
def sp_winit (C C2 : Addr) : Sp := fun vs H Q _ => ∃ (o dx a rows firsts lasts rooms jobs : Addr) (qs : List AM) (fs ls rs js : List Str) (p : Int), vs = [.ref o, .ref a, .int p] ∧ H o = some (.ins C2 dx []) ∧ ManAt C H a rows firsts lasts rooms jobs qs fs ls rs js ∧ rs.Nodup ∧ rs.length < 64 ∧ (∀ x ∈ ls, x ∈ rs) ∧ ls.length < 64 ∧
  ∀ H' D T, WkAt C2 H' o a D T rs fs p → But o H H' → Q .non H'
theorem ok_winit {C C2 : Addr} (M : ManC K C) (M2 : WkC K C2) {tk : Tok} (F : FnM K "__init__" "Walk.__init__" s_winit f fd) (gN : mg "NEVER" = some (.int (-2) tk)) (gEn : mg "enumerate" = none) (gT : mg "tuple" = none) : FnOk P w K mg base CX0 1 f fd ["self", "manual", "purse"] (sp_winit C C2) := by
  refine F.ok sc_winit (fun vs H Q E h => ?_) (fun cdv A outer s H vs Q E hr h => ?_)
  · obtain ⟨o, dx, a, rows, firsts, lasts, rooms, jobs, qs, fs, ls, rs, js, p, rfl, _⟩ := h
    rfl
  · obtain ⟨o, dx, a, rows, firsts, lasts, rooms, jobs, qs, fs, ls, rs, js, p, rfl, ho, m, nd, rl, hls, ll, q⟩ := h
    refine ⟨_, PSs.nox (pss_cons (ps_fld (pv 0) (pv 1) rfl) (pss_cons (ps_fld (pv 0) (pv 2) rfl)
      (pss_cons (ps_fld (pv 0) (pe_dc (tk := tVar 4) (tv := tVar 3) (own := [("place", 3), ("room", 4)]) (g := gPair K 3 4) (tt := tYes) rfl sc_winit.nd (pi_enum rfl gEn (pa_cons (pe_fld (pv 1) rfl) pa_nil))
          (blkOk_by (N := NWi) (sc := defScope s_winit) (by decide +kernel)) (fun _ _ _ _ _ => pg_tup rfl (pgs_cons (pg_name (i := 3) sc_winit.nd rfl (Or.inl rfl)) (pgs_cons (pg_name (i := 4) sc_winit.nd rfl (Or.inl rfl)) pgs_nil))) (fun _ _ _ _ _ => pts_nil) (fun _ _ _ _ _ => pv 4) (fun _ _ _ _ _ => pv 3)) rfl)
      (pss_cons (ps_fld (pv 0) (pe_callTy call_tuple_of (by rfl) gT (by decide +kernel) (pa_cons (pe_lc (te := tW2 C) (own := [("room", 4)]) (g := gName 4) (tt := tYes) rfl sc_winit.nd (pi_list (pe_fld (pv 1) rfl))
          (blkOk_by (N := NWi) (sc := defScope s_winit) (by decide +kernel)) (fun _ _ _ _ _ => pg_name (i := 4) sc_winit.nd rfl (Or.inl rfl)) (fun _ _ _ _ _ => pts_nil)
          (fun _ _ _ _ _ => pe_weak' (t' := tW2 C) (pe_ifExp (pt_cmpR op_in_seq (pv 4) (pe_fld (pv 1) rfl) rfl) (pv 2) (pe_glob (v := .int (-2)) rfl gN ⟨_, rfl⟩)) ?h2)) pa_nil)) rfl)
      (pss_one (ps_fld (pv 0) (pe_lc (te := tW3 C2) (own := [("room", 4)]) (g := gName 4) (tt := tYes) rfl sc_winit.nd (pi_list (pe_fld (pv 1) rfl))
          (blkOk_by (N := NWi) (sc := defScope s_winit) (by decide +kernel)) (fun _ _ _ _ _ => pg_name (i := 4) sc_winit.nd rfl (Or.inl rfl)) (fun _ _ _ _ _ => pts_nil)
          (fun _ _ _ _ _ => pe_weak' (t' := tW3 C2) (pe_dget (u1 hr.units) (pe_fld (pv 0) rfl) (pv 4) (fun _ _ => rfl)) ?h3)) rfl)))))), ?_⟩
    case h2 =>
      intro σ H1 Q h
      obtain ⟨v0, v3, a, rows, firsts, lasts, rooms, jobs, qs, fs, ls, rs, js, p, x, rfl, m, q⟩ := h
      obtain ⟨dx, hdx⟩ := m.top
      refine ⟨_, rfl, _, rfl, a, C, dx, _, _, rfl, hdx, M.cl, M.firsts, rfl, firsts, _, rfl, .inl (SqL.of m.f), rfl, flat_strs fs, _, rfl, ?_⟩
      rw [inV_str]
      unfold firstW at q
      by_cases c : x ∈ fs
      · rw [decide_eq_true c]
        rw [if_pos c] at q
        exact iteT ⟨_, rfl, q⟩
      · rw [decide_eq_false c]
        rw [if_neg c] at q
        exact iteF q
    case h3 =>
      intro σ H1 Q h
      obtain ⟨v1, v2, v3, o, dx, D, fl, rs, x, rfl, ho, hfl, hD, hx, q⟩ := h
      refine ⟨_, rfl, o, C2, dx, _, _, rfl, ho, M2.cl, M2.at_, hfl, _, rfl, D, _, rfl, ?_, q⟩
      have z := DGet.k (k := Sum.inr x) hD
      rw [atK_val x rs 0 hx, Nat.zero_add] at z
      exact z
    refine ⟨_, rfl, _, rfl, o, C2, dx, [], rfl, ho, M2.cl, M2.manual, by decide, ?_⟩
    refine fld_go0 (fs' := [("manual", .ref a)]) fun H1 b1 o1 => ?_
    refine ⟨_, rfl, _, rfl, o, C2, dx, _, rfl, o1, M2.cl, M2.purse, by show 1 < 1000; decide, ?_⟩
    refine fld_go0 (fs' := [("manual", .ref a), ("purse", .int p)]) fun H2 b2 o2 => ?_
    have b02 : But o H H2 := fun b u e n => b2 b u (b1 b u e n) n
    have m2 := m.insB ho b02
    obtain ⟨dy, top2⟩ := m2.top
    refine ⟨_, rfl, a, C, dy, _, _, rfl, top2, M.cl, M.rooms, rfl, rooms, _, rfl, SqL.of m2.r, fun D hD => ?_⟩
    refine dc_it walk_enum (fun i H' => Same H2 H' ∧ H' D = some (.dK (atK 0 (rs.take i)))) ⟨new_same hD, upd_same⟩ (fun i H' _ z => SqL.of (z.1 _ _ m2.r)) ?_ ?_
    · rintro i x H3 H4 hi ⟨s3, hd⟩ ⟨T, a', b', rfl, hT, rfl, hx, hy⟩
      cases hx
      have hy : (rs.map V.str)[i]? = some b' := hy
      rw [List.getElem?_map] at hy
      cases hn : rs[i]? with
      | none => rw [hn] at hy; cases hy
      | some r =>
        rw [hn] at hy
        cases hy
        have il := (List.getElem?_eq_some_iff.mp hn).1
        have tk : rs.take (i + 1) = rs.take i ++ [r] := by rw [List.take_add_one, hn]; rfl
        have hd4 : upd H3 T (.tup [V.int (i : Nat), V.str r]) D = some (.dK (atK 0 (rs.take i))) := by rw [upd_ne (ne_of_none hd hT)]; exact hd
        refine ⟨T, _, rfl, SqT.of upd_same, rfl, _, _, rfl, _, _, rfl, rfl, rfl, _, rfl, _, rfl, _, Sum.inr r, rfl, hd4, by rw [atK_len, List.length_take, PySem.sizeLine_eq]; omega, fun b u e => ?_, ?_⟩
        · rw [upd_ne (ne_of_none e hD), upd_ne (ne_of_none (s3 _ _ e) hT)]
          exact s3 _ _ e
        · rw [upd_same, put_any, if_neg, tk, atK_snoc, List.length_take, Nat.min_eq_left (by omega), Nat.zero_add]
          rintro ⟨p', hp, ep⟩
          obtain ⟨k, v⟩ := p'
          obtain ⟨r', hr', e'⟩ := atK_key hp
          have e2 : r = r' := Sum.inr.inj ((show k = Sum.inr r from ep).symm.trans e')
          subst e2
          obtain ⟨j, hj⟩ := List.getElem?_of_mem hr'
          rw [List.getElem?_take] at hj
          split at hj
          · have := (List.getElem?_inj (List.getElem?_eq_some_iff.mp hj).1 nd).mp (hj.trans hn.symm)
            omega
          · cases hj
    rintro H3 ⟨s3, hd3⟩
    rw [List.length_map, List.take_length] at hd3
    refine ⟨_, rfl, o, C2, dx, _, rfl, s3 _ _ o2, M2.cl, M2.at_, by show 2 < 1000; decide, ?_⟩
    refine fld_go0 (fs' := [("manual", .ref a), ("purse", .int p), ("at", .ref D)]) fun H4 b4 o4 => ?_
    have b04 : But o H H4 := fun b u e n => b4 b u (s3 _ _ (b02 b u e n)) n
    have m4 := m.insB ho b04
    have hd4 : H4 D = some (.dK (atK 0 rs)) := b4 _ _ hd3 fun z => by rw [z, s3 _ _ o2] at hd3; cases hd3
    obtain ⟨dz, top4⟩ := m4.top
    refine ⟨_, rfl, a, C, dz, _, _, rfl, top4, M.cl, M.rooms, rfl, rooms, rfl, ⟨_, SqL.of m4.r⟩, fun D3 hD3 => ?_⟩
    refine val_lc (walk_list (xs := rs.map V.str)) (by rw [List.length_map]; omega) (rs.map fun r => V.int (firstW fs p r)) (by rw [List.length_map, List.length_map]) hD3 (fun H' s => SqL.of (s _ _ m4.r)) ?_ ?_
    · rintro j x H5 y hx hy s5 Z hZ
      rw [List.getElem?_map] at hx hy
      cases hn : rs[j]? with
      | none => rw [hn] at hx; cases hx
      | some r =>
        rw [hn] at hx hy
        cases hx
        cases hy
        exact ⟨_, _, a, rows, firsts, lasts, rooms, jobs, qs, fs, ls, rs, js, p, r, rfl, m4.same s5, hZ _ (.refl _)⟩
    rintro H5 s5 hd5
    refine ⟨D3, _, rfl, .inl ⟨SqL.of hd5, fun T hT => ?_⟩⟩
    have o5 := s5 _ _ o4
    have nT : T ≠ o := fun z => by rw [z, o5] at hT; cases hT
    refine ⟨_, rfl, o, C2, dx, _, rfl, by rw [upd_ne (Ne.symm nT)]; exact o5, M2.cl, M2.first, by show 3 < 1000; decide, ?_⟩
    refine fld_go (fs' := [("manual", .ref a), ("purse", .int p), ("at", .ref D), ("first", .ref T)]) o5 hT fun H6 b6 o6 t6 => ?_
    have b06 : But o H H6 := fun b u e n => b6 b u (s5 _ _ (b04 b u e n)) n
    have m6 := m.insB ho b06
    have hd6 : H6 D = some (.dK (atK 0 rs)) := b6 _ _ (s5 _ _ hd4) fun z => by rw [z, o4] at hd4; cases hd4
    obtain ⟨dw, top6⟩ := m6.top
    refine ⟨_, rfl, a, C, dw, _, _, rfl, top6, M.cl, M.lasts, rfl, lasts, rfl, ⟨_, SqL.of m6.l⟩, fun G hG => ?_⟩
    refine val_lc (walk_list (xs := ls.map V.str)) (by rw [List.length_map]; omega) (ls.map fun r => V.int (rs.idxOf r : Nat)) (by rw [List.length_map, List.length_map]) hG (fun H' s => SqL.of (s _ _ m6.l)) ?_ ?_
    · rintro j x H7 y hx hy s7 Z hZ
      rw [List.getElem?_map] at hx hy
      cases hn : ls[j]? with
      | none => rw [hn] at hx; cases hx
      | some r =>
        rw [hn] at hx hy
        cases hx
        cases hy
        exact ⟨_, _, _, o, dx, D, _, rs, r, rfl, s7 _ _ o6, rfl, s7 _ _ hd6, hls r (List.mem_of_getElem? hn), hZ _ (.refl _)⟩
    rintro H7 s7 hd7
    have o7 := s7 _ _ o6
    refine ⟨_, rfl, o, C2, dx, _, rfl, o7, M2.cl, M2.goals, by show 4 < 1000; decide, ?_⟩
    refine fld_go0 (fs' := [("manual", .ref a), ("purse", .int p), ("at", .ref D), ("first", .ref T), ("goals", .ref G)]) fun H8 b8 o8 => ?_
    exact q H8 D T ⟨⟨dx, G, o8⟩, b8 _ _ (s7 _ _ hd6) (fun z => by rw [z, o6] at hd6; cases hd6), b8 _ _ (s7 _ _ t6) nT⟩ fun b u e n => b8 b u (s7 _ _ (b06 b u e n)) n
end
end EV
namespace EV
open PySem L2 NT SX EVX
open PyProof.Rows (sortedS)
/-- what Walk keeps for a room, behind a manner -/
def restW (W : Str → Int) (m : Mn) (p : Int) : Int := if W m.a = -1 then -1 else leftI m.w m.ns (W m.a) p
def mxI (i j : Int) : Int := if j > i then j else i
def stepWm (W : Str → Int) (j : Str) (p : Int) (G : Str → Int) (m : Mn) : Str → Int := if m.b = j ∧ W m.a ≠ -2 then fun g => if g = m.c then mxI (restW W m p) (G g) else G g else G
def stepW (ms : List Mn) (W : Str → Int) (j : Str) (p : Int) : Str → Int := ms.foldl (stepWm W j p) fun _ => -2
def bookW (ms : List Mn) (W : Str → Int) (b : List Str) (p : Int) : Str → Int := b.foldl (fun W j => stepW ms W j p) W
def intsT (rs : List Str) (W : Str → Int) : List V := rs.map fun r => V.int (W r)
def tRest (C2 : Addr) : TE := fun σ H Q => ∃ (v1 v2 v3 v4 v5 v6 v9 v10 : Option V) (o dx e : Addr) (fl : List (Str × V)) (w : Str) (ns : List Int) (c p : Int), σ = [some (.ref o), v1, v2, v3, v4, v5, v6, some (.ref e), some (.int c), v9, v10] ∧ H o = some (.ins C2 dx fl) ∧ fl.lookup ("purse" : Str) = some (V.int p) ∧ EffAt H e w ns ∧ EffK w ns ∧ Q (.int (if c = -1 then -1 else leftI w ns c p)) H
section
variable {P : Program} {w : PySem.World} {K : PySem.W.Frag} {mg : Str → Option Value} {base : Heap} {f : Addr} {fd : FuncData}
abbrev NSt : List Str := ["self", "left", "job", "found", "room", "work", "goal", "effect", "coins", "rest", "_"]
theorem sc_wstep : FnScope NSt ["self", "left", "job"] (defScope s_wstep) := ⟨rfl, rfl, rfl, by decide +kernel, rfl, by decide +kernel, by decide +kernel⟩
def sp_wstep (C C2 : Addr) : Sp := fun vs H Q _ => ∃ (o a D T0 t rows firsts lasts rooms jobs : Addr) (qs : List AM) (fs ls rs js : List Str) (p : Int) (W : Str → Int) (j : Str), vs = [.ref o, .ref t, .str j] ∧ WkAt C2 H o a D T0 rs fs p ∧ ManAt C H a rows firsts lasts rooms jobs qs fs ls rs js ∧ H t = some (.tup (intsT rs W)) ∧ rs.Nodup ∧ rs.length < 64 ∧ (∀ q ∈ qs, EffK q.2.w q.2.ns) ∧ (∀ q ∈ qs, q.2.a ∈ rs ∧ q.2.c ∈ rs) ∧
  ∀ T H', H' T = some (.tup (intsT rs (stepW (qs.map (·.2)) W j p))) → Same H H' → Q (.ref T) H'
theorem ok_wstep {C C2 : Addr} (M : ManC K C) (M2 : WkC K C2) {tk tk2 : Tok} (F : FnM K "step" "Walk.step" s_wstep f fd) (gN : mg "NEVER" = some (.int (-2) tk)) (gS : mg "SHORT" = some (.int (-1) tk2)) (gMx : mg "max" = none) (gT : mg "tuple" = none)
    {fL : Addr} {dL : FuncData} (GL : FnOk P w K mg base CX0 1 fL dL ["effect", "coins", "purse"] sp_left_of) (kL : PySem.W.keepIn K (.ref fL) = true) (bL : Binds K dL ["effect", "coins", "purse"] []) (gL : mg "left_of" = some (.ref fL)) : FnOk P w K mg base CX0 2 f fd ["self", "left", "job"] (sp_wstep C C2) := by
  refine F.ok sc_wstep (fun vs H Q E h => ?_) (fun cdv A outer s H vs Q E hr h => ?_)
  · obtain ⟨o, a, D, T0, t, rows, firsts, lasts, rooms, jobs, qs, fs, ls, rs, js, p, W, j, rfl, _⟩ := h
    rfl
  · obtain ⟨o, a, D, T0, t, rows, firsts, lasts, rooms, jobs, qs, fs, ls, rs, js, p, W, j, rfl, wk, m, ht, nd, rl, hk, hac, q⟩ := h
    refine ⟨_, PSs.nox (pss_cons (ps_setLc (i := 3) (te := tC (.int (-2))) (own := [("_", 10)]) (g := gName 10) (tt := tYes) (by rfl) sc_wstep.nd rfl rfl (sw_true rfl rfl rfl (by decide +kernel)) (pi_tup (pv 1))
          (blkOk_by (N := NSt) (sc := defScope s_wstep) (by decide +kernel)) (fun _ _ _ _ _ => pg_name (i := 10) sc_wstep.nd rfl (Or.inl rfl)) (fun _ _ _ _ _ => pts_nil) (fun _ _ _ _ _ => pe_glob (v := .int (-2)) rfl gN ⟨_, rfl⟩))
      (pss_cons (ps_for PassesOwn.never rfl (pi_list (pe_fld (pe_fld (pv 0) rfl) rfl)) (pg_tup (by rfl) (pgs_cons (pg_name (i := 4) sc_wstep.nd rfl (Or.inl rfl)) (pgs_cons (pg_name (i := 5) sc_wstep.nd rfl (Or.inl rfl)) (pgs_cons (pg_name (i := 6) sc_wstep.nd rfl (Or.inl rfl)) (pgs_cons (pg_name (i := 7) sc_wstep.nd rfl (Or.inl rfl)) pgs_nil)))))
        (pss_cons (ps_set (i := 8) sc_wstep.nd rfl (Or.inl rfl) (pe_ix ix_tup (pv 1) (pe_dget (u1 hr.units) (pe_fld (pv 0) rfl) (pv 4) (fun _ _ => rfl)) (fun _ _ => rfl)))
        (pss_one (ps_if (PW.pt (pw_and (pt_cmpR op_eq (pv 5) (pv 2) (nomark _)) (pw_and1 (pt_cmpR op_ne (pv 8) (pe_glob (v := .int (-2)) rfl gN ⟨_, rfl⟩) (nomark _)))))
          (pss_cons (ps_set (i := 9) sc_wstep.nd rfl (Or.inl rfl) (pe_weak' (t' := tRest C2) (pe_ifExp (pt_cmpR op_eq (pv 8) (pe_glob (v := .int (-1)) rfl gS ⟨_, rfl⟩) (nomark _)) (pe_glob (v := .int (-1)) rfl gS ⟨_, rfl⟩) (pe_call GL hr rfl gL kL bL .nil pass0 (pa_cons (pv 7) (pa_cons (pv 8) (pa_cons (pe_fld (pv 0) rfl) pa_nil))))) ?hr))
          (pss_one (ps_asg (pe_callB (call_max2 rfl) (by rfl) gMx (by decide +kernel) (pa_cons (pv 9) (pa_cons (pe_ix ix_list (pv 3) (pe_dget (u1 hr.units) (pe_fld (pv 0) rfl) (pv 6) (fun _ _ => rfl)) (fun _ _ => rfl)) pa_nil))) (pg_sub (pv 3) (pe_dget (u1 hr.units) (pe_fld (pv 0) rfl) (pv 6) (fun _ _ => rfl)) set_list)))) pss_nil))))
      (pss_one (ps_ret (pe_callTy call_tuple_of (by rfl) gT (by decide +kernel) (pa_cons (pv 3) pa_nil)))))), ?_⟩
    case hr =>
      intro σ H1 Q h
      obtain ⟨v1, v2, v3, v4, v5, v6, v9, v10, o, dx, e, fl, w, ns, c, p, rfl, ho, hfl, he, hk, q⟩ := h
      refine ⟨_, rfl, rfl, _, rfl, ?_⟩
      by_cases c1 : c = -1
      · rw [decide_eq_true (by rw [c1])]
        rw [if_pos c1] at q
        exact iteT q
      · rw [decide_eq_false (fun z => c1 (V.int.inj z))]
        rw [if_neg c1] at q
        exact iteF ⟨_, rfl, _, rfl, _, rfl, o, C2, dx, _, _, rfl, ho, M2.cl, M2.purse, hfl, e, w, ns, c, p, rfl, he, hk, q⟩
    obtain ⟨dx, G0, ho⟩ := wk.top
    obtain ⟨dy, top⟩ := m.top
    have few : qs.length < 100000000 ∨ True := .inr trivial
    refine ⟨_, rfl, t, rfl, ⟨_, SqT.of ht⟩, fun L hL => ?_⟩
    refine val_lc (walk_tup (xs := intsT rs W)) (by unfold intsT; rw [List.length_map]; omega) (intsT rs fun _ => -2) (by unfold intsT; rw [List.length_map, List.length_map]) hL (fun H' s => SqT.of (s _ _ ht)) ?_ ?_
    · rintro j x H2 y hx hy s2 Z hZ
      have yt : y = .int (-2) := by
        unfold intsT at hy
        rw [List.getElem?_map] at hy
        cases hn : rs[j]? with
        | none => rw [hn] at hy; cases hy
        | some r => rw [hn] at hy; cases hy; rfl
      subst yt
      exact hZ _ (.refl _)
    rintro H2 s2 hl2
    refine norm2 (σ' := [some (.ref o), some (.ref t), some (.str j), some (.ref L), none, none, none, none, none, none, none]) rfl ?_
    refine ⟨_, rfl, o, C2, dx, _, _, rfl, s2 _ _ ho, M2.cl, M2.manual, rfl, a, C, dy, _, _, rfl, s2 _ _ top, M.cl, M.rows, rfl, rows, rfl, ⟨_, SqL.of (s2 _ _ m.ms.1)⟩, ?_⟩
    refine for_list (xs := qs.map fun q => V.ref q.1) (fun i σ H' => ∃ (v4 v5 v6 v7 v8 v9 v10 : Option V), σ = [some (.ref o), some (.ref t), some (.str j), some (.ref L), v4, v5, v6, v7, v8, v9, v10] ∧ Same H H' ∧ H' L = some (.lst (intsT rs (((qs.take i).map (·.2)).foldl (stepWm W j p) fun _ => -2))))
      ⟨_, _, _, _, _, _, _, rfl, s2, hl2⟩ (fun i σ H' _ ⟨_, _, _, _, _, _, _, _, z, _⟩ => SqL.of (z _ _ m.ms.1)) ?_ ?_
    · rintro i x σ H3 hi ⟨v4, v5, v6, v7, v8, v9, v10, rfl, s3, hl3⟩
      rw [List.getElem?_map] at hi
      cases hn : qs[i]? with
      | none => rw [hn] at hi; cases hi
      | some y =>
        rw [hn] at hi
        cases hi
        have yin := List.mem_of_getElem? hn
        have tk : (qs.take (i + 1)).map (·.2) = (qs.take i).map (·.2) ++ [y.2] := by rw [List.take_add_one, hn, List.map_append]; rfl
        obtain ⟨e, g1, g2⟩ := mn_parts (MnAt.same (m.ms.2 y yin) s3)
        obtain ⟨ya, yc⟩ := hac y yin
        have ho3 := s3 _ _ ho
        have hd3 := s3 _ _ wk.d
        have ht3 := s3 _ _ ht
        have dget : ∀ r, r ∈ rs → DGet H3 D (.str r) (some (.int (rs.idxOf r : Nat))) := fun r hr => by
          have z := DGet.k (k := Sum.inr r) hd3
          rw [atK_val r rs 0 hr, Nat.zero_add] at z
          exact z
        refine ⟨y.1, _, rfl, SqT.of g1, rfl, _, _, rfl, _, _, rfl, _, _, rfl, _, _, rfl, rfl, ?_⟩
        refine norm2 (σ' := [some (.ref o), some (.ref t), some (.str j), some (.ref L), some (.str y.2.a), some (.str y.2.b), some (.str y.2.c), some (.ref e), v8, v9, v10]) rfl ?_
        refine ⟨_, rfl, _, rfl, o, C2, dx, _, _, rfl, ho3, M2.cl, M2.at_, rfl, _, rfl, D, _, rfl, dget _ ya, t, _, _, .int (W y.2.a), rfl, rfl, SqT.of ht3, atI_nat (idx_get (W := fun r => V.int (W r)) ya), ?_⟩
        refine norm2 (σ' := [some (.ref o), some (.ref t), some (.str j), some (.ref L), some (.str y.2.a), some (.str y.2.b), some (.str y.2.c), some (.ref e), some (.int (W y.2.a)), v9, v10]) rfl ?_
        have keep : ¬ (y.2.b = j ∧ W y.2.a ≠ -2) → H3 L = some (.lst (intsT rs (((qs.take (i + 1)).map (·.2)).foldl (stepWm W j p) fun _ => -2))) := fun no => by
          rw [tk, List.foldl_append]
          show _ = some (HO.lst (intsT rs (stepWm W j p _ y.2)))
          unfold stepWm
          rw [if_neg no]
          exact hl3
        refine ⟨_, rfl, _, rfl, rfl, _, rfl, ?_⟩
        by_cases cb : y.2.b = j
        · rw [decide_eq_true (by rw [cb])]
          refine iteT ⟨_, rfl, rfl, _, rfl, ?_⟩
          by_cases c2 : W y.2.a = -2
          · rw [decide_eq_true (by rw [c2])]
            exact iteF ⟨_, _, _, _, _, _, _, rfl, s3, keep fun z => z.2 c2⟩
          · rw [decide_eq_false (fun z => c2 (V.int.inj z))]
            refine iteT ?_
            refine ⟨_, _, _, _, _, _, _, _, o, dx, e, _, y.2.w, y.2.ns, W y.2.a, p, rfl, ho3, rfl, g2, hk y yin, ?_⟩
            refine norm_g (σ' := [some (.ref o), some (.ref t), some (.str j), some (.ref L), some (.str y.2.a), some (.str y.2.b), some (.str y.2.c), some (.ref e), some (.int (W y.2.a)), some (.int (restW W y.2 p)), v10]) rfl ?_
            have ixl : rs.idxOf y.2.c < rs.length := List.idxOf_lt_length_iff.mpr yc
            refine ⟨_, rfl, _, rfl, _, rfl, o, C2, dx, _, _, rfl, ho3, M2.cl, M2.at_, rfl, _, rfl, D, _, rfl, dget _ yc, L, _, _, _, rfl, rfl, SqL.of hl3, atI_nat (idx_get (W := fun r => V.int ((((qs.take i).map (·.2)).foldl (stepWm W j p) fun _ => -2) r)) yc), _, _, rfl, ?_⟩
            refine ⟨_, rfl, _, rfl, o, C2, dx, _, _, rfl, ho3, M2.cl, M2.at_, rfl, _, rfl, D, _, rfl, dget _ yc, L, _, _, rs.idxOf y.2.c, rfl, rfl, hl3, ?_, ?_⟩
            · unfold ixN
              rw [if_pos (Int.natCast_nonneg _), if_pos (Int.ofNat_lt.mpr (by unfold intsT; rw [List.length_map]; exact ixl)), Int.toNat_natCast]
            · refine ⟨_, _, _, _, _, _, _, rfl, fun b u z => by rw [upd_ne (ne_of_none z hL)]; exact s3 _ _ z, ?_⟩
              rw [upd_same, tk, List.foldl_append]
              show _ = some (HO.lst (intsT rs (stepWm W j p _ y.2)))
              have z := idx_set (W := fun r => V.int ((((qs.take i).map (·.2)).foldl (stepWm W j p) fun _ => -2) r)) (v := V.int (mxI (restW W y.2 p) ((((qs.take i).map (·.2)).foldl (stepWm W j p) fun _ => -2) y.2.c))) nd yc
              refine congrArg (fun q => some (HO.lst q)) (z.trans ?_)
              unfold intsT stepWm
              rw [if_pos ⟨cb, c2⟩]
              refine List.map_congr_left fun r _ => ?_
              by_cases cr : r = y.2.c
              · rw [if_pos cr, if_pos cr, cr]
              · rw [if_neg cr, if_neg cr]
        · rw [decide_eq_false (fun z => cb (V.str.inj z))]
          exact iteF (iteF ⟨_, _, _, _, _, _, _, rfl, s3, keep fun z => cb z.1⟩)
    · rintro σ H3 ⟨v4, v5, v6, v7, v8, v9, v10, rfl, s3, hl3⟩
      rw [List.length_map, List.take_length] at hl3
      refine ⟨_, rfl, L, _, rfl, .inl ⟨SqL.of hl3, fun T hT => ?_⟩⟩
      exact q T _ upd_same (s3.trans (new_same hT))
end
end EV
namespace EV
open PySem L2 NT SX EVX
open PyProof.Rows (sortedS)
def shV (c : Int) : V := if c = -2 then .str "never" else if c = -1 then .str "short" else .int c
def tShow : TE := fun σ H Q => ∃ (v0 : Option V) (c : Int), σ = [v0, some (.int c)] ∧ ∀ H', Same H H' → Q (shV c) H'
section
variable {P : Program} {w : PySem.World} {K : PySem.W.Frag} {mg : Str → Option Value} {base : Heap} {f : Addr} {fd : FuncData}
theorem sc_wbook : FnScope ["self", "book", "left", "job"] ["self", "book"] (defScope s_wbook) := ⟨rfl, rfl, rfl, by decide +kernel, rfl, by decide +kernel, by decide +kernel⟩
def sp_wbook (C C2 : Addr) : Sp := fun vs H Q _ => ∃ (o a D T0 b rows firsts lasts rooms jobs : Addr) (qs : List AM) (fs ls rs js ws : List Str) (p : Int), vs = [.ref o, .ref b] ∧ WkAt C2 H o a D T0 rs fs p ∧ ManAt C H a rows firsts lasts rooms jobs qs fs ls rs js ∧ WordsAt H b ws ∧ rs.Nodup ∧ rs.length < 64 ∧ (∀ q ∈ qs, EffK q.2.w q.2.ns) ∧ (∀ q ∈ qs, q.2.a ∈ rs ∧ q.2.c ∈ rs) ∧
  ∀ T H', H' T = some (.tup (intsT rs (bookW (qs.map (·.2)) (firstW fs p) ws p))) → Same H H' → Q (.ref T) H'
theorem ok_wbook {C C2 : Addr} (M2 : WkC K C2) (F : FnM K "behind_book" "Walk.behind_book" s_wbook f fd)
    {fS : Addr} {dS : FuncData} (mS : Meth K C2 "step" fS) (GS : FnOk P w K mg base CX0 2 fS dS ["self", "left", "job"] (sp_wstep C C2)) (bS : Binds K dS ["self", "left", "job"] []) : FnOk P w K mg base CX0 3 f fd ["self", "book"] (sp_wbook C C2) := by
  refine F.ok sc_wbook (fun vs H Q E h => ?_) (fun cdv A outer s H vs Q E hr h => ?_)
  · obtain ⟨o, a, D, T0, b, rows, firsts, lasts, rooms, jobs, qs, fs, ls, rs, js, ws, p, rfl, _⟩ := h
    rfl
  · obtain ⟨o, a, D, T0, b, rows, firsts, lasts, rooms, jobs, qs, fs, ls, rs, js, ws, p, rfl, wk, m, hb, nd, rl, hk, hac, q⟩ := h
    refine ⟨_, PSs.nox (pss_cons (ps_set (i := 2) sc_wbook.nd rfl (Or.inl rfl) (pe_fld (pv 0) rfl))
      (pss_cons (ps_for PassesOwn.never rfl (pi_list (pv 1)) (pg_name (i := 3) sc_wbook.nd rfl (Or.inl rfl)) (pss_one (ps_set (i := 2) sc_wbook.nd rfl (Or.inl rfl) (pe_meth (pv 0) M2.cl mS GS hr bS .nil pass0 (pa_cons (pv 2) (pa_cons (pv 3) pa_nil))))))
      (pss_one (ps_ret (pv 2))))), ?_⟩
    obtain ⟨dx, G0, ho⟩ := wk.top
    refine ⟨_, rfl, o, C2, dx, _, _, rfl, ho, M2.cl, M2.first, rfl, ?_⟩
    refine ⟨_, rfl, b, rfl, ⟨_, SqL.of hb⟩, ?_⟩
    refine for_list (xs := ws.map V.str) (fun i σ H' => ∃ (T : Addr) (v3 : Option V), σ = [some (.ref o), some (.ref b), some (.ref T), v3] ∧ Same H H' ∧ H' T = some (.tup (intsT rs (bookW (qs.map (·.2)) (firstW fs p) (ws.take i) p))))
      ⟨T0, _, rfl, .refl _, wk.t⟩ (fun i σ H' _ ⟨_, _, _, z, _⟩ => SqL.of (z _ _ hb)) ?_ ?_
    · rintro i x σ H3 hi ⟨T, v3, rfl, s3, ht⟩
      rw [List.getElem?_map] at hi
      cases hn : ws[i]? with
      | none => rw [hn] at hi; cases hi
      | some j =>
        rw [hn] at hi
        cases hi
        have tk : ws.take (i + 1) = ws.take i ++ [j] := by rw [List.take_add_one, hn]; rfl
        refine norm_g (σ' := [some (.ref o), some (.ref b), some (.ref T), some (.str j)]) rfl ?_
        refine ⟨_, rfl, o, dx, _, rfl, s3 _ _ ho, rfl, _, rfl, _, rfl, ?_⟩
        refine ⟨o, a, D, T0, T, rows, firsts, lasts, rooms, jobs, qs, fs, ls, rs, js, p, _, j, rfl, wk.same s3, m.same s3, ht, nd, rl, hk, hac, fun T2 H4 ht4 s4 => ?_⟩
        refine ⟨T2, _, rfl, s3.trans s4, ?_⟩
        rw [tk]
        unfold bookW at ht4 ⊢
        rw [List.foldl_append]
        exact ht4
    · rintro σ H3 ⟨T, v3, rfl, s3, ht⟩
      rw [List.length_map, List.take_length] at ht
      exact ⟨_, rfl, q T H3 ht s3⟩
theorem sc_shown : FnScope ["left", "coins"] ["left"] (defScope s_shown) := ⟨rfl, rfl, rfl, by decide +kernel, rfl, by decide +kernel, by decide +kernel⟩
def sp_shown : Sp := fun vs H Q _ => ∃ (t : Addr) (rs : List Str) (W : Str → Int), vs = [.ref t] ∧ H t = some (.tup (intsT rs W)) ∧ rs.length < 64 ∧ ∀ T H', H' T = some (.tup (rs.map fun r => shV (W r))) → Same H H' → Q (.ref T) H'
theorem ok_shown {tk tk2 : Tok} (F : FnP K "shown" s_shown f fd) (gN : mg "NEVER" = some (.int (-2) tk)) (gS : mg "SHORT" = some (.int (-1) tk2)) (gT : mg "tuple" = none) : FnOk P w K mg base CX0 1 f fd ["left"] sp_shown := by
  refine F.ok sc_shown (fun vs H Q E h => ?_) (fun cdv A outer s H vs Q E hr h => ?_)
  · obtain ⟨t, rs, W, rfl, _⟩ := h
    rfl
  · obtain ⟨t, rs, W, rfl, ht, rl, q⟩ := h
    refine ⟨_, PSs.nox (pss_one (ps_ret (pe_callTy call_tuple_of (by rfl) gT (by decide +kernel) (pa_cons (pe_lc (te := tShow) (own := [("coins", 1)]) (g := gName 1) (tt := tYes) rfl sc_shown.nd (pi_tup (pv 0))
          (blkOk_by (N := ["left", "coins"]) (sc := defScope s_shown) (by decide +kernel)) (fun _ _ _ _ _ => pg_name (i := 1) sc_shown.nd rfl (Or.inl rfl)) (fun _ _ _ _ _ => pts_nil)
          (fun _ _ _ _ _ => pe_weak' (t' := tShow) (pe_dget2 (u1 hr.units) (pe_disp (pps_cons (pe_glob (v := .int (-2)) rfl gN ⟨_, rfl⟩) pe_str (pps_cons (pe_glob (v := .int (-1)) rfl gS ⟨_, rfl⟩) pe_str pps_nil)) (by rfl) (by rfl) (fun z => by cases z) (by decide)) (pv 1) (pv 1) ⟨rfl, rfl, rfl, rfl⟩) ?hs)) pa_nil)))), ?_⟩
    case hs =>
      intro σ H1 Q h
      obtain ⟨v0, c, rfl, q⟩ := h
      intro D hD
      have s2 := new_same (o := .dK []) hD
      refine ⟨upd_same, [(Sum.inl (-2), .str "never"), (Sum.inl (-1), .str "short")], rfl, by show 2 ≤ 15; decide, ?_⟩
      have eD : (upd (upd H1 D (.dK [])) D (.dK (mergeK [] [(Sum.inl (-2), V.str "never"), (Sum.inl (-1), V.str "short")]))) D = some (.dK [(Sum.inl (-2), V.str "never"), (Sum.inl (-1), V.str "short")]) := upd_same
      have sD : Same H1 (upd (upd H1 D (.dK [])) D (.dK (mergeK [] [(Sum.inl (-2), V.str "never"), (Sum.inl (-1), V.str "short")]))) := fun b o e => by
        rw [upd_ne (ne_of_none e hD), upd_ne (ne_of_none e hD)]
        exact e
      generalize upd (upd H1 D (.dK [])) D (.dK (mergeK [] [(Sum.inl (-2), V.str "never"), (Sum.inl (-1), V.str "short")])) = H2 at eD sD
      refine ⟨D, rfl, .inl ⟨_, .inl eD⟩, _, rfl, _, rfl, _, DGet.k (k := Sum.inl c) eD, ?_⟩
      have e : (valV [(Sum.inl (-2), V.str "never"), (Sum.inl (-1), V.str "short")] (Sum.inl c : Key)).getD (V.int c) = shV c := by
        unfold shV
        by_cases c1 : c = -2
        · rw [if_pos c1, valV_pos (by rw [c1])]
          rfl
        · rw [if_neg c1, valV_neg (fun z => c1 (Sum.inl.inj z).symm)]
          by_cases c2 : c = -1
          · rw [if_pos c2, valV_pos (by rw [c2])]
            rfl
          · rw [if_neg c2, valV_neg (fun z => c2 (Sum.inl.inj z).symm)]
            rfl
      rw [e]
      exact q H2 sD
    refine ⟨_, rfl, t, rfl, ⟨_, SqT.of ht⟩, fun L hL => ?_⟩
    refine val_lc (walk_tup (xs := intsT rs W)) (by unfold intsT; rw [List.length_map]; omega) (rs.map fun r => shV (W r)) (by unfold intsT; rw [List.length_map, List.length_map]) hL (fun H' s => SqT.of (s _ _ ht)) ?_ ?_
    · rintro j x H2 y hx hy s2 Z hZ
      unfold intsT at hx
      rw [List.getElem?_map] at hx hy
      cases hn : rs[j]? with
      | none => rw [hn] at hx; cases hx
      | some r =>
        rw [hn] at hx hy
        cases hx
        cases hy
        exact ⟨_, W r, rfl, fun H' s => hZ H' s⟩
    rintro H2 s2 hl2
    refine ⟨L, _, rfl, .inl ⟨SqL.of hl2, fun T hT => ?_⟩⟩
    exact q T _ upd_same (s2.trans (new_same hT))
theorem sc_rests_of : FnScope ["manual", "purse", "book"] ["manual", "purse", "book"] (defScope s_rests_of) := ⟨rfl, rfl, rfl, by decide +kernel, rfl, by decide +kernel, by decide +kernel⟩
def sp_rests_of (C : Addr) : Sp := fun vs H Q _ => ∃ (a rows firsts lasts rooms jobs b : Addr) (qs : List AM) (fs ls rs js ws : List Str) (p : Int), vs = [.ref a, .int p, .ref b] ∧ 0 ≤ p ∧ ManAt C H a rows firsts lasts rooms jobs qs fs ls rs js ∧ WordsAt H b ws ∧ (∀ x ∈ ws, IsWord x) ∧ ws.length < 1000 ∧ rs.Nodup ∧ rs.length < 64 ∧ (∀ x ∈ ls, x ∈ rs) ∧ ls.length < 64 ∧ (∀ q ∈ qs, EffK q.2.w q.2.ns) ∧ (∀ q ∈ qs, q.2.a ∈ rs ∧ q.2.c ∈ rs) ∧
  ∀ T H', H' T = some (.tup (rs.map fun r => shV (bookW (qs.map (·.2)) (firstW fs p) ws p r))) → Same H H' → Q (.ref T) H'
theorem ok_rests_of {C C2 : Addr} (M2 : WkC K C2) (F : FnP K "rests_of" s_rests_of f fd)
    {fC : Addr} {dC : FuncData} (GC : FnOk P w K mg base CX0 5 fC dC ["manual", "purse"] (sp_check_purse C)) (kC : PySem.W.keepIn K (.ref fC) = true) (bC : Binds K dC ["manual", "purse"] []) (gC : mg "check_purse" = some (.ref fC))
    {fB : Addr} {dB : FuncData} (GB : FnOk P w K mg base CX0 5 fB dB ["value"] sp_check_book) (kB : PySem.W.keepIn K (.ref fB) = true) (bB : Binds K dB ["value"] []) (gB : mg "check_book" = some (.ref fB))
    {fI : Addr} {dI : FuncData} (MK : Mk K C2 fI) (gW : mg "Walk" = some (.ref C2)) (GI : FnOk P w K mg base CX0 4 fI dI ["self", "manual", "purse"] (sp_winit C C2)) (bI : Binds K dI ["self", "manual", "purse"] [])
    {fK : Addr} {dK : FuncData} (mK : Meth K C2 "behind_book" fK) (GK : FnOk P w K mg base CX0 5 fK dK ["self", "book"] (sp_wbook C C2)) (bK : Binds K dK ["self", "book"] [])
    {fS : Addr} {dS : FuncData} (GS : FnOk P w K mg base CX0 5 fS dS ["left"] sp_shown) (kS : PySem.W.keepIn K (.ref fS) = true) (bS : Binds K dS ["left"] []) (gS : mg "shown" = some (.ref fS)) : FnOk P w K mg base CX0 6 f fd ["manual", "purse", "book"] (sp_rests_of C) := by
  refine F.ok sc_rests_of (fun vs H Q E h => ?_) (fun cdv A outer s H vs Q E hr h => ?_)
  · obtain ⟨a, rows, firsts, lasts, rooms, jobs, b, qs, fs, ls, rs, js, ws, p, rfl, _⟩ := h
    rfl
  · obtain ⟨a, rows, firsts, lasts, rooms, jobs, b, qs, fs, ls, rs, js, ws, p, rfl, p0, m, hb, iw, lw, nd, rl, hls, ll, hk, hac, q⟩ := h
    obtain ⟨dy, top⟩ := m.top
    refine ⟨_, PSs.nox (pss_cons (ps_expr (pe_call GC hr rfl gC kC bC .nil pass0 (pa_cons (pv 0) (pa_cons (pv 1) pa_nil)))) (pss_cons (ps_expr (pe_call GB hr rfl gB kB bB .nil pass0 (pa_cons (pv 2) pa_nil)))
      (pss_one (ps_ret (pe_call GS hr rfl gS kS bS .nil pass0 (pa_cons (pe_meth (pe_make MK GI hr rfl gW bI .nil pass0 (pa_cons (pv 0) (pa_cons (pv 1) pa_nil))) M2.cl mK GK hr bK .nil pass0 (pa_cons (pv 2) pa_nil)) pa_nil)))))), ?_⟩
    refine ⟨_, rfl, _, rfl, a, dy, _, p, rfl, top, p0, ?_⟩
    refine ⟨_, rfl, b, ws, rfl, hb, iw, lw, fun H1 s1 => ?_⟩
    refine ⟨_, rfl, _, rfl, ?_⟩
    intro o dx ho hdx ne
    have s2 : Same H1 (upd (upd H1 dx (HO.own o)) o (HO.ins C2 dx [])) := fun b u e => by
      rw [upd_ne (ne_of_none e ho), upd_ne (ne_of_none e hdx)]
      exact e
    have o2 : upd (upd H1 dx (HO.own o)) o (HO.ins C2 dx []) o = some (HO.ins C2 dx []) := upd_same
    generalize upd (upd H1 dx (HO.own o)) o (HO.ins C2 dx []) = H2 at s2 o2
    have s12 := s1.trans s2
    have hb2 : WordsAt H2 b ws := s12 _ _ hb
    refine ⟨o, dx, a, rows, firsts, lasts, rooms, jobs, qs, fs, ls, rs, js, p, rfl, o2, m.same s12, nd, rl, hls, ll, fun H3 D T wk b3 => ?_⟩
    obtain ⟨dx3, G3, o3⟩ := wk.top
    refine ⟨rfl, o, dx3, _, rfl, o3, rfl, _, rfl, ?_⟩
    refine ⟨o, a, D, T, b, rows, firsts, lasts, rooms, jobs, qs, fs, ls, rs, js, ws, p, rfl, wk, (m.same s12).insB o2 b3, hb2.ins o2 b3, nd, rl, hk, hac, fun T2 H4 ht4 s4 => ?_⟩
    exact ⟨T2, rs, _, rfl, ht4, rl, fun T3 H5 ht5 s5 => q T3 H5 ht5 fun b u e => s5 _ _ (s4 _ _ (b3 _ _ (s12 _ _ e) (ne_of_none (s1 _ _ e) ho)))⟩
end
end EV
namespace EV
open PySem L2 NT SX EVX
open PyProof.Rows (sortedS)
/-! ### what Walk keeps and rows of rests -/
structure RelW (W : Str → Int) (F : Rw) : Prop where
  low : ∀ g, -2 ≤ W g
  num : ∀ g, 0 ≤ W g → F g = some (W g)
  non : ∀ g, W g < 0 → F g = none
theorem leftI_low {w : Str} {ns : List Int} {c p : Int} : -1 ≤ leftI w ns c p := by
  unfold leftI
  cases h : leftS w ns c p with
  | none => exact Int.le_refl _
  | some l => have := left_nat h; show -1 ≤ l; omega
theorem leftI_neg {w : Str} {ns : List Int} {c p : Int} (hk : 0 ≤ ns.headD 0) (h : c < 0) : leftI w ns c p = -1 := by
  unfold leftI leftS
  rw [if_pos (by omega)]
  rfl
theorem rel_step {W G : Str → Int} {F Gf : Rw} {j : Str} {p : Int} {m : Mn} (hk : EffK m.w m.ns) (r : RelW W F) (g : RelW G Gf) : RelW (stepWm W j p G m) (stepF F j p Gf m) := by
  by_cases hb : m.b = j
  · by_cases hw : W m.a = -2
    · rw [step_miss hb (r.non _ (by omega))]
      unfold stepWm
      rw [if_neg (fun z => z.2 hw)]
      exact g
    · have ew : stepWm W j p G m = fun x => if x = m.c then mxI (restW W m p) (G x) else G x := by
        unfold stepWm
        rw [if_pos ⟨hb, hw⟩]
      rw [ew]
      have bad : restW W m p = -1 → RelW (fun x => if x = m.c then mxI (restW W m p) (G x) else G x) Gf := fun e => by
        have pt : ∀ x, (if x = m.c then mxI (restW W m p) (G x) else G x) = G x ∨ ((if x = m.c then mxI (restW W m p) (G x) else G x) = -1 ∧ G x < 0) := fun x => by
          by_cases cx : x = m.c
          · rw [if_pos cx, e]
            unfold mxI
            by_cases c : G x > -1
            · rw [if_pos c]; exact .inl rfl
            · rw [if_neg c]; exact .inr ⟨rfl, by omega⟩
          · rw [if_neg cx]; exact .inl rfl
        refine ⟨fun x => ?_, fun x h => ?_, fun x h => ?_⟩
        · rcases pt x with z | ⟨z, _⟩
          · rw [z]; exact g.low x
          · rw [z]; decide
        · rcases pt x with z | ⟨z, _⟩
          · rw [z] at h ⊢; exact g.num x h
          · rw [z] at h; omega
        · rcases pt x with z | ⟨_, z⟩
          · rw [z] at h; exact g.non x h
          · exact g.non x z
      by_cases h0 : 0 ≤ W m.a
      · have hF := r.num _ h0
        have e1 : restW W m p = leftI m.w m.ns (W m.a) p := by
          unfold restW
          rw [if_neg (by omega)]
        cases hL : leftS m.w m.ns (W m.a) p with
        | none =>
          rw [step_out hb hF hL]
          exact bad (by rw [e1]; unfold leftI; rw [hL]; rfl)
        | some l =>
          have l0 := left_nat hL
          have e2 : restW W m p = l := by rw [e1]; unfold leftI; rw [hL]; rfl
          rw [step_in hb hF hL, e2]
          by_cases cg : 0 ≤ G m.c
          · rw [g.num _ cg]
            show RelW _ (if G m.c < l then putF Gf m.c l else Gf)
            by_cases cl : G m.c < l
            · rw [if_pos cl]
              refine ⟨fun x => ?_, fun x h => ?_, fun x h => ?_⟩ <;> by_cases cx : x = m.c
              · subst cx; simp only [if_pos]; unfold mxI; rw [if_neg (by omega)]; omega
              · simp only [if_neg cx]; exact g.low x
              · subst cx; simp only [if_pos] at h ⊢; unfold mxI; rw [if_neg (by omega)]; unfold putF; simp
              · simp only [if_neg cx] at h ⊢; unfold putF; simp only [if_neg cx]; exact g.num x h
              · subst cx; simp only [if_pos] at h; unfold mxI at h; rw [if_neg (by omega)] at h; omega
              · simp only [if_neg cx] at h; unfold putF; simp only [if_neg cx]; exact g.non x h
            · rw [if_neg cl]
              have pt : ∀ x, (if x = m.c then mxI l (G x) else G x) = G x := fun x => by
                by_cases cx : x = m.c
                · rw [if_pos cx, cx]
                  unfold mxI
                  by_cases c : G m.c > l
                  · rw [if_pos c]
                  · rw [if_neg c]; omega
                · rw [if_neg cx]
              simp only [pt]
              exact g
          · rw [g.non _ (by omega)]
            show RelW _ (if -1 < l then putF Gf m.c l else Gf)
            rw [if_pos (by omega)]
            refine ⟨fun x => ?_, fun x h => ?_, fun x h => ?_⟩ <;> by_cases cx : x = m.c
            · subst cx; simp only [if_pos]; unfold mxI; rw [if_neg (by omega)]; omega
            · simp only [if_neg cx]; exact g.low x
            · subst cx; simp only [if_pos] at h ⊢; unfold mxI; rw [if_neg (by omega)]; unfold putF; simp
            · simp only [if_neg cx] at h ⊢; unfold putF; simp only [if_neg cx]; exact g.num x h
            · subst cx; simp only [if_pos] at h; unfold mxI at h; rw [if_neg (by omega)] at h; omega
            · simp only [if_neg cx] at h; unfold putF; simp only [if_neg cx]; exact g.non x h
      · rw [step_miss hb (r.non _ (by omega))]
        refine bad ?_
        unfold restW
        by_cases c1 : W m.a = -1
        · rw [if_pos c1]
        · rw [if_neg c1]
          exact leftI_neg (effk hk).1 (by omega)
  · rw [step_else hb]
    unfold stepWm
    rw [if_neg (fun z => hb z.1)]
    exact g
theorem rel_fold {W : Str → Int} {F : Rw} {j : Str} {p : Int} (r : RelW W F) : ∀ (ms : List Mn) (G : Str → Int) (Gf : Rw), (∀ m ∈ ms, EffK m.w m.ns) → RelW G Gf → RelW (ms.foldl (stepWm W j p) G) (ms.foldl (stepF F j p) Gf)
  | [], _, _, _, g => g
  | m :: ms, G, Gf, hk, g => rel_fold r ms _ _ (fun x hx => hk x (List.mem_cons_of_mem _ hx)) (rel_step (hk m List.mem_cons_self) r g)
theorem rel_book {ms : List Mn} {p : Int} (hk : ∀ m ∈ ms, EffK m.w m.ns) : ∀ (b : List Str) (W : Str → Int) (F : Rw), RelW W F → RelW (bookW ms W b p) (bookF ms F b p)
  | [], _, _, r => r
  | j :: b, W, F, r => rel_book hk b _ _ (rel_fold r ms _ _ hk ⟨fun _ => Int.le_refl _, fun _ h => absurd h (by decide), fun _ _ => rfl⟩)
theorem rel_first {fs : List Str} {p : Int} (h : 0 ≤ p) : RelW (firstW fs p) (firstF fs p) := by
  unfold firstW firstF
  refine ⟨fun g => ?_, fun g hg => ?_, fun g hg => ?_⟩ <;> by_cases c : g ∈ fs
  · rw [if_pos c]; omega
  · rw [if_neg c]; omega
  · rw [if_pos c, if_pos c]
  · rw [if_neg c] at hg; omega
  · rw [if_pos c] at hg; omega
  · rw [if_neg c]
/-- some room has a rest behind a book -/
def GoB (ms : List Mn) (fs b : List Str) (p : Int) : Prop := ∃ f ∈ fs, ∃ g ws c, Way ms b f g ws ∧ run p ws p = some c
theorem emp_go {ms : List Mn} {fs b : List Str} {p : Int} : ¬ Emp (bookF ms (firstF fs p) b p) ↔ GoB ms fs b p := by
  constructor
  · intro h
    obtain ⟨g, hg⟩ : ∃ g, bookF ms (firstF fs p) b p g ≠ none := Classical.byContradiction fun no => h fun g => Classical.byContradiction fun z => no ⟨g, z⟩
    obtain ⟨c, hc⟩ := Option.ne_none_iff_exists'.mp hg
    obtain ⟨r, ws, c0, h1, h2, h3⟩ := book_of hc
    obtain ⟨h4, rfl⟩ := first_some.mp h1
    exact ⟨r, h4, g, ws, c, h2, h3⟩
  · rintro ⟨f, hf, g, ws, c, hw, hr⟩ e
    obtain ⟨c', h, _⟩ := book_max (first_some.mpr ⟨hf, rfl⟩) hw hr
    rw [e g] at h
    cases h
theorem go_congr {ms ns : List Mn} {fs gs b : List Str} {p : Int} (h : ∀ m, m ∈ ms ↔ m ∈ ns) (h2 : ∀ f, f ∈ fs ↔ f ∈ gs) : GoB ms fs b p ↔ GoB ns gs b p := by
  constructor
  · rintro ⟨f, hf, g, ws, c, hw, hr⟩
    exact ⟨f, (h2 f).mp hf, g, ws, c, way_congr h hw, hr⟩
  · rintro ⟨f, hf, g, ws, c, hw, hr⟩
    exact ⟨f, (h2 f).mpr hf, g, ws, c, way_congr (fun m => (h m).symm) hw, hr⟩
end EV
namespace EV
open PySem L2 NT SX EVX
open PyProof.Rows (sortedS)
theorem man_fit {C a : Addr} {H : Hp} {ps qs : List AM} {bs es bs' es' rs0 js0 fs ls rs js : List Str} (rt : Right 9 ps bs es rs0 js0) (r3 : rs0.length ≤ 3) (hb : ∀ x ∈ bs', x ∈ rs0) (he : ∀ x ∈ es', x ∈ rs0) (mo : ManOf C H a ps bs' es' qs fs ls rs js) :
    qs.length < 60 ∧ rs.length < 1000 ∧ rs.length ≤ 3 ∧ (∀ q ∈ qs, EffK q.2.w q.2.ns) ∧ ∀ q ∈ qs, q.2.a ∈ rs ∧ q.2.c ∈ rs := by
  have l := man_rs rt hb he mo
  have few := rt.few
  refine ⟨by rw [mo.pq.length_eq]; omega, by omega, by omega, fun q hq => (rt.of q (mo.pq.mem_iff.mp hq)).2.2.2, fun q hq => ?_⟩
  have z := mo.pq.mem_iff.mp hq
  exact ⟨(mo.mr _).mpr (.inr (.inr ⟨q, z, .inl rfl⟩)), (mo.mr _).mpr (.inr (.inr ⟨q, z, .inr rfl⟩))⟩
theorem EndAt.but {H H' : Hp} {e h t p : Addr} {k : Nat} {hd tn : List Str} (x : EndAt H e h t hd tn) (P : Pu H p k) (B : But p H H') : EndAt H' e h t hd tn := by
  obtain ⟨xs, e2, _⟩ := P.some
  exact ⟨B _ _ x.top (fun z => by have := x.top; rw [z, e2] at this; cases this), x.hd.but P B, x.tn.but P B⟩
theorem ints_shaped (ns : List Int) : SeqAt.shaped (.list (ns.map .int)) = true := by
  have k : PyData.canLayAll0 (ns.map PyData.int) = true := by
    induction ns with
    | nil => rfl
    | cons n ns ih =>
      rw [List.map_cons]
      unfold PyData.canLayAll0
      rw [ih]
      rfl
  unfold SeqAt.shaped
  rw [show PyData.canLay0 (.list (ns.map .int)) = PyData.canLayAll0 (ns.map .int) from rfl, k, show PyData.depth (.list (ns.map .int)) = PyData.depthAll (ns.map .int) + 1 from rfl, deep_ints, Bool.true_and, decide_eq_true_eq]
  omega
/-- what dry_round tells -/
def DryV (z : ES) (p : Int) (o : Option Int) : Prop := (o = none ∧ ∀ j, ¬ Emp (rowN z p j)) ∨ ∃ i : Nat, o = some (i : Int) ∧ Emp (rowN z p i) ∧ ∀ j, j < i → ¬ Emp (rowN z p j)
theorem dry_is {z : ES} {p : Int} {o : Option Int} (d : DryV z p o) (j : Nat) : (∃ i : Nat, o = some (i : Int) ∧ i ≤ j ∧ Emp (rowN z p i)) ↔ Emp (rowN z p j) := by
  rcases d with ⟨rfl, h⟩ | ⟨i, rfl, h1, h2⟩
  · exact ⟨fun ⟨_, e, _⟩ => (nomatch e), fun e => absurd e (h j)⟩
  · constructor
    · rintro ⟨i', e, le, _⟩
      have e : i = i' := by
        have := Option.some.inj e
        omega
      subst e
      have := emp_add h1 (j - i)
      rwa [show i + (j - i) = j by omega] at this
    · intro e
      refine ⟨i, rfl, Nat.le_of_not_lt fun lt => h2 j lt e, h1⟩
abbrev s_right : Stmt := top 69
abbrev NR : List Str := ["purse", "world", "manual", "endless", "kept", "wide", "coins", "dry", "many", "book", "paper", "is_dry", "numbers", "part"]
theorem sc_right : FnScope NR ["purse"] (defScope s_right) := ⟨rfl, rfl, rfl, by decide +kernel, rfl, by decide +kernel, by decide +kernel⟩
def tBehind : TE := fun σ H Q => ∃ (v0 v1 v2 v4 v5 v6 v8 v9 v10 v11 v12 v13 : Option V) (e h t : Addr) (hd tn : List Str) (o : Option Int), σ = [v0, v1, v2, some (.ref e), v4, v5, v6, some (optV o), v8, v9, v10, v11, v12, v13] ∧ EndAt H e h t hd tn ∧ True
def sp_right : Sp := fun vs H Q _ => ∃ (p : Addr) (k0 : Nat), vs = [.ref p] ∧ Pu H p k0 ∧ k0 < 200000000 ∧ ∀ H', Pu H' p (k0 + 2000) → But p H H' → Q (.bl true) H'
section
variable {P : Program} {w : PySem.World} {K : PySem.W.Frag} {mg : Str → Option Value} {base : Heap} {f : Addr} {fd : FuncData}
def sp_dryR (C : Addr) : Sp := fun vs H Q _ => ∃ (a e : Addr) (z : ES) (p : Int), vs = [.ref a, .ref e, .int p] ∧ 0 ≤ p ∧ ESAt C H a e z ∧ ESOk z ∧ DryOk z p ∧ ∀ o H', DryV z p o → Same H H' → Q (optV o) H'
theorem ok_dry_roundR {C : Addr} (F : FnP K "dry_round" s_dry_round f fd)
    {fE : Addr} {dE : FuncData} (GE : FnOk P w K mg base CX0 5 fE dE ["manual", "endless"] (sp_check_endless C)) (kE : PySem.W.keepIn K (.ref fE) = true) (bE : Binds K dE ["manual", "endless"] []) (gE : mg "check_endless" = some (.ref fE))
    {fC : Addr} {dC : FuncData} {dsC : List Value} (vC : Vals [.non] dsC) (GC : FnOk P w K mg base CX0 5 fC dC ["value", "most"] sp_check_count) (kC : PySem.W.keepIn K (.ref fC) = true) (bC : Binds K dC ["value", "most"] dsC) (gC : mg "check_count" = some (.ref fC))
    {fD : Addr} {dD : FuncData} (GD : FnOk P w K mg base CX0 5 fD dD ["manual", "endless", "purse"] (sp_dry C)) (kD : PySem.W.keepIn K (.ref fD) = true) (bD : Binds K dD ["manual", "endless", "purse"] []) (gD : mg "dry_from" = some (.ref fD)) : FnOk P w K mg base CX0 6 f fd ["manual", "endless", "purse"] (sp_dryR C) :=
  (ok_dry_round F GE kE bE gE vC GC kC bC gC GD kD bD gD).imp fun vs H Q E h => by
    obtain ⟨a, e, z, p, rfl, p0, at_, ok, dok, q⟩ := h
    exact ⟨a, e, z, p, rfl, p0, at_, ok, dok, fun i h1 h2 H' s => q (some (i : Int)) H' (.inr ⟨i, rfl, h1, h2⟩) s, fun hn H' s => q none H' (.inl ⟨rfl, hn⟩) s⟩
theorem ok_right {C : Addr} (F : FnP K "_law_right" s_right f fd) (S : SysIn K) (gP : mg "repr" = none) (gL : mg "len" = none) (gRg : mg "range" = none)
    {fW : Addr} {dW : FuncData} (GW : FnOk P w K mg base CX0 8 fW dW ["purse"] sp_any_world) (kW : PySem.W.keepIn K (.ref fW) = true) (bW : Binds K dW ["purse"] []) (gW : mg "_law_any_world" = some (.ref fW))
    {fM : Addr} {dM : FuncData} (GM : FnOk P w K mg base CX0 8 fM dM ["world"] (sp_law_manual C)) (kM : PySem.W.keepIn K (.ref fM) = true) (bM : Binds K dM ["world"] []) (gM : mg "_law_manual" = some (.ref fM))
    {fS : Addr} {dS : FuncData} (GS : FnOk P w K mg base CX0 8 fS dS ["purse", "world"] sp_some_endless) (kS : PySem.W.keepIn K (.ref fS) = true) (bS : Binds K dS ["purse", "world"] []) (gS : mg "_law_some_endless" = some (.ref fS))
    {fB : Addr} {dB : FuncData} (GB : FnOk P w K mg base CX0 8 fB dB ["manual"] (sp_opened C)) (kB : PySem.W.keepIn K (.ref fB) = true) (bB : Binds K dB ["manual"] []) (gB : mg "opened" = some (.ref fB))
    {fD : Addr} {dD : FuncData} (GD : FnOk P w K mg base CX0 8 fD dD ["purse", "many"] sp_d) (kD : PySem.W.keepIn K (.ref fD) = true) (bD : Binds K dD ["purse", "many"] []) (gD : mg "_law_draw" = some (.ref fD))
    {fY : Addr} {dY : FuncData} (GY : FnOk P w K mg base CX0 8 fY dY ["manual", "endless", "purse"] (sp_dryR C)) (kY : PySem.W.keepIn K (.ref fY) = true) (bY : Binds K dY ["manual", "endless", "purse"] []) (gY : mg "dry_round" = some (.ref fY))
    {fA : Addr} {dA : FuncData} (GA : FnOk P w K mg base CX0 8 fA dA ["manual", "book", "purse"] (sp_paper_of C)) (kA : PySem.W.keepIn K (.ref fA) = true) (bA : Binds K dA ["manual", "book", "purse"] []) (gA : mg "paper_of" = some (.ref fA))
    {fE : Addr} {dE : FuncData} (GE : FnOk P w K mg base CX0 8 fE dE ["manual", "book", "purse"] (sp_dry_at C)) (kE : PySem.W.keepIn K (.ref fE) = true) (bE : Binds K dE ["manual", "book", "purse"] []) (gE : mg "dry_at" = some (.ref fE))
    {fI : Addr} {dI : FuncData} (GI : FnOk P w K mg base CX0 8 fI dI ["manual", "book", "purse", "value"] (sp_is_paper C)) (kI : PySem.W.keepIn K (.ref fI) = true) (bI : Binds K dI ["manual", "book", "purse", "value"] []) (gI : mg "is_paper" = some (.ref fI))
    {fR : Addr} {dR : FuncData} (GR : FnOk P w K mg base CX0 8 fR dR ["manual", "purse", "book"] (sp_rests_of C)) (kR : PySem.W.keepIn K (.ref fR) = true) (bR : Binds K dR ["manual", "purse", "book"] []) (gR : mg "rests_of" = some (.ref fR)) : FnG P w K mg base 9 f fd ["purse"] sp_right := by
  refine okG F sc_right (fun vs H Q E h => ?_) (fun cdv A outer s H vs Q E hr hG h => ?_)
  · obtain ⟨p, k0, rfl, _⟩ := h
    rfl
  · obtain ⟨p, k0, rfl, hp, hk0, q⟩ := h
    refine ⟨_, PSs.nox (pss_cons (ps_set (i := 1) sc_right.nd rfl (Or.inl rfl) (pe_call GW hr rfl gW kW bW .nil pass0 (pa_cons (pv 0) pa_nil)))
      (pss_cons (ps_par3 (i := 2) (j := 3) (l := 4) rfl sc_right.nd rfl rfl rfl (by decide) (by decide) (by decide) rfl rfl rfl
        (pa_cons (pe_call GM hr rfl gM kM bM .nil pass0 (pa_cons (pv 1) pa_nil)) (pa_cons (pe_call GS hr rfl gS kS bS .nil pass0 (pa_cons (pv 0) (pa_cons (pv 1) pa_nil))) (pa_cons (pe_callB (call_repr hr.units hG S) (by rfl) gP (by decide +kernel) (pa_cons (pv 1) pa_nil)) pa_nil))) rfl)
      (pss_cons (ps_set (i := 5) sc_right.nd rfl (Or.inl rfl) (pe_call GB hr rfl gB kB bB .nil pass0 (pa_cons (pv 2) pa_nil)))
      (pss_cons (ps_for PassesOwn.never rfl (pi_tup (pe_tup (pa_cons pe_int (pa_cons pe_int (pa_cons pe_int (pa_cons (pe_op op_add pe_int (pe_call GD hr rfl gD kD bD .nil pass0 (pa_cons (pv 0) (pa_cons pe_int pa_nil)))) pa_nil)))))) (pg_name (i := 6) sc_right.nd rfl (Or.inl rfl))
        (pss_cons (ps_set (i := 7) sc_right.nd rfl (Or.inl rfl) (pe_call GY hr rfl gY kY bY .nil pass0 (pa_cons (pv 2) (pa_cons (pv 3) (pa_cons (pv 6) pa_nil)))))
        (pss_one (ps_for PassesOwn.never rfl (pi_range1 rfl gRg (pa_cons pe_int pa_nil)) (pg_name (i := 8) sc_right.nd rfl (Or.inl rfl))
          (pss_cons (ps_set (i := 9) sc_right.nd rfl (Or.inl rfl) (pe_op op_cat (pe_ix ix_tup (pv 3) pe_int (fun _ _ => rfl)) (pe_op op_rep (pe_ix ix_tup (pv 3) pe_int (fun _ _ => rfl)) (pv 8))))
          (Evl.pss_cut (ps_par (i := 10) (j := 11) (by rfl) sc_right.nd rfl rfl (by decide) rfl rfl (pa_cons (pe_call GA hr rfl gA kA bA .nil pass0 (pa_cons (pv 5) (pa_cons (pv 9) (pa_cons (pv 6) pa_nil)))) (pa_cons (pe_and (pe_cmpR op_notN (pv 7) pe_non (nomark _)) (pe_one (pe_cmpR op_ge (pv 8) (pv 7) (nomark _)))) pa_nil)) (by rfl))
          (Evl.pss_cut (ps_if (PW.pt (pw_or (pt_cmpR op_ne (pe_cmpR op_notN (pe_call GE hr rfl gE kE bE .nil pass0 (pa_cons (pv 5) (pa_cons (pv 9) (pa_cons (pv 6) pa_nil)))) pe_non (nomark _)) (pv 11) (nomark _))
              (pw_or1 (pt_cmpR op_ne (pe_cmpR op_notN (pv 10) pe_non (nomark _)) (pv 11) (nomark _))))) (pss_one (ps_ret pe_bl)) pss_nil)
          (Evl.pss_cut (ps_if (PW.pt (pw_and (pt_val (pv 11)) (pw_and1 (PW.pt (pw_or (pt_cmpR op_notBl (pe_call GI hr rfl gI kI bI .nil pass0 (pa_cons (pv 5) (pa_cons (pv 9) (pa_cons (pv 6) (pa_cons (pv 10) pa_nil))))) pe_bl (nomark _))
              (pw_or1 (pt_cmpR op_gt (pe_call GE hr rfl gE kE bE .nil pass0 (pa_cons (pv 5) (pa_cons (pv 9) (pa_cons (pv 6) pa_nil)))) (pe_op op_add (pe_callB call_len_seq (by rfl) gL (by decide +kernel) (pa_cons (pe_ix ix_tup (pv 3) pe_int (fun _ _ => rfl)) pa_nil)) (pe_op op_mul (pe_callB call_len_seq (by rfl) gL (by decide +kernel) (pa_cons (pe_ix ix_tup (pv 3) pe_int (fun _ _ => rfl)) pa_nil)) (pv 7))) (nomark _)))))))) (pss_one (ps_ret pe_bl)) pss_nil)
          (pss_cons (ps_setLc (i := 12) (te := tVar 13) (own := [("part", 13)]) (g := gName 13) (tt := tTest (tOp (rIn K true) (tVar 13) (tTup (tCons (tC (.str "never")) (tCons (tC (.str "short")) tNil))))) (by rfl) sc_right.nd rfl rfl (sw_true rfl rfl rfl (by decide +kernel)) (pi_tup (pe_call GR hr rfl gR kR bR .nil pass0 (pa_cons (pv 5) (pa_cons (pv 6) (pa_cons (pv 9) pa_nil)))))
            (blkOk_by (N := NR) (sc := defScope s_right) (by decide +kernel)) (fun _ _ _ _ _ => pg_name (i := 13) sc_right.nd rfl (Or.inl rfl)) (fun _ _ _ _ _ => pts_one (pt_cmpR op_notIn_seq (pv 13) (pe_tup (pa_cons pe_str (pa_cons pe_str pa_nil))) rfl)) (fun _ _ _ _ _ => pv 13))
          (pss_one (ps_if (pt_cmpR op_ne (pe_cmpR (op_eqD hr.units) (pv 12) (pe_lst pa_nil) (nomark _)) (pv 11) (nomark _)) (pss_one (ps_ret pe_bl)) pss_nil)))))))))))
      (pss_one (ps_ret (pe_cmpR op_eq (pe_callB (call_repr hr.units hG S) (by rfl) gP (by decide +kernel) (pa_cons (pv 1) pa_nil)) (pv 4) (nomark _)))))))), ?_⟩
    refine ⟨_, rfl, p, k0, rfl, hp, by omega, fun W lm l1 l2 lr lj ps bs es rs js H1 wd rt r3 j3 P1 B1 hW => ?_⟩
    obtain ⟨f1, f2, f3, f4⟩ := rooms_len rt r3
    refine ⟨_, rfl, W, lm, l1, l2, lr, lj, 9, ps, bs, es, rs, js, rfl, wd, rt, by omega, f2, f3, fun H2 a qs fs ls rs' js' mo s2 _ => ?_⟩
    obtain ⟨rows, firsts, lasts, rooms, jobs, ma⟩ := mo.at_
    have wd2 := wd.same s2
    have P2 := P1.same s2
    refine ⟨_, rfl, _, rfl, p, W, lm, l1, l2, lr, lj, _, ps, bs, es, rs, js, rfl, P2, by omega, wd2, rt, fun e h t hd tn H3 en eo h3 t4 P3 B3 => ?_⟩
    have wd3 := wd2.but P2 B3
    have ma3 := ma.but P2 B3
    have B03 : But p H H3 := (B1.step s2).trans B3
    have fw := fine_world rt r3 j3
    refine ⟨_, rfl, _, _, rfl, world_dq wd3, fw.sh, fine_shown fw, Nat.le_trans fw.dp (by decide), ?_⟩
    refine ⟨_, _, _, rfl, ?_⟩
    refine norm2 (σ' := [some (.ref p), some (.ref W), some (.ref a), some (.ref e), some (.str (worldD ps bs es rs js).shown), none, none, none, none, none, none, none, none, none]) rfl ?_
    obtain ⟨ok, W'⟩ := es_ok (rows := rows) (firsts := firsts) (lasts := lasts) (rooms := rooms) (jobs := jobs) (h := h) (t := t) (hd := hd) (tn := tn) rt r3 rt.b.1 rt.b.2 rt.e.1 mo eo h3 t4
    have mk := mkok_of rt r3 mo
    refine ⟨_, rfl, a, rows, firsts, lasts, rooms, jobs, qs, fs, ls, rs', js', rfl, ma3, mk, fun H4 b qs2 fs2 ls2 rs2 js2 mo2 s4 _ => ?_⟩
    obtain ⟨rows2, firsts2, lasts2, rooms2, jobs2, mb4⟩ := mo2.at_
    refine norm_g (σ' := [some (.ref p), some (.ref W), some (.ref a), some (.ref e), some (.str (worldD ps bs es rs js).shown), some (.ref b), none, none, none, none, none, none, none, none]) rfl ?_
    obtain ⟨rt1, rt2⟩ := right_man rt mo
    obtain ⟨q1, q2, q3, q4, q5⟩ := man_fit rt2 r3 rt2.b.1 rt2.e.1 mo2
    have P4 := P3.same s4
    refine ⟨_, rfl, p, 12, _, rfl, P4, by omega, by decide, by decide, fun r H5 r0 r12 P5 B5 => ?_⟩
    refine ⟨_, _, rfl, rfl, ?_⟩
    refine ⟨by show 4 ≤ sizeLine; decide, fun T hT => ?_⟩
    have s6 := new_same (o := .tup [.int 0, .int 1, .int 2, .int (1 + r)]) hT
    have e6 : upd H5 T (.tup [.int 0, .int 1, .int 2, .int (1 + r)]) T = some (.tup [.int 0, .int 1, .int 2, .int (1 + r)]) := upd_same
    have en6 := ((en.same s4).but P4 B5).same s6
    have ma6 := ((ma3.same s4).but P4 B5).same s6
    have mb6 := (mb4.but P4 B5).same s6
    have wd6 := ((wd3.same s4).but P4 B5).same s6
    have P6 := P5.same s6
    have B06 : But p H _ := ((B03.step s4).trans B5).step s6
    generalize upd H5 T (.tup [.int 0, .int 1, .int 2, .int (1 + r)]) = H6 at s6 e6 en6 ma6 mb6 wd6 P6 B06
    refine ⟨T, rfl, ⟨_, SqT.of e6⟩, ?_⟩
    refine for_tup (xs := [.int 0, .int 1, .int 2, .int (1 + r)]) (fun i σ H' => Same H6 H' ∧ ∃ v6 v7 v8 v9 v10 v11 v12 v13, σ = [some (.ref p), some (.ref W), some (.ref a), some (.ref e), some (.str (worldD ps bs es rs js).shown), some (.ref b), v6, v7, v8, v9, v10, v11, v12, v13]) ⟨.refl _, _, _, _, _, _, _, _, _, rfl⟩ (fun i σ H' _ z => SqT.of (z.1 _ _ e6)) ?_ ?_
    · rintro i x σ H7 hi ⟨s7, v6, v7, v8, v9, v10, v11, v12, v13, rfl⟩
      obtain ⟨c, rfl, c12⟩ : ∃ c : Nat, x = .int (c : Int) ∧ c ≤ 12 := by
        match i, hi with
        | 0, hi => cases hi; exact ⟨0, rfl, by omega⟩
        | 1, hi => cases hi; exact ⟨1, rfl, by omega⟩
        | 2, hi => cases hi; exact ⟨2, rfl, by omega⟩
        | 3, hi => cases hi; exact ⟨(1 + r).toNat, by rw [Int.toNat_of_nonneg (by omega)], by omega⟩
        | n + 4, hi => cases hi
      refine norm_g (σ' := [some (.ref p), some (.ref W), some (.ref a), some (.ref e), some (.str (worldD ps bs es rs js).shown), some (.ref b), some (.int (c : Int)), v7, v8, v9, v10, v11, v12, v13]) rfl ?_
      refine ⟨_, rfl, _, rfl, _, rfl, a, e, mkES rows firsts lasts rooms jobs h t qs fs ls rs' js' hd tn, (c : Int), rfl, Int.natCast_nonneg c, ⟨ma6.same s7, en6.same s7⟩, ok, dry_ok W' (by omega), fun o H8 hdo s8 => ?_⟩
      refine norm_g (σ' := [some (.ref p), some (.ref W), some (.ref a), some (.ref e), some (.str (worldD ps bs es rs js).shown), some (.ref b), some (.int (c : Int)), some (optV o), v8, v9, v10, v11, v12, v13]) rfl ?_
      refine ⟨7, rfl, by decide, by decide, ?_⟩
      refine for_range (n := 7) (fun i σ H' => Same H6 H' ∧ ∃ v8 v9 v10 v11 v12 v13, σ = [some (.ref p), some (.ref W), some (.ref a), some (.ref e), some (.str (worldD ps bs es rs js).shown), some (.ref b), some (.int (c : Int)), some (optV o), v8, v9, v10, v11, v12, v13]) ⟨s7.trans s8, _, _, _, _, _, _, rfl⟩ ?_ ?_
      · rintro i σ H9 hi ⟨s9, v8, v9, v10, v11, v12, v13, rfl⟩
        have en9 := en6.same s9
        have mb9 := mb6.same s9
        refine norm_g (σ' := [some (.ref p), some (.ref W), some (.ref a), some (.ref e), some (.str (worldD ps bs es rs js).shown), some (.ref b), some (.int (c : Int)), some (optV o), some (.int (i : Int)), v9, v10, v11, v12, v13]) (by rw [Int.zero_add]; rfl) ?_
        have rl : ∀ r, (rep tn r).length = r * tn.length := fun r => rep_len
        have it : i * tn.length ≤ 6 * 4 := Nat.mul_le_mul (by omega) t4
        refine ⟨_, rfl, e, _, 0, .ref h, rfl, rfl, SqT.of en9.top, atI_nat (j := 0) rfl, _, rfl, e, _, 1, .ref t, rfl, rfl, SqT.of en9.top, atI_nat (j := 1) rfl, _, rfl, t, _, _, rfl, rfl, en9.tn, by omega, by omega, by rw [List.length_map, Int.toNat_natCast, PySem.sizeLine_eq, Nat.mul_comm]; omega, fun r1 hr1 => ?_⟩
        rw [Int.toNat_natCast, rep_flat]
        have s10 := new_same (o := .lst ((rep tn i).map V.str)) hr1
        have e10 : WordsAt (upd H9 r1 (.lst ((rep tn i).map V.str))) r1 (rep tn i) := upd_same
        generalize upd H9 r1 (.lst ((rep tn i).map V.str)) = H10 at s10 e10
        refine ⟨h, r1, _, _, rfl, rfl, (en9.same s10).hd, e10, by rw [List.length_map, List.length_map, rl, PySem.sizeLine_eq]; omega, fun r2 hr2 => ?_⟩
        rw [← List.map_append]
        have s11 := new_same (o := .lst ((hd ++ rep tn i).map V.str)) hr2
        have e11 : WordsAt (upd H10 r2 (.lst ((hd ++ rep tn i).map V.str))) r2 (hd ++ rep tn i) := upd_same
        generalize upd H10 r2 (.lst ((hd ++ rep tn i).map V.str)) = H11 at s11 e11
        have s911 := s10.trans s11
        refine norm_g (σ' := [some (.ref p), some (.ref W), some (.ref a), some (.ref e), some (.str (worldD ps bs es rs js).shown), some (.ref b), some (.int (c : Int)), some (optV o), some (.int (i : Int)), some (.ref r2), v10, v11, v12, v13]) rfl ?_
        have bw : ∀ x ∈ hd ++ rep tn i, IsWord x := book_words eo
        have lb : (hd ++ rep tn i).length < 1000 := by rw [List.length_append, rl]; omega
        obtain ⟨_, _, _, _, p5⟩ := man_fit rt r3 rt.b.1 rt.e.1 mo
        have m2 : ∀ m, m ∈ qs2.map (·.2) ↔ m ∈ qs.map (·.2) := man_mem mo2
        have f2 : ∀ f, f ∈ fs2 ↔ f ∈ fs := fun f => mo2.pf.mem_iff
        have hcm : ∀ m ∈ qs2.map (·.2), m.c ∈ rs' := fun m hm => by
          obtain ⟨q, hq, rfl⟩ := List.mem_map.mp ((m2 m).mp hm)
          exact (p5 q hq).2
        have hkm : ∀ m ∈ qs2.map (·.2), EffK m.w m.ns := fun m hm => by
          obtain ⟨q, hq, rfl⟩ := List.mem_map.mp hm
          exact q4 q hq
        have hfr : ∀ x ∈ fs2, x ∈ rs' := fun x hx => (mo.mr x).mpr (.inl (mo.pf.mem_iff.mp ((f2 x).mp hx)))
        have eqEa : ∀ j, Emp (bookF (qs2.map (·.2)) (firstF fs2 (c : Int)) (hd ++ rep tn j) (c : Int)) ↔ Emp (rowN (mkES rows firsts lasts rooms jobs h t qs fs ls rs' js' hd tn) (c : Int) j) := fun j => by
          rw [rowN_eq]
          have z := (emp_go (ms := qs2.map (·.2)) (fs := fs2) (b := hd ++ rep tn j) (p := (c : Int))).trans ((go_congr m2 f2).trans (emp_go (ms := qs.map (·.2)) (fs := fs) (b := hd ++ rep tn j) (p := (c : Int))).symm)
          exact ⟨fun x => Classical.byContradiction fun y => (z.mpr y) x, fun x => Classical.byContradiction fun y => (z.mp y) x⟩
        have eqE := eqEa i
        have isE : endsB (qs2.map (·.2)) fs2 ls2 (hd ++ rep tn i) (c : Int) = false ↔ Emp (rowN (mkES rows firsts lasts rooms jobs h t qs fs ls rs' js' hd tn) (c : Int) i) := by
          rw [← eqE]
          constructor
          · intro z g
            cases hg : bookF (qs2.map (·.2)) (firstF fs2 (c : Int)) (hd ++ rep tn i) (c : Int) g with
            | none => rfl
            | some d =>
              have gi := (book_inr hcm hkm hfr (Int.natCast_nonneg c) hg).1
              have : endsB (qs2.map (·.2)) fs2 ls2 (hd ++ rep tn i) (c : Int) = true := List.any_eq_true.mpr ⟨g, mo2.pl.mem_iff.mpr gi, by rw [hg]; rfl⟩
              rw [z] at this
              cases this
          · intro z
            refine Bool.eq_false_iff.mpr fun w => ?_
            obtain ⟨g, _, hg⟩ := List.any_eq_true.mp w
            rw [z g] at hg
            cases hg
        have nf2 : fs2.Nodup := mo2.pf.nodup_iff.mpr rt2.b.2
        have lf2 : fs2.length < 64 := by rw [mo2.pf.length_eq]; exact ok.fl
        have ll2 : ls2.length < 64 := by rw [mo2.pl.length_eq]; exact ok.rl
        have mb11 := mb9.same s911
        obtain ⟨q1', q2', q3', q4', q5'⟩ := man_fit rt2 r3 rt2.b.1 rt2.e.1 mo2
        -- what the paper is, whether it is dry
        refine ⟨fun σ H' => ∃ (vp : V) (isd : Bool) (v12 v13 : Option V), σ = [some (.ref p), some (.ref W), some (.ref a), some (.ref e), some (.str (worldD ps bs es rs js).shown), some (.ref b), some (.int (c : Int)), some (optV o), some (.int (i : Int)), some (.ref r2), some vp, some (.bl isd), v12, v13] ∧ Same H11 H' ∧ (isd = true ↔ Emp (rowN (mkES rows firsts lasts rooms jobs h t qs fs ls rs' js' hd tn) (c : Int) i)) ∧ (vp = .non ∧ isd = false ∨ isd = true ∧ ∃ l Rs, vp = .ref l ∧ RRows H' l (qs2.map (·.2)) fs2 (hd ++ rep tn i) (c : Int) Rs), ?_, ?_⟩
        · by_cases hE : Emp (rowN (mkES rows firsts lasts rooms jobs h t qs fs ls rs' js' hd tn) (c : Int) i)
          · have ce := isE.mpr hE
            obtain ⟨i0, rfl, le0, hE0⟩ := (dry_is hdo i).mpr hE
            refine ⟨_, rfl, _, rfl, _, rfl, b, rows2, firsts2, lasts2, rooms2, jobs2, r2, qs2, fs2, ls2, rs2, js2, _, (c : Int), rfl, mb11, q4, by omega, nf2, lf2, ll2, e11, bw, lb, Int.natCast_nonneg c, (fun ct => by rw [ce] at ct; cases ct), fun _ l H12 Rs s12 rr => ?_⟩
            refine ⟨_, rfl, rfl, _, rfl, iteT ⟨_, rfl, _, rfl, _, _, rfl, rfl, ?_⟩⟩
            refine ⟨_, _, rfl, ?_⟩
            have d0 : decide ((i0 : Int) ≤ (i : Int)) = true := decide_eq_true (Int.ofNat_le.mpr le0)
            exact ⟨.ref l, _, v12, v13, rfl, s12, ⟨fun _ => hE, fun _ => d0⟩, .inr ⟨d0, l, Rs, rfl, rr⟩⟩
          · have ce : endsB (qs2.map (·.2)) fs2 ls2 (hd ++ rep tn i) (c : Int) = true := Bool.not_eq_false _ ▸ (fun z => hE (isE.mp z))
            refine ⟨_, rfl, _, rfl, _, rfl, b, rows2, firsts2, lasts2, rooms2, jobs2, r2, qs2, fs2, ls2, rs2, js2, _, (c : Int), rfl, mb11, q4, by omega, nf2, lf2, ll2, e11, bw, lb, Int.natCast_nonneg c, (fun _ H12 s12 => ?_), fun ct => by rw [ce] at ct; cases ct⟩
            cases o with
            | none =>
              refine ⟨_, rfl, rfl, _, rfl, iteF ?_⟩
              refine ⟨_, _, rfl, ?_⟩
              exact ⟨.non, false, v12, v13, rfl, s12, ⟨fun z => Bool.noConfusion z, fun z => absurd z hE⟩, .inl ⟨rfl, rfl⟩⟩
            | some i0 =>
              refine ⟨_, rfl, rfl, _, rfl, iteT ⟨_, rfl, _, rfl, _, _, rfl, rfl, ?_⟩⟩
              refine ⟨_, _, rfl, ?_⟩
              have d0 : decide (i0 ≤ (i : Int)) = false := decide_eq_false fun z => by
                rcases hdo with ⟨e0, _⟩ | ⟨i1, e0, h1, h2⟩
                · cases e0
                · cases e0
                  exact hE ((dry_is (.inr ⟨i1, rfl, h1, h2⟩) i).mp ⟨i1, rfl, Int.ofNat_le.mp z, h1⟩)
              exact ⟨.non, _, v12, v13, rfl, s12, ⟨fun z => (by rw [d0] at z; cases z), fun z => absurd z hE⟩, .inl ⟨rfl, d0⟩⟩
        rintro σ H12 ⟨vp, isd, v12, v13, rfl, s12, hisd, hvp⟩
        have vnon : decide (vp = V.non) = !isd := by
          rcases hvp with ⟨rfl, rfl⟩ | ⟨rfl, l, Rs, rfl, _⟩ <;> rfl
        have mb12 := mb11.same s12
        have e12 : WordsAt H12 r2 (hd ++ rep tn i) := s12 _ _ e11
        -- the first test
        refine ⟨fun σ H' => σ = [some (.ref p), some (.ref W), some (.ref a), some (.ref e), some (.str (worldD ps bs es rs js).shown), some (.ref b), some (.int (c : Int)), some (optV o), some (.int (i : Int)), some (.ref r2), some vp, some (.bl isd), v12, v13] ∧ Same H12 H', ?_, ?_⟩
        · have fin : ∀ H', Same H12 H' → (!decide (V.bl (!decide (vp = V.non)) = V.bl isd)) = false := fun _ _ => by
            rw [vnon, Bool.not_not, decide_eq_true rfl]
            rfl
          by_cases hE : Emp (rowN (mkES rows firsts lasts rooms jobs h t qs fs ls rs' js' hd tn) (c : Int) i)
          · have ce := isE.mpr hE
            have it := hisd.mpr hE
            refine ⟨_, rfl, _, rfl, _, rfl, b, rows2, firsts2, lasts2, rooms2, jobs2, r2, qs2, fs2, ls2, rs2, js2, _, (c : Int), rfl, mb12, q4, by omega, nf2, lf2, ll2, e12, bw, lb, Int.natCast_nonneg c, (fun ct => by rw [ce] at ct; cases ct), fun _ n H13 _ s13 => ?_⟩
            refine ⟨rfl, _, rfl, rfl, _, rfl, ?_⟩
            rw [it]
            refine iteF ⟨_, rfl, rfl, _, rfl, rfl, _, rfl, ?_⟩
            have f := fin H13 s13
            rw [it] at f
            rw [f]
            exact iteF ⟨rfl, s13⟩
          · have ce : endsB (qs2.map (·.2)) fs2 ls2 (hd ++ rep tn i) (c : Int) = true := Bool.not_eq_false _ ▸ (fun z => hE (isE.mp z))
            have it : isd = false := Bool.eq_false_iff.mpr fun z => hE (hisd.mp z)
            refine ⟨_, rfl, _, rfl, _, rfl, b, rows2, firsts2, lasts2, rooms2, jobs2, r2, qs2, fs2, ls2, rs2, js2, _, (c : Int), rfl, mb12, q4, by omega, nf2, lf2, ll2, e12, bw, lb, Int.natCast_nonneg c, (fun _ H13 s13 => ?_), fun ct => by rw [ce] at ct; cases ct⟩
            refine ⟨rfl, _, rfl, rfl, _, rfl, ?_⟩
            rw [it]
            refine iteF ⟨_, rfl, rfl, _, rfl, rfl, _, rfl, ?_⟩
            have f := fin H13 s13
            rw [it] at f
            rw [f]
            exact iteF ⟨rfl, s13⟩
        rintro σ H13 ⟨rfl, s13⟩
        have mb13 := mb12.same s13
        have e13 : WordsAt H13 r2 (hd ++ rep tn i) := s13 _ _ e12
        -- the second test
        refine ⟨fun σ H' => σ = [some (.ref p), some (.ref W), some (.ref a), some (.ref e), some (.str (worldD ps bs es rs js).shown), some (.ref b), some (.int (c : Int)), some (optV o), some (.int (i : Int)), some (.ref r2), some vp, some (.bl isd), v12, v13] ∧ Same H13 H', ?_, ?_⟩
        · refine ⟨_, rfl, _, rfl, ?_⟩
          rcases hvp with ⟨rfl, rfl⟩ | ⟨rfl, l, Rs, rfl, rr⟩
          · exact iteF ⟨rfl, .refl _⟩
          · have hE := hisd.mp rfl
            have ce := isE.mpr hE
            obtain ⟨i0, rfl, le0, hE0⟩ := (dry_is hdo i).mpr hE
            have rr13 := rr.same s13
            have hfr2 : ∀ x ∈ fs2, x ∈ rs2 := fun x hx => (mo2.mr x).mpr (.inl ((f2 x).mp hx))
            refine iteT ⟨_, rfl, _, rfl, _, rfl, _, rfl, b, rows2, firsts2, lasts2, rooms2, jobs2, r2, l, qs2, fs2, ls2, rs2, js2, _, (c : Int), Rs, rfl, mb13, q4, by omega, nf2, lf2, ll2, by omega, fun q hq => (q5 q hq).2, hfr2, e13, bw, lb, Int.natCast_nonneg c, rr13, ce, fun H14 s14 => ?_⟩
            refine ⟨true, true, rfl, rfl, _, rfl, iteF ?_⟩
            refine ⟨_, rfl, _, rfl, _, rfl, b, rows2, firsts2, lasts2, rooms2, jobs2, r2, qs2, fs2, ls2, rs2, js2, _, (c : Int), rfl, mb13.same s14, q4, by omega, nf2, lf2, ll2, s14 _ _ e13, bw, lb, Int.natCast_nonneg c, (fun ct => by rw [ce] at ct; cases ct), fun _ n H15 hn s15 => ?_⟩
            have en15 := (((en9.same s911).same s12).same s13).same (s14.trans s15)
            refine ⟨_, rfl, e, _, 0, .ref h, rfl, rfl, SqT.of en15.top, atI_nat (j := 0) rfl, h, _, rfl, .inl (SqL.of en15.hd), _, rfl, e, _, 1, .ref t, rfl, rfl, SqT.of en15.top, atI_nat (j := 1) rfl, t, _, rfl, .inl (SqL.of en15.tn), ?_⟩
            rw [List.length_map, List.length_map]
            refine ⟨_, rfl, _, _, rfl, rfl, .inl ⟨by omega, by omega⟩, _, _, rfl, rfl, _, _, rfl, rfl, _, rfl, ?_⟩
            have no : decide ((hd.length : Int) + (tn.length : Int) * (i0 : Int) < (n : Int)) = false := decide_eq_false fun lt => by
              rcases hn with rfl | ⟨hn1, hn2⟩
              · have : (0 : Int) ≤ (tn.length : Int) * (i0 : Int) := Int.mul_nonneg (Int.natCast_nonneg _) (Int.natCast_nonneg _)
                omega
              · refine hn2 ?_
                have lt2 : hd.length + tn.length * i0 < n := by
                  have : ((hd.length + tn.length * i0 : Nat) : Int) < (n : Int) := by rw [Int.natCast_add, Int.natCast_mul]; exact lt
                  exact Int.ofNat_lt.mp this
                have la : (hd ++ rep tn i0).length ≤ n := by rw [List.length_append, rl, Nat.mul_comm]; omega
                have sp : hd ++ rep tn i = (hd ++ rep tn i0) ++ rep tn (i - i0) := by
                  rw [List.append_assoc, ← rep_add, show i0 + (i - i0) = i by omega]
                rw [sp, List.take_append, List.take_of_length_le la, book_app]
                exact book_emp ((eqEa i0).mpr hE0)
            rw [no]
            exact iteF ⟨rfl, s14.trans s15⟩
        rintro σ H14 ⟨rfl, s14⟩
        have mb14 := mb13.same s14
        have e14 : WordsAt H14 r2 (hd ++ rep tn i) := s14 _ _ e13
        have s914 : Same H9 H14 := ((s911.trans s12).trans s13).trans s14
        have ls2r : ∀ x ∈ ls2, x ∈ rs2 := fun x hx => (mo2.mr x).mpr (.inr (.inl (mo2.pl.mem_iff.mp hx)))
        refine ⟨_, rfl, _, rfl, _, rfl, b, rows2, firsts2, lasts2, rooms2, jobs2, r2, qs2, fs2, ls2, rs2, js2, _, (c : Int), rfl, Int.natCast_nonneg c, mb14, e14, bw, lb, mo2.nr, by omega, ls2r, ll2, q4, q5, fun T2 H15 hT2 s15 => ?_⟩
        refine ⟨T2, rfl, ⟨_, SqT.of hT2⟩, fun D hD => ?_⟩
        have rw_ := rel_book (p := (c : Int)) hkm (hd ++ rep tn i) _ _ (rel_first (fs := fs2) (Int.natCast_nonneg c))
        generalize hWv : bookW (qs2.map (·.2)) (firstW fs2 (c : Int)) (hd ++ rep tn i) (c : Int) = Wv at hT2 rw_
        refine lc_it (walk_tup (xs := rs2.map fun r => shV (Wv r))) (fun k H' => Same H15 H' ∧ ∃ ns : List Int, H' D = some (.lst (ns.map V.int)) ∧ ns.length ≤ k ∧ (ns = [] ↔ ∀ r ∈ rs2.take k, Wv r < 0)) ⟨new_same hD, [], upd_same, Nat.zero_le _, by simp⟩ (fun k H' _ z => SqT.of (z.1 _ _ hT2)) ?_ ?_
        · rintro k x H16 H17 hk ⟨s16, ns, hd16, hl, hns⟩ ⟨rfl, hx⟩
          rw [List.getElem?_map] at hx
          cases hn' : rs2[k]? with
          | none => rw [hn'] at hx; cases hx
          | some r' =>
            rw [hn'] at hx
            have hx : some (shV (Wv r')) = some x := hx
            cases hx
            have tk : rs2.take (k + 1) = rs2.take k ++ [r'] := by rw [List.take_add_one, hn']; rfl
            refine ⟨rfl, ?_⟩
            refine ⟨_, rfl, by show 2 ≤ sizeLine; decide, fun t9 ht9 => ?_⟩
            have s17 := new_same (o := .tup [.str "never", .str "short"]) ht9
            have e17 : upd H17 t9 (.tup [.str "never", .str "short"]) t9 = some (.tup [.str "never", .str "short"]) := upd_same
            have hd17 := s17 _ _ hd16
            generalize upd H17 t9 (.tup [.str "never", .str "short"]) = H18 at s17 e17 hd17
            have fl : flatV (shV (Wv r')) = true := by
              unfold shV
              split
              · rfl
              · split <;> rfl
            refine ⟨t9, _, rfl, .inr (SqT.of e17), fl, rfl, _, rfl, ?_⟩
            have low := rw_.low r'
            by_cases c0 : 0 ≤ Wv r'
            · have e1 : shV (Wv r') = .int (Wv r') := by unfold shV; rw [if_neg (by omega), if_neg (by omega)]
              rw [e1]
              have e2 : (!inV (V.int (Wv r')) [V.str "never", V.str "short"]) = true := rfl
              show (if (!inV (V.int (Wv r')) [V.str "never", V.str "short"]) = true then _ else _)
              rw [if_pos e2]
              refine ⟨_, rfl, _, hd17, by rw [List.length_map, PySem.sizeLine_eq]; rw [List.length_map] at hk; omega, fun b0 o0 z => by rw [upd_ne (ne_of_none z hD)]; exact s17 _ _ (s16 _ _ z), ns ++ [Wv r'], by rw [upd_same, List.map_append]; rfl, by rw [List.length_append]; simp; omega, ?_⟩
              rw [tk]
              constructor
              · intro z
                simp at z
              · intro z
                have := z r' (List.mem_append_right _ List.mem_cons_self)
                omega
            · have e2 : (!inV (shV (Wv r')) [V.str "never", V.str "short"]) = false := by
                unfold shV
                by_cases c2 : Wv r' = -2
                · rw [if_pos c2]; decide +kernel
                · rw [if_neg c2, if_pos (by omega)]; decide +kernel
              show (if (!inV (shV (Wv r')) [V.str "never", V.str "short"]) = true then _ else _)
              rw [e2, if_neg Bool.false_ne_true]
              refine ⟨s16.trans s17, ns, hd17, by omega, ?_⟩
              rw [tk, hns]
              constructor
              · intro z r9 hr9
                rcases List.mem_append.mp hr9 with w | w
                · exact z r9 w
                · rw [List.mem_singleton.mp w]; omega
              · exact fun z r9 hr9 => z r9 (List.mem_append_left _ hr9)
        · rintro H16 ⟨s16, ns, hd16, hl, hns⟩
          rw [List.length_map, List.take_length] at hns
          refine ⟨_, rfl, by show 0 ≤ sizeLine; exact Nat.zero_le _, fun N hN => ?_⟩
          have s17 := new_same (o := .lst []) hN
          have eN : upd H16 N (.lst []) N = some (.lst []) := upd_same
          generalize upd H16 N (.lst []) = H17 at s17 eN
          refine ⟨.list (ns.map .int), .list [], .lst (SqL.of (s17 _ _ hd16)) (dpa_ints ns), .lst (SqL.of eN) .nil, ints_shaped ns, rfl, ?_⟩
          refine ⟨_, rfl, rfl, _, rfl, ?_⟩
          have e1 : PyData.eqv (.list (ns.map .int)) (.list []) = isd := by
            have z : PyData.eqv (.list (ns.map .int)) (.list []) = decide (ns = []) := by cases ns <;> rfl
            rw [z, Bool.eq_iff_iff, decide_eq_true_iff, hns, hisd, ← eqE]
            constructor
            · intro w g
              cases hg : bookF (qs2.map (·.2)) (firstF fs2 (c : Int)) (hd ++ rep tn i) (c : Int) g with
              | none => rfl
              | some d =>
                have gi : g ∈ rs2 := (mo2.mr g).mpr (.inr (.inl (book_inr hcm hkm hfr (Int.natCast_nonneg c) hg).1))
                rw [rw_.non g (w g gi)] at hg
                cases hg
            · intro w g _
              refine Int.lt_of_not_ge fun z => ?_
              have := rw_.num g z
              rw [w g] at this
              cases this
          rw [e1, decide_eq_true rfl]
          exact iteF ⟨(((s9.trans s914).trans s15).trans s16).trans s17, _, _, _, _, _, _, rfl⟩
      · rintro σ H9 ⟨s9, v8, v9, v10, v11, v12, v13, rfl⟩
        exact ⟨s9, _, _, _, _, _, _, _, _, rfl⟩
    · rintro σ H7 ⟨s7, v6, v7, v8, v9, v10, v11, v12, v13, rfl⟩
      refine ⟨_, rfl, _, _, rfl, world_dq (wd6.same s7), fw.sh, fine_shown fw, Nat.le_trans fw.dp (by decide), _, rfl, rfl, ?_⟩
      rw [decide_eq_true rfl]
      exact q H7 ((P6.mono (by omega)).same s7) (B06.step s7)
end
end EV
namespace EV
open PySem L2 NT SX EVX
abbrev s_lawE : Stmt := top 70
def tLawT : TT := tNot (tB fun σ H Q => (tCons (tVar 1) tNil) σ H fun vs H1 => sp_right vs H1 Q E0)
section
variable {P : Program} {w : PySem.World} {K : PySem.W.Frag} {mg : Str → Option Value} {base : Heap} {f : Addr} {fd : FuncData}
theorem sc_lawE : FnScope ["script", "purse", "turn"] ["script"] (defScope s_lawE) := ⟨rfl, rfl, rfl, by decide +kernel, rfl, by decide +kernel, by decide +kernel⟩
def sp_lawE (K : PySem.W.Frag) : Sp := fun vs H Q _ => ∃ (s : Addr) (ns : List Int), vs = [.ref s] ∧ SqL K H s (ns.map V.int) ∧ ns.length ≤ 63 ∧ ∀ H', Q (.bl true) H'
theorem ok_lawE (F : FnP K "law" s_lawE f fd) (gR : mg "range" = none)
    {fP : Addr} {dP : FuncData} (GP : FnOk P w K mg base CX0 9 fP dP ["script", "few"] (sp_purses K)) (kP : PySem.W.keepIn K (.ref fP) = true) (bP : Binds K dP ["script", "few"] []) (gP : mg "_law_purses" = some (.ref fP))
    {fT : Addr} {dT : FuncData} (GT : FnG P w K mg base 9 fT dT ["purse"] sp_right) (kT : PySem.W.keepIn K (.ref fT) = true) (bT : Binds K dT ["purse"] []) (gT : mg "_law_right" = some (.ref fT)) : FnG P w K mg base 10 f fd ["script"] (sp_lawE K) := by
  refine okG F sc_lawE (fun vs H Q E h => ?_) (fun cdv A outer s H vs Q E hr hG h => ?_)
  · obtain ⟨sa, ns, rfl, _⟩ := h
    rfl
  · obtain ⟨sa, ns, rfl, hs, hlen, q⟩ := h
    refine ⟨_, PSs.nox (pss_cons (ps_for PassesOwn.never rfl (pi_list (pe_call GP hr rfl gP kP bP .nil pass0 (pa_cons (pv 0) (pa_cons pe_int pa_nil)))) (pg_name (i := 1) sc_lawE.nd rfl (Or.inr rfl))
        (pss_one (ps_if (pt_cmpR (op_neD hr.units) (pe_lc (te := tVar 2) (own := [("turn", 2)]) (g := gName 2) (tt := tLawT) rfl sc_lawE.nd (pi_range1 rfl gR (pa_cons pe_int pa_nil))
            (blkOk_by (N := ["script", "purse", "turn"]) (sc := defScope s_lawE) (by decide +kernel)) (fun _ _ _ _ _ => pg_name (i := 2) sc_lawE.nd rfl (Or.inl rfl)) (fun _ _ _ _ _ => pts_one (pt_not (pt_val (pe_callG GT hr hG rfl gT kT bT (pa_cons (pv 1) pa_nil))))) (fun _ _ _ _ _ => pv 2)) (pe_lst pa_nil) (nomark _))
          (pss_one (ps_ret pe_bl)) pss_nil)))
      (pss_one (ps_ret pe_bl))), ?_⟩
    refine ⟨_, rfl, sa, ns, 2, rfl, hs, hlen, by decide, fun ps l H1 few pat fps nl fl s1 hl => ?_⟩
    refine ⟨l, rfl, ⟨_, SqL.of hl⟩, ?_⟩
    refine for_list (xs := ps.map V.ref) (fun i σ H' => (∃ v1 v2, σ = [some (.ref sa), v1, v2]) ∧ H' l = some (.lst (ps.map V.ref)) ∧ ∀ (j : Nat) (p : Addr), i ≤ j → ps[j]? = some p → Pu H' p 0)
      ⟨⟨_, _, rfl⟩, hl, fun j p _ hp => by
        obtain ⟨a, b, c, d, q1, q2⟩ := pat.2 p (List.mem_of_getElem? hp)
        exact ⟨a, b, c, d, q1, by omega⟩⟩ (fun i σ H' _ z => SqL.of z.2.1) ?_ ?_
    · rintro i x σ H2 hi ⟨⟨v1, v2, rfl⟩, hl2, P2⟩
      rw [List.getElem?_map] at hi
      cases hn : ps[i]? with
      | none => rw [hn] at hi; cases hi
      | some p =>
        rw [hn] at hi
        cases hi
        have pm := List.mem_of_getElem? hn
        have lp : l ≠ p := fun e => nl (e ▸ pm)
        have P0 := P2 i p (Nat.le_refl _) hn
        have fin : ∀ H', But p H2 H' → (H' l = some (.lst (ps.map V.ref)) ∧ ∀ (j : Nat) (p : Addr), i + 1 ≤ j → ps[j]? = some p → Pu H' p 0) := fun H' B => by
          refine ⟨B l _ hl2 lp, fun j p' hj hp' => ?_⟩
          have ne : p' ≠ p := fun e => by
            subst e
            have h1 := (List.getElem?_eq_some_iff.mp hp').1
            have := (List.getElem?_inj h1 pat.1).mp (hp'.trans hn.symm)
            omega
          obtain ⟨a, b, c, d, q1, q2⟩ := P2 j p' (by omega) hp'
          exact ⟨a, b, c, d, ⟨B p' _ q1.1 ne, q1.2⟩, q2⟩
        refine ⟨3, rfl, by decide, by decide, fun D hD => ?_⟩
        have nDp : D ≠ p := fun e => by
          obtain ⟨xs, e2, _⟩ := P0.some
          rw [e, e2] at hD
          cases hD
        refine lc_range (lo := 0) (n := 3) (fun i H' => But p H2 H' ∧ Pu H' p (i * 2000) ∧ H' D = some (.lst ([] : List V))) ⟨But.new hD, by rw [Nat.zero_mul]; exact P0.same (new_same hD), upd_same⟩ ?_ ?_
        · rintro j H4 hj ⟨B4, P4, hd4⟩
          refine ⟨rfl, ?_⟩
          refine ⟨_, rfl, p, j * 2000, rfl, P4, by omega, fun H5 P5 B5 => ⟨_, rfl, iteF ⟨B4.trans B5, P5.mono (by omega), B5 _ _ hd4 nDp⟩⟩⟩
        · rintro H4 ⟨B4, P4, hd4⟩
          refine ⟨by show 0 ≤ sizeLine; exact Nat.zero_le _, fun N hN => ?_⟩
          have s5 := new_same (o := .lst []) hN
          refine ⟨.list [], .list [], .lst (SqL.of (s5 _ _ hd4)) .nil, .lst (SqL.of upd_same) .nil, rfl, rfl, _, rfl, iteF ?_⟩
          obtain ⟨f1, f2⟩ := fin _ (B4.step s5)
          exact ⟨⟨_, _, rfl⟩, f1, f2⟩
    · rintro σ H2 ⟨⟨v1, v2, rfl⟩, hl2, P2⟩
      exact q H2
end
end EV
namespace EV
open PySem L2 NT SX EVX
theorem band {a b : Bool} (h : (a && b) = true) : a = true ∧ b = true := Bool.and_eq_true_iff.mp h
theorem mem_of_lookup {α β : Type} [BEq α] [LawfulBEq α] {a : α} {b : β} : ∀ {l : List (α × β)}, l.lookup a = some b → (a, b) ∈ l
  | [], h => nomatch h
  | (x, y) :: l, h => by
    rw [List.lookup_cons] at h
    split at h
    · rename_i e
      cases h
      rw [eq_of_beq e]
      exact List.mem_cons_self
    · exact List.mem_cons_of_mem _ (mem_of_lookup h)
theorem fact_in {K : PySem.W.Frag} (c : He.SaysD fa fn K) {f : He.Fa} (h : f ∈ fa) : f.ok K = true := He.SaysD.facts c h
theorem facts {K : PySem.W.Frag} {w : PySem.World} {h : Heap} {mg : Str → Option Value} {f : Addr} (X : K.In h) (G : h.Ns mainGlobals mg) (hfa : mg ("law" : Str) = some (.ref f)) (c : He.SaysX fa fn ts [] exB w h K) :
    (∀ a o, K.lookup a = some o → o.cls ≠ .type "list") ∧ ∃ fd : FuncData, (∀ (s : Shared) (v : Value), BindsTo s fd ⟨[v], []⟩ [("script", v)]) ∧ ∀ base : Heap, K.In base → base.Ns mainGlobals mg → FnG (PySem.Challenge.rw_everpurse_k28_across_dry_rounds_and_pape).prog w K mg base 10 f fd ["script"] (sp_lawE K) := by
  have cT := c.t
  have cD := cT.d
  have c1 := c.more
  obtain ⟨n1, c1⟩ := band c1
  obtain ⟨n2, c1⟩ := band c1
  obtain ⟨n3, c1⟩ := band c1
  obtain ⟨n4, c1⟩ := band c1
  obtain ⟨n5, c1⟩ := band c1
  obtain ⟨n6, c1⟩ := band c1
  obtain ⟨n7, c1⟩ := band c1
  obtain ⟨n8, c1⟩ := band c1
  obtain ⟨n9, c1⟩ := band c1
  obtain ⟨n10, c1⟩ := band c1
  obtain ⟨n11, c1⟩ := band c1
  have n12 := c1
  obtain ⟨fd_is_whole, F_is_whole⟩ := cD.def_ 0 (d := d_is_whole) rfl
  obtain ⟨fd_is_count, F_is_count⟩ := cD.def_ 1 (d := d_is_count) rfl
  obtain ⟨fd_check_count, F_check_count⟩ := cD.def_ 2 (d := d_check_count) rfl
  obtain ⟨fd_is_spelt, F_is_spelt⟩ := cD.def_ 3 (d := d_is_spelt) rfl
  obtain ⟨fd_is_effect, F_is_effect⟩ := cD.def_ 4 (d := d_is_effect) rfl
  obtain ⟨fd_is_manner, F_is_manner⟩ := cD.def_ 5 (d := d_is_manner) rfl
  obtain ⟨fd_are_rooms, F_are_rooms⟩ := cD.def_ 6 (d := d_are_rooms) rfl
  obtain ⟨fd_check_manual, F_check_manual⟩ := cD.def_ 7 (d := d_check_manual) rfl
  obtain ⟨fd_is_book, F_is_book⟩ := cD.def_ 8 (d := d_is_book) rfl
  obtain ⟨fd_check_book, F_check_book⟩ := cD.def_ 9 (d := d_check_book) rfl
  obtain ⟨fd_coins_left, F_coins_left⟩ := cD.def_ 10 (d := d_coins_left) rfl
  obtain ⟨fd_rests_behind_job, F_rests_behind_job⟩ := cD.def_ 11 (d := d_rests_behind_job) rfl
  obtain ⟨fd_rest_rows, F_rest_rows⟩ := cD.def_ 12 (d := d_rest_rows) rfl
  obtain ⟨fd_ends_in, F_ends_in⟩ := cD.def_ 13 (d := d_ends_in) rfl
  obtain ⟨fd_paper_of, F_paper_of⟩ := cD.def_ 14 (d := d_paper_of) rfl
  obtain ⟨fd_is_paper_row, F_is_paper_row⟩ := cD.def_ 15 (d := d_is_paper_row) rfl
  obtain ⟨fd_is_paper, F_is_paper⟩ := cD.def_ 16 (d := d_is_paper) rfl
  obtain ⟨fd_dry_at, F_dry_at⟩ := cD.def_ 17 (d := d_dry_at) rfl
  obtain ⟨fd_is_endless, F_is_endless⟩ := cD.def_ 18 (d := d_is_endless) rfl
  obtain ⟨fd_check_endless, F_check_endless⟩ := cD.def_ 19 (d := d_check_endless) rfl
  obtain ⟨fd_row_behind_book, F_row_behind_book⟩ := cD.def_ 20 (d := d_row_behind_book) rfl
  obtain ⟨fd_first_row, F_first_row⟩ := cD.def_ 21 (d := d_first_row) rfl
  obtain ⟨fd_dry_from, F_dry_from⟩ := cD.def_ 22 (d := d_dry_from) rfl
  obtain ⟨fd_dry_round, F_dry_round⟩ := cD.def_ 23 (d := d_dry_round) rfl
  obtain ⟨fd_with_ends, F_with_ends⟩ := cD.def_ 24 (d := d_with_ends) rfl
  obtain ⟨fd_opened, F_opened⟩ := cD.def_ 25 (d := d_opened) rfl
  obtain ⟨fd_left_of, F_left_of⟩ := cD.def_ 26 (d := d_left_of) rfl
  obtain ⟨fd_shown, F_shown⟩ := cD.def_ 27 (d := d_shown) rfl
  obtain ⟨fd_check_purse, F_check_purse⟩ := cD.def_ 28 (d := d_check_purse) rfl
  obtain ⟨fd_rests_of, F_rests_of⟩ := cD.def_ 29 (d := d_rests_of) rfl
  obtain ⟨fd_law_purse, F_law_purse⟩ := cD.def_ 30 (d := d_law_purse) rfl
  obtain ⟨fd_law_mixed, F_law_mixed⟩ := cD.def_ 31 (d := d_law_mixed) rfl
  obtain ⟨fd_law_draw, F_law_draw⟩ := cD.def_ 32 (d := d_law_draw) rfl
  obtain ⟨fd_law_purses, F_law_purses⟩ := cD.def_ 33 (d := d_law_purses) rfl
  obtain ⟨fd_law_one_of, F_law_one_of⟩ := cD.def_ 34 (d := d_law_one_of) rfl
  obtain ⟨fd_law_word, F_law_word⟩ := cD.def_ 35 (d := d_law_word) rfl
  obtain ⟨fd_law_words, F_law_words⟩ := cD.def_ 36 (d := d_law_words) rfl
  obtain ⟨fd_law_effect, F_law_effect⟩ := cD.def_ 37 (d := d_law_effect) rfl
  obtain ⟨fd_law_manner, F_law_manner⟩ := cD.def_ 38 (d := d_law_manner) rfl
  obtain ⟨fd_law_some, F_law_some⟩ := cD.def_ 39 (d := d_law_some) rfl
  obtain ⟨fd_law_world_of, F_law_world_of⟩ := cD.def_ 40 (d := d_law_world_of) rfl
  obtain ⟨fd_law_world, F_law_world⟩ := cD.def_ 41 (d := d_law_world) rfl
  obtain ⟨fd_law_manual, F_law_manual⟩ := cD.def_ 42 (d := d_law_manual) rfl
  obtain ⟨fd_law_jobs, F_law_jobs⟩ := cD.def_ 43 (d := d_law_jobs) rfl
  obtain ⟨fd_law_book_of, F_law_book_of⟩ := cD.def_ 44 (d := d_law_book_of) rfl
  obtain ⟨fd_law_some_endless, F_law_some_endless⟩ := cD.def_ 45 (d := d_law_some_endless) rfl
  obtain ⟨fd_law_any_world, F_law_any_world⟩ := cD.def_ 46 (d := d_law_any_world) rfl
  obtain ⟨fd_law_right, F_law_right⟩ := cD.def_ 47 (d := d_law_right) rfl
  obtain ⟨fd_law, F_law⟩ := cD.def_ 48 (d := d_law) rfl
  obtain ⟨fd_minit, F_minit⟩ := cD.def_ 49 (d := d_minit) rfl
  obtain ⟨fd_mmanners, F_mmanners⟩ := cD.def_ 50 (d := d_mmanners) rfl
  obtain ⟨fd_mbeg, F_mbeg⟩ := cD.def_ 51 (d := d_mbeg) rfl
  obtain ⟨fd_winit, F_winit⟩ := cD.def_ 52 (d := d_winit) rfl
  obtain ⟨fd_wstep, F_wstep⟩ := cD.def_ 53 (d := d_wstep) rfl
  obtain ⟨fd_wbook, F_wbook⟩ := cD.def_ 54 (d := d_wbook) rfl
  have g_is_whole := He.glo_ok X G (cD.fact 0 (f := .glo "is_whole") rfl)
  have g_is_count := He.glo_ok X G (cD.fact 1 (f := .glo "is_count") rfl)
  have g_check_count := He.glo_ok X G (cD.fact 2 (f := .glo "check_count") rfl)
  have g_is_spelt := He.glo_ok X G (cD.fact 3 (f := .glo "is_spelt") rfl)
  have g_is_effect := He.glo_ok X G (cD.fact 4 (f := .glo "is_effect") rfl)
  have g_is_manner := He.glo_ok X G (cD.fact 5 (f := .glo "is_manner") rfl)
  have g_are_rooms := He.glo_ok X G (cD.fact 6 (f := .glo "are_rooms") rfl)
  have g_check_manual := He.glo_ok X G (cD.fact 7 (f := .glo "check_manual") rfl)
  have g_is_book := He.glo_ok X G (cD.fact 8 (f := .glo "is_book") rfl)
  have g_check_book := He.glo_ok X G (cD.fact 9 (f := .glo "check_book") rfl)
  have g_coins_left := He.glo_ok X G (cD.fact 10 (f := .glo "coins_left") rfl)
  have g_rests_behind_job := He.glo_ok X G (cD.fact 11 (f := .glo "rests_behind_job") rfl)
  have g_rest_rows := He.glo_ok X G (cD.fact 12 (f := .glo "rest_rows") rfl)
  have g_ends_in := He.glo_ok X G (cD.fact 13 (f := .glo "ends_in") rfl)
  have g_paper_of := He.glo_ok X G (cD.fact 14 (f := .glo "paper_of") rfl)
  have g_is_paper_row := He.glo_ok X G (cD.fact 15 (f := .glo "is_paper_row") rfl)
  have g_is_paper := He.glo_ok X G (cD.fact 16 (f := .glo "is_paper") rfl)
  have g_dry_at := He.glo_ok X G (cD.fact 17 (f := .glo "dry_at") rfl)
  have g_is_endless := He.glo_ok X G (cD.fact 18 (f := .glo "is_endless") rfl)
  have g_check_endless := He.glo_ok X G (cD.fact 19 (f := .glo "check_endless") rfl)
  have g_row_behind_book := He.glo_ok X G (cD.fact 20 (f := .glo "row_behind_book") rfl)
  have g_first_row := He.glo_ok X G (cD.fact 21 (f := .glo "first_row") rfl)
  have g_dry_from := He.glo_ok X G (cD.fact 22 (f := .glo "dry_from") rfl)
  have g_dry_round := He.glo_ok X G (cD.fact 23 (f := .glo "dry_round") rfl)
  have g_with_ends := He.glo_ok X G (cD.fact 24 (f := .glo "with_ends") rfl)
  have g_opened := He.glo_ok X G (cD.fact 25 (f := .glo "opened") rfl)
  have g_left_of := He.glo_ok X G (cD.fact 26 (f := .glo "left_of") rfl)
  have g_shown := He.glo_ok X G (cD.fact 27 (f := .glo "shown") rfl)
  have g_check_purse := He.glo_ok X G (cD.fact 28 (f := .glo "check_purse") rfl)
  have g_rests_of := He.glo_ok X G (cD.fact 29 (f := .glo "rests_of") rfl)
  have g__law_purse := He.glo_ok X G (cD.fact 30 (f := .glo "_law_purse") rfl)
  have g__law_mixed := He.glo_ok X G (cD.fact 31 (f := .glo "_law_mixed") rfl)
  have g__law_draw := He.glo_ok X G (cD.fact 32 (f := .glo "_law_draw") rfl)
  have g__law_purses := He.glo_ok X G (cD.fact 33 (f := .glo "_law_purses") rfl)
  have g__law_one_of := He.glo_ok X G (cD.fact 34 (f := .glo "_law_one_of") rfl)
  have g__law_word := He.glo_ok X G (cD.fact 35 (f := .glo "_law_word") rfl)
  have g__law_words := He.glo_ok X G (cD.fact 36 (f := .glo "_law_words") rfl)
  have g__law_effect := He.glo_ok X G (cD.fact 37 (f := .glo "_law_effect") rfl)
  have g__law_manner := He.glo_ok X G (cD.fact 38 (f := .glo "_law_manner") rfl)
  have g__law_some := He.glo_ok X G (cD.fact 39 (f := .glo "_law_some") rfl)
  have g__law_world_of := He.glo_ok X G (cD.fact 40 (f := .glo "_law_world_of") rfl)
  have g__law_world := He.glo_ok X G (cD.fact 41 (f := .glo "_law_world") rfl)
  have g__law_manual := He.glo_ok X G (cD.fact 42 (f := .glo "_law_manual") rfl)
  have g__law_jobs := He.glo_ok X G (cD.fact 43 (f := .glo "_law_jobs") rfl)
  have g__law_book_of := He.glo_ok X G (cD.fact 44 (f := .glo "_law_book_of") rfl)
  have g__law_some_endless := He.glo_ok X G (cD.fact 45 (f := .glo "_law_some_endless") rfl)
  have g__law_any_world := He.glo_ok X G (cD.fact 46 (f := .glo "_law_any_world") rfl)
  have g__law_right := He.glo_ok X G (cD.fact 47 (f := .glo "_law_right") rfl)
  have g_law := He.glo_ok X G (cD.fact 48 (f := .glo "law") rfl)
  have g_Manual := He.glo_ok X G (cD.fact 49 (f := .glo "Manual") rfl)
  have g_Walk := He.glo_ok X G (cD.fact 50 (f := .glo "Walk") rfl)
  have f_all := He.free_ok X G (cD.fact 51 (f := .free "all") rfl)
  have f_any := He.free_ok X G (cD.fact 52 (f := .free "any") rfl)
  have f_bool := He.free_ok X G (cD.fact 53 (f := .free "bool") rfl)
  have f_dict := He.free_ok X G (cD.fact 54 (f := .free "dict") rfl)
  have f_enumerate := He.free_ok X G (cD.fact 55 (f := .free "enumerate") rfl)
  have f_int := He.free_ok X G (cD.fact 56 (f := .free "int") rfl)
  have f_isinstance := He.free_ok X G (cD.fact 57 (f := .free "isinstance") rfl)
  have f_len := He.free_ok X G (cD.fact 58 (f := .free "len") rfl)
  have f_list := He.free_ok X G (cD.fact 59 (f := .free "list") rfl)
  have f_max := He.free_ok X G (cD.fact 60 (f := .free "max") rfl)
  have f_min := He.free_ok X G (cD.fact 61 (f := .free "min") rfl)
  have f_range := He.free_ok X G (cD.fact 62 (f := .free "range") rfl)
  have f_repr := He.free_ok X G (cD.fact 63 (f := .free "repr") rfl)
  have f_set := He.free_ok X G (cD.fact 64 (f := .free "set") rfl)
  have f_sorted := He.free_ok X G (cD.fact 65 (f := .free "sorted") rfl)
  have f_str := He.free_ok X G (cD.fact 66 (f := .free "str") rfl)
  have f_sum := He.free_ok X G (cD.fact 67 (f := .free "sum") rfl)
  have f_tuple := He.free_ok X G (cD.fact 68 (f := .free "tuple") rfl)
  obtain ⟨tkM, hMost⟩ := He.int_ok X G (cD.fact 69 (f := .int "MOST" 3) rfl)
  obtain ⟨tkL, hLett⟩ := He.str_ok X G (cD.fact 70 (f := .str "LETTERS" "abcdefghijklmnopqrstuvwxyz") rfl)
  obtain ⟨tk_NEVER, hInt_NEVER⟩ := He.int_ok X G (cD.fact 71 (f := .int "NEVER" (-2)) rfl)
  obtain ⟨tk_SHORT, hInt_SHORT⟩ := He.int_ok X G (cD.fact 72 (f := .int "SHORT" (-1)) rfl)
  have hCls_Manual := He.cls_ok (cD.fact 73 (f := .cls "Manual") rfl)
  have hC_Manual : ManC K (He.ga K "Manual") := ⟨hCls_Manual, (He.noat_ok (cD.fact 74 (f := .noat "Manual" "rows") rfl)), (He.noat_ok (cD.fact 75 (f := .noat "Manual" "firsts") rfl)), (He.noat_ok (cD.fact 76 (f := .noat "Manual" "lasts") rfl)), (He.noat_ok (cD.fact 77 (f := .noat "Manual" "rooms") rfl)), (He.noat_ok (cD.fact 78 (f := .noat "Manual" "jobs") rfl))⟩
  have hMeth_mmanners := He.meth_ok (cD.fact 79 (f := .meth "Manual" "manners") rfl)
  have hMeth_mbeg := He.meth_ok (cD.fact 80 (f := .meth "Manual" "beginnings") rfl)
  have hMk_Manual := He.mkr_ok (cD.fact 81 (f := .mkr "Manual") rfl)
  have hCls_Walk := He.cls_ok (cD.fact 82 (f := .cls "Walk") rfl)
  have hC_Walk : WkC K (He.ga K "Walk") := ⟨hCls_Walk, (He.noat_ok (cD.fact 83 (f := .noat "Walk" "manual") rfl)), (He.noat_ok (cD.fact 84 (f := .noat "Walk" "purse") rfl)), (He.noat_ok (cD.fact 85 (f := .noat "Walk" "at") rfl)), (He.noat_ok (cD.fact 86 (f := .noat "Walk" "first") rfl)), (He.noat_ok (cD.fact 87 (f := .noat "Walk" "goals") rfl))⟩
  have hMeth_wstep := He.meth_ok (cD.fact 88 (f := .meth "Walk" "step") rfl)
  have hMeth_wbook := He.meth_ok (cD.fact 89 (f := .meth "Walk" "behind_book") rfl)
  have hMk_Walk := He.mkr_ok (cD.fact 90 (f := .mkr "Walk") rfl)
  have hNe := He.eqO_ok n1
  have hSub : PySem.W.subIn K (.ref (He.ga K "Manual")) (.type "object") = some true := of_decide_eq_true n2
  have hT0 : ManT K (He.ga K "Manual") := ⟨fun H a dx fs e => .base (.ins e hCls_Manual (He.eqO_ok n3) (He.eqO_ok n4) (of_decide_eq_true n5) (of_decide_eq_true n6)), of_decide_eq_true n7⟩
  have e := hfa.symm.trans g_law
  cases e
  have b := FunD.bindsA (ps := ["script"]) F_law fun _ _ _ _ _ _ us hl => match us, hl with | [_], _ => rfl
  have b_is_whole : Binds K fd_is_whole ["value"] [] := F_is_whole.bindsN fun _ _ _ _ _ _ us hl => match us, hl with | [_], _ => rfl
  have b_is_count : Binds K fd_is_count ["value", "most"] [] := by
    obtain ⟨ds, v, b⟩ := FunD.binds1 (ps := ["value", "most"]) F_is_count 2 1 (List.cons_ne_nil _ _) rfl fun T kV doc pm an cdv ct us its hl hi => match us, its, hl, hi with | [_, _], [_], _, _ => ⟨_, rfl, rfl⟩
    cases v
    exact b
  obtain ⟨ds_check_count, v_check_count, b_check_count⟩ : ∃ ds, Vals [.non] ds ∧ Binds K fd_check_count ["value", "most"] ds := by
    obtain ⟨ds, v, b⟩ := FunD.binds1 (ps := ["value", "most"]) F_check_count 1 0 (List.cons_ne_nil _ _) rfl fun T kV doc pm an cdv ct us its hl hi => match us, its, hl, hi with | [_], [_], _, _ => ⟨_, rfl, rfl⟩
    exact ⟨ds, v, b⟩
  have b_is_spelt : Binds K fd_is_spelt ["value"] [] := F_is_spelt.bindsN fun _ _ _ _ _ _ us hl => match us, hl with | [_], _ => rfl
  have b_is_effect : Binds K fd_is_effect ["value"] [] := F_is_effect.bindsN fun _ _ _ _ _ _ us hl => match us, hl with | [_], _ => rfl
  have b_is_manner : Binds K fd_is_manner ["value"] [] := F_is_manner.bindsN fun _ _ _ _ _ _ us hl => match us, hl with | [_], _ => rfl
  have b_are_rooms : Binds K fd_are_rooms ["value"] [] := F_are_rooms.bindsN fun _ _ _ _ _ _ us hl => match us, hl with | [_], _ => rfl
  have b_check_manual : Binds K fd_check_manual ["value"] [] := F_check_manual.bindsN fun _ _ _ _ _ _ us hl => match us, hl with | [_], _ => rfl
  have b_is_book : Binds K fd_is_book ["value"] [] := F_is_book.bindsN fun _ _ _ _ _ _ us hl => match us, hl with | [_], _ => rfl
  have b_check_book : Binds K fd_check_book ["value"] [] := F_check_book.bindsN fun _ _ _ _ _ _ us hl => match us, hl with | [_], _ => rfl
  have b_coins_left : Binds K fd_coins_left ["effect", "coins", "purse"] [] := F_coins_left.bindsN fun _ _ _ _ _ _ us hl => match us, hl with | [_, _, _], _ => rfl
  have b_rests_behind_job : Binds K fd_rests_behind_job ["manners", "row", "job", "purse"] [] := F_rests_behind_job.bindsN fun _ _ _ _ _ _ us hl => match us, hl with | [_, _, _, _], _ => rfl
  have b_rest_rows : Binds K fd_rest_rows ["manual", "book", "purse"] [] := F_rest_rows.bindsN fun _ _ _ _ _ _ us hl => match us, hl with | [_, _, _], _ => rfl
  have b_ends_in : Binds K fd_ends_in ["manual", "row"] [] := F_ends_in.bindsN fun _ _ _ _ _ _ us hl => match us, hl with | [_, _], _ => rfl
  have b_paper_of : Binds K fd_paper_of ["manual", "book", "purse"] [] := F_paper_of.bindsN fun _ _ _ _ _ _ us hl => match us, hl with | [_, _, _], _ => rfl
  have b_is_paper_row : Binds K fd_is_paper_row ["rooms", "purse", "row"] [] := F_is_paper_row.bindsN fun _ _ _ _ _ _ us hl => match us, hl with | [_, _, _], _ => rfl
  have b_is_paper : Binds K fd_is_paper ["manual", "book", "purse", "value"] [] := F_is_paper.bindsN fun _ _ _ _ _ _ us hl => match us, hl with | [_, _, _, _], _ => rfl
  have b_dry_at : Binds K fd_dry_at ["manual", "book", "purse"] [] := F_dry_at.bindsN fun _ _ _ _ _ _ us hl => match us, hl with | [_, _, _], _ => rfl
  have b_is_endless : Binds K fd_is_endless ["value"] [] := F_is_endless.bindsN fun _ _ _ _ _ _ us hl => match us, hl with | [_], _ => rfl
  have b_check_endless : Binds K fd_check_endless ["manual", "endless"] [] := F_check_endless.bindsN fun _ _ _ _ _ _ us hl => match us, hl with | [_, _], _ => rfl
  have b_row_behind_book : Binds K fd_row_behind_book ["manual", "row", "book", "purse"] [] := F_row_behind_book.bindsN fun _ _ _ _ _ _ us hl => match us, hl with | [_, _, _, _], _ => rfl
  have b_first_row : Binds K fd_first_row ["manual", "purse"] [] := F_first_row.bindsN fun _ _ _ _ _ _ us hl => match us, hl with | [_, _], _ => rfl
  have b_dry_from : Binds K fd_dry_from ["manual", "endless", "purse"] [] := F_dry_from.bindsN fun _ _ _ _ _ _ us hl => match us, hl with | [_, _, _], _ => rfl
  have b_dry_round : Binds K fd_dry_round ["manual", "endless", "purse"] [] := F_dry_round.bindsN fun _ _ _ _ _ _ us hl => match us, hl with | [_, _, _], _ => rfl
  have b_with_ends : Binds K fd_with_ends ["manual", "ends"] [] := F_with_ends.bindsN fun _ _ _ _ _ _ us hl => match us, hl with | [_, _], _ => rfl
  have b_opened : Binds K fd_opened ["manual"] [] := F_opened.bindsN fun _ _ _ _ _ _ us hl => match us, hl with | [_], _ => rfl
  have b_left_of : Binds K fd_left_of ["effect", "coins", "purse"] [] := F_left_of.bindsN fun _ _ _ _ _ _ us hl => match us, hl with | [_, _, _], _ => rfl
  have b_shown : Binds K fd_shown ["left"] [] := F_shown.bindsN fun _ _ _ _ _ _ us hl => match us, hl with | [_], _ => rfl
  have b_check_purse : Binds K fd_check_purse ["manual", "purse"] [] := F_check_purse.bindsN fun _ _ _ _ _ _ us hl => match us, hl with | [_, _], _ => rfl
  have b_rests_of : Binds K fd_rests_of ["manual", "purse", "book"] [] := F_rests_of.bindsN fun _ _ _ _ _ _ us hl => match us, hl with | [_, _, _], _ => rfl
  have b_law_purse : Binds K fd_law_purse ["script", "at"] [] := F_law_purse.bindsN fun _ _ _ _ _ _ us hl => match us, hl with | [_, _], _ => rfl
  have b_law_mixed : Binds K fd_law_mixed ["seed", "turn", "at"] [] := F_law_mixed.bindsN fun _ _ _ _ _ _ us hl => match us, hl with | [_, _, _], _ => rfl
  have b_law_draw : Binds K fd_law_draw ["purse", "many"] [] := F_law_draw.bindsN fun _ _ _ _ _ _ us hl => match us, hl with | [_, _], _ => rfl
  have b_law_purses : Binds K fd_law_purses ["script", "few"] [] := F_law_purses.bindsN fun _ _ _ _ _ _ us hl => match us, hl with | [_, _], _ => rfl
  have b_law_one_of : Binds K fd_law_one_of ["purse", "some"] [] := F_law_one_of.bindsN fun _ _ _ _ _ _ us hl => match us, hl with | [_, _], _ => rfl
  have b_law_word : Binds K fd_law_word ["purse"] [] := F_law_word.bindsN fun _ _ _ _ _ _ us hl => match us, hl with | [_], _ => rfl
  have b_law_words : Binds K fd_law_words ["purse", "many"] [] := F_law_words.bindsN fun _ _ _ _ _ _ us hl => match us, hl with | [_, _], _ => rfl
  have b_law_effect : Binds K fd_law_effect ["purse"] [] := F_law_effect.bindsN fun _ _ _ _ _ _ us hl => match us, hl with | [_], _ => rfl
  have b_law_manner : Binds K fd_law_manner ["purse", "rooms", "jobs"] [] := F_law_manner.bindsN fun _ _ _ _ _ _ us hl => match us, hl with | [_, _, _], _ => rfl
  have b_law_some : Binds K fd_law_some ["purse", "rooms"] [] := F_law_some.bindsN fun _ _ _ _ _ _ us hl => match us, hl with | [_, _], _ => rfl
  have b_law_world_of : Binds K fd_law_world_of ["purse", "rooms", "jobs", "most"] [] := F_law_world_of.bindsN fun _ _ _ _ _ _ us hl => match us, hl with | [_, _, _, _], _ => rfl
  have b_law_world : Binds K fd_law_world ["purse", "rooms", "jobs", "most"] [] := F_law_world.bindsN fun _ _ _ _ _ _ us hl => match us, hl with | [_, _, _, _], _ => rfl
  have b_law_manual : Binds K fd_law_manual ["world"] [] := F_law_manual.bindsN fun _ _ _ _ _ _ us hl => match us, hl with | [_], _ => rfl
  have b_law_jobs : Binds K fd_law_jobs ["world"] [] := F_law_jobs.bindsN fun _ _ _ _ _ _ us hl => match us, hl with | [_], _ => rfl
  have b_law_book_of : Binds K fd_law_book_of ["purse", "jobs", "most"] [] := F_law_book_of.bindsN fun _ _ _ _ _ _ us hl => match us, hl with | [_, _, _], _ => rfl
  have b_law_some_endless : Binds K fd_law_some_endless ["purse", "world"] [] := F_law_some_endless.bindsN fun _ _ _ _ _ _ us hl => match us, hl with | [_, _], _ => rfl
  have b_law_any_world : Binds K fd_law_any_world ["purse"] [] := F_law_any_world.bindsN fun _ _ _ _ _ _ us hl => match us, hl with | [_], _ => rfl
  have b_law_right : Binds K fd_law_right ["purse"] [] := F_law_right.bindsN fun _ _ _ _ _ _ us hl => match us, hl with | [_], _ => rfl
  have b_minit : Binds K fd_minit ["self", "manners", "beginnings", "ends"] [] := F_minit.bindsN fun _ _ _ _ _ _ us hl => match us, hl with | [_, _, _, _], _ => rfl
  have b_mmanners : Binds K fd_mmanners ["self"] [] := F_mmanners.bindsN fun _ _ _ _ _ _ us hl => match us, hl with | [_], _ => rfl
  have b_mbeg : Binds K fd_mbeg ["self"] [] := F_mbeg.bindsN fun _ _ _ _ _ _ us hl => match us, hl with | [_], _ => rfl
  have b_winit : Binds K fd_winit ["self", "manual", "purse"] [] := F_winit.bindsN fun _ _ _ _ _ _ us hl => match us, hl with | [_, _, _], _ => rfl
  have b_wstep : Binds K fd_wstep ["self", "left", "job"] [] := F_wstep.bindsN fun _ _ _ _ _ _ us hl => match us, hl with | [_, _, _], _ => rfl
  have b_wbook : Binds K fd_wbook ["self", "book"] [] := F_wbook.bindsN fun _ _ _ _ _ _ us hl => match us, hl with | [_, _], _ => rfl
  have hSys : SysIn K := by
    unfold sysB at n12
    split at n12
    · rename_i o q
      exact ⟨o, q, of_decide_eq_true n12⟩
    · cases n12
  refine ⟨fun a o q => ?_, fd_law, fun s v => b s [v] rfl, fun base _ _ => ?_⟩
  · have z := List.all_eq_true.mp n11 (a, o) (mem_of_lookup q)
    exact of_decide_eq_true z
  have G_is_whole := ok_is_whole (P := (PySem.Challenge.rw_everpurse_k28_across_dry_rounds_and_pape).prog) (w := w) (mg := mg) (base := base) F_is_whole f_isinstance f_int f_bool
  have G_is_count := ok_is_count (P := (PySem.Challenge.rw_everpurse_k28_across_dry_rounds_and_pape).prog) (w := w) (mg := mg) (base := base) F_is_count (G_is_whole.mono (by decide)) F_is_whole.kp b_is_whole g_is_whole
  have G_check_count := ok_check_count (P := (PySem.Challenge.rw_everpurse_k28_across_dry_rounds_and_pape).prog) (w := w) (mg := mg) (base := base) F_check_count (G_is_count.mono (by decide)) F_is_count.kp b_is_count g_is_count
  have G_is_spelt := ok_is_spelt (P := (PySem.Challenge.rw_everpurse_k28_across_dry_rounds_and_pape).prog) (w := w) (mg := mg) (base := base) F_is_spelt f_isinstance f_str f_len hLett
  have G_is_effect := ok_is_effect (P := (PySem.Challenge.rw_everpurse_k28_across_dry_rounds_and_pape).prog) (w := w) (mg := mg) (base := base) F_is_effect f_isinstance f_str f_tuple f_len f_all hMost (G_is_count.mono (by decide)) F_is_count.kp b_is_count g_is_count
  have G_is_manner := ok_is_manner (P := (PySem.Challenge.rw_everpurse_k28_across_dry_rounds_and_pape).prog) (w := w) (mg := mg) (base := base) F_is_manner f_isinstance f_tuple f_len (G_is_spelt.mono (by decide)) F_is_spelt.kp b_is_spelt g_is_spelt (G_is_effect.mono (by decide)) F_is_effect.kp b_is_effect g_is_effect
  have G_are_rooms := ok_are_rooms (P := (PySem.Challenge.rw_everpurse_k28_across_dry_rounds_and_pape).prog) (w := w) (mg := mg) (base := base) F_are_rooms f_isinstance f_list f_len f_all f_set (G_is_spelt.mono (by decide)) F_is_spelt.kp b_is_spelt g_is_spelt
  have G_check_manual := ok_check_manual (P := (PySem.Challenge.rw_everpurse_k28_across_dry_rounds_and_pape).prog) (w := w) (mg := mg) (base := base) hT0 F_check_manual f_isinstance g_Manual
  have G_is_book := ok_is_book (P := (PySem.Challenge.rw_everpurse_k28_across_dry_rounds_and_pape).prog) (w := w) (mg := mg) (base := base) F_is_book f_isinstance f_list f_all (G_is_spelt.mono (by decide)) F_is_spelt.kp b_is_spelt g_is_spelt
  have G_check_book := ok_check_book (P := (PySem.Challenge.rw_everpurse_k28_across_dry_rounds_and_pape).prog) (w := w) (mg := mg) (base := base) F_check_book (G_is_book.mono (by decide)) F_is_book.kp b_is_book g_is_book
  have G_coins_left := ok_coins_left (P := (PySem.Challenge.rw_everpurse_k28_across_dry_rounds_and_pape).prog) (w := w) (mg := mg) (base := base) F_coins_left
  have G_rests_behind_job := ok_rests (P := (PySem.Challenge.rw_everpurse_k28_across_dry_rounds_and_pape).prog) (w := w) (mg := mg) (base := base) F_rests_behind_job f_sorted (G_coins_left.mono (by decide)) F_coins_left.kp b_coins_left g_coins_left
  have G_rest_rows := ok_rest_rows2 (P := (PySem.Challenge.rw_everpurse_k28_across_dry_rounds_and_pape).prog) (w := w) (mg := mg) (base := base) hC_Manual F_rest_rows (G_rests_behind_job.mono (by decide)) F_rests_behind_job.kp b_rests_behind_job g_rests_behind_job
  have G_ends_in := ok_ends_in (P := (PySem.Challenge.rw_everpurse_k28_across_dry_rounds_and_pape).prog) (w := w) (mg := mg) (base := base) hC_Manual F_ends_in f_any
  have G_paper_of := ok_paper_of (P := (PySem.Challenge.rw_everpurse_k28_across_dry_rounds_and_pape).prog) (w := w) (mg := mg) (base := base) F_paper_of (G_check_manual.mono (by decide)) F_check_manual.kp b_check_manual g_check_manual (G_check_book.mono (by decide)) F_check_book.kp b_check_book g_check_book v_check_count (G_check_count.mono (by decide)) F_check_count.kp b_check_count g_check_count (G_rest_rows.mono (by decide)) F_rest_rows.kp b_rest_rows g_rest_rows (G_ends_in.mono (by decide)) F_ends_in.kp b_ends_in g_ends_in
  have G_is_paper_row := ok_paper_row (P := (PySem.Challenge.rw_everpurse_k28_across_dry_rounds_and_pape).prog) (w := w) (mg := mg) (base := base) F_is_paper_row f_isinstance f_dict f_all (G_is_count.mono (by decide)) F_is_count.kp b_is_count g_is_count
  have G_is_paper := ok_is_paper (P := (PySem.Challenge.rw_everpurse_k28_across_dry_rounds_and_pape).prog) (w := w) (mg := mg) (base := base) hC_Manual F_is_paper f_isinstance f_list f_len f_all f_range (G_check_manual.mono (by decide)) F_check_manual.kp b_check_manual g_check_manual (G_check_book.mono (by decide)) F_check_book.kp b_check_book g_check_book v_check_count (G_check_count.mono (by decide)) F_check_count.kp b_check_count g_check_count (G_is_paper_row.mono (by decide)) F_is_paper_row.kp b_is_paper_row g_is_paper_row (G_rests_behind_job.mono (by decide)) F_rests_behind_job.kp b_rests_behind_job g_rests_behind_job (G_ends_in.mono (by decide)) F_ends_in.kp b_ends_in g_ends_in
  have G_dry_at := ok_dry_at (P := (PySem.Challenge.rw_everpurse_k28_across_dry_rounds_and_pape).prog) (w := w) (mg := mg) (base := base) F_dry_at f_len f_range f_max (G_check_manual.mono (by decide)) F_check_manual.kp b_check_manual g_check_manual (G_check_book.mono (by decide)) F_check_book.kp b_check_book g_check_book v_check_count (G_check_count.mono (by decide)) F_check_count.kp b_check_count g_check_count (G_rest_rows.mono (by decide)) F_rest_rows.kp b_rest_rows g_rest_rows (G_ends_in.mono (by decide)) F_ends_in.kp b_ends_in g_ends_in
  have G_is_endless := ok_is_endless (P := (PySem.Challenge.rw_everpurse_k28_across_dry_rounds_and_pape).prog) (w := w) (mg := mg) (base := base) F_is_endless f_isinstance f_tuple f_len (G_is_book.mono (by decide)) F_is_book.kp b_is_book g_is_book
  have G_check_endless := ok_check_endless (P := (PySem.Challenge.rw_everpurse_k28_across_dry_rounds_and_pape).prog) (w := w) (mg := mg) (base := base) F_check_endless (G_check_manual.mono (by decide)) F_check_manual.kp b_check_manual g_check_manual (G_is_endless.mono (by decide)) F_is_endless.kp b_is_endless g_is_endless
  have G_row_behind_book := ok_row_book (P := (PySem.Challenge.rw_everpurse_k28_across_dry_rounds_and_pape).prog) (w := w) (mg := mg) (base := base) hC_Manual F_row_behind_book (G_rests_behind_job.mono (by decide)) F_rests_behind_job.kp b_rests_behind_job g_rests_behind_job
  have G_first_row := ok_first_row (P := (PySem.Challenge.rw_everpurse_k28_across_dry_rounds_and_pape).prog) (w := w) (mg := mg) (base := base) hC_Manual F_first_row f_sorted
  have G_dry_from := ok_dry (P := (PySem.Challenge.rw_everpurse_k28_across_dry_rounds_and_pape).prog) (w := w) (mg := mg) (base := base) F_dry_from f_tuple (G_row_behind_book.mono (by decide)) F_row_behind_book.kp b_row_behind_book g_row_behind_book (G_first_row.mono (by decide)) F_first_row.kp b_first_row g_first_row
  have G_dry_round := ok_dry_roundR (P := (PySem.Challenge.rw_everpurse_k28_across_dry_rounds_and_pape).prog) (w := w) (mg := mg) (base := base) F_dry_round (G_check_endless.mono (by decide)) F_check_endless.kp b_check_endless g_check_endless v_check_count (G_check_count.mono (by decide)) F_check_count.kp b_check_count g_check_count (G_dry_from.mono (by decide)) F_dry_from.kp b_dry_from g_dry_from
  have G_mmanners := ok_manners (P := (PySem.Challenge.rw_everpurse_k28_across_dry_rounds_and_pape).prog) (w := w) (mg := mg) (base := base) hC_Manual F_mmanners f_list
  have G_mbeg := ok_beginnings (P := (PySem.Challenge.rw_everpurse_k28_across_dry_rounds_and_pape).prog) (w := w) (mg := mg) (base := base) hC_Manual F_mbeg f_list
  have G_minit := ok_minit (P := (PySem.Challenge.rw_everpurse_k28_across_dry_rounds_and_pape).prog) (w := w) (mg := mg) (base := base) hC_Manual F_minit f_isinstance f_list f_len f_all f_set f_sorted (G_is_manner.mono (by decide)) F_is_manner.kp b_is_manner g_is_manner (G_are_rooms.mono (by decide)) F_are_rooms.kp b_are_rooms g_are_rooms
  have G_with_ends := ok_with_ends (P := (PySem.Challenge.rw_everpurse_k28_across_dry_rounds_and_pape).prog) (w := w) (mg := mg) (base := base) hC_Manual F_with_ends hMeth_mmanners (G_mmanners.mono (by decide)) b_mmanners hMeth_mbeg (G_mbeg.mono (by decide)) b_mbeg hMk_Manual g_Manual (G_minit.mono (by decide)) b_minit
  have G_opened := ok_opened (P := (PySem.Challenge.rw_everpurse_k28_across_dry_rounds_and_pape).prog) (w := w) (mg := mg) (base := base) hC_Manual F_opened f_list (G_check_manual.mono (by decide)) F_check_manual.kp b_check_manual g_check_manual (G_with_ends.mono (by decide)) F_with_ends.kp b_with_ends g_with_ends
  have G_left_of := ok_left_of (P := (PySem.Challenge.rw_everpurse_k28_across_dry_rounds_and_pape).prog) (w := w) (mg := mg) (base := base) F_left_of hInt_SHORT
  have G_shown := ok_shown (P := (PySem.Challenge.rw_everpurse_k28_across_dry_rounds_and_pape).prog) (w := w) (mg := mg) (base := base) F_shown hInt_NEVER hInt_SHORT f_tuple
  have G_check_purse := ok_check_purse (P := (PySem.Challenge.rw_everpurse_k28_across_dry_rounds_and_pape).prog) (w := w) (mg := mg) (base := base) F_check_purse (G_check_manual.mono (by decide)) F_check_manual.kp b_check_manual g_check_manual v_check_count (G_check_count.mono (by decide)) F_check_count.kp b_check_count g_check_count
  have G_winit := ok_winit (P := (PySem.Challenge.rw_everpurse_k28_across_dry_rounds_and_pape).prog) (w := w) (mg := mg) (base := base) hC_Manual hC_Walk F_winit hInt_NEVER f_enumerate f_tuple
  have G_wstep := ok_wstep (P := (PySem.Challenge.rw_everpurse_k28_across_dry_rounds_and_pape).prog) (w := w) (mg := mg) (base := base) hC_Manual hC_Walk F_wstep hInt_NEVER hInt_SHORT f_max f_tuple (G_left_of.mono (by decide)) F_left_of.kp b_left_of g_left_of
  have G_wbook := ok_wbook (P := (PySem.Challenge.rw_everpurse_k28_across_dry_rounds_and_pape).prog) (w := w) (mg := mg) (base := base) hC_Walk F_wbook hMeth_wstep (G_wstep.mono (by decide)) b_wstep
  have G_rests_of := ok_rests_of (P := (PySem.Challenge.rw_everpurse_k28_across_dry_rounds_and_pape).prog) (w := w) (mg := mg) (base := base) hC_Walk F_rests_of (G_check_purse.mono (by decide)) F_check_purse.kp b_check_purse g_check_purse (G_check_book.mono (by decide)) F_check_book.kp b_check_book g_check_book hMk_Walk g_Walk (G_winit.mono (by decide)) b_winit hMeth_wbook (G_wbook.mono (by decide)) b_wbook (G_shown.mono (by decide)) F_shown.kp b_shown g_shown
  have G_law_purse := ok_purse (P := (PySem.Challenge.rw_everpurse_k28_across_dry_rounds_and_pape).prog) (w := w) (mg := mg) (base := base) F_law_purse f_int f_sum f_max
  have G_law_mixed := ok_mixed (P := (PySem.Challenge.rw_everpurse_k28_across_dry_rounds_and_pape).prog) (w := w) (mg := mg) (base := base) F_law_mixed f_int
  have G_law_draw := ok_draw (P := (PySem.Challenge.rw_everpurse_k28_across_dry_rounds_and_pape).prog) (w := w) (mg := mg) (base := base) F_law_draw f_int f_range F_law_mixed g__law_mixed
  have D_d := ok_d G_law_draw
  have G_law_purses := ok_purses (P := (PySem.Challenge.rw_everpurse_k28_across_dry_rounds_and_pape).prog) (w := w) (mg := mg) (base := base) F_law_purses f_range f_int f_sum f_max f_min f_len F_law_purse g__law_purse
  have G_law_one_of := ok_one_of (P := (PySem.Challenge.rw_everpurse_k28_across_dry_rounds_and_pape).prog) (w := w) (mg := mg) (base := base) F_law_one_of f_len (G_law_draw.mono (by decide)) F_law_draw.kp b_law_draw g__law_draw
  have D_o := ok_o G_law_one_of
  have G_law_word := ok_word (P := (PySem.Challenge.rw_everpurse_k28_across_dry_rounds_and_pape).prog) (w := w) (mg := mg) (base := base) F_law_word f_range (G_law_draw.mono (by decide)) F_law_draw.kp b_law_draw g__law_draw
  have D_w := ok_w G_law_word
  have G_law_words := ok_words (P := (PySem.Challenge.rw_everpurse_k28_across_dry_rounds_and_pape).prog) (w := w) (mg := mg) (base := base) F_law_words f_len f_range f_list (D_d.mono (by decide)) F_law_draw.kp b_law_draw g__law_draw (D_w.mono (by decide)) F_law_word.kp b_law_word g__law_word
  have G_law_effect := ok_effect (P := (PySem.Challenge.rw_everpurse_k28_across_dry_rounds_and_pape).prog) (w := w) (mg := mg) (base := base) F_law_effect f_int (D_d.mono (by decide)) F_law_draw.kp b_law_draw g__law_draw
  have G_law_manner := ok_manner (P := (PySem.Challenge.rw_everpurse_k28_across_dry_rounds_and_pape).prog) (w := w) (mg := mg) (base := base) F_law_manner (D_o.mono (by decide)) F_law_one_of.kp b_law_one_of g__law_one_of (G_law_effect.mono (by decide)) F_law_effect.kp b_law_effect g__law_effect
  have G_law_some := ok_some (P := (PySem.Challenge.rw_everpurse_k28_across_dry_rounds_and_pape).prog) (w := w) (mg := mg) (base := base) F_law_some (D_d.mono (by decide)) F_law_draw.kp b_law_draw g__law_draw (D_o.mono (by decide)) F_law_one_of.kp b_law_one_of g__law_one_of
  have G_law_world_of := ok_world_of (P := (PySem.Challenge.rw_everpurse_k28_across_dry_rounds_and_pape).prog) (w := w) (mg := mg) (base := base) F_law_world_of f_len f_range (D_d.mono (by decide)) F_law_draw.kp b_law_draw g__law_draw (D_o.mono (by decide)) F_law_one_of.kp b_law_one_of g__law_one_of (G_law_effect.mono (by decide)) F_law_effect.kp b_law_effect g__law_effect (G_law_manner.mono (by decide)) F_law_manner.kp b_law_manner g__law_manner (G_law_some.mono (by decide)) F_law_some.kp b_law_some g__law_some
  have G_law_world := ok_world (P := (PySem.Challenge.rw_everpurse_k28_across_dry_rounds_and_pape).prog) (w := w) (mg := mg) (base := base) F_law_world (D_d.mono (by decide)) F_law_draw.kp b_law_draw g__law_draw (G_law_words.mono (by decide)) F_law_words.kp b_law_words g__law_words (G_law_world_of.mono (by decide)) F_law_world_of.kp b_law_world_of g__law_world_of
  have G_law_manual := ok_law_manual (P := (PySem.Challenge.rw_everpurse_k28_across_dry_rounds_and_pape).prog) (w := w) (mg := mg) (base := base) F_law_manual f_list hMk_Manual g_Manual (G_minit.mono (by decide)) b_minit
  have G_law_jobs := ok_law_jobs (P := (PySem.Challenge.rw_everpurse_k28_across_dry_rounds_and_pape).prog) (w := w) (mg := mg) (base := base) F_law_jobs f_int f_sorted
  have G_law_book_of := ok_book_of (P := (PySem.Challenge.rw_everpurse_k28_across_dry_rounds_and_pape).prog) (w := w) (mg := mg) (base := base) F_law_book_of f_range (D_d.mono (by decide)) F_law_draw.kp b_law_draw g__law_draw (D_o.mono (by decide)) F_law_one_of.kp b_law_one_of g__law_one_of
  have G_law_some_endless := ok_some_endless (P := (PySem.Challenge.rw_everpurse_k28_across_dry_rounds_and_pape).prog) (w := w) (mg := mg) (base := base) F_law_some_endless (G_law_jobs.mono (by decide)) F_law_jobs.kp b_law_jobs g__law_jobs (G_law_book_of.mono (by decide)) F_law_book_of.kp b_law_book_of g__law_book_of (D_o.mono (by decide)) F_law_one_of.kp b_law_one_of g__law_one_of
  have G_law_any_world := ok_any_world (P := (PySem.Challenge.rw_everpurse_k28_across_dry_rounds_and_pape).prog) (w := w) (mg := mg) (base := base) F_law_any_world (D_d.mono (by decide)) F_law_draw.kp b_law_draw g__law_draw (D_o.mono (by decide)) F_law_one_of.kp b_law_one_of g__law_one_of (G_law_world.mono (by decide)) F_law_world.kp b_law_world g__law_world
  have G_law_right := ok_right (P := (PySem.Challenge.rw_everpurse_k28_across_dry_rounds_and_pape).prog) (w := w) (mg := mg) (base := base) F_law_right hSys f_repr f_len f_range (G_law_any_world.mono (by decide)) F_law_any_world.kp b_law_any_world g__law_any_world (G_law_manual.mono (by decide)) F_law_manual.kp b_law_manual g__law_manual (G_law_some_endless.mono (by decide)) F_law_some_endless.kp b_law_some_endless g__law_some_endless (G_opened.mono (by decide)) F_opened.kp b_opened g_opened (D_d.mono (by decide)) F_law_draw.kp b_law_draw g__law_draw (G_dry_round.mono (by decide)) F_dry_round.kp b_dry_round g_dry_round (G_paper_of.mono (by decide)) F_paper_of.kp b_paper_of g_paper_of (G_dry_at.mono (by decide)) F_dry_at.kp b_dry_at g_dry_at (G_is_paper.mono (by decide)) F_is_paper.kp b_is_paper g_is_paper (G_rests_of.mono (by decide)) F_rests_of.kp b_rests_of g_rests_of
  exact ok_lawE F_law f_range (G_law_purses.mono (by decide)) F_law_purses.kp b_law_purses g__law_purses G_law_right F_law_right.kp b_law_right g__law_right
end EV
open PySem PySem.W PySem.Calls PyProof.Rows
theorem PySem.Challenge.cw_everpurse_k28_across_dry_rounds_and_pape_holds : PySem.Challenge.rw_everpurse_k28_across_dry_rounds_and_pape.Holds := by
  w_on; o_law
  refine HandSHeadRun.head_any (r := OpenLaw.row PySem.Challenge.rw_everpurse_k28_across_dry_rounds_and_pape) (q := view (OpenLaw.row PySem.Challenge.rw_everpurse_k28_across_dry_rounds_and_pape).prog [70]) (H := EV.hk) (ob := EV.ob) (M := 60000) (loose := EV.loose)
    (d := HandSHeadRun.topDef (OpenLaw.row PySem.Challenge.rw_everpurse_k28_across_dry_rounds_and_pape).prog 70) (kwd := []) EV.ob_eq (by kernel_rfl) (fun s => by kernel_rfl) EV.runH (by kernel_rfl) (by kernel_rfl) (by kernel_rfl) (by rfl) (by first | assumption | decide +kernel) (by decide +kernel)
    ⟨rfl, rfl, rfl, rfl, rfl, by decide +kernel⟩ ?hw ?hc
  case hw => w_witness2
  case hc =>
    refine EVX.walk_G (l := PySem.Challenge.rw_everpurse_k28_across_dry_rounds_and_pape) (n := 63) (k := 10) (x := "script") rfl (by decide) (by kernel_rfl) ⟨rfl, by decide, by decide⟩ ?F
    intro w mg fa h Y G hmg0
    obtain ⟨K, KX, c⟩ := Y
    have hmg : mg ("law" : PySem.Str) = some (.ref fa) := by
      have e : (HandSHeadRun.topDef (OpenLaw.row PySem.Challenge.rw_everpurse_k28_across_dry_rounds_and_pape).prog 70).name = ("law" : PySem.Str) := by kernel_rfl
      rw [← e]
      exact hmg0
    obtain ⟨hL, fd, hb, hF⟩ := EV.facts (w := w) KX G hmg c
    exact ⟨K, fd, EV.sp_lawE K, KX, hL, hb, fun H a ns hl hS => ⟨a, ns, rfl, hS, hl, fun _ => rfl⟩, hF⟩
