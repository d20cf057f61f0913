import PyProof.Rows.All
import Wide.All
import OpenK.AllK
import Wide.FinOn
import HandS.ForMost
import HandS.IsInst
import HandS.Style
import HandS.Wide
import HandS.TupAny
import HandS.TupMul
import HandS.TupLe
import HandS.SortKw
import HandS.Flow
import HandS.Conv
import HandS.Deep
import HandS.Replace
import KE.SortData
import KE.DataMinMax
import HandS.SetKeys
import HandS.SortInts
import KE.SortKeyHeap
import KE.GoesMore
import HandS.Lambda
import HandS.More
import PyProof.ListStr
import KE.DataMinKey
import HandS.RevTup
import HandS.RaiseMore
import HandS.Rev
import PyProof.DictMoreH
import HandS.Zip
import HandS.EndTab
import PySem.Challenge.RW_homeslopes_k09_what_pages_tell
set_option Elab.async false
set_option linter.all false
set_option maxRecDepth 100000
set_option maxHeartbeats 4000000
namespace F
open PySem PySem.Spec PyProof.Rows L2
/-! ### rows of keys, orders -/
/-- a key joins a row, if it isn't there -/
def dd {κ : Type} [DecidableEq κ] (σ : List κ) (k : κ) : List κ := if k ∈ σ then σ else σ ++ [k]
/-- the members of a row, each at its first place -/
def met {κ : Type} [DecidableEq κ] (ks : List κ) : List κ := ks.foldl dd []
def ltS (x y : Str) : Bool := decide (x.cps.toList < y.cps.toList)
def leS (x y : Str) : Bool := !ltS y x
def leI (x y : Int) : Bool := decide (x ≤ y)
def sortS (xs : List Str) : List Str := xs.mergeSort leS
def sortI (xs : List Int) : List Int := xs.mergeSort leI
def minOr (c : Int) : List Int → Int
  | [] => c
  | x :: xs => xs.foldl min x
end F

/-! set(xs) of keys, any number of them: its members; walked, sorted. -/
namespace F
open PySem PySem.Spec PyProof.Rows L2

section
variable {P : Program} {w : World} {K : Type} [DecidableEq K] [Inhabited K] {knd : KeyKind P w K}
/-- an entry of the key k -/
def Ent (knd : KeyKind P w K) (e : Int × Value) (k : K) : Prop := knd.is k e.2 = true ∧ e.1 = knd.hash k ∧ e.2.scannable = true
/-- the set at a whose members are ks, each once; it can be walked -/
def SetM (knd : KeyKind P w K) (h : Heap) (a : Addr) (ks : List K) : Prop :=
  ∃ (ob : Obj) (es : Array (Int × Value)) (ep : Nat) (tb : SetTable) (kf : Int × Value → K), h.get? a = some ob ∧ ob.ExactSet ∧ ob.data = .set es ep tb ∧ (∀ e ∈ es.toList, Ent knd e (kf e)) ∧ (es.toList.map kf).Perm ks ∧ ks.Nodup ∧
    ks.length < scanBound ∧ tb.fits es.size = true ∧ Ris tb.place.toList ∧ (w.params.followText "set-order" = true ∨ tb.led = true)
theorem SetM.at {h g : Heap} {a : Addr} {ks : List K} (R : SetM knd h a ks) (c : ∀ o, h.get? a = some o → g.get? a = some o) : SetM knd g a ks := by
  obtain ⟨ob, es, ep, tb, kf, ho, rest⟩ := R
  exact ⟨ob, es, ep, tb, kf, c ob ho, rest⟩
theorem ents_elems {kf : Int × Value → K} {l : List (Int × Value)} (g : ∀ e ∈ l, Ent knd e (kf e)) : ElemsOf knd l := fun e he => ⟨⟨kf e, (g e he).1, (g e he).2.1⟩, (g e he).2.2⟩
theorem ents_mem {kf : Int × Value → K} {l : List (Int × Value)} (g : ∀ e ∈ l, Ent knd e (kf e)) (k : K) : k ∈ l.map kf ↔ ∃ e ∈ l, knd.is k e.2 = true := by
  rw [List.mem_map]
  refine ⟨fun ⟨e, he, q⟩ => ⟨e, he, by rw [← q]; exact (g e he).1⟩, fun ⟨e, he, q⟩ => ⟨e, he, knd.inj e.2 _ _ (g e he).1 q⟩⟩
theorem SetM.size {es : Array (Int × Value)} {kf : Int × Value → K} {ks : List K} (pm : (es.toList.map kf).Perm ks) : es.size = ks.length := by
  rw [← pm.length_eq, List.length_map, Array.length_toList]
/-- .. as the library has it -/
theorem SetM.of {h : Heap} {a : Addr} {ks : List K} (R : SetM knd h a ks) : h.SetOf knd a (fun k => decide (k ∈ ks)) ks.length := by
  obtain ⟨ob, es, ep, tb, kf, ho, hx, hd, g, pm, nd, hb, hf, _⟩ := R
  have hz := SetM.size pm
  refine ⟨ob, es, ep, tb, ho, hx, hd, ents_elems g, fun k => ?_, by rw [hz]; exact hb, hf, hz⟩
  rw [decide_eq_true_iff, ← pm.mem_iff]
  exact ents_mem g k
section
variable {A : Around} {E : Value → Shared → Prop} {s : Shared} {a : Addr} {ks : List K}
theorem gaveWay {b : Bool} {s1 : Shared} {R : Unit → Shared → Prop} (q : R () s1) : wpAny (model P w) A (match b with | true => rule "set.scan.the-table-gave-way" | false => pure ()) R E s1 := by
  cases b
  · exact wpAny_pure q
  · exact wpAny_rule q
/-- the last steps of an add -/
theorem setM_tail {say : Bool → Sem Unit} (hs : ∀ (b : Bool) (s1 : Shared) (R : Unit → Shared → Prop), R () s1 → wpAny (model P w) A (say b) R E s1) {ob : Obj} {es es1 : Array (Int × Value)} {ep : Nat} {tb t2 : SetTable} {kf : Int × Value → K} (ho : s.heap.get? a = some ob) (hx : ob.ExactSet) (hd : ob.data = .set es ep tb)
    (g1 : ∀ e ∈ es1.toList, Ent knd e (kf e)) (pm1 : (es1.toList.map kf).Perm ks) (nd1 : ks.Nodup) (hb1 : ks.length < scanBound) (hf2 : t2.fits es1.size = true) (hr2 : Ris t2.place.toList) (hl2 : w.params.followText "set-order" = true ∨ t2.led = true) {dummy : Bool} {R : Option Bool → Shared → Prop}
    (hR : ∀ g, Heap.SameBut a s.heap g → SetM knd g a ks → R (some true) { s with heap := g }) :
    wpAny (model P w) A (do
        storeSet a es1 t2
        if (!dummy && t2.tooFull) = true then do
            say (relayAll t2 es1 (SetTable.grown es1.size)).2.2
            storeSet a (relayAll t2 es1 (SetTable.grown es1.size)).1 (relayAll t2 es1 (SetTable.grown es1.size)).2.1
            pure (some true)
          else pure (some true)) R E s := by
  have hz1 := SetM.size pm1
  have hbz : es1.size < scanBound := by rw [hz1]; exact hb1
  refine wpAny_bind (wpAny_storeSet_of ho hd ?_ (fits_of_scanBound hbz))
  have at1 := store_at (es' := es1) (t' := t2) ho hd
  have same1 := Heap.SameBut.update s.heap a (Obj.putSet es1 t2)
  split
  · have pm := relayAll_perm t2 es1 (SetTable.grown es1.size)
    have f3 := relayAll_fits t2 es1 (SetTable.grown es1.size)
    have r3 := relayAll_ris t2 es1 (SetTable.grown es1.size)
    have l3 := relayAll_led t2 es1 (SetTable.grown es1.size)
    generalize relayAll t2 es1 (SetTable.grown es1.size) = Z at pm f3 r3 l3 ⊢
    obtain ⟨es2, t3, gave⟩ := Z
    dsimp only at pm f3 r3 l3 ⊢
    have pm2 : (es2.toList.map kf).Perm ks := (pm.map kf).trans pm1
    refine wpAny_bind (hs _ _ _ ?_)
    refine wpAny_bind (wpAny_storeSet_of at1 rfl ?_ (fits_of_scanBound (by rw [SetM.size pm2]; exact hb1)))
    have at2 := store_at (es' := es2) (t' := t3) at1 rfl
    exact wpAny_pure (hR _ (same1.trans (Heap.SameBut.update _ a _)) ⟨_, es2, _, t3, kf, at2, hx, rfl, fun e he => g1 e (pm.mem_iff.mp he), pm2, nd1, hb1, f3, r3, hl2.imp id fun z => l3.trans z⟩)
  · exact wpAny_pure (hR _ same1 ⟨_, es1, _, t2, kf, at1, hx, rfl, g1, pm1, nd1, hb1, hf2, hr2, hl2⟩)
/-- a key joins the members, or is one -/
theorem setM_add {k : K} {v : Value} {Q : Bool → Shared → Prop} (R : SetM knd s.heap a ks) (hk : knd.is k v = true) (hv : v.scannable = true) (room : ks.length + 1 < scanBound)
    (hQ : ∀ g b, Heap.SameBut a s.heap g → SetM knd g a (dd ks k) → Q b { s with heap := g }) : wpAny (model P w) A (setAddHashed a v (knd.hash k)) Q E s := by
  obtain ⟨ob, es, ep, tb, kf, ho, hx, hd, g, pm, nd, hb, hf, hr, hl⟩ := R
  have hz := SetM.size pm
  have hbz : es.size < scanBound := by rw [hz]; exact hb
  have hel : ElemsOf knd es.toList := ents_elems g
  unfold setAddHashed setAddHashedIn
  refine wpAny_holding (wpAny_bind (wpAny_setState_of ho hd hf ?_))
  dsimp only
  rw [byScan_of hv hbz hel]
  simp only [↓reduceIte]
  unfold setAddByScan
  refine wpAny_bind (wpAny_bind (wpAny_rule (wpAny_bind (wpAny_setScan_of hk ho hd hf hel ?_))))
  cases hfi : List.findIdx? (fun e => knd.is k e.2) es.toList with
  | some j =>
    dsimp only
    obtain ⟨hj, pj, _⟩ := List.findIdx?_eq_some_iff_getElem.mp hfi
    have hin : k ∈ ks := pm.mem_iff.mp ((ents_mem g k).mpr ⟨es.toList[j], List.getElem_mem hj, pj⟩)
    have hsame : dd ks k = ks := if_pos hin
    exact wpAny_pure (wpAny_pure (hQ s.heap _ (Heap.SameBut.refl a s.heap) (by rw [hsame]; exact ⟨ob, es, ep, tb, kf, ho, hx, hd, g, pm, nd, hb, hf, hr, hl⟩)))
  | none =>
    dsimp only
    have hno : k ∉ ks := fun z => by
      obtain ⟨e, he, q⟩ := (ents_mem g k).mp (pm.mem_iff.mpr z)
      have c := List.findIdx?_eq_none_iff.mp hfi e he
      rw [q] at c
      cases c
    have hmore : dd ks k = ks ++ [k] := if_neg hno
    have pm1 := layNew_perm tb es (knd.hash k) v
    have f1 := layNew_fits tb es (knd.hash k) v
    have r1 := layNew_ris tb es (knd.hash k) v hr
    have l1 := layNew_led tb es (knd.hash k) v
    generalize layNew tb es (knd.hash k) v = Z at pm1 f1 r1 l1 ⊢
    obtain ⟨es1, t1, dummy, gave⟩ := Z
    dsimp only at pm1 f1 r1 l1 ⊢
    rw [Array.toList_push] at pm1
    have g1 : ∀ e ∈ es1.toList, Ent knd e ((fun e => if knd.is k e.2 = true then k else kf e) e) := fun e he => by
      dsimp only
      rcases List.mem_append.mp (pm1.mem_iff.mp he) with z | z
      · split
        · rename_i q
          have : kf e = k := knd.inj e.2 _ _ (g e z).1 q
          exact absurd (pm.mem_iff.mp (by rw [← this]; exact List.mem_map_of_mem z)) hno
        · exact g e z
      · rw [List.mem_singleton.mp z, if_pos hk]
        exact ⟨hk, rfl, hv⟩
    have pk : (es1.toList.map (fun e => if knd.is k e.2 = true then k else kf e)).Perm (ks ++ [k]) := by
      refine (pm1.map _).trans ?_
      rw [List.map_append, List.map_singleton]
      refine List.Perm.append ?_ (by rw [if_pos hk])
      refine List.Perm.trans (List.Perm.of_eq ?_) pm
      refine List.map_congr_left fun e he => if_neg fun q => ?_
      have : kf e = k := knd.inj e.2 _ _ (g e he).1 q
      exact hno (pm.mem_iff.mp (by rw [← this]; exact List.mem_map_of_mem he))
    have nd1 : (ks ++ [k]).Nodup := List.nodup_append.mpr ⟨nd, by simp, fun x hx1 y hy e => hno (by rw [← List.mem_singleton.mp hy, ← e]; exact hx1)⟩
    have hb1 : (ks ++ [k]).length < scanBound := by rw [List.length_append]; exact room
    have led1 : w.params.followText "set-order" = true ∨ t1.led = true := hl.imp id fun z => l1.trans z
    have fin : ∀ g, Heap.SameBut a s.heap g → SetM knd g a (ks ++ [k]) → Q true { s with heap := g } := fun g sb r => hQ g true sb (by rw [hmore]; exact r)
    refine wpAny_bind (gaveWay ?_)
    split
    · refine wpAny_bind ?_
      rw [hashByValue_scannable 8 hv]
      refine wpAny_pure (setM_tail (fun b s1 R q => gaveWay q) ho hx hd g1 pk nd1 hb1 ?_ ?_ ?_ ?_)
      · first | (split <;> first | exact f1 | exact SetTable.fits_plain_off f1) | exact f1
      · first | (split <;> exact r1) | exact r1
      · first | (split <;> exact led1) | exact led1
      · intro g sb r; dsimp only; exact wpAny_pure (fin g sb r)
    · refine wpAny_bind (wpAny_pure ?_)
      simp only [↓reduceIte]
      refine setM_tail (fun b s1 R q => gaveWay q) ho hx hd g1 pk nd1 hb1 f1 r1 led1 ?_
      intro g sb r; dsimp only; exact wpAny_pure (fin g sb r)
end
theorem met_snoc (ks : List K) (k : K) : met (ks ++ [k]) = dd (met ks) k := by unfold met; rw [List.foldl_append]; rfl
theorem dedup_len (σ : List K) (k : K) : (dd σ k).length ≤ σ.length + 1 := by
  unfold dd
  split
  · exact Nat.le_succ _
  · rw [List.length_append]; exact Nat.le_refl _
theorem fold_len : ∀ (ks σ : List K), (ks.foldl dd σ).length ≤ σ.length + ks.length
  | [], σ => Nat.le_refl _
  | k :: ks, σ => by
    rw [List.foldl_cons, List.length_cons]
    have := fold_len ks (dd σ k)
    have := dedup_len σ k
    omega
theorem met_len (ks : List K) : (met ks).length ≤ ks.length := by have := fold_len ks []; simpa [met] using this
section
variable {A : Around} {I : Addr} {fp wr : List Addr} {G : Array GenState → Array GenState → Prop} {n : Nat} {Pv : Nat → Value → Prop} {St : Nat → Shared → Prop} {R : Result → Shared → Prop}
/-- a set is filled from a walk -/
theorem fill_set (W : WalksS P w A.in1 I fp wr G n Pv St) (a : Addr) (haf : a ∉ fp) (ks : List K) (hn : ks.length = n) (hv : ∀ i v, Pv i v → ∃ k, ks[i]? = some k ∧ knd.is k v = true ∧ v.scannable = true) (hb : n + 1 < scanBound) :
    ∀ (left i : Nat) (s : Shared), i + left = n → St i s → SetM knd s.heap a (met (ks.take i)) → (∀ s2, Moved (a :: wr) G s s2 → SetM knd s2.heap a (met ks) → R (.ok (.ret .none)) s2) →
      codeAny (model P w) A (.builtin "set.update.loop" ⟨[.ref a, .ref I], []⟩) R s := by
  have haw : a ∉ wr := fun z => haf (W.sub _ z)
  have hws : ∀ b ∈ wr, b ∈ a :: wr := fun b z => List.mem_cons_of_mem _ z
  intro left
  induction left with
  | zero =>
    intro i s hi hst hS hR
    have e : i = n := by omega
    subst e
    rw [← hn, List.take_length] at hS
    refine codeAny_builtin PyProof.Rows.F.entry_set_update_loop ?_
    rw [Around.under_plainId PyProof.Rows.F.plain_set_update_loop _]
    show wpAny _ A.in1 (pyNext (.ref I) >>= _) _ _ s
    refine wpAny_bind (W.done s _ _ hst fun s2 mv => ?_)
    exact wpAny_pure (hR s2 (mv.mono hws) (hS.at fun o z => mv.heap a o haw z))
  | succ left ih =>
    intro i s hi hst hS hR
    have hlt : i < n := by omega
    refine codeAny_builtin PyProof.Rows.F.entry_set_update_loop ?_
    rw [Around.under_plainId PyProof.Rows.F.plain_set_update_loop _]
    show wpAny _ A.in1 (pyNext (.ref I) >>= _) _ _ s
    refine wpAny_bind (W.item i s _ _ hlt hst fun v s2 hp hst2 mv => ?_)
    obtain ⟨k, hki, hk, hsc⟩ := hv i v hp
    have hS2 : SetM knd s2.heap a (met (ks.take i)) := hS.at fun o z => mv.heap a o haw z
    have hnext : dd (met (ks.take i)) k = met (ks.take (i + 1)) := by rw [List.take_succ, hki]; exact (met_snoc _ _).symm
    have room : (met (ks.take i)).length + 1 < scanBound := by
      have := met_len (ks.take i)
      rw [List.length_take] at this
      omega
    show wpAny _ A.in1 (holding [v] (setAdd a v) >>= _) _ _ s2
    refine wpAny_bind (wpAny_holding ?_)
    unfold setAdd
    refine wpAny_holding (wpAny_bind (knd.pyHash hk ?_))
    refine setM_add (s := { s2 with toks := s2.toks + 1 }) hS2 hk hsc room fun g b sb hS3 => ?_
    rw [hnext] at hS3
    refine wpAny_pure ⟨plainId_quiet PyProof.Rows.F.plain_set_update_loop _, ih (i + 1) _ (by omega) (W.frame _ s2 _ _ hst2 (Nat.le_succ _) fun b hbf o e => ?_) hS3 fun s3 mv3 hS4 => ?_⟩
    · rw [sb.2 b fun z => haf (z ▸ hbf)]; exact e
    · refine hR s3 (Moved.trans W.gtrans ((mv.mono hws).then_heap (Nat.le_succ _) fun b o hbw e => ?_) mv3) hS4
      rw [sb.2 b fun z => hbw (z ▸ List.mem_cons_self)]; exact e
end
theorem setM_fresh (h : Heap) : SetM knd (h.push { cls := .type "set", dict := none, data := .set #[] 0 (.fresh 0 0 (!w.params.followText "set-order")) }) h.objs.size [] := by
  refine ⟨_, #[], 0, _, fun _ => default, Heap.get?_push_size _ rfl, ⟨rfl, rfl, rfl⟩, rfl, fun e he => by simp at he, List.Perm.refl _, List.nodup_nil, (show 0 < scanBound by decide), by rfl, List.Pairwise.nil, ?_⟩
  show _ ∨ (!w.params.followText "set-order") = true
  cases w.params.followText "set-order"
  · exact .inr rfl
  · exact .inl rfl
section
variable {A : Around} {E : Value → Shared → Prop} {s : Shared}
theorem made_set {x : Value} {Q : Value → Shared → Prop} (q : Q (.ref s.heap.objs.size) { s with heap := s.heap.push { cls := .type "set", dict := none, data := .set #[] 0 (.fresh 0 0 (!w.params.followText "set-order")) } }) :
    codeAny (model P w) A (.call (.builtin "set.__new__") ⟨[.type "set", x], []⟩) (wants Q E) s := by
  refine codeAny_of_tree ?_
  show wpAny _ A.in1 (do checkBuiltinCall "set.__new__" ⟨[.type "set", x], []⟩; again (.builtin "set.__new__" ⟨[.type "set", x], []⟩)) _ _ s
  refine wpAny_bind (wpAny_of_eq (PySem.F.newCall_set_1 x) (wpAny_pure ⟨plainId_quiet PySem.F.plain_set_new _, codeAny_builtin PySem.F.entry_set_new ?_⟩))
  rw [Around.under_plainId PySem.F.plain_set_new _]
  unfold Builtin.«set.__new__» Builtin.Frozenset.newClass
  have sub := sub_set_self
  obtain ⟨hp, g, d, tk, os⟩ := s
  dsimp only
  wp_walk
  refine wpAny_askSetting (wpAny_pure ?_)
  dsimp only
  simp only [newObj]
  exact wpAny_bind (wpAny_alloc (wpAny_pure (wpAny_pure q)))
/-- set(xs), xs a list of keys -/
theorem call_set_keys {l : Addr} {items : Array Value} {ks : List K} {Q : Value → Shared → Prop} (hh : A.handled = none) (hl : s.heap.IsList l items) (hn : ks.length = items.size) (hv : ∀ (i : Nat) (v : Value), items[i]? = some v → ∃ k, ks[i]? = some k ∧ knd.is k v = true ∧ v.scannable = true) (hb : items.size + 1 < scanBound)
    (q : ∀ (g : Heap) (tk : Nat), SetM knd g s.heap.objs.size (met ks) → (∀ b o, b < s.heap.objs.size → s.heap.get? b = some o → g.get? b = some o) → Q (.ref s.heap.objs.size) { s with heap := g, toks := tk }) :
    wpAny (model P w) A (call (.type "set") [.ref l]) Q E s := by
  obtain ⟨c, tl, mro⟩ := PySem.F.called_set.mro
  have made := PySem.F.called_set.made
  have sub := PySem.F.called_set.sub
  refine wpAny_call (codeAny_of_tree ?_)
  show wpAny _ _ (callAny (.type "set") _) _ _ _
  refine wpAny_pure ⟨Code.quiet_builtin _ (by decide +kernel), codeAny_builtin PySem.F.entry_type_call ?_⟩
  rw [Around.under_plain (weight_type_call_type "set" [.ref l] []) rfl]
  have z1 := PySem.F.called_set.notType
  have z2 := PySem.F.called_set.canCreate
  have z3 := PySem.F.typeCall_set_1 (.ref l)
  repeat (any_goals (first | assumption | wp_step))
  refine codeAny_mono (made_set (x := .ref l) (E := E) (Q := fun ob s1 => ob = .ref s.heap.objs.size ∧ s1 = { s with heap := s.heap.push { cls := .type "set", dict := none, data := .set #[] 0 (.fresh 0 0 (!w.params.followText "set-order")) } }) ⟨rfl, rfl⟩) fun r s1 hr => ?_
  cases r with
  | error e => exact hr
  | ok fl =>
    cases fl with
    | ret ob =>
      obtain ⟨rfl, rfl⟩ := hr
      have fresh := setM_fresh (knd := knd) s.heap
      have hS : (s.heap.push { cls := .type "set", dict := none, data := .set #[] 0 (.fresh 0 0 (!w.params.followText "set-order")) }).get? s.heap.objs.size = some { cls := .type "set", dict := none, data := .set #[] 0 (.fresh 0 0 (!w.params.followText "set-order")) } := Heap.get?_push_size _ (rfl)
      have hT : Shared.TypeIs { s with heap := s.heap.push { cls := .type "set", dict := none, data := .set #[] 0 (.fresh 0 0 (!w.params.followText "set-order")) } } (.ref s.heap.objs.size) "set" := ⟨_, hS, rfl⟩
      have z4 := PySem.F.called_set.init.lookup
      have z5 := PySem.F.called_set.init.bind (.ref s.heap.objs.size)
      repeat (any_goals (first | assumption | wp_step))
      refine codeAny_mono (codeAny_call_builtin (R := wants (fun r s2 => r = .none ∧ ∃ g tk, s2 = { s with heap := g, toks := tk } ∧ SetM knd g s.heap.objs.size (met ks) ∧ (∀ b o, b < s.heap.objs.size → s.heap.get? b = some o → g.get? b = some o)) E)
        PySem.F.called_set.init.plain PySem.F.entry_set_init (check_set_init_1 hT ?_)) fun r2 s2 hr2 => ?_
      · obtain ⟨lo, hlo, hcl, nl, hdl⟩ := hl
        obtain ⟨lc, ld, lt, ls⟩ := lo
        simp only at hcl hdl
        subst hcl; subst hdl
        have at1 : (s.heap.push { cls := .type "set", dict := none, data := .set #[] 0 (.fresh 0 0 (!w.params.followText "set-order")) }).get? l = some { cls := .type "list", dict := ld, data := .seq items nl, slots := ls } := Heap.get?_push_of_some _ hlo
        have y1 := PySem.F.sub_list_set
        have y2 := PySem.F.sub_list_frozenset
        have y3 : (Value.type "list" == Value.type "dict") = false := by decide
        have hl1 : (s.heap.push { cls := .type "set", dict := none, data := .set #[] 0 (.fresh 0 0 (!w.params.followText "set-order")) }).IsList l items := ⟨_, at1, rfl, nl, rfl⟩
        unfold Builtin.«set.__init__» noKeywords Builtin.Frozenset.updateFrom
        generalize hpi : pyIter = pI
        wp_walk
        subst hpi
        refine wpAny_pyIter_list hl1 ?_
        refine wpAny_bind (wpAny_runValue ?_)
        have below : l < s.heap.objs.size := Heap.lt_size hlo
        have hh3 : A.in1.in1.in1.handled = none := by simp [hh]
        have ne1 : l ≠ (s.heap.push { cls := .type "set", dict := none, data := .set #[] 0 (.fresh 0 0 (!w.params.followText "set-order")) }).objs.size := by rw [Heap.size_push]; exact Nat.ne_of_lt (Nat.lt_succ_of_lt below)
        have out1 : s.heap.objs.size ∉ [(s.heap.push { cls := .type "set", dict := none, data := .set #[] 0 (.fresh 0 0 (!w.params.followText "set-order")) }).objs.size, l] := by
          rw [Heap.size_push]
          simp only [List.mem_cons, List.not_mem_nil, or_false, not_or]
          exact ⟨Nat.ne_of_lt (Nat.lt_succ_self _), Nat.ne_of_gt below⟩
        refine fill_set ((Walks.list hh3 _ l ne1 items).toS) s.heap.objs.size out1 ks hn hv hb items.size 0 _ (by omega) ⟨⟨_, Heap.get?_push_size _ rfl, rfl, rfl⟩, hl1.push _⟩ ?start ?stop
        case start => exact fresh.at fun o e => Heap.get?_push_of_some _ e
        case stop =>
          intro s3 mv hS3
          obtain ⟨g, gn, dr, tk, os⟩ := s3
          have e1 : gn = s.gens := mv.gens
          have e2 : dr = s.drawn := mv.drawn
          have e3 : os = s.os := mv.os
          subst e1; subst e2; subst e3
          refine wpAny_pure (wpAny_pure ⟨rfl, g, tk, rfl, hS3, fun b o hb2 e => ?_⟩)
          refine mv.heap b o ?_ (Heap.get?_push_of_some _ (Heap.get?_push_of_some _ e))
          rw [Heap.size_push]
          simp only [List.mem_cons, List.not_mem_nil, or_false, not_or]
          exact ⟨Nat.ne_of_lt hb2, Nat.ne_of_lt (Nat.lt_succ_of_lt hb2)⟩
      · cases r2 with
        | error e => exact hr2
        | ok f2 =>
          cases f2 with
          | ret r =>
            obtain ⟨rfl, g, tk, rfl, hS3, hk3⟩ := hr2
            repeat (any_goals (first | assumption | wp_step))
            exact q _ _ hS3 hk3
          | _ => exact hr2.elim
    | _ => exact hr.elim
end
end
end F

/-! len(set(xs)), sorted(set(xs)), sorted(xs) of ints, of texts. -/
namespace F
open PySem PySem.Spec PyProof.Rows L2

/-! ### orders -/
theorem str_eq {x y : Str} (h : x.cps.toList = y.cps.toList) : x = y := by
  cases x with
  | mk a => cases y with
    | mk b => cases a; cases b; cases h; rfl
theorem ltS_irr (x : Str) : ltS x x = false := decide_eq_false (List.lt_irrefl _)
theorem ltS_asym {x y : Str} (h : ltS x y = true) : ltS y x = false := decide_eq_false fun z => List.lt_irrefl _ (List.lt_trans (of_decide_eq_true h) z)
theorem ltS_tri {x y : Str} (h : ltS x y = false) (k : ltS y x = false) : x = y := by
  have h1 := of_decide_eq_false h
  have h2 := of_decide_eq_false k
  exact str_eq (List.le_antisymm (List.not_lt.mp h2) (List.not_lt.mp h1))
theorem ltS_neg {x y z : Str} (h : ltS x y = false) (k : ltS y z = false) : ltS x z = false := by
  have h1 := List.not_lt.mp (of_decide_eq_false h)
  have h2 := List.not_lt.mp (of_decide_eq_false k)
  exact decide_eq_false (List.not_lt.mpr (List.le_trans h2 h1))
theorem leS_trans (a b c : Str) (h : leS a b = true) (k : leS b c = true) : leS a c = true := by
  unfold leS at *
  rw [Bool.not_eq_true'] at *
  exact ltS_neg k h
theorem leS_total (a b : Str) : (leS a b || leS b a) = true := by
  unfold leS
  cases h : ltS b a with
  | false => rfl
  | true => rw [ltS_asym h]; rfl
theorem leS_anti {a b : Str} (h : leS a b = true) (k : leS b a = true) : a = b := by
  unfold leS at *
  rw [Bool.not_eq_true'] at *
  exact ltS_tri k h
theorem leI_trans (a b c : Int) (h : leI a b = true) (k : leI b c = true) : leI a c = true := by
  unfold leI at *
  rw [decide_eq_true_iff] at *
  omega
theorem leI_total (a b : Int) : (leI a b || leI b a) = true := by
  unfold leI
  rw [Bool.or_eq_true, decide_eq_true_iff, decide_eq_true_iff]
  omega
theorem leI_anti {a b : Int} (h : leI a b = true) (k : leI b a = true) : a = b := by
  unfold leI at *
  rw [decide_eq_true_iff] at *
  omega
/-- a row in order is told by what is in it -/
theorem perm_one {α : Type} {le : α → α → Bool} (anti : ∀ {a b}, le a b = true → le b a = true → a = b) : ∀ {xs ys : List α}, xs.Perm ys → xs.Pairwise (fun a b => le a b = true) → ys.Pairwise (fun a b => le a b = true) → xs = ys
  | [], ys, p, _, _ => (List.nil_perm.mp p).symm
  | x :: xs, [], p, _, _ => absurd p.length_eq (by simp)
  | x :: xs, y :: ys, p, hx, hy => by
    have h1 := List.pairwise_cons.mp hx
    have h2 := List.pairwise_cons.mp hy
    have e : x = y := by
      rcases List.mem_cons.mp (p.mem_iff.mp List.mem_cons_self) with z | z
      · exact z
      · rcases List.mem_cons.mp (p.mem_iff.mpr (List.mem_cons_self (a := y))) with q | q
        · exact q.symm
        · exact anti (h1.1 y q) (h2.1 x z)
    subst e
    rw [perm_one anti (List.Perm.cons_inv p) h1.2 h2.2]
theorem sortS_perm (xs : List Str) : (sortS xs).Perm xs := List.mergeSort_perm _ _
theorem sortI_perm (xs : List Int) : (sortI xs).Perm xs := List.mergeSort_perm _ _
theorem sortS_ord (xs : List Str) : (sortS xs).Pairwise (fun a b => leS a b = true) := List.pairwise_mergeSort leS_trans leS_total xs
theorem sortI_ord (xs : List Int) : (sortI xs).Pairwise (fun a b => leI a b = true) := List.pairwise_mergeSort leI_trans leI_total xs
/-! ### texts, sorted by the machine -/
def sv : Value → Str
  | .str x _ => x
  | _ => Str.empty
def ltSv (v u : Value) : Bool := ltS (sv v) (sv u)
theorem swo_str : SrtO.Swo ltSv := ⟨fun _ _ h => ltS_asym h, fun _ _ _ h k => ltS_neg k h⟩
section
variable {prog : Program} {w : World} {A : Around} {E : Value → Shared → Prop} {s : Shared}
theorem strs_sv : ∀ {vs : List Value}, (∀ v ∈ vs, ∃ x t, v = Value.str x t) → StrsAre vs (vs.map sv)
  | [], _ => .nil
  | v :: vs, h => by
    obtain ⟨x, t, rfl⟩ := h v List.mem_cons_self
    exact .cons x t (strs_sv fun u hu => h u (List.mem_cons_of_mem _ hu))
theorem strs_mem : ∀ {vs : List Value} {xs : List Str}, StrsAre vs xs → ∀ v ∈ vs, ∃ x t, v = Value.str x t
  | [], _, .nil, _, h => (nomatch h)
  | _ :: _, _, .cons x t h, v, m => by
    rcases List.mem_cons.mp m with rfl | m
    · exact ⟨x, t, rfl⟩
    · exact strs_mem h v m
theorem strs_same : ∀ {vs : List Value} {xs ys : List Str}, StrsAre vs xs → StrsAre vs ys → xs = ys
  | [], _, _, .nil, .nil => rfl
  | _ :: _, _, _, .cons x t h, .cons _ _ k => by rw [strs_same h k]
theorem strs_sortable {a : Addr} {vs : List Value} (hv : ∀ v ∈ vs, ∃ x t, v = Value.str x t) (h2 : 2 ≤ vs.length) : SrtO.SortableO prog w A s a vs ltSv := by
  intro g _
  refine ⟨oneType', fun Q E hq => ?_, fun p q hm hm' => ?_⟩
  · match vs, hv, h2 with
    | v1 :: v2 :: rest, hv, _ =>
      rw [keyKind_strs (strs_sv hv)]
      exact wpAny_pure hq
    | [], _, h => exact absurd h (by decide)
    | [v], _, h => exact absurd h (by simp)
  · obtain ⟨x, t, e⟩ := hv _ hm
    obtain ⟨y, u, e'⟩ := hv _ hm'
    show wpAny (model prog w) A (keyLt' oneType' p.1 q.1) (fun r s2 => s2 = _ ∧ r = ltSv p.1 q.1) (fun _ _ => False) _
    rw [e, e', keyLt'_oneType]
    exact oneLt_str ⟨rfl, rfl⟩
end
/-! ### a set, sorted -/
section
variable {P : Program} {w : World} {K : Type} [DecidableEq K] [Inhabited K] {knd : KeyKind P w K} {A : Around} {E : Value → Shared → Prop} {s : Shared}
noncomputable def keyAt (knd : KeyKind P w K) (v : Value) : K := Classical.epsilon fun k => knd.is k v = true
theorem keyAt_is {k : K} {v : Value} (h : knd.is k v = true) : knd.is (keyAt knd v) v = true := Classical.epsilon_spec (p := fun k => knd.is k v = true) ⟨k, h⟩
theorem keyAt_eq {k : K} {v : Value} (h : knd.is k v = true) : keyAt knd v = k := knd.inj v _ _ (keyAt_is h) h
theorem sorted_members {a : Addr} {ks : List K} {ltv : Value → Value → Bool} {Q : Value → Shared → Prop} (R : SetM knd s.heap a ks) (hh : A.handled = none) (O : SrtO.Swo ltv)
    (hS : ∀ (vs : List Value) (s1 : Shared) (b : Addr), (∀ v ∈ vs, ∃ k ∈ ks, knd.is k v = true) → 2 ≤ vs.length → SrtO.SortableO P w A.in1.in1 s1 b vs ltv)
    (hQ : ∀ (s2 : Shared) (p : Addr) (out : List Value) (c : Nat), (∀ b o, s.heap.get? b = some o → s2.heap.get? b = some o) → s2.gens = s.gens → s2.os = s.os → s.heap.objs.size ≤ p → s2.heap.get? p = some (seqObj "list" out.toArray c) → (∀ v ∈ out, ∃ k ∈ ks, knd.is k v = true) → (out.map (keyAt knd)).Perm ks → SrtO.Srtd ltv out → Q (.ref p) s2) :
    wpAny (model P w) A (call (.builtin "sorted") [.ref a]) Q E s := by
  obtain ⟨ob, es, ep, tb, kf, ho, hx, hd, g, pm, nd, hb, hf, hr, hl⟩ := R
  have hz := SetM.size pm
  have hbz : es.size < scanBound := by rw [hz]; exact hb
  refine Calls.call_function_entry kind_sorted plain_sorted entry_sorted (args_sorted1 _) ?_
  unfold Builtin.«sorted»
  refine wpAny_bind (m := checkCount "sorted" 1 1 _) (wpAny_pure ?_)
  refine wpAny_bind (collect_set (A := A.in1) hh ⟨ob, ho, hx.1, hd⟩ hf hbz hr hl fun s1 vs k1 z1 g1 o1 pv => ?_)
  have hlen : vs.length ≤ sizeLine := by
    rw [pv.length_eq, List.length_map, Array.length_toList]
    exact fits_of_scanBound hbz
  have mem : ∀ v ∈ vs, ∃ k ∈ ks, knd.is k v = true := fun v hv => by
    obtain ⟨e, he, q⟩ := List.mem_map.mp (pv.mem_iff.mp hv)
    exact ⟨kf e, pm.mem_iff.mp (List.mem_map_of_mem he), by rw [← q]; exact (g e he).1⟩
  refine wpAny_bind (wpAny_newList ?_ hlen)
  have at1 : (s1.heap.push (seqObj "list" vs.toArray 0)).get? s1.heap.objs.size = some (seqObj "list" vs.toArray 0) := Heap.get?_push_size _ rfl
  refine wpAny_bind (wpAny_holding (wpAny_call_entry slot_list_sort ⟨_, at1, rfl⟩ entry_list_sort (SrtO.list_sort_ord O at1 hlen (fun h2 => hS vs _ _ mem h2) fun out a1 a2 => ⟨_, rfl, ?_⟩) (args_list_sort _)))
  obtain ⟨c, hc⟩ := sortedHeap_at (vs := vs) (out := out.toArray) at1
  have po : out.Perm (es.toList.map (·.2)) := a2.perm.trans pv
  refine wpAny_pure ⟨_, rfl, hQ _ s1.heap.objs.size out c (fun b u e => ?_) g1 o1 z1 hc (fun v hv => mem v (a2.perm.mem_iff.mp hv)) ?_ a1⟩
  · have q := k1 b u e
    have lt := Heap.lt_size q
    show (sortedHeap (s1.heap.push (seqObj "list" vs.toArray 0)) s1.heap.objs.size vs out.toArray).get? b = some u
    rw [sortedHeap_old (Nat.ne_of_lt lt) (by rw [size_push']; exact Nat.lt_succ_of_lt lt)]
    exact Heap.get?_push_of_some _ q
  · refine (po.map (keyAt knd)).trans (List.Perm.trans (List.Perm.of_eq ?_) pm)
    rw [List.map_map]
    exact List.map_congr_left fun e he => keyAt_eq (g e he).1
end
/-! ### the rules -/
instance : Inhabited L2.Key := ⟨.inl 0⟩
section
variable {X : Cx}
theorem key_row {ks : List L2.Key} {its : List Value} (r : Vals (ks.map kV) its) : ∀ (i : Nat) (v : Value), its.toArray[i]? = some v → ∃ k, ks[i]? = some k ∧ (mixKind X.prog X.w).is k v = true ∧ v.scannable = true := fun i v hv => by
  have hv2 : its[i]? = some v := by simpa using hv
  have hi : i < ks.length := by
    have := (List.getElem?_eq_some_iff.mp hv2).1
    rw [← r.length, List.length_map] at this
    exact this
  obtain ⟨u, hu, ru⟩ := r.get (i := i) (x := kV ks[i]) (by simp [hi])
  rw [hv2] at hu
  cases hu
  exact ⟨ks[i], List.getElem?_eq_getElem hi, kV_is ru, key_scan ru⟩
/-- a set of keys as a thing of the heap -/
def SetX (P : Program) (w : World) (a : Addr) (ks : List L2.Key) : HO := .ext fun h => SetM (mixKind P w) h a ks
theorem setX_ok {P : Program} {w : World} {H : Hp} {h : Heap} {a : Addr} {ks : List L2.Key} (R : SetM (mixKind P w) h a ks) : ObjOk P w H h a (SetX P w a ks) := by
  have ⟨ob, _, _, _, _, ho, _⟩ := R
  exact ⟨R, ⟨ob, ho⟩, fun h1 h2 p k => SetM.at p k⟩
theorem setX_get {pins : List (Addr × Obj)} {σ : L2.St} {H : Hp} {s : Shared} {a : Addr} {ks : List L2.Key} (I : Inv X pins σ H s) (ha : H a = some (SetX X.prog X.w a ks)) : SetM (mixKind X.prog X.w) s.heap a ks := (I.hok a _ ha).1
def rSetM (K : PySem.W.Frag) (P : Program) (w : World) : List V → Hp → VK → Prop := fun vs H Q => ∃ (l : Addr) (ks : List L2.Key), vs = [.ref l] ∧ SqL K H l (ks.map kV) ∧ ks.length + 1 < scanBound ∧ ∀ p, H p = none → Q (.ref p) (upd H p (SetX P w p (met ks)))
theorem cr_setM (hc : X.calm = true) : CallR X (.type "set") (rSetM X.K X.prog X.w) := by
  intro pins s σ H vs us Q I r h
  obtain ⟨l, ks, rfl, hq, hb, q⟩ := h
  rw [Vals.ref1 r]
  obtain ⟨its, rv, pl, hz⟩ := I.list hq
  have hl : its.toArray.size = ks.length := by rw [List.size_toArray, ← rv.length, List.length_map]
  refine call_set_keys (knd := mixKind X.prog X.w) (I.ok.hd hc) pl.isList hl.symm (key_row rv) (by rw [hl]; exact hb) fun g tk hS hk => ?_
  exact ⟨.ref _, upd H s.heap.objs.size (SetX X.prog X.w s.heap.objs.size (met ks)), I.laid (t' := tk) (fun b u e => hk b u (Heap.lt_size e) e) (Nat.le_refl _) (setX_ok hS), rfl, q _ (I.hok.fresh (Nat.le_refl _))⟩
def rLenM (P : Program) (w : World) : List V → Hp → VK → Prop := fun vs H Q => ∃ (a : Addr) (ks : List L2.Key), vs = [.ref a] ∧ H a = some (SetX P w a ks) ∧ Q (.int (ks.length : Nat)) H
theorem cr_lenM : CallR X (.builtin "len") (rLenM X.prog X.w) := by
  intro pins s σ H vs us Q I r h
  obtain ⟨a, ks, rfl, ha, q⟩ := h
  rw [Vals.ref1 r]
  obtain ⟨ob, es, ep, tb, kf, ho, hx, hd, g, pm, nd, hb, hf, _⟩ := setX_get I ha
  have hz := SetM.size pm
  have hb2 : (scanBound : Int) < 2 ^ 63 := by decide
  exact call_len_set ho hx hd hf (by omega) ⟨.int (ks.length : Nat), H, I.tok _, ⟨_, by rw [hz]⟩, q⟩
/-- a new list stands, all else as it was but what the machine keeps for itself -/
theorem sorted_done {pins : List (Addr × Obj)} {σ : L2.St} {H : Hp} {s s2 : Shared} {p : Addr} {xs : List V} {out : List Value} {c : Nat} {Q : VK} (I : Inv X pins σ H s) (k : ∀ b o, s.heap.get? b = some o → s2.heap.get? b = some o) (g : s2.gens = s.gens) (o : s2.os = s.os) (hp : s.heap.objs.size ≤ p)
    (hg : s2.heap.get? p = some (seqObj "list" out.toArray c)) (hl : xs.length ≤ sizeLine) (rv : Vals xs out) (q : H p = none → Q (.ref p) (upd H p (.lst xs))) : EP X pins σ Q (.ref p) s2 := by
  have hn : H p = none := I.hok.fresh hp
  have J : Inv X pins σ (upd H p (.lst xs)) { s with heap := s2.heap, gens := s2.gens, drawn := s2.drawn, toks := s2.toks } :=
    I.call (ch := []) (Un.laid k hp hn) (I.hok.laid k hp ⟨hl, out, c, rv, hg⟩) (by rw [g]; exact I.bare) (fun _ z => nomatch z)
  have e : s2 = { s with heap := s2.heap, gens := s2.gens, drawn := s2.drawn, toks := s2.toks } := by
    cases s2
    cases s
    cases o
    rfl
  rw [e]
  exact ⟨.ref p, _, J, rfl, q hn⟩
def rSortedMS (P : Program) (w : World) : List V → Hp → VK → Prop := fun vs H Q => ∃ (a : Addr) (xs : List Str), vs = [.ref a] ∧ H a = some (SetX P w a (xs.map Sum.inr)) ∧ ∀ p, H p = none → Q (.ref p) (upd H p (.lst ((sortS xs).map V.str)))
theorem cr_sortedMS (hc : X.calm = true) : CallR X (.builtin "sorted") (rSortedMS X.prog X.w) := by
  intro pins s σ H vs us Q I r h
  obtain ⟨a, xs, rfl, ha, q⟩ := h
  rw [Vals.ref1 r]
  have R := setX_get I ha
  have isS : ∀ v : Value, (∃ k ∈ xs.map (Sum.inr : Str → L2.Key), (mixKind X.prog X.w).is k v = true) → ∃ x t, v = .str x t := by
    rintro v ⟨k, hk, hv⟩
    obtain ⟨x, _, rfl⟩ := List.mem_map.mp hk
    have : v.isStr x = true := by rw [← (mixKind X.prog X.w).strs (.inr x) x 0 v (mixKind_str _ _ _ _)]; exact hv
    cases v <;> first | (cases this; done) | exact ⟨_, _, rfl⟩
  refine sorted_members R (I.ok.hd hc) swo_str (fun vs s1 b hv h2 => strs_sortable (fun v m => isS v (hv v m)) h2) fun s2 p out c k g o hp hg hi pk hs => ?_
  have ho : ∀ v ∈ out, ∃ x t, v = Value.str x t := fun v m => isS v (hi v m)
  have hkeys : out.map (keyAt (mixKind X.prog X.w)) = (out.map sv).map Sum.inr := by
    rw [List.map_map]
    refine List.map_congr_left fun v m => ?_
    obtain ⟨x, t, rfl⟩ := ho v m
    exact keyAt_eq (mixKind_str _ _ _ _)
  rw [hkeys] at pk
  have pk2 : (out.map sv).Perm xs := by
    have := pk.map (fun k : L2.Key => match k with | .inr x => x | .inl _ => Str.empty)
    rw [List.map_map, List.map_map] at this
    simpa [Function.comp_def] using this
  have ord : (out.map sv).Pairwise (fun x y => leS x y = true) := List.pairwise_map.mpr (hs.imp fun {x y} z => by unfold leS; rw [show ltS (sv y) (sv x) = false from z]; rfl)
  have same : out.map sv = sortS xs := perm_one (le := leS) leS_anti (pk2.trans (sortS_perm xs).symm) ord (sortS_ord xs)
  have hl : ((sortS xs).map V.str).length ≤ sizeLine := by
    obtain ⟨_, _, _, _, _, _, _, _, _, pm, _, hb, _⟩ := R
    rw [List.length_map, (sortS_perm xs).length_eq]
    rw [List.length_map] at hb
    exact Nat.le_trans (Nat.le_of_lt hb) (by decide)
  refine sorted_done I k g o hp hg hl ?_ (q p)
  rw [← same]
  exact vals_of_strs (strs_sv ho)
def rSortedS (K : PySem.W.Frag) : List V → Hp → VK → Prop := fun vs H Q => ∃ (a : Addr) (xs : List Str), vs = [.ref a] ∧ SqL K H a (xs.map V.str) ∧ ∀ p, H p = none → Q (.ref p) (upd H p (.lst ((sortS xs).map V.str)))
theorem cr_sortedS : CallR X (.builtin "sorted") (rSortedS X.K) := by
  intro pins s σ H vs us Q I r h
  obtain ⟨a, xs, rfl, hs, q⟩ := h
  obtain ⟨its, rv, hl, hz⟩ := I.list hs
  rw [Vals.ref1 r]
  have hi := rv.strs
  have isS := strs_mem hi
  refine SrtO.sorted_ord swo_str hl.isList (by rw [← rv.length]; exact hz) (fun h2 h₁ a' _ _ => strs_sortable isS h2) fun out h1 h2 => ?_
  have ho : ∀ v ∈ out, ∃ x t, v = Value.str x t := fun v m => isS v (h2.perm.mem_iff.mp m)
  have pk : (out.map sv).Perm xs := by
    have e : its.map sv = xs := strs_same (strs_sv isS) hi
    rw [← e]
    exact h2.perm.map sv
  have ord : (out.map sv).Pairwise (fun x y => leS x y = true) := List.pairwise_map.mpr (h1.imp fun {x y} z => by unfold leS; rw [show ltS (sv y) (sv x) = false from z]; rfl)
  have same : out.map sv = sortS xs := perm_one (le := leS) leS_anti (pk.trans (sortS_perm xs).symm) ord (sortS_ord xs)
  obtain ⟨ep, he'⟩ := PyProof.Rows.sortedAll_at s.heap its out.toArray
  have hlen : ((sortS xs).map V.str).length ≤ sizeLine := by
    rw [List.length_map, (sortS_perm xs).length_eq]
    rw [List.length_map] at hz
    exact hz
  exact ⟨.ref _, upd H (s.heap.objs.size + 1) (.lst ((sortS xs).map V.str)), I.laid (t' := s.toks) (fun _ _ => PyProof.Rows.sortedAll_old) (Nat.le_succ _) ⟨hlen, out, ep, by rw [← same]; exact vals_of_strs (strs_sv ho), he'⟩, rfl, q _ (I.hok.fresh (Nat.le_succ _))⟩
/-! ints -/
def rSortedMI (P : Program) (w : World) : List V → Hp → VK → Prop := fun vs H Q => ∃ (a : Addr) (xs : List Int), vs = [.ref a] ∧ H a = some (SetX P w a (xs.map Sum.inl)) ∧ ∀ p, H p = none → Q (.ref p) (upd H p (.lst ((sortI xs).map V.int)))
theorem cr_sortedMI (hc : X.calm = true) : CallR X (.builtin "sorted") (rSortedMI X.prog X.w) := by
  intro pins s σ H vs us Q I r h
  obtain ⟨a, xs, rfl, ha, q⟩ := h
  rw [Vals.ref1 r]
  have R := setX_get I ha
  have isI : ∀ v : Value, (∃ k ∈ xs.map (Sum.inl : Int → L2.Key), (mixKind X.prog X.w).is k v = true) → ∃ x t, v = .int x t := by
    rintro v ⟨k, hk, hv⟩
    obtain ⟨x, _, rfl⟩ := List.mem_map.mp hk
    cases v <;> first | (cases hv; done) | exact ⟨_, _, rfl⟩
  refine sorted_members R (I.ok.hd hc) SrtO.swo_int (fun vs s1 b hv h2 => SrtO.ints_sortable (SrtO.ints_iv fun v m => isI v (hv v m)) h2) fun s2 p out c k g o hp hg hi pk hs => ?_
  have ho : ∀ v ∈ out, ∃ x t, v = Value.int x t := fun v m => isI v (hi v m)
  have hkeys : out.map (keyAt (mixKind X.prog X.w)) = (out.map SrtO.iv).map Sum.inl := by
    rw [List.map_map]
    refine List.map_congr_left fun v m => ?_
    obtain ⟨x, t, rfl⟩ := ho v m
    exact keyAt_eq (mixKind_int _ _ _ _)
  rw [hkeys] at pk
  have pk2 : (out.map SrtO.iv).Perm xs := by
    have := pk.map (fun k : L2.Key => match k with | .inl x => x | .inr _ => 0)
    rw [List.map_map, List.map_map] at this
    simpa [Function.comp_def] using this
  have ord : (out.map SrtO.iv).Pairwise (fun x y => leI x y = true) := List.pairwise_map.mpr (hs.imp fun {x y} z => decide_eq_true (Int.not_lt.mp (of_decide_eq_false (p := SrtO.iv y < SrtO.iv x) z)))
  have same : out.map SrtO.iv = sortI xs := perm_one (le := leI) leI_anti (pk2.trans (sortI_perm xs).symm) ord (sortI_ord xs)
  have hl : ((sortI xs).map V.int).length ≤ sizeLine := by
    obtain ⟨_, _, _, _, _, _, _, _, _, pm, _, hb, _⟩ := R
    rw [List.length_map, (sortI_perm xs).length_eq]
    rw [List.length_map] at hb
    exact Nat.le_trans (Nat.le_of_lt hb) (by decide)
  refine sorted_done I k g o hp hg hl ?_ (q p)
  rw [← same]
  exact vals_of_ints (SrtO.ints_iv ho)
end
end F

/-! min(xs, default=c) of ints. -/
namespace F
open PySem PySem.Spec PyProof.Rows L2
section
variable {X : Cx}
theorem reads_ints {h : Heap} : ∀ {vs : List Value} {ns : List Int}, IntsAre vs ns → ReadsAll h vs (ns.map PyData.int) []
  | [], _, .nil => .nil
  | _ :: _, _, .cons n t r => by
    have := ReadsAll.cons (h := h) (Reads.int n t) (reads_ints (h := h) r)
    exact this
theorem alikeAll_ints (ns : List Int) : PySem.W.AlikeAll (ns.map PyData.int) := ⟨fun x hx y hy => by
  obtain ⟨a, _, rfl⟩ := List.mem_map.mp hx
  obtain ⟨b, _, rfl⟩ := List.mem_map.mp hy
  simp only [PySem.W.alike], fun x hx => by
  obtain ⟨a, _, rfl⟩ := List.mem_map.mp hx
  exact fun z => by cases z⟩
theorem depth_ints : ∀ ns : List Int, PyData.depthAll (ns.map PyData.int) = 0
  | [] => by unfold List.map PyData.depthAll; rfl
  | n :: ns => by rw [List.map_cons]; unfold PyData.depthAll; rw [depth_ints ns]; unfold PyData.depth; rfl
theorem reads_int {h : Heap} {v : Value} {n : Int} {bs : List Addr} (r : Reads h v (.int n) bs) : ∃ t, v = .int n t := by
  cases r
  exact ⟨_, rfl⟩
def rMinD (K : PySem.W.Frag) : List V → List V → Hp → VK → Prop := fun vs zs H Q => ∃ (a : Addr) (ns : List Int) (c : Int), vs = [V.ref a] ∧ zs = [V.int c] ∧ SqL K H a (ns.map V.int) ∧ Q (.int (minOr c ns)) H
theorem cr_minD (hc : X.calm = true) (hu : X.A.units + 1 < cLine) : CallRK X (.builtin "min") [Str.ofString "default"] (rMinD X.K) := by
  intro pins s σ H vs zs us ws Q I r rz h
  obtain ⟨a, ns, c, rfl, rfl, hs, q⟩ := h
  obtain rfl := Vals.ref1 r
  obtain ⟨w1, rfl, e1⟩ := vals1 rz
  obtain ⟨t1, rfl⟩ : ∃ t, w1 = Value.int c t := e1
  obtain ⟨its, rv, hl, hz⟩ := I.list hs
  have hi := rv.ints
  show wpAny (model X.prog X.w) X.A (call (.builtin "min") [.ref a] [(Str.ofString "default", .int c t1)]) (EP X pins σ Q) X.xe s
  refine PySem.W.min_list_default (I.ok.hd hc) hl.isList (by rw [List.toList_toArray]; exact reads_ints hi) (alikeAll_ints ns) (by rw [depth_ints]; exact hu) ?_ ?_
  · intro e h' tk hk
    have e2 : ns = [] := List.map_eq_nil_iff.mp e
    subst e2
    exact ⟨.int c, H, I.kept hk, ⟨t1, rfl⟩, q⟩
  · intro y ys i v h' tk bs e hv rd hk
    cases ns with
    | nil => cases e
    | cons n ns =>
      rw [List.map_cons] at e
      cases e
      rw [PySem.W.minD_ints] at rd
      obtain ⟨t, rfl⟩ := reads_int rd
      exact ⟨.int (minOr c (n :: ns)), H, I.kept hk, ⟨t, rfl⟩, q⟩
end
end F

/-! enumerate of a tuple. -/
namespace F
open PySem PySem.Spec PyProof.Rows L2
open PySem.AutoSeq1 (wpAny_loadPart')
theorem meets_enumerate_newT (l : Addr) (items : Array Value) (n : Nat) (dct : Option Addr) (sl : Array (Option Value)) :
    Meets (Builtin.«enumerate.__new__» ⟨[.type "enumerate", .ref l], []⟩) (fun _ R s => s.heap.get? l = some { cls := .type "tuple", dict := dct, data := .seq items n, slots := sl } ∧
      R (.ok (.ret (.ref (s.heap.push { cls := .type "tuple_iterator", data := .fields #[.ref l, .int 0 0] }).objs.size)))
        { s with heap := (s.heap.push { cls := .type "tuple_iterator", data := .fields #[.ref l, .int 0 0] }).push { cls := .type "enumerate", data := .fields #[.none, .bool false, .ref s.heap.objs.size, rawInt 0, .none, .none] } }) :=
  .of_wp fun prog w A R s h => by
    obtain ⟨hp, g, d, tk, os⟩ := s; obtain ⟨hl, h⟩ := h
    have hsub := sub_enumerate
    have hL : Heap.IsTuple (Shared.heap ⟨hp, g, d, tk, os⟩) l items := ⟨_, hl, rfl, n, rfl⟩
    wp_walk using wpAny_loadPart' hl
    refine wpAny_stack_any fun st => wpAny_pure ?_
    split
    · rename_i c _ _ _ _ _
      cases (c == Value.type "enumerate")
      · wp_walk using wpAny_loadPart' hl, wpAny_pyIter_tuple hL
        exact ⟨_, rfl, h⟩
      · wp_walk using wpAny_loadPart' hl, wpAny_pyIter_tuple hL
        exact ⟨_, rfl, h⟩
    · wp_walk using wpAny_loadPart' hl, wpAny_pyIter_tuple hL
      exact ⟨_, rfl, h⟩
section
variable {prog : Program} {w : World} {A : Around} {E : Value → Shared → Prop} {s : Shared}
theorem call_enumerate_tuple {l : Addr} {items : Array Value} {Q : Value → Shared → Prop} (hL : s.heap.IsTuple l items)
    (h : ∀ h', IsEnum h' (s.heap.objs.size + 1) s.heap.objs.size 0 .none → h'.IsTupleIter s.heap.objs.size l 0 → h'.objs.size = s.heap.objs.size + 2 →
      (∀ b o, s.heap.get? b = some o → h'.get? b = some o) → Q (.ref (s.heap.objs.size + 1)) { s with heap := h' }) :
    wpAny (model prog w) A (call (.type "enumerate") [.ref l]) Q E s := by
  obtain ⟨⟨c, dct, dt, sl⟩, hl, hc, n, hd⟩ := hL
  replace hc : c = .type "tuple" := hc
  replace hd : dt = .seq items n := hd
  subst hc hd
  refine callType_new F.called_enumerate (by decide) (F.typeCall_enumerate_1 _) (F.newCall_enumerate_1 _) (fun obj => F.args_object_init_2 obj _) F.entry_enumerate_new
    (meets_enumerate_newT l items n dct sl) ⟨hl, ?_⟩
  have hz : (s.heap.push { cls := .type "tuple_iterator", data := .fields #[.ref l, .int 0 0] }).objs.size = s.heap.objs.size + 1 := Heap.size_push ..
  show _ ∧ _
  rw [hz]
  have he : IsEnum ((s.heap.push { cls := .type "tuple_iterator", data := .fields #[.ref l, .int 0 0] }).push
      { cls := .type "enumerate", data := .fields #[.none, .bool false, .ref s.heap.objs.size, rawInt 0, .none, .none] }) (s.heap.objs.size + 1) s.heap.objs.size 0 .none := by
    have := Heap.get?_push_size (s.heap.push { cls := .type "tuple_iterator", data := .fields #[.ref l, .int 0 0] })
      (o := { cls := .type "enumerate", data := .fields #[.none, .bool false, .ref s.heap.objs.size, rawInt 0, .none, .none] }) rfl
    rw [hz] at this; exact this
  refine ⟨⟨_, he, rfl⟩, h _ he ⟨_, Heap.get?_push_of_some _ (Heap.get?_push_size _ rfl), rfl, rfl⟩ (by rw [Heap.size_push, hz]) fun b o x => Heap.get?_push_of_some _ (Heap.get?_push_of_some _ x)⟩
theorem pyNext_enumT_end {e it l : Addr} {i : Nat} {items : Array Value} {old : Value} {Q : Option Value → Shared → Prop} (hh : A.handled = none)
    (he : IsEnum s.heap e it i old) (hit : s.heap.IsTupleIter it l i) (hl : s.heap.IsTuple l items) (hx : items[i]? = none)
    (hQ : ∀ h', Heap.ExtBut it s.heap h' → Q none { s with heap := h' }) : wpAny (model prog w) A (pyNext (.ref e)) Q E s := by
  have hT : s.TypeIs (.ref e) "enumerate" := ⟨_, he, rfl⟩
  unfold pyNext
  refine wpAny_bind (wpAny_attempt (wpAny_callSpecial?_slot (name := Str.ofString "__next__") hT F.slot_enumerate_next
    (wpAny_call_entry F.slot_enumerate_next hT F.entry_enumerate_next ?_ (F.args_enumerate_next_1 _))))
  show wpAny _ _ (field (.ref e) 2 >>= _) _ _ _
  refine wpAny_bind (wpAny_field he rfl (x := .ref it) rfl ?_)
  refine wpAny_bind (wpAny_nextOf_tuple_end hh hit hl hx fun h' x he' hx' => ?_)
  obtain ⟨o, ho, hc⟩ := hx'
  refine wpAny_bind (wpAny_isInstance (T := "StopIteration") (b := true) ⟨o, ho, hc⟩ isSubtype_stop ?_)
  exact wpAny_pure (hQ _ he')
end
/-- the tuple at a, each item in a new pair -/
def IteT (K : PySem.W.Frag) (a : Addr) : L2.It :=
  ⟨fun i H => ∃ (xs : List V) (x : V), SqT K H a xs ∧ xs[i]? = some x, fun i H v H' => ∃ T x, v = .ref T ∧ H T = none ∧ H' = upd H T (.tup [.int (i : Nat), x]) ∧ ∀ xs, SqT K H a xs → xs[i]? = some x, fun i H => ∃ xs : List V, SqT K H a xs ∧ xs.length ≤ i⟩
theorem turn_enumT {P : Program} {w : World} {K : PySem.W.Frag} {elts : List Expr} {kk : Nat} {tpos : Pos} (a e it : Addr) (ha : a ≠ it) (hae : a ≠ e) :
    Turn P w K (.Tuple elts kk tpos) (IteT K a) [e, it] e (fun i h => (∃ old, IsEnum h e it ((i : Nat) : Int) old) ∧ h.IsTupleIter it a i ∧ e ≠ it) where
  mem := by simp
  obj := fun i h st b hb => by
    obtain ⟨⟨old, he⟩, ⟨o, ho, hc, hd⟩, _⟩ := st
    have e' : b = e ∨ b = it := by simpa using hb
    rcases e' with z | z
    · rw [z]; exact ⟨_, he, fun v q => nomatch q⟩
    · rw [z]; exact ⟨o, ho, fun v q => by rw [hd] at q; cases q⟩
  keep := fun i h h' st k => let ⟨⟨old, he⟩, hi, hne⟩ := st; ⟨⟨old, k e (by simp) _ he⟩, hi.at fun o q => k it (by simp) o q, hne⟩
  item := by
    intro X hP hw hK hc i pins s σ H E I hf st hg
    subst hP hw hK
    obtain ⟨⟨old, he⟩, hit, hne⟩ := st
    obtain ⟨xs, x, hq, hx⟩ := hg
    obtain ⟨its, rv, p, hz⟩ := I.tuple hq
    obtain ⟨u, hu, ru⟩ := rv.get hx
    have hel : e < s.heap.objs.size := Heap.lt_size he
    have hil : it < s.heap.objs.size := by obtain ⟨_, q, _⟩ := hit; exact Heap.lt_size q
    have hlt : i < its.toArray.size := by
      have := (List.getElem?_eq_some_iff.mp hu).1
      simpa using this
    have hhd : X.A.in1.handled = none := (I.ok.hd hc)
    refine wpAny_pyNext_enum_itemD (Draws.tuple hhd it a ha its.toArray) he ⟨hit, p⟩ hlt hne (by simp [hne, Ne.symm hae]) fun y h' tk hP ho hit' hT hsz hk => ?_
    have ey : y = u := by
      have : its.toArray[i]? = some u := by simpa using hu
      rw [this] at hP
      exact (Option.some.inj hP).symm
    subst ey
    refine ⟨_, rfl, wpAny_letOwnedTupleGo_enum (s := { s with heap := h', toks := tk + 1 }) ho fun h'' he' sb => ?_⟩
    have hT2 : h''.get? s.heap.objs.size = some { cls := .type "tuple", data := .seq #[.int i tk, y] } := (sb.2 _ (Nat.ne_of_gt hel)).trans hT
    have new : ObjOk X.prog X.w (upd H s.heap.objs.size (.tup [.int (i : Nat), x])) h'' s.heap.objs.size (.tup [.int (i : Nat), x]) :=
      ⟨by show 2 ≤ sizeLine; decide, [.int i tk, y], .cons ⟨_, rfl⟩ (.cons ru .nil), ⟨_, hT2, rfl, _, rfl⟩⟩
    have I1 : Inv X pins σ (upd H s.heap.objs.size (.tup [.int (i : Nat), x])) { s with heap := h'', toks := tk + 1 } :=
      I.turnedNew (ch := [e, it]) (fun b ob hb q => (sb.2 b (fun z => hb (by simp [z]))).trans (hk b ob (fun z => hb (by simp [z])) (fun z => hb (by simp [z])) q)) hf (Nat.le_refl _) new
    refine ⟨.ref s.heap.objs.size, _, I1, rfl, ⟨_, x, rfl, I.hok.fresh (Nat.le_refl _), rfl, fun ys hy => by rw [I.tuple_inj hy hq]; exact hx⟩, ⟨⟨y, ?_⟩, hit'.1.at fun o q => (sb.2 it (Ne.symm hne)).trans q, hne⟩, fun b hb => ?_⟩
    · have e1 : ((i + 1 : Nat) : Int) = (i : Int) + 1 := by omega
      rw [e1]; exact he'
    · have hb' : b < s.heap.objs.size := by
        have e' : b = e ∨ b = it := by simpa using hb
        rcases e' with z | z
        · rw [z]; exact hel
        · rw [z]; exact hil
      rw [upd_ne (Nat.ne_of_lt hb')]
      exact (hf b hb).1
  done := by
    intro X hP hw hK hc i pins s σ H E I hf st hg
    subst hP hw hK
    obtain ⟨⟨old, he⟩, hit, hne⟩ := st
    obtain ⟨xs, hq, hx⟩ := hg
    obtain ⟨its, rv, p, hz⟩ := I.tuple hq
    obtain ⟨f0, f1, f2, f3, f4, f5⟩ := hf it (by simp)
    have hl := rv.length
    exact pyNext_enumT_end (I.ok.hd hc) he hit p (by simp; omega) fun h' eb => ⟨rfl, I.turned (t' := s.toks) (fun b o hb q => eb b o hb q) f0 f1 f3 f4 f5⟩
  self := fun A i s Q E st h => let ⟨⟨_, he⟩, _⟩ := st; wpAny_pyIter_enum he h
/-- enumerate of a list or of a tuple -/
def iEnumA (K : PySem.W.Frag) (ta : TA) : TI := fun σ H R => ta σ H fun vs H1 => ∃ a xs, vs = [.ref a] ∧ ((SqL K H1 a xs ∧ R (Ite K a) H1) ∨ (SqT K H1 a xs ∧ R (IteT K a) H1))
theorem pi_enumA {X : Cx} {e : Expr} {ta : TA} {p pos tpos : Pos} {elts : List Expr} {kk : Nat} (hg : Gl X "enumerate") (hm : X.mg "enumerate" = none) (ha : PA X [e] ta) (hs : starEach [e] X.env = [(false, eval e X.env)] := by rfl) :
    PI X (.Tuple elts kk tpos) (.Call (.Name "enumerate" p) [e] [] pos) (iEnumA X.K ta) := by
  refine ⟨fun pins s σ H R I h => ?_⟩
  refine Call_ (ld_blt I hg hm boot_enumerate (PyProof.Rows.callWith_type1 (thn (ha.run pos pins s σ H _ I h) fun us s1 ⟨vs, H1, I1, r1, q1⟩ => ?_) hs rfl))
  obtain ⟨a, xs, ex, q1⟩ := q1
  subst ex
  cases r1 with
  | cons r rr =>
    cases rr
    cases r
    have fp : ∀ b ∈ [s1.heap.objs.size + 1, s1.heap.objs.size], s1.heap.objs.size ≤ b := fun b hb => by
      have e' : b = s1.heap.objs.size + 1 ∨ b = s1.heap.objs.size := by simpa using hb
      rcases e' with z | z
      · rw [z]; exact Nat.le_add_right _ _
      · rw [z]; exact Nat.le_refl _
    rcases q1 with ⟨hq, q⟩ | ⟨hq, q⟩
    · obtain ⟨its, rv, p', hz⟩ := I1.list hq
      refine call_enumerate_list p'.isList fun h' he hit hsz hk => wpAny_pyIter_enum he ?_
      have I2 : Inv X pins σ H1 { s1 with heap := h' } := I1.kept (t' := s1.toks) hk
      exact ⟨s1.heap.objs.size + 1, [s1.heap.objs.size + 1, s1.heap.objs.size], _, _, H1, rfl, I2, turn_enum a (s1.heap.objs.size + 1) s1.heap.objs.size, ⟨⟨.none, he⟩, hit, Nat.succ_ne_self _⟩, fun b hb => I1.fpOk (fp b hb) (I1.hok.fresh (fp b hb)), q⟩
    · obtain ⟨its, rv, p', hz⟩ := I1.tuple hq
      have hlt : a < s1.heap.objs.size := by obtain ⟨o, e, _⟩ := p'; exact Heap.lt_size e
      refine call_enumerate_tuple p' fun h' he hit hsz hk => wpAny_pyIter_enum he ?_
      have I2 : Inv X pins σ H1 { s1 with heap := h' } := I1.kept (t' := s1.toks) hk
      exact ⟨s1.heap.objs.size + 1, [s1.heap.objs.size + 1, s1.heap.objs.size], _, _, H1, rfl, I2, turn_enumT a (s1.heap.objs.size + 1) s1.heap.objs.size (Nat.ne_of_lt hlt) (Nat.ne_of_lt (Nat.lt_succ_of_lt hlt)), ⟨⟨.none, he⟩, hit, Nat.succ_ne_self _⟩, fun b hb => I1.fpOk (fp b hb) (I1.hok.fresh (fp b hb)), q⟩
end F

/-! A functional reading of the Python that the program and the laws use: values as trees, a store of lists and dicts, evaluation as a plain function; below, that it is what the machine does. -/
namespace F
open PySem PySem.Spec PyProof.Rows L2

/-- a value: tuples are trees, lists and dicts stand in the store -/
inductive D where
  | non | bl (b : Bool) | int (i : Int) | str (x : Str) | tup (ds : List D) | ktup (ds : List D) | rol (ds : List D) | ref (n : Nat)
  deriving Inhabited
/-- what an expression hands on: a value, or a list that nobody holds yet -/
inductive T where
  | d (x : D) | tmp (ds : List D)
inductive O where
  | lst (ds : List D) | dK (kvs : List (Key × D)) | dT (kvs : List (List Key × D))
  | fK (kvs : List (Key × D)) | fT (kvs : List (List Key × D)) -- while a loop walks it: read, not written
  | obj (c : Str) (fs : List (Str × D)) -- an instance of the class named so
abbrev Store := List O
abbrev Env := List (Option D)

inductive Ty where | str | int | bool | tuple | list
  deriving DecidableEq
inductive Prim where
  | add | sub | mul | fdiv | mod | pow | neg
  | lt | le | gt | ge | eq | ne | isN (neg : Bool) | isB (neg b : Bool) | isin (neg : Bool)
  | len | abs | min2 | max2 | int1
  | item | slice (lo hi : Bool)
  | all | any | tuple | list | join | inst (t : Ty) | append | sindex | popAt | tupRange | rev
  | lenSet | sortedSet | sorted | minD | get1 | get2 | setdef
  | extend | insert | popEnd | tupRev | dictP | minL | maxL
  | sortR | maxR | reprC (neg : Bool)
  deriving DecidableEq

mutual
inductive Ex where
  | c (x : D) | v (i : Nat) | g (j : Nat)
  | prim (p : Prim) (as : Exs)
  | tup (as : Exs) | lst (as : Exs)
  | dK | dT | disp (k v : Ex)
  | and (as : Exs) | or (as : Exs) | not (a : Ex) | ite (t a b : Ex)
  | chain (p q : Prim) (a b c : Ex)
  | meth (p : Prim) (o : Ex) (as : Exs)
  | call (f : Nat) (as : Exs)
  | fld (cs : List Str) (o : Ex) (f : Str)
  | mcall (tb : List (Str × Nat)) (o : Ex) (m : Str) (as : Exs)
  | make (c : Str) (i : Nat) (as : Exs)
  | lc (elt : Ex) (tg : Tg) (it : It) (cond : Exs) (own : List Nat)
inductive Exs where
  | nil | cons (a : Ex) (as : Exs)
inductive It where
  | seq (a : Ex) | range1 (a : Ex) | range2 (a b : Ex) | zip (a b : Ex) | enum (a : Ex)
  | range3 (a b c : Ex) | revd (a : Ex) | keys (a : Ex) | vals (a : Ex) | items (a : Ex)
inductive Tg where
  | n (i : Nat) | tup (ts : Tgs) | sub (o i : Ex)
inductive Tgs where
  | nil | cons (t : Tg) (ts : Tgs)
end
mutual
inductive Stm where
  | asg (t : Tg) (e : Ex)
  | par (js : List Nat) (as : Exs)
  | fasg (cs : List Str) (o : Ex) (f : Str) (e : Ex)
  | expr (e : Ex)
  | ret (e : Ex) | retN
  | ite (c : Ex) (a b : Stms)
  | for (t : Tg) (it : It) (b : Stms)
  | while (c : Ex) (b : Stms)
  | pass | brk | cont
inductive Stms where
  | nil | cons (s : Stm) (ss : Stms)
end
inductive Out where
  | nx (ρ : Env) | rt (x : D) | bk (ρ : Env) | ct (ρ : Env)

/-! ### the operations -/
def norm : T → Store → D × Store
  | .d x, S => (x, S)
  | .tmp ds, S => (.ref S.length, S ++ [.lst ds])
def lstOf (S : Store) : T → Option (List D)
  | .tmp ds => some ds
  | .d (.rol ds) => some ds
  | .d (.ref n) => match S[n]? with | some (.lst ds) => some ds | _ => none
  | _ => none
def tupOf : T → Option (List D)
  | .d (.tup ds) => some ds
  | .d (.ktup ds) => some ds
  | _ => none
def seqOf (S : Store) (t : T) : Option (List D) := match lstOf S t with | some ds => some ds | none => tupOf t
/-- as data, for == -/
def pdL (f : D → Option PyData) : List D → Option (List PyData)
  | [] => some []
  | d :: ds => match f d, pdL f ds with | some x, some xs => some (x :: xs) | _, _ => none
def pdD (S : Store) : Nat → D → Option PyData
  | 0, _ => none
  | _ + 1, .non => some .none
  | _ + 1, .bl b => some (.bool b)
  | _ + 1, .int i => some (.int i)
  | _ + 1, .str x => some (.str x)
  | n + 1, .tup ds => (pdL (pdD S n) ds).map .tuple
  | n + 1, .ktup ds => (pdL (pdD S n) ds).map .tuple
  | n + 1, .rol ds => (pdL (pdD S n) ds).map .list
  | n + 1, .ref k => match S[k]? with | some (.lst ds) => (pdL (pdD S n) ds).map .list | _ => none
def pdT (S : Store) : T → Option PyData
  | .d x => pdD S 60 x
  | .tmp ds => (pdL (pdD S 59) ds).map .list
def flat : D → Bool
  | .non => true | .bl _ => true | .int _ => true | .str _ => true | _ => false
def intsOf : List D → Option (List Int)
  | [] => some []
  | .int i :: r => (intsOf r).map (i :: ·)
  | _ :: _ => none
def boolsOf : List D → Option (List Bool)
  | [] => some []
  | .bl i :: r => (boolsOf r).map (i :: ·)
  | _ :: _ => none
def strsOf : List D → Option (List Str)
  | [] => some []
  | .str i :: r => (strsOf r).map (i :: ·)
  | _ :: _ => none
def keyOf : D → Option Key
  | .int i => some (.inl i) | .str x => some (.inr x) | _ => none
def keysOf : List D → Option (List Key)
  | [] => some []
  | d :: r => match keyOf d, keysOf r with | some k, some ks => some (k :: ks) | _, _ => none
def lookK {κ : Type} [DecidableEq κ] (kvs : List (κ × D)) (k : κ) : Option D := (kvs.find? fun kv => decide (kv.1 = k)).map (·.2)
def storeK {κ : Type} [DecidableEq κ] (kvs : List (κ × D)) (k : κ) (v : D) : List (κ × D) :=
  if (kvs.any fun kv => decide (kv.1 = k)) = true then kvs.map fun kv => if kv.1 = k then (kv.1, v) else kv else kvs ++ [(k, v)]
/-- a key's value in a dict of the store: the dict must be there -/
def dLook (S : Store) (n : Nat) (k : D) : Option (Option D) :=
  match S[n]?, k with
  | some (.dK kvs), k => (keyOf k).map (lookK kvs)
  | some (.fK kvs), k => (keyOf k).map (lookK kvs)
  | some (.dT kvs), .tup ks => (keysOf ks).map (lookK kvs)
  | some (.fT kvs), .tup ks => (keysOf ks).map (lookK kvs)
  | _, _ => none
def ix {α : Type} (xs : List α) (i : Int) : Option α := atI xs i
def isTy : Ty → D → Store → Option Bool
  | .str, .str _, _ => some true
  | .int, .int _, _ => some true
  | .int, .bl _, _ => some true
  | .bool, .bl _, _ => some true
  | .tuple, .tup _, _ => some true
  | .tuple, .ktup _, _ => some true
  | .list, .rol _, _ => some true
  | .list, .ref n, S => match S[n]? with | some (.lst _) => some true | some _ => some false | none => none
  | _, .ref n, S => match S[n]? with | some _ => some false | none => none
  | _, _, _ => some false
def cmpI : Prim → Int → Int → Option Bool
  | .lt, i, j => some (decide (i < j))
  | .le, i, j => some (decide (i ≤ j))
  | .gt, i, j => some (decide (j < i))
  | .ge, i, j => some (decide (j ≤ i))
  | _, _, _ => none
/-- a list that stands in the heap by itself -/
def lstM (S : Store) : T → Option (List D)
  | .tmp ds => some ds
  | .d (.ref n) => match S[n]? with | some (.lst ds) => some ds | _ => none
  | _ => none
def addT (S : Store) : T → T → Option T
  | .d (.int i), .d (.int j) => some (.d (.int (i + j)))
  | .d (.str x), .d (.str y) => if x.length + y.length ≤ sizeLine then some (.d (.str (x ++ y))) else none
  | .d (.tup xs), .d (.tup ys) => if xs.length + ys.length ≤ sizeLine then some (.d (.tup (xs ++ ys))) else none
  | a, b => match lstM S a, lstM S b with
    | some xs, some ys => if xs.length + ys.length ≤ sizeLine then some (.tmp (xs ++ ys)) else none
    | _, _ => none
def int1F (g : Int → Option T) : T → Option T
  | .d (.int i) => g i
  | _ => none
def int2 (g : Int → Int → Option T) : T → T → Option T
  | .d (.int i), .d (.int j) => g i j
  | _, _ => none
def bl1 (g : Bool → T) : T → Option T
  | .d (.bl b) => some (g b)
  | _ => none
def tI (i : Int) : Option T := some (.d (.int i))
def tBl (b : Bool) : Option T := some (.d (.bl b))
def mulT (S : Store) : T → T → Option T
  | .d (.int i), .d (.int j) => if i.natAbs.log2 + j.natAbs.log2 < 1000000 then tI (i * j) else none
  | .d (.str x), .d (.int j) => if 0 ≤ j ∧ j ≤ 10000 ∧ x.length ≤ 1000 then some (.d (.str (Txt.mul x j))) else none
  | .d (.tup ds), .d (.int k) => if ds.isEmpty = false ∧ 2 ≤ k ∧ k ≤ 1000 ∧ ds.length ≤ 1000 then some (.d (.tup (List.replicate k.toNat ds).flatten)) else none
  | a, .d (.int k) => match lstM S a with
    | some ds => if -(2 ^ 63) ≤ k ∧ k < 2 ^ 63 ∧ ds.length * k.toNat ≤ sizeLine then some (.tmp (List.replicate k.toNat ds).flatten) else none
    | none => none
  | _, _ => none
def fdivI (i j : Int) : Option T := if 0 < j ∧ j.natAbs.log2 < 9000 then tI (i / j) else none
def modI (i j : Int) : Option T := if 0 < j then tI (i % j) else none
def CPowW (i j : Int) : Prop := 0 ≤ j ∧ ((Builtin.Int.intBits i : Nat) : Int) * j ≤ 2 ^ 27
instance (i j : Int) : Decidable (CPowW i j) := by unfold CPowW; exact inferInstance
def powI (i j : Int) : Option T := if CPowW i j then tI (i ^ j.toNat) else none
def eqT (neg : Bool) (S : Store) (a b : T) : Option T := match pdT S a, pdT S b with
  | some p, some q => tBl (PyData.eqv p q != neg)
  | _, _ => none
/-- the order of tuples (as data) -/
def dcmpT (f : PyData → PyData → Bool) (S : Store) (xs ys : List D) : Option T := match pdL (pdD S 59) xs, pdL (pdD S 59) ys with
  | some ps, some qs => if PySem.W.alike (.tuple ps) (.tuple qs) = true then tBl (f (.tuple ps) (.tuple qs)) else none
  | _, _ => none
def cmpT (g : Int → Int → Bool) (f : PyData → PyData → Bool) (S : Store) : T → T → Option T
  | .d (.int i), .d (.int j) => tBl (g i j)
  | .d (.tup xs), .d (.tup ys) => dcmpT f S xs ys
  | _, _ => none
def ltT (S : Store) : T → T → Option T
  | .d (.int i), .d (.int j) => tBl (decide (i < j))
  | .d (.str i), .d (.str j) => tBl (decide (i.cps.toList < j.cps.toList))
  | .d (.tup xs), .d (.tup ys) => dcmpT PySem.W.dataLt S xs ys
  | _, _ => none
def isNon : T → Bool
  | .d .non => true
  | _ => false
def sliceT (S : Store) (a : T) (lo hi : Option Int) : Option T := match a with
  | .d (.str z) => if z.length ≤ sizeLine then some (.d (.str (cutS z lo hi))) else none
  | a => match tupOf a with
    | some xs => if HT.sIx xs.length 0 lo = 0 ∧ HT.sIx xs.length xs.length hi = xs.length then (match a with | .d x => some (.d x) | _ => none) else some (.d (.tup ((xs.drop (HT.sIx xs.length 0 lo)).take (HT.sIx xs.length xs.length hi - HT.sIx xs.length 0 lo))))
    | none => match lstOf S a with
      | some xs => some (.tmp ((xs.drop (HT.sIx xs.length 0 lo)).take (HT.sIx xs.length xs.length hi - HT.sIx xs.length 0 lo)))
      | none => none
/-- == of flat values -/
def eqF : D → D → Bool
  | .non, .non => true
  | .bl a, .bl b => a == b
  | .bl a, .int b => (if a then 1 else 0) == b
  | .int a, .bl b => a == (if b then 1 else 0)
  | .int a, .int b => a == b
  | .str a, .str b => a == b
  | _, _ => false
def inL (S : Store) (x : D) (ds : List D) : Option Bool := match pdD S 59 x, pdL (pdD S 59) ds with
  | some p, some ps => some (ps.any fun z => PyData.eqv z p)
  | _, _ => none
def inT (S : Store) : T → T → Option Bool
  | .d (.str x), .d (.str y) => some (!(Builtin.Str.occurrences y x 0 y.length 1).isEmpty)
  | .d x, .d (.ref n) => match S[n]? with
    | some (.lst ds) => inL S x ds
    | some _ => (dLook S n x).map (·.isSome)
    | none => none
  | .d x, .d (.rol ds) => inL S x ds
  | .d x, .tmp ds => inL S x ds
  | .d x, .d (.tup ds) => if flat x = true ∧ ds.all flat = true then some (ds.any fun z => eqF z x) else none
  | .d x, .d (.ktup ds) => if flat x = true ∧ ds.all flat = true then some (ds.any fun z => eqF z x) else none
  | _, _ => none
def itemT (S : Store) : T → T → Option D
  | .d (.str z), .d (.int i) => if z.length ≤ sizeLine then (atI z.cps.toList i).map fun c => .str ⟨#[c]⟩ else none
  | a, b => match seqOf S a, b with
    | some ds, .d (.int i) => atI ds i
    | none, .d k => match a with | .d (.ref n) => (dLook S n k).join | _ => none
    | _, _ => none
def lenT (S : Store) : T → Option Int
  | .d (.str z) => if z.length ≤ sizeLine then some z.length else none
  | .d (.ref n) => match S[n]? with | some (.lst ds) => some ds.length | some (.dK kvs) => some kvs.length | some (.fK kvs) => some kvs.length | _ => none
  | t => (seqOf S t).map fun ds => (ds.length : Int)
def bT (b : Option Bool) (neg : Bool) : Option T := match b with
  | some c => tBl (c != neg)
  | none => none
def slT (S : Store) : Bool → Bool → T → List T → Option T
  | false, false, a, [] => sliceT S a none none
  | true, false, a, [b] => int1F (fun i => sliceT S a (some i) none) b
  | false, true, a, [b] => int1F (fun j => sliceT S a none (some j)) b
  | true, true, a, [b, c] => int2 (fun i j => sliceT S a (some i) (some j)) b c
  | _, _, _, _ => none
def allT (g : List Bool → Bool) (S : Store) (a : T) : Option T := match lstOf S a with
  | some ds => match boolsOf ds with
    | some bs => tBl (g bs)
    | none => none
  | none => none
def tupleT (S : Store) (a : T) : Option T := match lstOf S a with
  | some ds => some (.d (.tup ds))
  | none => none
def listT (S : Store) (a : T) : Option T := match seqOf S a with
  | some ds => some (.tmp ds)
  | none => match a with
    | .d (.str x) => if x.length ≤ sizeLine then some (.tmp (x.cps.toList.map fun c => D.str ⟨#[c]⟩)) else none
    | _ => none
def lenSetT (S : Store) (a : T) : Option T := match lstOf S a with
  | some ds => match keysOf ds with
    | some ks => if ks.length ≤ 4000 then some (.d (.int ((met ks).length : Nat))) else none
    | none => none
  | none => none
def sortedSetT (S : Store) (a : T) : Option T := match lstOf S a with
  | some ds => match strsOf ds with
    | some xs => if xs.length ≤ 4000 then some (.tmp ((sortS (met xs)).map .str)) else none
    | none => match intsOf ds with
      | some ns => if ns.length ≤ 4000 then some (.tmp ((sortI (met ns)).map .int)) else none
      | none => none
  | none => none
def alikeB (ps : List PyData) : Bool := ps.all fun x => ps.all fun y => PySem.W.alike x y
def tupPB : PyData → Bool
  | .tuple (_ :: _) => true | _ => false
def nonPB : PyData → Bool
  | .none => false | _ => true
def othPB : PyData → Bool
  | .none => false | .tuple _ => false | _ => true
def pdOf (S : Store) (d : D) : PyData := (pdD S 59 d).getD .none
def leD (S : Store) (x y : D) : Bool := PySem.W.dataLe false (pdOf S) x y
def ltD (S : Store) (x y : D) : Bool := PySem.W.dataLt (pdOf S x) (pdOf S y)
def sortDD (S : Store) (ds : List D) : List D := ds.mergeSort (leD S)
def minDD (S : Store) (d : D) (ds : List D) : D := ds.foldl (fun a y => if ltD S y a then y else a) d
def maxDD (S : Store) (d : D) (ds : List D) : D := ds.foldl (fun a y => if ltD S a y then y else a) d
def sortedT (S : Store) (a : T) : Option T := match lstOf S a with
  | some ds => match strsOf ds with
    | some xs => some (.tmp ((sortS xs).map .str))
    | none => match intsOf ds with
      | some ns => some (.tmp ((sortI ns).map .int))
      | none => match pdL (pdD S 59) ds with
        | some ps => if alikeB ps = true ∧ (ps.all tupPB = true ∨ ps.all othPB = true) ∧ ds.length ≤ sizeLine then some (.tmp (sortDD S ds)) else none
        | none => none
  | none => none
def minLT (mx : Bool) (S : Store) (a : T) : Option T := match lstOf S a with
  | some (d :: ds) => match pdL (pdD S 59) (d :: ds) with
    | some ps => if alikeB ps = true ∧ ps.all nonPB = true then some (.d (if mx then maxDD S d ds else minDD S d ds)) else none
    | none => none
  | _ => none
/-- by the third part of a tuple and then the second -/
def rankD (d : D) : Option (Int × Int) := match tupOf (.d d) with
  | some ds => match (ds[2]? : Option D), (ds[1]? : Option D) with
    | some (D.int a), some (D.int b) => some (a, b)
    | _, _ => none
  | none => none
def rkOf (d : D) : Int × Int := (rankD d).getD (0, 0)
def rkLe (x y : D) : Bool := decide ((rkOf x).1 < (rkOf y).1 ∨ ((rkOf x).1 = (rkOf y).1 ∧ (rkOf x).2 ≤ (rkOf y).2))
def rkLt (x y : D) : Bool := decide ((rkOf x).1 < (rkOf y).1 ∨ ((rkOf x).1 = (rkOf y).1 ∧ (rkOf x).2 < (rkOf y).2))
def sortRk (ds : List D) : List D := ds.mergeSort rkLe
def maxRk (d : D) (ds : List D) : D := ds.foldl (fun a y => if rkLt a y then y else a) d
def ranked (ds : List D) : Bool := ds.all fun d => (rankD d).isSome
def sortRkT (S : Store) (a : T) : Option T := match seqOf S a with
  | some ds => if ranked ds = true ∧ ds.length ≤ sizeLine then some (.tmp (sortRk ds)) else none
  | none => none
def maxRkT (S : Store) (a : T) : Option T := match lstOf S a with
  | some [] => some (.d .non)
  | some (d :: ds) => if ranked (d :: ds) = true then some (.d (maxRk d ds)) else none
  | none => none
/-- repr(a) == repr(b), told of the same things alone -/
noncomputable def reprCT (neg : Bool) (S : Store) (a b : T) : Option T := match pdT [] a, pdT S b with
  | some p, some q => open Classical in if p = q ∧ p.showable = true ∧ p.hasDict = false ∧ p.shown.length ≤ sizeLine then some (.d (.bl (!neg))) else none
  | _, _ => none
def minDT (S : Store) (a b : T) : Option T := match lstOf S a, b with
  | some ds, .d (.int c) => match intsOf ds with
    | some ns => some (.d (.int (minOr c ns)))
    | none => none
  | _, _ => none
def get1T (S : Store) : T → T → Option T
  | .d (.ref n), .d k => (dLook S n k).map fun o => .d (o.getD .non)
  | _, _ => none
def get2T (S : Store) : T → T → T → Option T
  | .d (.ref n), .d k, t => match dLook S n k with
    | some (some d) => some (.d d)
    | some none => some t
    | none => none
  | _, _, _ => none
def joinT (S : Store) : T → T → Option T
  | .d (.str x), a => match seqOf S a with
    | some ds => match strsOf ds with
      | some ys => if (ys.map (·.length)).sum + ys.length * x.length ≤ 16777216 then some (.d (.str (Txt.join x ys))) else none
      | none => none
    | none => none
  | _, _ => none
def instT (t : Ty) (S : Store) : T → Option T
  | .d x => match isTy t x S with
    | some b => tBl b
    | none => none
  | _ => none
def sindexT : T → T → Option T
  | .d (.str a), .d (.str b) => match Builtin.Str.occurrences a b 0 a.length 1 with
    | i :: _ => tI (i : Nat)
    | [] => none
  | _, _ => none
def tupRangeT : T → T → T → Option T
  | .d (.int a), .d (.int b), .d (.int c) => if 0 < c ∧ c < 1073741824 ∧ Builtin.Range.small a b c = true ∧ (Builtin.Range.rangeSize a b c).toNat ≤ 16777216 then some (.d (.tup ((List.range (Builtin.Range.rangeSize a b c).toNat).map fun (k : Nat) => D.int (a + k * c)))) else none
  | _, _, _ => none
def revT (S : Store) (a : T) : Option T := match lstOf S a with
  | some ds => some (.tmp ds.reverse)
  | none => match tupOf a with
    | some ds => some (.d (.tup ds.reverse))
    | none => none
/-- tuple(reversed(a)) -/
def tupRevT (S : Store) (a : T) : Option T := match lstOf S a with
  | some ds => some (.d (.tup ds.reverse))
  | none => none
/-- the pairs of a list, as keys and values -/
def pairsOf : List D → Option (List (Key × D))
  | [] => some []
  | .tup [k, v] :: r => match keyOf k, pairsOf r with | some q, some kvs => some ((q, v) :: kvs) | _, _ => none
  | _ :: _ => none
def mergeD (kvs : List (Key × D)) : List (Key × D) := kvs.foldl (fun m kv => storeK m kv.1 kv.2) []
def lenR (S : Store) (a : T) : Option T := match lenT S a with
  | some i => tI i
  | none => none
def itemR (S : Store) (a b : T) : Option T := match itemT S a b with
  | some x => some (.d x)
  | none => none
/-- what an operation answers, the store as it is -/
noncomputable def pureR : Prim → List T → Store → Option T
  | .add, [a, b], S => addT S a b
  | .sub, [a, b], _ => int2 (fun i j => tI (i - j)) a b
  | .mul, [a, b], S => mulT S a b
  | .fdiv, [a, b], _ => int2 fdivI a b
  | .mod, [a, b], _ => int2 modI a b
  | .pow, [a, b], _ => int2 powI a b
  | .neg, [a], _ => int1F (fun i => tI (-i)) a
  | .lt, [a, b], S => ltT S a b
  | .le, [a, b], S => cmpT (fun i j => decide (i ≤ j)) (fun p q => !PySem.W.dataLt q p) S a b
  | .gt, [a, b], S => cmpT (fun i j => decide (j < i)) (fun p q => PySem.W.dataLt q p) S a b
  | .ge, [a, b], S => cmpT (fun i j => decide (j ≤ i)) (fun p q => !PySem.W.dataLt p q) S a b
  | .sortR, [a], S => sortRkT S a
  | .maxR, [a], S => maxRkT S a
  | .reprC neg, [a, b], S => reprCT neg S a b
  | .eq, [a, b], S => eqT false S a b
  | .ne, [a, b], S => eqT true S a b
  | .isN neg, [a], _ => tBl (isNon a != neg)
  | .isB neg b, [a], _ => bl1 (fun c => .d (.bl (decide (c = b) != neg))) a
  | .isin neg, [a, b], S => bT (inT S a b) neg
  | .len, [a], S => lenR S a
  | .abs, [a], _ => int1F (fun i => tI (if i < 0 then -i else i)) a
  | .min2, [a, b], _ => int2 (fun i j => tI (if j < i then j else i)) a b
  | .max2, [a, b], _ => int2 (fun i j => tI (if j > i then j else i)) a b
  | .int1, [a], _ => bl1 (fun b => .d (.int (if b then 1 else 0))) a
  | .item, [a, b], S => itemR S a b
  | .slice lo hi, a :: r, S => slT S lo hi a r
  | .all, [a], S => allT (fun bs => bs.all id) S a
  | .any, [a], S => allT (fun bs => bs.any id) S a
  | .tuple, [a], S => tupleT S a
  | .list, [a], S => listT S a
  | .join, [a, b], S => joinT S a b
  | .inst t, [a], S => instT t S a
  | .sindex, [a, b], _ => sindexT a b
  | .tupRange, [a, b, c], _ => tupRangeT a b c
  | .rev, [a], S => revT S a
  | .lenSet, [a], S => lenSetT S a
  | .sortedSet, [a], S => sortedSetT S a
  | .sorted, [a], S => sortedT S a
  | .minD, [a, b], S => minDT S a b
  | .minL, [a], S => minLT false S a
  | .maxL, [a], S => minLT true S a
  | .tupRev, [a], S => tupRevT S a
  | .get1, [a, b], S => get1T S a b
  | .get2, [a, b, c], S => get2T S a b c
  | _, _, _ => none
def appendT (S : Store) : T → T → Option (T × Store)
  | .d (.ref n), .d x => match S[n]? with
    | some (.lst ds) => if ds.length < sizeLine then some (.d .non, S.set n (.lst (ds ++ [x]))) else none
    | _ => none
  | _, _ => none
def popAtT (S : Store) : T → T → Option (T × Store)
  | .d (.ref n), .d (.int i) => match S[n]? with
    | some (.lst (d :: ds)) => if i = 0 then some (.d d, S.set n (.lst ds)) else none
    | _ => none
  | _, _ => none
def popEndT (S : Store) : T → Option (T × Store)
  | .d (.ref n) => match S[n]? with
    | some (.lst ds) => match ds.getLast? with
      | some d => some (.d d, S.set n (.lst ds.dropLast))
      | none => none
    | _ => none
  | _ => none
def extendT (S : Store) : T → T → Option (T × Store)
  | .d (.ref n), b => match S[n]?, lstM S b with
    | some (.lst ds), some es => if ds.length + es.length ≤ sizeLine then some (.d .non, S.set n (.lst (ds ++ es))) else none
    | _, _ => none
  | _, _ => none
def insertT (S : Store) : T → T → T → Option (T × Store)
  | .d (.ref n), .d (.int i), t => match (norm t S).2[n]? with
    | some (.lst ds) => if ds.length < sizeLine ∧ 0 ≤ i ∧ i < 9223372036854775808 then some (.d .non, (norm t S).2.set n (.lst (ds.take i.toNat ++ [(norm t S).1] ++ ds.drop i.toNat))) else none
    | _ => none
  | _, _, _ => none
/-- dict(pairs) -/
def dictPT (S : Store) (a : T) : Option (T × Store) := match lstOf S a with
  | some ds => match pairsOf ds with
    | some kvs => some (.d (.ref S.length), S ++ [.dK (mergeD kvs)])
    | none => none
  | none => none
/-- d.setdefault(k, x) -/
def setdefT (S : Store) : T → T → T → Option (T × Store)
  | .d (.ref n), .d k, t => match S[n]? with
    | some (.dK kvs) => match keyOf k with
      | some q => if kvs.length < sizeLine then
          match lookK kvs q with
          | some d => some (.d d, S)
          | none => some (.d (norm t S).1, (norm t S).2.set n (.dK (storeK kvs q (norm t S).1)))
        else none
      | none => none
    | some (.dT kvs) => match k with
      | .tup ks => match keysOf ks with
        | some q => if kvs.length < sizeLine then
            match lookK kvs q with
            | some d => some (.d d, S)
            | none => some (.d (norm t S).1, (norm t S).2.set n (.dT (storeK kvs q (norm t S).1)))
          else none
        | none => none
      | _ => none
    | _ => none
  | _, _, _ => none
noncomputable def Prim.run : Prim → List T → Store → Option (T × Store)
  | .setdef, [a, b, c], S => setdefT S a b c
  | .append, [a, b], S => appendT S a b
  | .popAt, [a, b], S => popAtT S a b
  | .popEnd, [a], S => popEndT S a
  | .extend, [a, b], S => extendT S a b
  | .insert, [a, b, c], S => insertT S a b c
  | .dictP, [a], S => dictPT S a
  | p, ts, S => match pureR p ts S with
    | some t => some (t, S)
    | none => none
/-- o[i] = x -/
def setD (S : Store) : D → D → D → Option Store
  | .ref n, k, x => match S[n]? with
    | some (.lst ds) => match k with
      | .int i => (ixN ds.length i).map fun j => S.set n (.lst (ds.set j x))
      | _ => none
    | some (.dK kvs) => match keyOf k with
      | some q => if kvs.length < sizeLine then some (S.set n (.dK (storeK kvs q x))) else none
      | none => none
    | some (.dT kvs) => match k with
      | .tup ks => match keysOf ks with
        | some q => if kvs.length < sizeLine then some (S.set n (.dT (storeK kvs q x))) else none
        | none => none
      | _ => none
    | _ => none
  | _, _, _ => none
/-! fields of instances -/
def lookF (fs : List (Str × D)) (f : Str) : Option D := fs.lookup f
def putFD (f : Str) (x : D) : List (Str × D) → List (Str × D)
  | [] => [(f, x)]
  | (g, y) :: r => if g = f then (g, x) :: r else (g, y) :: putFD f x r
def fldT (cs : List Str) (S : Store) (f : Str) : T → Option D
  | .d (.ref n) => match S[n]? with | some (.obj c fs) => if c ∈ cs then lookF fs f else none | _ => none
  | _ => none
def setFld (cs : List Str) (S : Store) (f : Str) (x : D) : D → Option Store
  | .ref n => match S[n]? with | some (.obj c fs) => if c ∈ cs ∧ fs.length < 1000 then some (S.set n (.obj c (putFD f x fs))) else none | _ => none
  | _ => none
/-- the def that a method's name stands for, by the class; the instance has no field of the name -/
def methT (S : Store) (m : Str) (tb : List (Str × Nat)) : T → Option Nat
  | .d (.ref n) => match S[n]? with | some (.obj c fs) => if lookF fs m = none then tb.lookup c else none | _ => none
  | _ => none

/-! ### evaluation -/
abbrev Live := List (Nat × O)
def chk (ch : Live) (S : Store) : Prop := ∀ p ∈ ch, S[p.1]? = some p.2
/-- behind a walk: a dict that was walked may be written again -/
def unlO (n : Nat) (S : Store) : Store := match S[n]? with | some (.fK kvs) => S.set n (.dK kvs) | some (.fT kvs) => S.set n (.dT kvs) | _ => S
def unl : Live → Store → Store
  | [(n, .fK _)], S => unlO n S
  | [(n, .fT _)], S => unlO n S
  | _, S => S
noncomputable instance (ch : Live) (S : Store) : Decidable (chk ch S) := Classical.propDecidable _
def wipeE (ρ : Env) : List Nat → Env
  | [] => ρ
  | v :: vs => (wipeE ρ vs).set v none
noncomputable def lcGo (asg : D → Env → Store → Option (Env × Store)) (cond : Env → Store → Option (Bool × Store)) (elt : Env → Store → Option (T × Store)) (ch : Live) (ρ : Env) (own : List Nat) : List D → List D → Store → Option (List D × Store)
  | [], acc, S => if chk ch S then some (acc, S) else none
  | d :: ds, acc, S => if chk ch S then
      match asg d ρ S with
      | some (ρ1, S1) => match cond ρ1 S1 with
        | some (true, S2) => match elt ρ1 S2 with
          | some (t, S3) => if acc.length < sizeLine then lcGo asg cond elt ch ρ own ds (acc ++ [(norm t S3).1]) (norm t S3).2 else none
          | none => none
        | some (false, S2) => lcGo asg cond elt ch ρ own ds acc S2
        | none => none
      | none => none
    else none
def rngD (lo : Int) (n : Nat) : List D := (List.range n).map fun (k : Nat) => D.int (lo + k)
def liveOf : T → List D → Live
  | .d (.ref n), ds => [(n, .lst ds)]
  | _, _ => []
/-- what a for walks -/
def itemsOf (S : Store) : T → Option (List D)
  | .d (.str x) => some (x.cps.toList.map fun c => D.str ⟨#[c]⟩)
  | t => seqOf S t
def zipD : List D → List D → List D
  | x :: xs, y :: ys => .tup [x, y] :: zipD xs ys
  | _, _ => []
def enumD : Nat → List D → List D
  | _, [] => []
  | n, x :: xs => .tup [.int (n : Nat), x] :: enumD (n + 1) xs
def keyD : Key → D
  | .inl i => .int i | .inr x => .str x
/-- the walk of a dict: what it gives, the dict locked -/
def dictIt (g : D → D → D) (S : Store) : T → Option (List D × Live × Store)
  | .d (.ref n) => match S[n]? with
    | some (.dK kvs) => some (kvs.map fun kv => g (keyD kv.1) kv.2, [(n, .fK kvs)], S.set n (.fK kvs))
    | some (.dT kvs) => some (kvs.map fun kv => g (.tup (kv.1.map keyD)) kv.2, [(n, .fT kvs)], S.set n (.fT kvs))
    | _ => none
  | _ => none
def dictIt1 (g : D → D → D) (S : Store) : T → Option (List D × Live × Store)
  | .d (.ref n) => match S[n]? with
    | some (.dK kvs) => some (kvs.map fun kv => g (keyD kv.1) kv.2, [(n, .fK kvs)], S.set n (.fK kvs))
    | _ => none
  | _ => none
def zipIt (S : Store) (t u : T) : Option (List D × Live × Store) := match lstOf S t, lstOf S u with
  | some xs, some ys => some (zipD xs ys, liveOf t xs ++ liveOf u ys, S)
  | _, _ => match tupOf t, tupOf u with
    | some xs, some ys => some (zipD xs ys, [], S)
    | _, _ => none
/-- the receiver of a method, as it stands ahead of the arguments -/
def recvOk : Prim → T → Store → Bool
  | .join, .d (.str _), _ => true
  | .sindex, .d (.str _), _ => true
  | .append, .d (.ref n), S => match S[n]? with | some (.lst _) => true | _ => false
  | .popAt, .d (.ref n), S => match S[n]? with | some (.lst _) => true | _ => false
  | .popEnd, .d (.ref n), S => match S[n]? with | some (.lst _) => true | _ => false
  | .extend, .d (.ref n), S => match S[n]? with | some (.lst _) => true | _ => false
  | .insert, .d (.ref n), S => match S[n]? with | some (.lst _) => true | _ => false
  | .get1, .d (.ref n), S => match S[n]? with | some (.dK _) => true | some (.dT _) => true | some (.fK _) => true | some (.fT _) => true | _ => false
  | .get2, .d (.ref n), S => match S[n]? with | some (.dK _) => true | some (.dT _) => true | some (.fK _) => true | some (.fT _) => true | _ => false
  | .setdef, .d (.ref n), S => match S[n]? with | some (.dK _) => true | some (.dT _) => true | _ => false
  | _, _, _ => false
def toB : Option (T × Store) → Option (Bool × Store)
  | some (.d (.bl b), S) => some (b, S)
  | _ => none
def small62 (i : Int) : Prop := -(2 ^ 62) ≤ i ∧ i < 2 ^ 62
instance (i : Int) : Decidable (small62 i) := by unfold small62; exact inferInstance
section
variable (G : List D) (call : Nat → List D → Store → Option (D × Store))
mutual
noncomputable def ev : Ex → Env → Store → Option (T × Store)
  | .c x, _, S => some (.d x, S)
  | .g j, _, S => match G[j]? with | some x => some (.d x, S) | none => none
  | .v i, ρ, S => match ρ[i]? with | some (some x) => some (.d x, S) | _ => none
  | .prim p as, ρ, S => match evs as ρ S with | some (ts, S1) => p.run ts S1 | none => none
  | .meth p o as, ρ, S => match ev o ρ S with
    | some (t, S1) => if recvOk p t S1 = true then
        match evs as ρ S1 with
        | some (ts, S2) => p.run (t :: ts) S2
        | none => none
      else none
    | none => none
  | .tup as, ρ, S => match evDs as ρ S with | some (ds, S1) => if ds.length ≤ 1000 then some (.d (.tup ds), S1) else none | none => none
  | .lst as, ρ, S => match evDs as ρ S with | some (ds, S1) => if ds.length ≤ 1000 then some (.tmp ds, S1) else none | none => none
  | .dK, _, S => some (.d (.ref S.length), S ++ [.dK []])
  | .dT, _, S => some (.d (.ref S.length), S ++ [.dT []])
  | .disp a b, ρ, S => match ev a ρ S with
    | some (.d k, S1) => match ev b ρ S1 with
      | some (u, S2) => match keyOf k with
        | some q => some (.d (.ref (norm u S2).2.length), (norm u S2).2 ++ [.dK [(q, (norm u S2).1)]])
        | none => none
      | none => none
    | _ => none
  | .and as, ρ, S => evB true as ρ S
  | .or as, ρ, S => evB false as ρ S
  | .not a, ρ, S => match ev a ρ S with | some (.d (.bl b), S1) => some (.d (.bl (!b)), S1) | _ => none
  | .ite t a b, ρ, S => match ev t ρ S with | some (.d (.bl true), S1) => ev a ρ S1 | some (.d (.bl false), S1) => ev b ρ S1 | _ => none
  | .chain p q a b c, ρ, S => match ev a ρ S with
    | some (t1, S1) => match ev b ρ S1 with
      | some (t2, S2) => match pureR p [t1, t2] S2 with
        | some (.d (.bl true)) => match ev c ρ S2 with
          | some (t3, S3) => match pureR q [t2, t3] S3 with
            | some t => some (t, S3)
            | none => none
          | none => none
        | some (.d (.bl false)) => some (.d (.bl false), S2)
        | _ => none
      | none => none
    | none => none
  | .call f as, ρ, S => match evDs as ρ S with
    | some (ds, S1) => match call f ds S1 with
      | some (x, S2) => some (.d x, S2)
      | none => none
    | none => none
  | .lc elt tg it cond own, ρ, S => match evIt it ρ S with
    | some (ds, ch, S1) => match lcGo (fun d ρ S => asgT tg d ρ S) (fun ρ S => evC cond ρ S) (fun ρ S => ev elt ρ S) ch (wipeE ρ own) own ds [] S1 with
      | some (acc, S2) => some (.tmp acc, unl ch S2)
      | none => none
    | none => none
  | .fld cs o f, ρ, S => match ev o ρ S with
    | some (t, S1) => match fldT cs S1 f t with | some x => some (.d x, S1) | none => none
    | none => none
  | .mcall tb o m as, ρ, S => match ev o ρ S with
    | some (t, S1) => match methT S1 m tb t with
      | some i => match evDs as ρ S1 with
        | some (ds, S2) => match call i ((norm t S1).1 :: ds) S2 with
          | some (x, S3) => some (.d x, S3)
          | none => none
        | none => none
      | none => none
    | none => none
  | .make c i as, ρ, S => match evDs as ρ S with
    | some (ds, S1) => match call i (.ref S1.length :: ds) (S1 ++ [.obj c []]) with
      | some (.non, S2) => some (.d (.ref S1.length), S2)
      | _ => none
    | none => none
noncomputable def evs : Exs → Env → Store → Option (List T × Store)
  | .nil, _, S => some ([], S)
  | .cons a as, ρ, S => match ev a ρ S with
    | some (t, S1) => match evs as ρ S1 with | some (ts, S2) => some (t :: ts, S2) | none => none
    | none => none
noncomputable def evDs : Exs → Env → Store → Option (List D × Store)
  | .nil, _, S => some ([], S)
  | .cons a as, ρ, S => match ev a ρ S with
    | some (t, S1) => match evDs as ρ (norm t S1).2 with | some (ts, S2) => some ((norm t S1).1 :: ts, S2) | none => none
    | none => none
noncomputable def evB (k : Bool) : Exs → Env → Store → Option (T × Store)
  | .nil, _, S => none
  | .cons a .nil, ρ, S => ev a ρ S
  | .cons a (.cons b as), ρ, S => match ev a ρ S with
    | some (.d (.bl c), S1) => if c = k then evB k (.cons b as) ρ S1 else some (.d (.bl c), S1)
    | _ => none
noncomputable def evC : Exs → Env → Store → Option (Bool × Store)
  | .nil, _, S => some (true, S)
  | .cons a .nil, ρ, S => toB (ev a ρ S)
  | .cons _ (.cons _ _), _, _ => none
noncomputable def evIt : It → Env → Store → Option (List D × Live × Store)
  | .seq a, ρ, S => match ev a ρ S with
    | some (t, S1) => match itemsOf S1 t with | some ds => some (ds, liveOf t ds, S1) | none => none
    | none => none
  | .range1 a, ρ, S => match ev a ρ S with
    | some (.d (.int n), S1) => if small62 n then some (rngD 0 n.toNat, [], S1) else none
    | _ => none
  | .range2 a b, ρ, S => match ev a ρ S with
    | some (.d (.int i), S1) => match ev b ρ S1 with
      | some (.d (.int j), S2) => if small62 i ∧ small62 j then some (rngD i (j - i).toNat, [], S2) else none
      | _ => none
    | _ => none
  | .zip a b, ρ, S => match ev a ρ S with
    | some (t, S1) => match ev b ρ S1 with
      | some (u, S2) => zipIt S2 t u
      | none => none
    | none => none
  | .enum a, ρ, S => match ev a ρ S with
    | some (t, S1) => match seqOf S1 t with
      | some xs => some (enumD 0 xs, liveOf t xs, S1)
      | none => none
    | none => none
  | .range3 a b c, ρ, S => match ev a ρ S with
    | some (.d (.int i), S1) => match ev b ρ S1 with
      | some (.d (.int j), S2) => match ev c ρ S2 with
        | some (.d (.int k), S3) => if small62 i ∧ small62 j ∧ k = -1 then some ((rngD (j + 1) (i - j).toNat).reverse, [], S3) else none
        | _ => none
      | _ => none
    | _ => none
  | .revd a, ρ, S => match ev a ρ S with
    | some (t, S1) => match seqOf S1 t with
      | some xs => some (xs.reverse, liveOf t xs, S1)
      | none => none
    | none => none
  | .keys a, ρ, S => match ev a ρ S with
    | some (t, S1) => dictIt (fun k _ => k) S1 t
    | none => none
  | .vals a, ρ, S => match ev a ρ S with
    | some (t, S1) => dictIt1 (fun _ v => v) S1 t
    | none => none
  | .items a, ρ, S => match ev a ρ S with
    | some (t, S1) => dictIt1 (fun k v => .tup [k, v]) S1 t
    | none => none
noncomputable def asgT : Tg → D → Env → Store → Option (Env × Store)
  | .n i, x, ρ, S => if i < ρ.length then some (ρ.set i (some x), S) else none
  | .tup ts, x, ρ, S => match tupOf (.d x) with | some xs => asgTs ts xs ρ S | none => none
  | .sub o i, x, ρ, S => match ev o ρ S with
    | some (t, S1) => match ev i ρ (norm t S1).2 with
      | some (u, S2) => match setD (norm u S2).2 (norm t S1).1 (norm u S2).1 x with | some S3 => some (ρ, S3) | none => none
      | none => none
    | none => none
noncomputable def asgTs : Tgs → List D → Env → Store → Option (Env × Store)
  | .nil, [], ρ, S => some (ρ, S)
  | .cons t ts, x :: xs, ρ, S => match asgT t x ρ S with | some (ρ1, S1) => asgTs ts xs ρ1 S1 | none => none
  | _, _, _, _ => none
end
noncomputable def forL (asg : D → Env → Store → Option (Env × Store)) (body : Env → Store → Option (Out × Store)) (ch : Live) : List D → Env → Store → Option (Out × Store)
  | [], ρ, S => if chk ch S then some (.nx ρ, S) else none
  | d :: ds, ρ, S => if chk ch S then
      match asg d ρ S with
      | some (ρ1, S1) => match body ρ1 S1 with
        | some (.nx ρ2, S2) => forL asg body ch ds ρ2 S2
        | some (.ct ρ2, S2) => forL asg body ch ds ρ2 S2
        | some (.bk ρ2, S2) => some (.nx ρ2, S2)
        | some (.rt x, S2) => some (.rt x, S2)
        | none => none
      | none => none
    else none
def whileF (c : Env → Store → Option (Bool × Store)) (body : Env → Store → Option (Out × Store)) : Nat → Env → Store → Option (Out × Store)
  | 0, _, _ => none
  | n + 1, ρ, S => match c ρ S with
    | some (true, S1) => match body ρ S1 with
      | some (.nx ρ2, S2) => whileF c body n ρ2 S2
      | some (.ct ρ2, S2) => whileF c body n ρ2 S2
      | some (.bk ρ2, S2) => some (.nx ρ2, S2)
      | some (.rt x, S2) => some (.rt x, S2)
      | none => none
    | some (false, S1) => some (.nx ρ, S1)
    | none => none
noncomputable def whileL (c : Env → Store → Option (Bool × Store)) (body : Env → Store → Option (Out × Store)) (ρ : Env) (S : Store) : Option (Out × Store) :=
  open Classical in if h : ∃ n r, whileF c body n ρ S = some r then some h.choose_spec.choose else none
def setAll : Env → List Nat → List D → Option Env
  | ρ, [], [] => some ρ
  | ρ, i :: is, x :: xs => if i < ρ.length then setAll (ρ.set i (some x)) is xs else none
  | _, _, _ => none
mutual
noncomputable def exS : Stm → Env → Store → Option (Out × Store)
  | .asg t e, ρ, S => match ev G call e ρ S with
    | some (u, S1) => match asgT G call t (norm u S1).1 ρ (norm u S1).2 with | some (ρ1, S2) => some (.nx ρ1, S2) | none => none
    | none => none
  | .fasg cs o f e, ρ, S => match ev G call e ρ S with
    | some (u, S1) => match ev G call o ρ (norm u S1).2 with
      | some (t, S2) => match setFld cs (norm t S2).2 f (norm u S1).1 (norm t S2).1 with | some S3 => some (.nx ρ, S3) | none => none
      | none => none
    | none => none
  | .par js as, ρ, S => match evDs G call as ρ S with
    | some (ds, S1) => match setAll ρ js ds with | some ρ1 => some (.nx ρ1, S1) | none => none
    | none => none
  | .expr e, ρ, S => match ev G call e ρ S with | some (_, S1) => some (.nx ρ, S1) | none => none
  | .ret e, ρ, S => match ev G call e ρ S with | some (u, S1) => some (.rt (norm u S1).1, (norm u S1).2) | none => none
  | .retN, _, S => some (.rt .non, S)
  | .ite c a b, ρ, S => match ev G call c ρ S with
    | some (.d (.bl true), S1) => exSs a ρ S1
    | some (.d (.bl false), S1) => exSs b ρ S1
    | _ => none
  | .for t it b, ρ, S => match evIt G call it ρ S with
    | some (ds, ch, S1) => match forL (fun d ρ S => asgT G call t d ρ S) (fun ρ S => exSs b ρ S) ch ds ρ S1 with
      | some (o, S2) => some (o, unl ch S2)
      | none => none
    | none => none
  | .while c b, ρ, S => whileL (fun ρ S => toB (ev G call c ρ S)) (fun ρ S => exSs b ρ S) ρ S
  | .pass, ρ, S => some (.nx ρ, S)
  | .brk, ρ, S => some (.bk ρ, S)
  | .cont, ρ, S => some (.ct ρ, S)
noncomputable def exSs : Stms → Env → Store → Option (Out × Store)
  | .nil, ρ, S => some (.nx ρ, S)
  | .cons s ss, ρ, S => match exS s ρ S with
    | some (.nx ρ1, S1) => exSs ss ρ1 S1
    | o => o
end
end
/-! ### calls -/
mutual
def closed (n : Nat) : D → Bool
  | .tup ds => closeds n ds
  | .ktup ds => closeds n ds
  | .rol ds => closeds n ds
  | .ref k => decide (k < n)
  | _ => true
def closeds (n : Nat) : List D → Bool
  | [] => true
  | d :: ds => closed n d && closeds n ds
end
def closedO (n : Nat) : O → Bool
  | .lst ds => closeds n ds
  | .dK kvs => closeds n (kvs.map (·.2))
  | .dT kvs => closeds n (kvs.map (·.2))
  | .fK kvs => closeds n (kvs.map (·.2))
  | .fT kvs => closeds n (kvs.map (·.2))
  | .obj _ fs => closeds n (fs.map (·.2))
def closedS (n : Nat) (S : Store) : Prop := ∀ o ∈ S, closedO n o = true
def gcOk (S S' : Store) (x : D) : Prop := S.length ≤ S'.length ∧ (closedS S.length S → closedS S.length (S'.take S.length)) ∧ closed S.length x = true
noncomputable def gc (S S' : Store) (x : D) : D × Store := open Classical in if gcOk S S' x then (x, S'.take S.length) else (x, S')
structure Def where
  np : Nat
  ns : Nat
  body : Stms
def startE (n : Nat) (ds : List D) : Env := ds.map some ++ List.replicate (n - ds.length) none
/-- a def called at a depth -/
noncomputable def callN (G : List D) (defs : List Def) : Nat → Nat → List D → Store → Option (D × Store)
  | 0, _, _, _ => none
  | k + 1, f, ds, S => match defs[f]? with
    | some df => if ds.length = df.np then
        match exSs G (callN G defs k) df.body (startE df.ns ds) S with
        | some (.rt x, S') => some (gc S S' x)
        | some (.nx _, S') => some (gc S S' .non)
        | _ => none
      else none
    | none => none
end F

/-! What values and the store mean in the machine's heap; frames. -/
namespace F
open PySem PySem.Spec PyProof.Rows L2

/-- a tuple, a list of the written part -/
def KT (K : PySem.W.Frag) (a : Addr) (xs : List V) : Prop :=
  ∃ (o : Obj) (its : Array Value) (n : Nat), K.lookup a = some o ∧ o.cls = .type "tuple" ∧ o.data = .seq its n ∧ its.size ≤ sizeLine ∧ Vals xs its.toList
def RoL (K : PySem.W.Frag) (H : Hp) (a : Addr) (xs : List V) : Prop :=
  (∃ o, H a = some (.frz o (.lst xs))) ∨
    ∃ (o : Obj) (its : Array Value) (n : Nat), K.lookup a = some o ∧ o.cls = .type "list" ∧ o.dict = none ∧ o.data = .seq its n ∧ its.size ≤ sizeLine ∧ Vals xs its.toList
def kOk : Key → Bool
  | .inl _ => true
  | .inr x => PyData.strOk x
mutual
def Rep (K : PySem.W.Frag) (H : Hp) (m : List Addr) : D → V → Prop
  | .non, v => v = .non
  | .bl b, v => v = .bl b
  | .int i, v => v = .int i
  | .str x, v => v = .str x ∧ PyData.strOk x = true
  | .tup ds, v => ∃ a xs, v = .ref a ∧ H a = some (.tup xs) ∧ RepL K H m ds xs
  | .ktup ds, v => ∃ a xs, v = .ref a ∧ KT K a xs ∧ RepL K H m ds xs
  | .rol ds, v => ∃ a xs, v = .ref a ∧ RoL K H a xs ∧ RepL K H m ds xs
  | .ref n, v => ∃ a, v = .ref a ∧ m[n]? = some a
def RepL (K : PySem.W.Frag) (H : Hp) (m : List Addr) : List D → List V → Prop
  | [], xs => xs = []
  | d :: ds, xs => ∃ y ys, xs = y :: ys ∧ Rep K H m d y ∧ RepL K H m ds ys
end
section
variable {K : PySem.W.Frag} {H H' : Hp} {m m' : List Addr}
theorem RepL.nil : RepL K H m [] [] := by unfold RepL; rfl
theorem RepL.cons {d : D} {ds : List D} {y : V} {ys : List V} (h : Rep K H m d y) (t : RepL K H m ds ys) : RepL K H m (d :: ds) (y :: ys) := by unfold RepL; exact ⟨y, ys, rfl, h, t⟩
theorem RepL.nil_inv {xs : List V} (h : RepL K H m [] xs) : xs = [] := by unfold RepL at h; exact h
theorem RepL.cons_inv {d : D} {ds : List D} {xs : List V} (h : RepL K H m (d :: ds) xs) : ∃ y ys, xs = y :: ys ∧ Rep K H m d y ∧ RepL K H m ds ys := by unfold RepL at h; exact h
theorem RepL.len : ∀ {ds : List D} {xs : List V}, RepL K H m ds xs → ds.length = xs.length
  | [], xs, h => by rw [h.nil_inv]; rfl
  | d :: ds, xs, h => by
    obtain ⟨y, ys, rfl, _, t⟩ := h.cons_inv
    rw [List.length_cons, List.length_cons, RepL.len t]
theorem RepL.rev_aux : ∀ {ds : List D} {xs : List V}, RepL K H m ds xs → ∀ {es : List D} {ys : List V}, RepL K H m es ys → RepL K H m (ds.reverse ++ es) (xs.reverse ++ ys)
  | [], xs, h, es, ys, k => by rw [h.nil_inv]; exact k
  | d :: ds, xs, h, es, ys, k => by
    obtain ⟨y, zs, rfl, h1, h2⟩ := h.cons_inv
    rw [List.reverse_cons, List.reverse_cons, List.append_assoc, List.append_assoc]
    exact RepL.rev_aux h2 (.cons h1 k)
theorem RepL.rev {ds : List D} {xs : List V} (h : RepL K H m ds xs) : RepL K H m ds.reverse xs.reverse := by
  have := RepL.rev_aux h (.nil (K := K) (H := H) (m := m))
  rw [List.append_nil, List.append_nil] at this
  exact this
theorem RepL.app : ∀ {ds es : List D} {xs ys : List V}, RepL K H m ds xs → RepL K H m es ys → RepL K H m (ds ++ es) (xs ++ ys)
  | [], es, xs, ys, h, k => by rw [h.nil_inv]; exact k
  | d :: ds, es, xs, ys, h, k => by
    obtain ⟨y, zs, rfl, r, t⟩ := h.cons_inv
    exact .cons r (RepL.app t k)
theorem RepL.get : ∀ {ds : List D} {xs : List V} {i : Nat} {d : D}, RepL K H m ds xs → ds[i]? = some d → ∃ v, xs[i]? = some v ∧ Rep K H m d v
  | [], xs, i, d, h, e => by simp at e
  | d0 :: ds, xs, 0, d, h, e => by
    obtain ⟨y, ys, rfl, r, t⟩ := h.cons_inv
    simp at e; subst e
    exact ⟨y, rfl, r⟩
  | d0 :: ds, xs, i + 1, d, h, e => by
    obtain ⟨y, ys, rfl, r, t⟩ := h.cons_inv
    obtain ⟨v, e1, r1⟩ := RepL.get (i := i) t (by simpa using e)
    exact ⟨v, by simpa using e1, r1⟩
theorem RepL.get2 {ds : List D} {xs : List V} {i : Nat} {v : V} (h : RepL K H m ds xs) (e : xs[i]? = some v) : ∃ d, ds[i]? = some d ∧ Rep K H m d v := by
  have hl := h.len
  have hi : i < xs.length := (List.getElem?_eq_some_iff.mp e).1
  have hd : ds[i]? = some (ds[i]'(by omega)) := List.getElem?_eq_getElem _
  obtain ⟨w, e1, r⟩ := h.get hd
  rw [e] at e1; cases e1
  exact ⟨_, hd, r⟩
theorem RepL.set : ∀ {ds : List D} {xs : List V} {d : D} {v : V} (i : Nat), RepL K H m ds xs → Rep K H m d v → RepL K H m (ds.set i d) (xs.set i v)
  | [], xs, d, v, i, h, r => by rw [h.nil_inv]; exact .nil
  | d0 :: ds, xs, d, v, 0, h, r => by
    obtain ⟨y, ys, rfl, _, t⟩ := h.cons_inv
    exact .cons r t
  | d0 :: ds, xs, d, v, i + 1, h, r => by
    obtain ⟨y, ys, rfl, r0, t⟩ := h.cons_inv
    exact .cons r0 (RepL.set i t r)
theorem RepL.drop : ∀ {ds : List D} {xs : List V} (i : Nat), RepL K H m ds xs → RepL K H m (ds.drop i) (xs.drop i)
  | ds, xs, 0, h => h
  | [], xs, i + 1, h => by rw [h.nil_inv]; exact .nil
  | d :: ds, xs, i + 1, h => by
    obtain ⟨y, ys, rfl, _, t⟩ := h.cons_inv
    exact RepL.drop i t
theorem RepL.take : ∀ {ds : List D} {xs : List V} (i : Nat), RepL K H m ds xs → RepL K H m (ds.take i) (xs.take i)
  | ds, xs, 0, h => .nil
  | [], xs, i + 1, h => by rw [h.nil_inv]; exact .nil
  | d :: ds, xs, i + 1, h => by
    obtain ⟨y, ys, rfl, r, t⟩ := h.cons_inv
    exact .cons r (RepL.take i t)
theorem repL_ints : ∀ {ds : List D} {xs : List V} {ns : List Int}, RepL K H m ds xs → intsOf ds = some ns → xs = ns.map V.int
  | [], xs, ns, h, e => by rw [h.nil_inv]; simp [intsOf] at e; subst e; rfl
  | d :: ds, xs, ns, h, e => by
    obtain ⟨y, ys, rfl, r, t⟩ := h.cons_inv
    cases d with
    | int i =>
      simp only [intsOf, Option.map_eq_some_iff] at e
      obtain ⟨ms, e1, rfl⟩ := e
      unfold Rep at r
      rw [r, repL_ints t e1]; rfl
    | _ => simp [intsOf] at e
theorem repL_bools : ∀ {ds : List D} {xs : List V} {ns : List Bool}, RepL K H m ds xs → boolsOf ds = some ns → xs = ns.map V.bl
  | [], xs, ns, h, e => by rw [h.nil_inv]; simp [boolsOf] at e; subst e; rfl
  | d :: ds, xs, ns, h, e => by
    obtain ⟨y, ys, rfl, r, t⟩ := h.cons_inv
    cases d with
    | bl i =>
      simp only [boolsOf, Option.map_eq_some_iff] at e
      obtain ⟨ms, e1, rfl⟩ := e
      unfold Rep at r
      rw [r, repL_bools t e1]; rfl
    | _ => simp [boolsOf] at e
theorem repL_strs : ∀ {ds : List D} {xs : List V} {ns : List Str}, RepL K H m ds xs → strsOf ds = some ns → xs = ns.map V.str ∧ ∀ x ∈ ns, PyData.strOk x = true
  | [], xs, ns, h, e => by rw [h.nil_inv]; simp [strsOf] at e; subst e; exact ⟨rfl, fun x z => nomatch z⟩
  | d :: ds, xs, ns, h, e => by
    obtain ⟨y, ys, rfl, r, t⟩ := h.cons_inv
    cases d with
    | str i =>
      simp only [strsOf, Option.map_eq_some_iff] at e
      obtain ⟨ms, e1, rfl⟩ := e
      unfold Rep at r
      obtain ⟨e2, e3⟩ := repL_strs t e1
      refine ⟨by rw [r.1, e2]; rfl, fun x hx => ?_⟩
      rcases List.mem_cons.mp hx with rfl | hx
      · exact r.2
      · exact e3 x hx
    | _ => simp [strsOf] at e

/-! ### frames -/
structure Kp (H : Hp) (m : List Addr) (H' : Hp) (m' : List Addr) : Prop where
  tup : ∀ b xs, H b = some (.tup xs) → H' b = some (.tup xs)
  frz : ∀ b o xs, H b = some (.frz o (.lst xs)) → H' b = some (.frz o (.lst xs))
  pre : ∃ r, m' = m ++ r
mutual
theorem Rep.kp (k : Kp H m H' m') : ∀ {d : D} {v : V}, Rep K H m d v → Rep K H' m' d v
  | .non, v, h => by unfold Rep at h ⊢; exact h
  | .bl b, v, h => by unfold Rep at h ⊢; exact h
  | .int i, v, h => by unfold Rep at h ⊢; exact h
  | .str x, v, h => by unfold Rep at h ⊢; exact h
  | .tup ds, v, h => by
    unfold Rep at h ⊢
    obtain ⟨a, xs, e, h1, h2⟩ := h
    exact ⟨a, xs, e, k.tup _ _ h1, RepL.kp k h2⟩
  | .ktup ds, v, h => by
    unfold Rep at h ⊢
    obtain ⟨a, xs, e, h1, h2⟩ := h
    exact ⟨a, xs, e, h1, RepL.kp k h2⟩
  | .rol ds, v, h => by
    unfold Rep at h ⊢
    obtain ⟨a, xs, e, h1, h2⟩ := h
    refine ⟨a, xs, e, ?_, RepL.kp k h2⟩
    rcases h1 with ⟨o, h1⟩ | h1
    · exact .inl ⟨o, k.frz _ _ _ h1⟩
    · exact .inr h1
  | .ref n, v, h => by
    unfold Rep at h ⊢
    obtain ⟨a, e, h1⟩ := h
    obtain ⟨r, rfl⟩ := k.pre
    refine ⟨a, e, ?_⟩
    rw [List.getElem?_append_left (List.getElem?_eq_some_iff.mp h1).1]
    exact h1
theorem RepL.kp (k : Kp H m H' m') : ∀ {ds : List D} {xs : List V}, RepL K H m ds xs → RepL K H' m' ds xs
  | [], xs, h => by rw [h.nil_inv]; exact .nil
  | d :: ds, xs, h => by
    obtain ⟨y, ys, rfl, r, t⟩ := h.cons_inv
    exact .cons (Rep.kp k r) (RepL.kp k t)
end
mutual
theorem Rep.closed : ∀ {d : D} {v : V}, Rep K H m d v → closed m.length d = true
  | .non, v, h => by unfold F.closed; rfl
  | .bl b, v, h => by unfold F.closed; rfl
  | .int i, v, h => by unfold F.closed; rfl
  | .str x, v, h => by unfold F.closed; rfl
  | .tup ds, v, h => by
    unfold Rep at h; unfold F.closed
    obtain ⟨a, xs, e, h1, h2⟩ := h
    exact RepL.closed h2
  | .ktup ds, v, h => by
    unfold Rep at h; unfold F.closed
    obtain ⟨a, xs, e, h1, h2⟩ := h
    exact RepL.closed h2
  | .rol ds, v, h => by
    unfold Rep at h; unfold F.closed
    obtain ⟨a, xs, e, h1, h2⟩ := h
    exact RepL.closed h2
  | .ref n, v, h => by
    unfold Rep at h; unfold F.closed
    obtain ⟨a, e, h1⟩ := h
    exact decide_eq_true (List.getElem?_eq_some_iff.mp h1).1
theorem RepL.closed : ∀ {ds : List D} {xs : List V}, RepL K H m ds xs → closeds m.length ds = true
  | [], xs, h => by unfold closeds; rfl
  | d :: ds, xs, h => by
    obtain ⟨y, ys, rfl, r, t⟩ := h.cons_inv
    unfold closeds
    rw [Rep.closed r, RepL.closed t]; rfl
end
mutual
theorem Rep.cut {r : List Addr} : ∀ {d : D} {v : V}, F.closed m.length d = true → Rep K H (m ++ r) d v → Rep K H m d v
  | .non, v, _, h => by unfold Rep at h ⊢; exact h
  | .bl b, v, _, h => by unfold Rep at h ⊢; exact h
  | .int i, v, _, h => by unfold Rep at h ⊢; exact h
  | .str x, v, _, h => by unfold Rep at h ⊢; exact h
  | .tup ds, v, c, h => by
    unfold Rep at h ⊢; unfold F.closed at c
    obtain ⟨a, xs, e, h1, h2⟩ := h
    exact ⟨a, xs, e, h1, RepL.cut c h2⟩
  | .ktup ds, v, c, h => by
    unfold Rep at h ⊢; unfold F.closed at c
    obtain ⟨a, xs, e, h1, h2⟩ := h
    exact ⟨a, xs, e, h1, RepL.cut c h2⟩
  | .rol ds, v, c, h => by
    unfold Rep at h ⊢; unfold F.closed at c
    obtain ⟨a, xs, e, h1, h2⟩ := h
    exact ⟨a, xs, e, h1, RepL.cut c h2⟩
  | .ref n, v, c, h => by
    unfold Rep at h ⊢; unfold F.closed at c
    obtain ⟨a, e, h1⟩ := h
    refine ⟨a, e, ?_⟩
    rw [List.getElem?_append_left (of_decide_eq_true c)] at h1
    exact h1
theorem RepL.cut {r : List Addr} : ∀ {ds : List D} {xs : List V}, closeds m.length ds = true → RepL K H (m ++ r) ds xs → RepL K H m ds xs
  | [], xs, _, h => by rw [h.nil_inv]; exact .nil
  | d :: ds, xs, c, h => by
    obtain ⟨y, ys, rfl, r, t⟩ := h.cons_inv
    unfold closeds at c
    rw [Bool.and_eq_true] at c
    exact .cons (Rep.cut c.1 r) (RepL.cut c.2 t)
end

/-- a class whose instances isinstance can be asked of -/
structure InsOk (K : PySem.W.Frag) (C : Addr) : Prop where
  cl : Cls K C
  ha : PySem.W.findIn K (.ref C) "__class__" = some (some (.builtin "object.__class__"))
  hn : PySem.W.specialIn K (.builtin "object.__class__") "__get__" = some (some (.builtin "getset_descriptor.__get__"))
  htk : PySem.W.takesIn K (.builtin "object.__class__") = some true
  hm : PySem.W.mroIn K C (.type "object") = some true
  i1 : PySem.W.kitOne K (.ref C) (.type "str") = some false
  i2 : PySem.W.kitOne K (.ref C) (.type "int") = some false
  i3 : PySem.W.kitOne K (.ref C) (.type "bool") = some false
  i4 : PySem.W.kitOne K (.ref C) (.type "tuple") = some false
  i5 : PySem.W.kitOne K (.ref C) (.type "list") = some false
/-- an object of the store at an address -/
def RepO (K : PySem.W.Frag) (H : Hp) (m : List Addr) : O → Addr → Prop
  | .lst ds, a => ∃ xs, H a = some (.lst xs) ∧ RepL K H m ds xs
  | .dK kvs, a => ∃ ws, H a = some (.dK ws) ∧ kvs.map (·.1) = ws.map (·.1) ∧ RepL K H m (kvs.map (·.2)) (ws.map (·.2)) ∧ ∀ k ∈ kvs.map (·.1), kOk k = true
  | .dT kvs, a => ∃ ws, H a = some (.dT ws) ∧ kvs.map (·.1) = ws.map (·.1) ∧ RepL K H m (kvs.map (·.2)) (ws.map (·.2)) ∧ ∀ k ∈ kvs.map (·.1), ∀ q ∈ k, kOk q = true
  | .fK kvs, a => ∃ od ws, H a = some (.frz od (.dK ws)) ∧ kvs.map (·.1) = ws.map (·.1) ∧ RepL K H m (kvs.map (·.2)) (ws.map (·.2)) ∧ ∀ k ∈ kvs.map (·.1), kOk k = true
  | .fT kvs, a => ∃ od ws, H a = some (.frz od (.dT ws)) ∧ kvs.map (·.1) = ws.map (·.1) ∧ RepL K H m (kvs.map (·.2)) (ws.map (·.2)) ∧ ∀ k ∈ kvs.map (·.1), ∀ q ∈ k, kOk q = true
  | .obj c fs, a => ∃ C dx ws, H a = some (.ins C dx ws) ∧ PySem.W.nsIn K mainGlobals c = some (some (.ref C)) ∧ fs.map (·.1) = ws.map (·.1) ∧ RepL K H m (fs.map (·.2)) (ws.map (·.2)) ∧ InsOk K C
theorem RepO.kp {o : O} {a : Addr} (k : Kp H m H' m') (e : H' a = H a) (h : RepO K H m o a) : RepO K H' m' o a := by
  cases o with
  | lst ds => obtain ⟨xs, h1, h2⟩ := h; exact ⟨xs, e.trans h1, h2.kp k⟩
  | dK kvs => obtain ⟨ws, h1, h2, h3, h4⟩ := h; exact ⟨ws, e.trans h1, h2, h3.kp k, h4⟩
  | dT kvs => obtain ⟨ws, h1, h2, h3, h4⟩ := h; exact ⟨ws, e.trans h1, h2, h3.kp k, h4⟩
  | fK kvs => obtain ⟨od, ws, h1, h2, h3, h4⟩ := h; exact ⟨od, ws, e.trans h1, h2, h3.kp k, h4⟩
  | fT kvs => obtain ⟨od, ws, h1, h2, h3, h4⟩ := h; exact ⟨od, ws, e.trans h1, h2, h3.kp k, h4⟩
  | obj c fs => obtain ⟨C, dx, ws, h1, h2, h3, h4, h5⟩ := h; exact ⟨C, dx, ws, e.trans h1, h2, h3, h4.kp k, h5⟩
theorem RepO.closed {o : O} {a : Addr} (h : RepO K H m o a) : closedO m.length o = true := by
  cases o with
  | lst ds => obtain ⟨xs, h1, h2⟩ := h; exact h2.closed
  | dK kvs => obtain ⟨ws, h1, h2, h3, h4⟩ := h; exact h3.closed
  | dT kvs => obtain ⟨ws, h1, h2, h3, h4⟩ := h; exact h3.closed
  | fK kvs => obtain ⟨od, ws, h1, h2, h3, h4⟩ := h; exact h3.closed
  | fT kvs => obtain ⟨od, ws, h1, h2, h3, h4⟩ := h; exact h3.closed
  | obj c fs => obtain ⟨C, dx, ws, h1, h2, h3, h4, h5⟩ := h; exact h4.closed
theorem RepO.cut {r : List Addr} {o : O} {a : Addr} (c : closedO m.length o = true) (h : RepO K H (m ++ r) o a) : RepO K H m o a := by
  cases o with
  | lst ds => obtain ⟨xs, h1, h2⟩ := h; exact ⟨xs, h1, h2.cut c⟩
  | dK kvs => obtain ⟨ws, h1, h2, h3, h4⟩ := h; exact ⟨ws, h1, h2, h3.cut c, h4⟩
  | dT kvs => obtain ⟨ws, h1, h2, h3, h4⟩ := h; exact ⟨ws, h1, h2, h3.cut c, h4⟩
  | fK kvs => obtain ⟨od, ws, h1, h2, h3, h4⟩ := h; exact ⟨od, ws, h1, h2, h3.cut c, h4⟩
  | fT kvs => obtain ⟨od, ws, h1, h2, h3, h4⟩ := h; exact ⟨od, ws, h1, h2, h3.cut c, h4⟩
  | obj n fs => obtain ⟨C, dx, ws, h1, h2, h3, h4, h5⟩ := h; exact ⟨C, dx, ws, h1, h2, h3, h4.cut c, h5⟩
/-- what an object of the store is in the heap: neither a tuple nor a frozen thing, and there -/
def Wr : HO → Prop
  | .lst _ => True | .dK _ => True | .dT _ => True | .frz _ (.dK _) => True | .frz _ (.dT _) => True | .ins _ _ _ => True | _ => False
theorem RepO.wr {o : O} {a : Addr} (h : RepO K H m o a) : ∃ u, H a = some u ∧ Wr u := by
  cases o with
  | lst ds => obtain ⟨xs, h1, h2⟩ := h; exact ⟨_, h1, trivial⟩
  | dK kvs => obtain ⟨ws, h1, h2, h3, h4⟩ := h; exact ⟨_, h1, trivial⟩
  | dT kvs => obtain ⟨ws, h1, h2, h3, h4⟩ := h; exact ⟨_, h1, trivial⟩
  | fK kvs => obtain ⟨od, ws, h1, h2, h3, h4⟩ := h; exact ⟨_, h1, trivial⟩
  | fT kvs => obtain ⟨od, ws, h1, h2, h3, h4⟩ := h; exact ⟨_, h1, trivial⟩
  | obj n fs => obtain ⟨C, dx, ws, h1, h2, h3, h4⟩ := h; exact ⟨_, h1, trivial⟩
/-- nothing of the tables of code objects -/
abbrev NT (o : HO) : Prop := ∀ ps, o ≠ .tbl ps
theorem Wr.nt {o : HO} (h : Wr o) : NT o := fun ps z => by rw [z] at h; exact h
theorem Wr.nx {o : HO} {c : Addr} {q : Str} (h : Wr o) : o ≠ LamX.CodeO c q := fun z => by rw [z] at h; unfold LamX.CodeO at h; exact h
/-- the tables of code objects of the defs that make lambdas, with the lambdas' names -/
class Tb where
  T : List (Addr × Str)
instance (priority := low) : Tb := ⟨[]⟩
variable [Tb]
theorem tabs_put {a : Addr} {u w : HO} (t : LamX.Tabs Tb.T H) (h : H a = some w) (n : Wr w) : LamX.Tabs Tb.T (upd H a u) := fun p hp => by
  obtain ⟨ps, h1, h2, h3⟩ := t p hp
  refine ⟨ps, by rw [upd_ne (fun z => by rw [z, h] at h1; exact n.nt _ (Option.some.inj h1))]; exact h1, h2, fun pos cv hc => ?_⟩
  obtain ⟨c, e1, e2⟩ := h3 pos cv hc
  exact ⟨c, e1, by rw [upd_ne (fun z => by rw [z, h] at e2; exact n.nx (Option.some.inj e2))]; exact e2⟩
theorem tabs_new {a : Addr} {u : HO} (t : LamX.Tabs Tb.T H) (h : H a = none) : LamX.Tabs Tb.T (upd H a u) := t.ext fun b o e => by rw [upd_ne (ne_of_none e h)]; exact e
/-- the store in the heap -/
structure SR (K : PySem.W.Frag) (H : Hp) (m : List Addr) (S : Store) : Prop where
  len : m.length = S.length
  nd : m.Nodup
  ob : ∀ (n : Nat) (o : O) (a : Addr), S[n]? = some o → m[n]? = some a → RepO K H m o a
  tab : LamX.Tabs Tb.T H
theorem SR.wr {S : Store} (s : SR K H m S) {a : Addr} (h : a ∈ m) : ∃ u, H a = some u ∧ Wr u := by
  obtain ⟨n, hn, e⟩ := List.getElem_of_mem h
  have h1 : n < S.length := by rw [← s.len]; exact hn
  exact (s.ob n _ a (List.getElem?_eq_getElem h1) (by rw [List.getElem?_eq_getElem hn, e])).wr
theorem SR.at {S : Store} (s : SR K H m S) {n : Nat} {a : Addr} (h : m[n]? = some a) : ∃ o, S[n]? = some o ∧ RepO K H m o a := by
  have hn := (List.getElem?_eq_some_iff.mp h).1
  have h1 : n < S.length := by rw [← s.len]; exact hn
  exact ⟨_, List.getElem?_eq_getElem h1, s.ob n _ a (List.getElem?_eq_getElem h1) h⟩
theorem SR.ad {S : Store} (s : SR K H m S) {n : Nat} {o : O} (h : S[n]? = some o) : ∃ a, m[n]? = some a ∧ RepO K H m o a := by
  have hn := (List.getElem?_eq_some_iff.mp h).1
  have h1 : n < m.length := by rw [s.len]; exact hn
  exact ⟨_, List.getElem?_eq_getElem h1, s.ob n o _ h (List.getElem?_eq_getElem h1)⟩
theorem SR.ntup {S : Store} (s : SR K H m S) {a : Addr} {xs : List V} (h : H a = some (.tup xs)) : a ∉ m := fun z => by
  obtain ⟨u, e, w⟩ := s.wr z
  rw [h] at e; cases e; exact w
theorem SR.nfrz {S : Store} (s : SR K H m S) {a : Addr} {o : Obj} {xs : List V} (h : H a = some (.frz o (.lst xs))) : a ∉ m := fun z => by
  obtain ⟨u, e, w⟩ := s.wr z
  rw [h] at e; cases e; exact w
theorem SR.nnone {S : Store} (s : SR K H m S) {a : Addr} (h : H a = none) : a ∉ m := fun z => by
  obtain ⟨u, e, w⟩ := s.wr z
  rw [h] at e; cases e
theorem SR.closedS {S : Store} (s : SR K H m S) : closedS S.length S := fun o h => by
  obtain ⟨n, hn, e⟩ := List.getElem_of_mem h
  obtain ⟨a, _, r⟩ := s.ad (n := n) (o := o) (by rw [List.getElem?_eq_getElem hn, e])
  rw [← s.len]; exact r.closed

structure Fr (H : Hp) (m : List Addr) (H' : Hp) (m' : List Addr) : Prop where
  keepN : ∀ b o, H b = some o → b ∉ m → NT o → H' b = some o ∧ b ∉ m'
  tb : ∀ b ps, H b = some (.tbl ps) → b ∉ m → (∃ qs, H' b = some (.tbl qs)) ∧ b ∉ m'
  pre : ∃ r, m' = m ++ r
  frz : ∀ b o u, H b = some (.frz o u) → H' b = some (.frz o u)
theorem Fr.keep (f : Fr H m H' m') (b : Addr) (o : HO) (h : H b = some o) (n : b ∉ m) (t : NT o := by exact fun _ z => by cases z) : H' b = some o ∧ b ∉ m' := f.keepN b o h n t
/-- whatever stood there, something stands there -/
theorem Fr.some (f : Fr H m H' m') (b : Addr) (o : HO) (h : H b = .some o) (n : b ∉ m) : (∃ o', H' b = .some o') ∧ b ∉ m' := by
  by_cases t : NT o
  · exact ⟨⟨o, (f.keepN b o h n t).1⟩, (f.keepN b o h n t).2⟩
  · have t := Classical.not_forall.mp t
    obtain ⟨ps, z⟩ := t
    have z := Classical.not_not.mp z
    rw [z] at h
    obtain ⟨⟨qs, h1⟩, h2⟩ := f.tb b ps h n
    exact ⟨⟨_, h1⟩, h2⟩
theorem Fr.refl : Fr H m H m := ⟨fun _ _ h n _ => ⟨h, n⟩, fun _ ps h n => ⟨⟨ps, h⟩, n⟩, ⟨[], (List.append_nil _).symm⟩, fun _ _ _ h => h⟩
theorem Fr.trans {H1 H2 : Hp} {m1 m2 : List Addr} (a : Fr H m H1 m1) (b : Fr H1 m1 H2 m2) : Fr H m H2 m2 :=
  ⟨fun c o h n t => let ⟨h1, n1⟩ := a.keepN c o h n t; b.keepN c o h1 n1 t, fun c ps h n => let ⟨⟨qs, h1⟩, n1⟩ := a.tb c ps h n; b.tb c qs h1 n1, by
    obtain ⟨r, e⟩ := a.pre
    obtain ⟨r', e'⟩ := b.pre
    exact ⟨r ++ r', by rw [e', e, List.append_assoc]⟩, fun c o u h => b.frz c o u (a.frz c o u h)⟩
theorem Fr.kp {S : Store} (f : Fr H m H' m') (s : SR K H m S) : Kp H m H' m' :=
  ⟨fun b xs h => (f.keep b _ h (s.ntup h)).1, fun b o u h => (f.keep b _ h (s.nfrz h)).1, f.pre⟩
theorem Fr.untr {S S' : Store} (f : Fr H m H' m') (s : SR K H m S) (s' : SR K H' m' S') {a : Addr} (h : H' a = none) : H a = none := by
  cases q : H a with
  | none => rfl
  | some o =>
    by_cases z : a ∈ m
    · obtain ⟨r, e⟩ := f.pre
      exact absurd (by rw [e]; exact List.mem_append_left _ z) (s'.nnone h)
    · obtain ⟨o', e'⟩ := (f.some a o q z).1
      rw [e'] at h; cases h
/-- a new address, untracked so far -/
theorem Fr.new {p : Addr} {o : HO} (h : H p = none) : Fr H m (upd H p o) m := ⟨fun b u e n _ => ⟨by rw [upd_ne (ne_of_none e h)]; exact e, n⟩, fun b ps e n => ⟨⟨ps, by rw [upd_ne (ne_of_none e h)]; exact e⟩, n⟩, ⟨[], (List.append_nil _).symm⟩, fun b _ _ e => by rw [upd_ne (ne_of_none e h)]; exact e⟩
/-- an object of the store written -/
def NFr (H : Hp) (p : Addr) : Prop := ∀ o u, H p ≠ some (.frz o u)
theorem Fr.put {p : Addr} {o : HO} (h : p ∈ m) (hn : NFr H p) : Fr H m (upd H p o) m := ⟨fun b u e n _ => ⟨by rw [upd_ne (fun z => n (by rw [z]; exact h))]; exact e, n⟩, fun b ps e n => ⟨⟨ps, by rw [upd_ne (fun z => n (by rw [z]; exact h))]; exact e⟩, n⟩, ⟨[], (List.append_nil _).symm⟩, fun b _ _ e => by rw [upd_ne (fun z => hn _ _ (by rw [← z]; exact e))]; exact e⟩
theorem nf_lst {p : Addr} {xs : List V} (h : H p = some (.lst xs)) : NFr H p := fun _ _ z => by rw [h] at z; cases z
theorem nf_dK {p : Addr} {xs : List (Key × V)} (h : H p = some (.dK xs)) : NFr H p := fun _ _ z => by rw [h] at z; cases z
theorem nf_dT {p : Addr} {xs : List (List Key × V)} (h : H p = some (.dT xs)) : NFr H p := fun _ _ z => by rw [h] at z; cases z
theorem nf_ins {p C dx : Addr} {xs : List (Str × V)} (h : H p = some (.ins C dx xs)) : NFr H p := fun _ _ z => by rw [h] at z; cases z
theorem Kp.put {S : Store} {p : Addr} {o : HO} (s : SR K H m S) (h : p ∈ m) : Kp H m (upd H p o) m :=
  ⟨fun b xs e => by rw [upd_ne (fun z => s.ntup e (by rw [z]; exact h))]; exact e, fun b o xs e => by rw [upd_ne (fun z => s.nfrz e (by rw [z]; exact h))]; exact e, [], (List.append_nil _).symm⟩
/-- a new address joins the store -/
theorem Fr.join {H0 : Hp} {m0 : List Addr} {a : Addr} (f : Fr H0 m0 H m) (h : H0 a = none) : Fr H0 m0 H (m ++ [a]) :=
  ⟨fun b u e n t => ⟨(f.keepN b u e n t).1, fun z => by
    rcases List.mem_append.mp z with z | z
    · exact (f.keepN b u e n t).2 z
    · rw [List.mem_singleton] at z; subst z; rw [h] at e; cases e⟩, fun b ps e n => ⟨(f.tb b ps e n).1, fun z => by
    rcases List.mem_append.mp z with z | z
    · exact (f.tb b ps e n).2 z
    · rw [List.mem_singleton] at z; subst z; rw [h] at e; cases e⟩, by obtain ⟨r, e⟩ := f.pre; exact ⟨r ++ [a], by rw [e, List.append_assoc]⟩, f.frz⟩
theorem SR.new {S : Store} {p : Addr} {o : HO} (s : SR K H m S) (h : H p = none) : SR K (upd H p o) m S :=
  ⟨s.len, s.nd, fun n u a e1 e2 => (s.ob n u a e1 e2).kp ((Fr.new h).kp s) (upd_ne (fun z => s.nnone h (z ▸ List.mem_of_getElem? e2))), tabs_new s.tab h⟩
/-- SR by a frame that leaves the store's objects alone -/
theorem SR.app {S : Store} {a : Addr} {o : O} (s : SR K H m S) (hn : a ∉ m) (r : RepO K H m o a) : SR K H (m ++ [a]) (S ++ [o]) := by
  have k : Kp H m H (m ++ [a]) := ⟨fun _ _ h => h, fun _ _ _ h => h, [a], rfl⟩
  refine ⟨by rw [List.length_append, List.length_append, s.len]; rfl, ?_, fun n u b e1 e2 => ?_, s.tab⟩
  · refine List.nodup_append.mpr ⟨s.nd, by simp, fun x hx y hy e => ?_⟩
    rw [List.mem_singleton] at hy
    subst hy; subst e; exact hn hx
  · by_cases hlt : n < S.length
    · rw [List.getElem?_append_left hlt] at e1
      rw [List.getElem?_append_left (by rw [s.len]; exact hlt)] at e2
      exact (s.ob n u b e1 e2).kp k rfl
    · have hn' : n < S.length + 1 := by
        have := (List.getElem?_eq_some_iff.mp e1).1
        rw [List.length_append] at this
        exact this
      have en : n = S.length := by omega
      subst en
      rw [List.getElem?_append_right (Nat.le_refl _), Nat.sub_self] at e1
      rw [List.getElem?_append_right (by rw [s.len]; exact Nat.le_refl _), s.len, Nat.sub_self] at e2
      cases e1; cases e2
      exact r.kp k rfl
theorem SR.set {S : Store} {n : Nat} {a : Addr} {o : O} {u : HO} (s : SR K H m S) (ha : m[n]? = some a) (r : RepO K (upd H a u) m o a) : SR K (upd H a u) m (S.set n o) := by
  have hm : a ∈ m := List.mem_of_getElem? ha
  have k : Kp H m (upd H a u) m := Kp.put s hm
  obtain ⟨w0, hw, ww⟩ := s.wr hm
  refine ⟨by rw [List.length_set]; exact s.len, s.nd, fun i w b e1 e2 => ?_, tabs_put s.tab hw ww⟩
  by_cases hi : i = n
  · subst hi
    rw [ha] at e2; cases e2
    have hl : i < S.length := by rw [← s.len]; exact (List.getElem?_eq_some_iff.mp ha).1
    rw [List.getElem?_set_self hl] at e1
    cases e1; exact r
  · rw [List.getElem?_set_ne (Ne.symm hi)] at e1
    refine (s.ob i w b e1 e2).kp k (upd_ne fun z => hi ?_)
    subst z
    exact nodup_ix2 s.nd e2 ha
where
  nodup_ix2 {l : List Addr} (hN : l.Nodup) {i j : Nat} {x : Addr} (a : l[i]? = some x) (b : l[j]? = some x) : i = j := by
    obtain ⟨h1, e1⟩ := List.getElem?_eq_some_iff.mp a
    obtain ⟨h2, e2⟩ := List.getElem?_eq_some_iff.mp b
    exact (List.getElem_inj hN).mp (e1.trans e2.symm)
/-! ### what an expression hands on -/
def RepT (K : PySem.W.Frag) (H0 H : Hp) (m : List Addr) : T → V → Prop
  | .d x, v => Rep K H m x v
  | .tmp ds, v => ∃ a xs, v = .ref a ∧ H0 a = none ∧ H a = some (.lst xs) ∧ a ∉ m ∧ RepL K H m ds xs
theorem RepT.fr {H0 H1 : Hp} {S : Store} {t : T} {v : V} (f : Fr H m H' m') (s : SR K H m S) (h : RepT K H0 H m t v) (h1 : ∀ a, H0 a = none → H1 a = none) : RepT K H1 H' m' t v := by
  cases t with
  | d x => exact Rep.kp (f.kp s) h
  | tmp ds =>
    obtain ⟨a, xs, e, h0, h2, n, r⟩ := h
    obtain ⟨h3, n3⟩ := f.keep a _ h2 n
    exact ⟨a, xs, e, h1 a h0, h3, n3, r.kp (f.kp s)⟩
/-- .. with its freshness forgotten -/
def RepP (K : PySem.W.Frag) (H : Hp) (m : List Addr) : T → V → Prop
  | .d x, v => Rep K H m x v
  | .tmp ds, v => ∃ a xs, v = .ref a ∧ H a = some (.lst xs) ∧ a ∉ m ∧ RepL K H m ds xs
theorem RepT.p {H0 : Hp} {t : T} {v : V} (h : RepT K H0 H m t v) : RepP K H m t v := by
  cases t with
  | d x => exact h
  | tmp ds => obtain ⟨a, xs, e, h0, h2, n, r⟩ := h; exact ⟨a, xs, e, h2, n, r⟩
theorem RepP.fr {S : Store} {t : T} {v : V} (f : Fr H m H' m') (s : SR K H m S) (h : RepP K H m t v) : RepP K H' m' t v := by
  cases t with
  | d x => exact Rep.kp (f.kp s) h
  | tmp ds =>
    obtain ⟨a, xs, e, h2, n, r⟩ := h
    obtain ⟨h3, n3⟩ := f.keep a _ h2 n
    exact ⟨a, xs, e, h3, n3, r.kp (f.kp s)⟩
inductive RepPs (K : PySem.W.Frag) (H : Hp) (m : List Addr) : List T → List V → Prop where
  | nil : RepPs K H m [] []
  | cons {t : T} {ts : List T} {v : V} {vs : List V} : RepP K H m t v → RepPs K H m ts vs → RepPs K H m (t :: ts) (v :: vs)
theorem RepPs.fr {S : Store} (f : Fr H m H' m') (s : SR K H m S) : ∀ {ts : List T} {vs : List V}, RepPs K H m ts vs → RepPs K H' m' ts vs
  | _, _, .nil => .nil
  | _, _, .cons h t => .cons (h.fr f s) (RepPs.fr f s t)
theorem norm_ok {H0 : Hp} {m0 : List Addr} {S : Store} {t : T} {v : V} (s : SR K H m S) (f : Fr H0 m0 H m) (h : RepT K H0 H m t v) :
    ∃ m', SR K H m' (norm t S).2 ∧ Fr H0 m0 H m' ∧ Rep K H m' (norm t S).1 v := by
  cases t with
  | d x => exact ⟨m, s, f, h⟩
  | tmp ds =>
    obtain ⟨a, xs, rfl, h0, h2, n, r⟩ := h
    refine ⟨m ++ [a], s.app n ⟨xs, h2, r⟩, f.join h0, ?_⟩
    show Rep K H (m ++ [a]) (.ref S.length) (.ref a)
    unfold Rep
    refine ⟨a, rfl, ?_⟩
    rw [← s.len, List.getElem?_append_right (Nat.le_refl _), Nat.sub_self]; rfl
end
end F

/-! The operations on values: what the machine does is what `Prim.run` says. -/
namespace F
open PySem PySem.Spec PyProof.Rows L2
variable [Tb]

section
variable {K : PySem.W.Frag} {H H' : Hp} {m m' : List Addr} {S S' : Store}
theorem rep_non {v : V} (h : Rep K H m .non v) : v = .non := by unfold Rep at h; exact h
theorem rep_bl {v : V} {b : Bool} (h : Rep K H m (.bl b) v) : v = .bl b := by unfold Rep at h; exact h
theorem rep_int {v : V} {b : Int} (h : Rep K H m (.int b) v) : v = .int b := by unfold Rep at h; exact h
theorem rep_str {v : V} {b : Str} (h : Rep K H m (.str b) v) : v = .str b ∧ PyData.strOk b = true := by unfold Rep at h; exact h
theorem rep_tup {v : V} {ds : List D} (h : Rep K H m (.tup ds) v) : ∃ a xs, v = .ref a ∧ H a = some (.tup xs) ∧ RepL K H m ds xs := by unfold Rep at h; exact h
theorem rep_ktup {v : V} {ds : List D} (h : Rep K H m (.ktup ds) v) : ∃ a xs, v = .ref a ∧ KT K a xs ∧ RepL K H m ds xs := by unfold Rep at h; exact h
theorem rep_rol {v : V} {ds : List D} (h : Rep K H m (.rol ds) v) : ∃ a xs, v = .ref a ∧ RoL K H a xs ∧ RepL K H m ds xs := by unfold Rep at h; exact h
theorem rep_ref {v : V} {n : Nat} (h : Rep K H m (.ref n) v) : ∃ a, v = .ref a ∧ m[n]? = some a := by unfold Rep at h; exact h
theorem pp_d {v : V} {x : D} (h : RepP K H m (.d x) v) : Rep K H m x v := h
theorem pp_int {v : V} {b : Int} (h : RepP K H m (.d (.int b)) v) : v = .int b := rep_int (pp_d h)
theorem pp_bl {v : V} {b : Bool} (h : RepP K H m (.d (.bl b)) v) : v = .bl b := rep_bl (pp_d h)
theorem pp_str {v : V} {b : Str} (h : RepP K H m (.d (.str b)) v) : v = .str b ∧ PyData.strOk b = true := rep_str (pp_d h)
theorem mk_non : Rep K H m .non .non := by unfold Rep; rfl
theorem mk_bl (b : Bool) : Rep K H m (.bl b) (.bl b) := by unfold Rep; rfl
theorem mk_int (b : Int) : Rep K H m (.int b) (.int b) := by unfold Rep; rfl
theorem mk_str {b : Str} (h : PyData.strOk b = true) : Rep K H m (.str b) (.str b) := by unfold Rep; exact ⟨rfl, h⟩
theorem mk_tup {a : Addr} {xs : List V} {ds : List D} (h : H a = some (.tup xs)) (r : RepL K H m ds xs) : Rep K H m (.tup ds) (.ref a) := by unfold Rep; exact ⟨a, xs, rfl, h, r⟩
theorem mk_ref {a : Addr} {n : Nat} (h : m[n]? = some a) : Rep K H m (.ref n) (.ref a) := by unfold Rep; exact ⟨a, rfl, h⟩
theorem RoL.sq {a : Addr} {xs : List V} (h : RoL K H a xs) : SqL K H a xs := by
  rcases h with ⟨o, h⟩ | h
  · exact .inl (.inr ⟨o, h⟩)
  · exact .inr h
theorem lstOf_ok {t : T} {v : V} {ds : List D} (s : SR K H m S) (r : RepP K H m t v) (e : lstOf S t = some ds) : ∃ a xs, v = .ref a ∧ SqL K H a xs ∧ RepL K H m ds xs := by
  cases t with
  | tmp es =>
    cases e
    obtain ⟨a, xs, rfl, h2, n, r⟩ := r
    exact ⟨a, xs, rfl, SqL.of h2, r⟩
  | d x =>
    cases x with
    | rol es =>
      cases e
      obtain ⟨a, xs, rfl, h, r⟩ := rep_rol r
      exact ⟨a, xs, rfl, h.sq, r⟩
    | ref n =>
      obtain ⟨a, rfl, h⟩ := rep_ref (show Rep K H m (.ref n) v from r)
      obtain ⟨o, e1, r1⟩ := s.at h
      simp only [lstOf, e1] at e
      cases o with
      | lst es => cases e; obtain ⟨xs, h1, r2⟩ := r1; exact ⟨a, xs, rfl, SqL.of h1, r2⟩
      | _ => cases e
    | _ => cases e
theorem lstM_ok {t : T} {v : V} {ds : List D} (s : SR K H m S) (r : RepP K H m t v) (e : lstM S t = some ds) : ∃ a xs, v = .ref a ∧ H a = some (.lst xs) ∧ RepL K H m ds xs := by
  cases t with
  | tmp es =>
    cases e
    obtain ⟨a, xs, rfl, h2, n, r⟩ := r
    exact ⟨a, xs, rfl, h2, r⟩
  | d x =>
    cases x with
    | ref n =>
      obtain ⟨a, rfl, h⟩ := rep_ref (show Rep K H m (.ref n) v from r)
      obtain ⟨o, e1, r1⟩ := s.at h
      simp only [lstM, e1] at e
      cases o with
      | lst es => cases e; obtain ⟨xs, h1, r2⟩ := r1; exact ⟨a, xs, rfl, h1, r2⟩
      | _ => cases e
    | _ => cases e
theorem tupOf_ok {t : T} {v : V} {ds : List D} (r : RepP K H m t v) (e : tupOf t = some ds) : ∃ a xs, v = .ref a ∧ SqT K H a xs ∧ RepL K H m ds xs := by
  cases t with
  | tmp es => cases e
  | d x =>
    cases x with
    | tup es => cases e; obtain ⟨a, xs, rfl, h, r⟩ := rep_tup r; exact ⟨a, xs, rfl, SqT.of h, r⟩
    | ktup es => cases e; obtain ⟨a, xs, rfl, h, r⟩ := rep_ktup r; exact ⟨a, xs, rfl, .inr h, r⟩
    | _ => cases e
theorem seqOf_ok {t : T} {v : V} {ds : List D} (s : SR K H m S) (r : RepP K H m t v) (e : seqOf S t = some ds) : ∃ a xs, v = .ref a ∧ (SqL K H a xs ∨ SqT K H a xs) ∧ RepL K H m ds xs := by
  unfold seqOf at e
  cases q : lstOf S t with
  | some es =>
    rw [q] at e; cases e
    obtain ⟨a, xs, e1, h, r⟩ := lstOf_ok s r q
    exact ⟨a, xs, e1, .inl h, r⟩
  | none =>
    rw [q] at e
    obtain ⟨a, xs, e1, h, r⟩ := tupOf_ok r e
    exact ⟨a, xs, e1, .inr h, r⟩

/-! ### data -/
theorem pdL_dp {f : D → Option PyData} (hf : ∀ d p v, f d = some p → Rep K H m d v → Dp K H v p) : ∀ {ds : List D} {ps : List PyData} {xs : List V}, pdL f ds = some ps → RepL K H m ds xs → DpAll K H xs ps
  | [], ps, xs, e, h => by rw [h.nil_inv]; cases e; exact .nil
  | d :: ds, ps, xs, e, h => by
    obtain ⟨y, ys, rfl, r, t⟩ := h.cons_inv
    unfold pdL at e
    split at e
    · rename_i p qs e1 e2; cases e
      exact .cons (hf _ _ _ e1 r) (pdL_dp hf e2 t)
    · cases e
theorem pdD_dp (s : SR K H m S) : ∀ (n : Nat) (d : D) (p : PyData) (v : V), pdD S n d = some p → Rep K H m d v → Dp K H v p
  | 0, d, p, v, e, r => by cases e
  | n + 1, .non, p, v, e, r => by cases e; rw [rep_non r]; exact .non
  | n + 1, .bl b, p, v, e, r => by cases e; rw [rep_bl r]; exact .bl b
  | n + 1, .int b, p, v, e, r => by cases e; rw [rep_int r]; exact .int b
  | n + 1, .str b, p, v, e, r => by cases e; rw [(rep_str r).1]; exact .str b
  | n + 1, .tup ds, p, v, e, r => by
    obtain ⟨a, xs, rfl, h, r⟩ := rep_tup r
    simp only [pdD, Option.map_eq_some_iff] at e
    obtain ⟨ps, e1, rfl⟩ := e
    exact .tup (SqT.of h) (pdL_dp (fun d p v => pdD_dp s n d p v) e1 r)
  | n + 1, .ktup ds, p, v, e, r => by
    obtain ⟨a, xs, rfl, h, r⟩ := rep_ktup r
    simp only [pdD, Option.map_eq_some_iff] at e
    obtain ⟨ps, e1, rfl⟩ := e
    exact .tup (.inr h) (pdL_dp (fun d p v => pdD_dp s n d p v) e1 r)
  | n + 1, .rol ds, p, v, e, r => by
    obtain ⟨a, xs, rfl, h, r⟩ := rep_rol r
    simp only [pdD, Option.map_eq_some_iff] at e
    obtain ⟨ps, e1, rfl⟩ := e
    exact .lst h.sq (pdL_dp (fun d p v => pdD_dp s n d p v) e1 r)
  | n + 1, .ref k, p, v, e, r => by
    obtain ⟨a, rfl, h⟩ := rep_ref r
    obtain ⟨o, e1, r1⟩ := s.at h
    simp only [pdD, e1] at e
    cases o with
    | lst es =>
      simp only [Option.map_eq_some_iff] at e
      obtain ⟨ps, e2, rfl⟩ := e
      obtain ⟨xs, h1, r2⟩ := r1
      exact .lst (SqL.of h1) (pdL_dp (fun d p v => pdD_dp s n d p v) e2 r2)
    | _ => cases e
theorem pdL_lay {f : D → Option PyData} {n : Nat} (hf : ∀ d p v, f d = some p → Rep K H m d v → p.canLay0 = true ∧ p.depth ≤ n) : ∀ {ds : List D} {ps : List PyData} {xs : List V}, pdL f ds = some ps → RepL K H m ds xs → PyData.canLayAll0 ps = true ∧ PyData.depthAll ps ≤ n
  | [], ps, xs, e, h => by cases e; exact ⟨by simp [PyData.canLayAll0], by simp [PyData.depthAll]⟩
  | d :: ds, ps, xs, e, h => by
    obtain ⟨y, ys, rfl, r, t⟩ := h.cons_inv
    unfold pdL at e
    split at e
    · rename_i p qs e1 e2; cases e
      obtain ⟨a1, a2⟩ := hf _ _ _ e1 r
      obtain ⟨b1, b2⟩ := pdL_lay hf e2 t
      refine ⟨by simp only [PyData.canLayAll0, a1, b1]; rfl, ?_⟩
      simp only [PyData.depthAll]
      omega
    · cases e
theorem pdD_lay (s : SR K H m S) : ∀ (n : Nat) (d : D) (p : PyData) (v : V), pdD S n d = some p → Rep K H m d v → p.canLay0 = true ∧ p.depth ≤ n
  | 0, d, p, v, e, r => by cases e
  | n + 1, .non, p, v, e, r => by cases e; exact ⟨by simp [PyData.canLay0], by simp [PyData.depth]⟩
  | n + 1, .bl b, p, v, e, r => by cases e; exact ⟨by simp [PyData.canLay0], by simp [PyData.depth]⟩
  | n + 1, .int b, p, v, e, r => by cases e; exact ⟨by simp [PyData.canLay0], by simp [PyData.depth]⟩
  | n + 1, .str b, p, v, e, r => by cases e; exact ⟨by simp only [PyData.canLay0]; exact (rep_str r).2, by simp [PyData.depth]⟩
  | n + 1, .tup ds, p, v, e, r => by
    obtain ⟨a, xs, rfl, h, r⟩ := rep_tup r
    simp only [pdD, Option.map_eq_some_iff] at e
    obtain ⟨ps, e1, rfl⟩ := e
    obtain ⟨c, d⟩ := pdL_lay (fun d p v => pdD_lay s n d p v) e1 r
    exact ⟨by simp only [PyData.canLay0]; exact c, by simp only [PyData.depth]; omega⟩
  | n + 1, .ktup ds, p, v, e, r => by
    obtain ⟨a, xs, rfl, h, r⟩ := rep_ktup r
    simp only [pdD, Option.map_eq_some_iff] at e
    obtain ⟨ps, e1, rfl⟩ := e
    obtain ⟨c, d⟩ := pdL_lay (fun d p v => pdD_lay s n d p v) e1 r
    exact ⟨by simp only [PyData.canLay0]; exact c, by simp only [PyData.depth]; omega⟩
  | n + 1, .rol ds, p, v, e, r => by
    obtain ⟨a, xs, rfl, h, r⟩ := rep_rol r
    simp only [pdD, Option.map_eq_some_iff] at e
    obtain ⟨ps, e1, rfl⟩ := e
    obtain ⟨c, d⟩ := pdL_lay (fun d p v => pdD_lay s n d p v) e1 r
    exact ⟨by simp only [PyData.canLay0]; exact c, by simp only [PyData.depth]; omega⟩
  | n + 1, .ref k, p, v, e, r => by
    obtain ⟨a, rfl, h⟩ := rep_ref r
    obtain ⟨o, e1, r1⟩ := s.at h
    simp only [pdD, e1] at e
    cases o with
    | lst es =>
      simp only [Option.map_eq_some_iff] at e
      obtain ⟨ps, e2, rfl⟩ := e
      obtain ⟨xs, h1, r2⟩ := r1
      obtain ⟨c, d⟩ := pdL_lay (fun d p v => pdD_lay s n d p v) e2 r2
      exact ⟨by simp only [PyData.canLay0]; exact c, by simp only [PyData.depth]; omega⟩
    | _ => cases e
theorem shaped_of {p : PyData} (h : p.canLay0 = true) (d : p.depth ≤ 62) : SeqAt.shaped p = true := by
  unfold SeqAt.shaped
  rw [h, decide_eq_true (by omega)]; rfl
theorem pdL59 (s : SR K H m S) {ds : List D} {ps : List PyData} {xs : List V} (e : pdL (pdD S 59) ds = some ps) (r : RepL K H m ds xs) : DpAll K H xs ps ∧ PyData.canLayAll0 ps = true ∧ PyData.depthAll ps ≤ 59 :=
  ⟨pdL_dp (fun d p v => pdD_dp s 59 d p v) e r, pdL_lay (fun d p v => pdD_lay s 59 d p v) e r⟩
theorem pdT_ok {t : T} {v : V} {p : PyData} (s : SR K H m S) (r : RepP K H m t v) (e : pdT S t = some p) : Dp K H v p ∧ SeqAt.shaped p = true := by
  cases t with
  | d x =>
    obtain ⟨c, d⟩ := pdD_lay s 60 x p v e r
    exact ⟨pdD_dp s 60 x p v e r, shaped_of c (by omega)⟩
  | tmp ds =>
    simp only [pdT, Option.map_eq_some_iff] at e
    obtain ⟨ps, e1, rfl⟩ := e
    obtain ⟨a, xs, rfl, h2, n, r⟩ := r
    obtain ⟨q1, q2, q3⟩ := pdL59 s e1 r
    exact ⟨.lst (SqL.of h2) q1, shaped_of (by simp only [PyData.canLay0]; exact q2) (by simp only [PyData.depth]; omega)⟩

/-! ### texts -/
theorem strOk_app {a b : Str} (ha : PyData.strOk a = true) (hb : PyData.strOk b = true) : PyData.strOk (a ++ b) = true := by
  unfold PyData.strOk at *
  show (a.cps ++ b.cps).all _ = true
  rw [Array.all_append, ha, hb]; rfl
theorem strOk_iff {a : Str} : PyData.strOk a = true ↔ ∀ c ∈ a.cps.toList, c < 0x110000 := by
  unfold PyData.strOk
  rw [← Array.all_toList, List.all_eq_true]
  exact ⟨fun h c hc => of_decide_eq_true (h c hc), fun h c hc => decide_eq_true (h c hc)⟩
theorem strOk_one {c : Nat} (h : c < 0x110000) : PyData.strOk ⟨#[c]⟩ = true := strOk_iff.mpr fun d hd => by
  have : d = c := by simpa using hd
  omega
theorem strOk_sub {a b : Str} (ha : PyData.strOk a = true) (h : ∀ c ∈ b.cps.toList, c ∈ a.cps.toList) : PyData.strOk b = true :=
  strOk_iff.mpr fun c hc => strOk_iff.mp ha c (h c hc)
theorem strOk_cut {z : Str} {lo hi : Option Int} (h : PyData.strOk z = true) : PyData.strOk (cutS z lo hi) = true := strOk_sub h fun c hc => by
  have : c ∈ ((z.cps.toList.drop (HT.sIx z.length 0 lo)).take (HT.sIx z.length z.length hi - HT.sIx z.length 0 lo)) := by
    simpa [cutS] using hc
  exact List.mem_of_mem_drop (List.mem_of_mem_take this)
end
end F

/-! The operations: the machine's rules under our reading. -/
namespace F
open PySem PySem.Spec PyProof.Rows L2
variable [Tb]

/-- what is wanted of what an operation hands on -/
abbrev Wt (K : PySem.W.Frag) (H : Hp) (m : List Addr) (S' : Store) (t : T) (Q : VK) : Prop := ∀ w H' m', SR K H' m' S' → Fr H m H' m' → RepT K H H' m' t w → Q w H'
def rP (K : PySem.W.Frag) (p : Prim) : List V → Hp → VK → Prop := fun vs H Q => ∃ ts m S t S', SR K H m S ∧ RepPs K H m ts vs ∧ p.run ts S = some (t, S') ∧ Wt K H m S' t Q
def rP2 (K : PySem.W.Frag) (p : Prim) : R2 := fun x y H Q => rP K p [x, y] H Q
/-- the same by the operation alone, the store as it was -/
def rU2 (K : PySem.W.Frag) (f : T → T → Store → Option T) : R2 := fun x y H Q => ∃ t1 t2 m S t, SR K H m S ∧ RepP K H m t1 x ∧ RepP K H m t2 y ∧ f t1 t2 S = some t ∧ Wt K H m S t Q
section
variable {K : PySem.W.Frag} {H : Hp} {m : List Addr} {S : Store} {Q : VK}
theorem RepPs.nil_inv {ts : List T} (h : RepPs K H m ts []) : ts = [] := by cases h; rfl
theorem RepPs.one {ts : List T} {x : V} (h : RepPs K H m ts [x]) : ∃ t, ts = [t] ∧ RepP K H m t x := by
  cases h with
  | cons a b => cases b; exact ⟨_, rfl, a⟩
theorem RepPs.two {ts : List T} {x y : V} (h : RepPs K H m ts [x, y]) : ∃ t u, ts = [t, u] ∧ RepP K H m t x ∧ RepP K H m u y := by
  cases h with
  | cons a b => obtain ⟨u, rfl, r⟩ := b.one; exact ⟨_, _, rfl, a, r⟩
theorem RepPs.three {ts : List T} {x y z : V} (h : RepPs K H m ts [x, y, z]) : ∃ t u w, ts = [t, u, w] ∧ RepP K H m t x ∧ RepP K H m u y ∧ RepP K H m w z := by
  cases h with
  | cons a b => obtain ⟨u, w, rfl, r, r'⟩ := b.two; exact ⟨_, _, _, rfl, a, r, r'⟩
theorem fin_d {x : D} {v : V} (s : SR K H m S) (r : Rep K H m x v) (k : Wt K H m S (.d x) Q) : Q v H := k v H m s .refl r
theorem fin_tup {p : Addr} {ds : List D} {xs : List V} (s : SR K H m S) (np : H p = none) (r : RepL K H m ds xs) (k : Wt K H m S (.d (.tup ds)) Q) : Q (.ref p) (upd H p (.tup xs)) :=
  k _ _ m (s.new np) (Fr.new np) (mk_tup upd_same (r.kp ((Fr.new np).kp s)))
theorem fin_tmp {p : Addr} {ds : List D} {xs : List V} (s : SR K H m S) (np : H p = none) (r : RepL K H m ds xs) (k : Wt K H m S (.tmp ds) Q) : Q (.ref p) (upd H p (.lst xs)) :=
  k _ _ m (s.new np) (Fr.new np) ⟨p, xs, rfl, np, upd_same, s.nnone np, r.kp ((Fr.new np).kp s)⟩
theorem toP2 {p : Prim} {f : T → T → Store → Option T} (h : ∀ a b S, p.run [a, b] S = match f a b S with | some t => some (t, S) | none => none) : ∀ x y H Q, rP2 K p x y H Q → rU2 K f x y H Q := by
  rintro x y H Q ⟨ts, m, S, t, S', hs, hr, e, k⟩
  obtain ⟨t1, t2, rfl, r1, r2⟩ := hr.two
  rw [h] at e
  split at e
  · rename_i t' e1
    cases e
    exact ⟨t1, t2, m, S, t, hs, r1, r2, e1, k⟩
  · cases e
end
theorem opr_of {X : Cx} {f : Value → Value → Sem Value} {r r' : R2} (h : OpR X f r) (k : ∀ x y H Q, r' x y H Q → r x y H Q) : OpR X f r' := fun pins s σ H x y v u Q I rx ry q => h pins s σ H x y v u Q I rx ry (k x y H Q q)
theorem callr_of {X : Cx} {f : Value} {r r' : List V → Hp → VK → Prop} (h : CallR X f r) (k : ∀ xs H Q, r' xs H Q → r xs H Q) : CallR X f r' := fun pins s σ H xs us Q I rx q => h pins s σ H xs us Q I rx (k xs H Q q)

section
variable {X : Cx}
/-! ### numbers -/
theorem o_add : OpR X (binaryOp .Add) (rU2 X.K fun a b S => addT S a b) := by
  intro pins s σ H x y v u Q I rx ry h
  obtain ⟨t1, t2, m, S, t, hs, r1, r2, e, k⟩ := h
  have lists : (match lstM S t1, lstM S t2 with | some xs, some ys => if xs.length + ys.length ≤ sizeLine then some (T.tmp (xs ++ ys)) else none | _, _ => none) = some t → wpAny (model X.prog X.w) X.A (binaryOp .Add v u) (EP X pins σ Q) X.xe s := by
    intro e
    split at e
    · rename_i xs ys e1 e2
      split at e
      · rename_i hz
        cases e
        obtain ⟨a, vs, rfl, h1, q1⟩ := lstM_ok hs r1 e1
        obtain ⟨b, ws, rfl, h2, q2⟩ := lstM_ok hs r2 e2
        exact op_cat pins s σ H _ _ v u Q I rx ry ⟨a, b, vs, ws, rfl, rfl, h1, h2, by rw [← q1.len, ← q2.len]; exact hz, fun p np => fin_tmp hs np (q1.app q2) k⟩
      · cases e
    · cases e
  change addT S t1 t2 = some t at e
  unfold addT at e
  split at e
  · cases e; cases pp_int r1; cases pp_int r2
    exact op_add pins s σ H _ _ v u Q I rx ry ⟨_, _, rfl, rfl, fin_d hs (mk_int _) k⟩
  · rename_i a b
    split at e
    · rename_i hz
      cases e
      obtain ⟨rfl, o1⟩ := pp_str r1
      obtain ⟨rfl, o2⟩ := pp_str r2
      exact op_add_str pins s σ H _ _ v u Q I rx ry ⟨_, _, rfl, rfl, hz, fin_d hs (mk_str (strOk_app o1 o2)) k⟩
    · cases e
  · rename_i a b
    split at e
    · rename_i hz
      cases e
      obtain ⟨p, xs, rfl, h1, q1⟩ := rep_tup (pp_d r1)
      obtain ⟨p2, ys, rfl, h2, q2⟩ := rep_tup (pp_d r2)
      refine op_catA pins s σ H _ _ v u Q I rx ry ⟨p, p2, xs, ys, rfl, rfl, SqT.of h1, SqT.of h2, by rw [← q1.len, ← q2.len]; exact hz, fun e => ?_, fun _ e => ?_, fun _ _ q np => fin_tup hs np (q1.app q2) k⟩
      · subst e
        have : a = [] := List.eq_nil_of_length_eq_zero (by rw [q1.len]; rfl)
        subst this
        exact fin_d hs (mk_tup h2 q2) k
      · subst e
        have : b = [] := List.eq_nil_of_length_eq_zero (by rw [q2.len]; rfl)
        subst this
        rw [List.append_nil] at k
        exact fin_d hs (mk_tup h1 q1) k
    · cases e
  · exact lists e
theorem int2_inv {g : Int → Int → Option T} {a b t : T} (e : int2 g a b = some t) : ∃ i j, a = .d (.int i) ∧ b = .d (.int j) ∧ g i j = some t := by
  unfold int2 at e
  split at e
  · exact ⟨_, _, rfl, rfl, e⟩
  · cases e
theorem int1_inv {g : Int → Option T} {a t : T} (e : int1F g a = some t) : ∃ i, a = .d (.int i) ∧ g i = some t := by
  unfold int1F at e
  split at e
  · exact ⟨_, rfl, e⟩
  · cases e
theorem bl1_inv {g : Bool → T} {a t : T} (e : bl1 g a = some t) : ∃ b, a = .d (.bl b) ∧ t = g b := by
  unfold bl1 at e
  split at e
  · cases e; exact ⟨_, rfl, rfl⟩
  · cases e
/-- two ints, an int back -/
theorem o_int2 {f : Value → Value → Sem Value} {g : Int → Int → Option T} {C : Int → Int → Prop} {k : Int → Int → V} {kd : Int → Int → D} (h : OpR X f (rI C k)) (hg : ∀ i j t, g i j = some t → C i j ∧ t = .d (kd i j))
    (hk : ∀ i j K H m, Rep K H m (kd i j) (k i j)) : OpR X f (rU2 X.K fun a b _ => int2 g a b) := opr_of h fun x y H Q ⟨t1, t2, m, S, t, hs, r1, r2, e, q⟩ => by
  obtain ⟨i, j, rfl, rfl, e⟩ := int2_inv e
  obtain ⟨c, rfl⟩ := hg _ _ _ e
  exact ⟨i, j, pp_int r1, pp_int r2, c, fin_d hs (hk ..) q⟩
theorem o_int20 {f : Value → Value → Sem Value} {g : Int → Int → Option T} {k : Int → Int → V} {kd : Int → Int → D} (h : OpR X f (rI0 k)) (hg : ∀ i j t, g i j = some t → t = .d (kd i j))
    (hk : ∀ i j K H m, Rep K H m (kd i j) (k i j)) : OpR X f (rU2 X.K fun a b _ => int2 g a b) := opr_of h fun x y H Q ⟨t1, t2, m, S, t, hs, r1, r2, e, q⟩ => by
  obtain ⟨i, j, rfl, rfl, e⟩ := int2_inv e
  obtain rfl := hg _ _ _ e
  exact ⟨i, j, pp_int r1, pp_int r2, fin_d hs (hk ..) q⟩
theorem o_sub : OpR X (binaryOp .Sub) (rU2 X.K fun a b _ => int2 (fun i j => tI (i - j)) a b) := o_int20 (kd := fun i j => .int (i - j)) op_sub (fun i j t e => (Option.some.inj e).symm) fun i j K H m => mk_int _
theorem cps_glue : ∀ (l : List (Array Nat)) (acc : Array Nat), (∀ a ∈ l, ∀ c ∈ a.toList, c < 0x110000) → (∀ c ∈ acc.toList, c < 0x110000) → ∀ c ∈ (l.foldl (· ++ ·) acc).toList, c < 0x110000
  | [], _, _, h => h
  | x :: r, acc, h, k => cps_glue r _ (fun a ha => h a (List.mem_cons_of_mem _ ha)) fun c hc => by
    rw [Array.toList_append] at hc
    rcases List.mem_append.mp hc with hc | hc
    · exact k c hc
    · exact h x List.mem_cons_self c hc
theorem strOk_mul {x : Str} (h : PyData.strOk x = true) (n : Int) : PyData.strOk (Txt.mul x n) = true := by
  unfold Txt.mul
  split
  · exact strOk_iff.mpr fun c hc => by cases hc
  · split
    · exact h
    · exact strOk_iff.mpr (cps_glue _ _ (fun a ha => by rw [List.eq_of_mem_replicate ha]; exact strOk_iff.mp h) fun c hc => by cases hc)
theorem mul_ok {x : Str} {n : Int} (h0 : 0 ≤ n) (h1 : n ≤ 10000) (hx : x.length ≤ 1000) : MulOk x n := by
  refine ⟨?_, fun z _ => ?_, fun z _ => ?_⟩
  · rw [decide_eq_false (by omega), decide_eq_false (by omega)]; rfl
  · have : (1000 : Int) ≤ (2 ^ 63 - 1) / n := Int.le_ediv_of_mul_le (by omega) (by omega)
    omega
  · have a1 : x.length * n.toNat ≤ 1000 * 10000 := Nat.mul_le_mul hx (by omega)
    have a2 : 1000 * 10000 ≤ sizeLine := by decide
    show decide (x.length * n.toNat > sizeLine) = false
    exact decide_eq_false (by omega)
theorem op_mul_str : OpR X (binaryOp .Mult) (fun x y H Q => ∃ (i : Str) (j : Int), x = .str i ∧ y = .int j ∧ MulOk i j ∧ Q (.str (Txt.mul i j)) H) := by
  intro pins s σ H x y v u Q I rx ry h
  obtain ⟨i, j, rfl, rfl, hz, q⟩ := h
  obtain ⟨t, rfl⟩ := rx
  obtain ⟨t', rfl⟩ := ry
  exact SB.mul hz (fun t' tk => ⟨.str (Txt.mul i j), H, I.tok _, ⟨_, rfl⟩, q⟩)
theorem RepL.rep {K : PySem.W.Frag} {H : Hp} {m : List Addr} {ds : List D} {vs : List V} (h : RepL K H m ds vs) : ∀ n : Nat, RepL K H m (List.replicate n ds).flatten (List.replicate n vs).flatten
  | 0 => .nil
  | n + 1 => by
    rw [List.replicate_succ, List.replicate_succ, List.flatten_cons, List.flatten_cons]
    exact h.app (RepL.rep h n)
theorem o_mul : OpR X (binaryOp .Mult) (rU2 X.K fun a b S => mulT S a b) := by
  intro pins s σ H x y v u Q I rx ry h
  obtain ⟨t1, t2, m, S, t, hs, r1, r2, e, q⟩ := h
  change mulT S t1 t2 = some t at e
  unfold mulT at e
  split at e
  · split at e
    · rename_i hz; cases e
      exact op_mulW pins s σ H _ _ v u Q I rx ry ⟨_, _, pp_int r1, pp_int r2, hz, fin_d hs (mk_int _) q⟩
    · cases e
  · split at e
    · rename_i hz; cases e
      obtain ⟨rfl, o1⟩ := pp_str r1
      exact op_mul_str pins s σ H _ _ v u Q I rx ry ⟨_, _, rfl, pp_int r2, mul_ok hz.1 hz.2.1 hz.2.2, fin_d hs (mk_str (strOk_mul o1 _)) q⟩
    · cases e
  · split at e
    · rename_i ds k hz; cases e
      obtain ⟨p, xs, rfl, h1, q1⟩ := rep_tup (pp_d r1)
      refine op_repT pins s σ H _ _ v u Q I rx ry ⟨p, _, xs, rfl, pp_int r2, SqT.of h1, fun e => ?_, hz.2.1, hz.2.2.1, by rw [← q1.len]; exact hz.2.2.2, fun _ np => fin_tup hs np (q1.rep _) q⟩
      subst e
      have : ds = [] := List.eq_nil_of_length_eq_zero (by rw [q1.len]; rfl)
      rw [this] at hz
      cases hz.1
    · cases e
  · split at e
    · rename_i e1
      split at e
      · rename_i hz; cases e
        obtain ⟨a, vs, rfl, h1, q1⟩ := lstM_ok hs r1 e1
        exact op_rep pins s σ H _ _ v u Q I rx ry ⟨a, _, vs, rfl, pp_int r2, h1, hz.1, hz.2.1, by rw [← q1.len]; exact hz.2.2, fun p np => fin_tmp hs np (q1.rep _) q⟩
      · cases e
    · cases e
  · cases e
theorem o_fdiv : OpR X (binaryOp .FloorDiv) (rU2 X.K fun a b _ => int2 fdivI a b) := o_int2 (kd := fun i j => .int (i / j)) op_fdivW (fun i j t e => by
  unfold fdivI at e
  split at e
  · rename_i hz; exact ⟨hz, (Option.some.inj e).symm⟩
  · cases e) fun i j K H m => mk_int _
theorem o_mod : OpR X (binaryOp .Mod) (rU2 X.K fun a b _ => int2 modI a b) := o_int2 (kd := fun i j => .int (i % j)) op_mod (fun i j t e => by
  unfold modI at e
  split at e
  · rename_i hz; exact ⟨hz, (Option.some.inj e).symm⟩
  · cases e) fun i j K H m => mk_int _
theorem op_powW : OpR X (binaryOp .Pow) (rI CPowW fun i j => .int (i ^ j.toNat)) := opI fun _ _ _ _ _ _ _ hc q => pow_int hc.1 hc.2 q
theorem o_pow : OpR X (binaryOp .Pow) (rU2 X.K fun a b _ => int2 powI a b) := o_int2 (kd := fun i j => .int (i ^ j.toNat)) op_powW (fun i j t e => by
  unfold powI at e
  split at e
  · rename_i hz; exact ⟨hz, (Option.some.inj e).symm⟩
  · cases e) fun i j K H m => mk_int _
def rDat (K : PySem.W.Frag) (f : PyData → PyData → Bool) : R2 := fun x y H Q => ∃ p q, Dp K H x p ∧ Dp K H y q ∧ PySem.W.alike p q = true ∧ p ≠ .none ∧ p.depth ≤ 60 ∧ Q (.bl (f p q)) H
theorem op_dat {op : CmpOp} {f : PyData → PyData → Bool} (h : ∀ (s : Shared) (v u : Value) (p q : PyData) (as bs : List Addr) (Q : Value → Shared → Prop), Reads s.heap v p as → Reads s.heap u q bs → PySem.W.alike p q = true → p ≠ .none → X.A.units + min p.depth q.depth < cLine → Q (.bool (f p q)) s → wpAny (model X.prog X.w) X.A (compareOp op v u) Q X.xe s) (hu : X.A.units + 64 < cLine) :
    OpR X (compareOp op) (rDat X.K f) := by
  intro pins s σ H x y v u Q I rx ry ⟨p, q, d1, d2, al, hn, hd, k⟩
  obtain ⟨as, ra⟩ := Dp.reads I p x v d1 rx
  obtain ⟨bs, rb⟩ := Dp.reads I q y u d2 ry
  exact h s v u p q as bs _ ra rb al hn (by omega) ⟨.bl (f p q), H, I, rfl, k⟩
theorem dcmp_ok {K : PySem.W.Frag} {f : PyData → PyData → Bool} {S : Store} {xs ys : List D} {t : T} {H : Hp} {m : List Addr} {x y : V} {Q : VK} (hs : SR K H m S) (r1 : RepP K H m (.d (.tup xs)) x) (r2 : RepP K H m (.d (.tup ys)) y) (e : dcmpT f S xs ys = some t) (q : Wt K H m S t Q) : rDat K f x y H Q := by
  unfold dcmpT at e
  split at e
  · rename_i ps qs e1 e2
    split at e
    · rename_i al
      cases e
      obtain ⟨a, us, rfl, h1, h2⟩ := rep_tup (pp_d r1)
      obtain ⟨b, ws, rfl, h3, h4⟩ := rep_tup (pp_d r2)
      obtain ⟨d1, _, n1⟩ := pdL59 hs e1 h2
      obtain ⟨d2, _, n2⟩ := pdL59 hs e2 h4
      exact ⟨_, _, .tup (.inl (.inl h1)) d1, .tup (.inl (.inl h3)) d2, al, (fun z => by cases z), by simp only [PyData.depth]; omega, fin_d hs (mk_bl _) q⟩
    · cases e
  · cases e
theorem o_cmp {op : CmpOp} {g : Int → Int → Bool} {f : PyData → PyData → Bool} (h1 : OpR X (compareOp op) (rI0 fun i j => .bl (g i j))) (h2 : OpR X (compareOp op) (rDat X.K f)) : OpR X (compareOp op) (rU2 X.K fun a b S => cmpT g f S a b) :=
  opr_of (OpR.or h1 h2) fun x y H Q ⟨t1, t2, m, S, t, hs, r1, r2, e, q⟩ => by
    change cmpT g f S t1 t2 = some t at e
    unfold cmpT at e
    split at e
    · cases e; exact .inl ⟨_, _, pp_int r1, pp_int r2, fin_d hs (mk_bl _) q⟩
    · exact .inr (dcmp_ok hs r1 r2 e q)
    · cases e
theorem o_le (hu : X.A.units + 64 < cLine) : OpR X (compareOp .LtE) (rU2 X.K fun a b S => cmpT (fun i j => decide (i ≤ j)) (fun p q => !PySem.W.dataLt q p) S a b) := o_cmp op_le (op_dat (fun _ _ _ _ _ _ _ _ ra rb h hn hu hq => PySem.W.le_data ra rb h hn hu hq) hu)
theorem o_gt (hu : X.A.units + 64 < cLine) : OpR X (compareOp .Gt) (rU2 X.K fun a b S => cmpT (fun i j => decide (j < i)) (fun p q => PySem.W.dataLt q p) S a b) := o_cmp op_gt (op_dat (fun _ _ _ _ _ _ _ _ ra rb h hn hu hq => PySem.W.gt_data ra rb h hn hu hq) hu)
theorem o_ge (hu : X.A.units + 64 < cLine) : OpR X (compareOp .GtE) (rU2 X.K fun a b S => cmpT (fun i j => decide (j ≤ i)) (fun p q => !PySem.W.dataLt p q) S a b) := o_cmp op_ge (op_dat (fun _ _ _ _ _ _ _ _ ra rb h hn hu hq => PySem.W.ge_data ra rb h hn hu hq) hu)
theorem o_lt (hu : X.A.units + 64 < cLine) : OpR X (compareOp .Lt) (rU2 X.K fun a b S => ltT S a b) := opr_of (OpR.or op_lt (OpR.or op_lt_str (op_dat (f := PySem.W.dataLt) (fun _ _ _ _ _ _ _ _ ra rb h hn hu hq => PySem.W.lt_data ra rb h hn hu hq) hu))) fun x y H Q ⟨t1, t2, m, S, t, hs, r1, r2, e, q⟩ => by
  change ltT S t1 t2 = some t at e
  unfold ltT at e
  split at e
  · cases e; exact .inl ⟨_, _, pp_int r1, pp_int r2, fin_d hs (mk_bl _) q⟩
  · rename_i a b
    cases e; exact .inr (.inl ⟨_, _, (pp_str r1).1, (pp_str r2).1, fin_d hs (mk_bl _) q⟩)
  · exact .inr (.inr (dcmp_ok hs r1 r2 e q))
  · cases e
theorem bne_false (b : Bool) : (b != false) = b := by cases b <;> rfl
theorem bne_true (b : Bool) : (b != true) = !b := by cases b <;> rfl
theorem o_eq (hu : X.A.units + 64 < cLine) : OpR X (compareOp .Eq) (rU2 X.K fun a b S => eqT false S a b) := opr_of (op_eqD hu) fun x y H Q ⟨t1, t2, m, S, t, hs, r1, r2, e, q⟩ => by
  change eqT false S t1 t2 = some t at e
  unfold eqT at e
  split at e
  · rename_i p p' e1 e2
    obtain ⟨a1, a2⟩ := pdT_ok hs r1 e1
    obtain ⟨b1, b2⟩ := pdT_ok hs r2 e2
    rw [bne_false] at e
    cases e
    exact ⟨p, p', a1, b1, a2, b2, fin_d hs (mk_bl _) q⟩
  · cases e
theorem o_ne (hu : X.A.units + 64 < cLine) : OpR X (compareOp .NotEq) (rU2 X.K fun a b S => eqT true S a b) := opr_of (op_neD hu) fun x y H Q ⟨t1, t2, m, S, t, hs, r1, r2, e, q⟩ => by
  change eqT true S t1 t2 = some t at e
  unfold eqT at e
  split at e
  · rename_i p p' e1 e2
    obtain ⟨a1, a2⟩ := pdT_ok hs r1 e1
    obtain ⟨b1, b2⟩ := pdT_ok hs r2 e2
    rw [bne_true] at e
    cases e
    exact ⟨p, p', a1, b1, a2, b2, fin_d hs (mk_bl _) q⟩
  · cases e
/-! ### in -/
def toF : D → V
  | .bl b => .bl b | .int i => .int i | .str x => .str x | _ => .non
theorem rep_flat {K : PySem.W.Frag} {H : Hp} {m : List Addr} {d : D} {v : V} (f : flat d = true) (r : Rep K H m d v) : v = toF d ∧ flatV v = true := by
  cases d with
  | non => cases rep_non r; exact ⟨rfl, rfl⟩
  | bl b => cases rep_bl r; exact ⟨rfl, rfl⟩
  | int b => cases rep_int r; exact ⟨rfl, rfl⟩
  | str b => obtain ⟨rfl, _⟩ := rep_str r; exact ⟨rfl, rfl⟩
  | _ => cases f
theorem eqF_V {d e : D} (f : flat d = true) (g : flat e = true) : eqV (toF d) (toF e) = eqF d e := by
  cases d <;> cases e <;> first | rfl | exact absurd f Bool.false_ne_true | exact absurd g Bool.false_ne_true
theorem repL_flat {K : PySem.W.Frag} {H : Hp} {m : List Addr} {x : D} (fx : flat x = true) : ∀ {ds : List D} {xs : List V}, ds.all flat = true → RepL K H m ds xs → xs.all flatV = true ∧ inV (toF x) xs = ds.any fun z => eqF z x
  | [], xs, _, h => by rw [h.nil_inv]; exact ⟨rfl, rfl⟩
  | d :: ds, xs, f, h => by
    obtain ⟨y, ys, rfl, r, t⟩ := h.cons_inv
    rw [List.all_cons, Bool.and_eq_true] at f
    obtain ⟨e1, e2⟩ := rep_flat f.1 r
    obtain ⟨e3, e4⟩ := repL_flat fx f.2 t
    refine ⟨by rw [List.all_cons, e2, e3]; rfl, ?_⟩
    unfold inV at e4 ⊢
    rw [List.any_cons, List.any_cons, e4, e1, eqF_V f.1 fx]
theorem keyOf_ok {K : PySem.W.Frag} {H : Hp} {m : List Addr} {d : D} {k : Key} {v : V} (e : keyOf d = some k) (r : Rep K H m d v) : v = kV k ∧ kOk k = true := by
  cases d with
  | int i => cases e; cases rep_int r; exact ⟨rfl, rfl⟩
  | str i => cases e; obtain ⟨rfl, o⟩ := rep_str r; exact ⟨rfl, o⟩
  | _ => cases e
theorem keysOf_ok {K : PySem.W.Frag} {H : Hp} {m : List Addr} : ∀ {ds : List D} {ks : List Key} {vs : List V}, keysOf ds = some ks → RepL K H m ds vs → vs = ks.map kV ∧ ∀ q ∈ ks, kOk q = true
  | [], ks, vs, e, r => by rw [r.nil_inv]; cases e; exact ⟨rfl, fun _ z => nomatch z⟩
  | d :: ds, ks, vs, e, r => by
    obtain ⟨y, ys, rfl, r, t⟩ := r.cons_inv
    unfold keysOf at e
    split at e
    · rename_i k ks' e1 e2
      cases e
      obtain ⟨rfl, o⟩ := keyOf_ok e1 r
      obtain ⟨rfl, os⟩ := keysOf_ok e2 t
      refine ⟨rfl, fun q hq => ?_⟩
      rcases List.mem_cons.mp hq with rfl | hq
      · exact o
      · exact os q hq
    · cases e
/-- a look: the D's side and the V's side -/
theorem look_ok {K : PySem.W.Frag} {H : Hp} {m : List Addr} {κ : Type} [DecidableEq κ] (k : κ) : ∀ {kvs : List (κ × D)} {ws : List (κ × V)}, kvs.map (·.1) = ws.map (·.1) → RepL K H m (kvs.map (·.2)) (ws.map (·.2)) →
    (lookK kvs k = none ∧ valV ws k = none) ∨ ∃ d v, lookK kvs k = some d ∧ valV ws k = some v ∧ Rep K H m d v
  | [], [], _, _ => .inl ⟨rfl, rfl⟩
  | [], _ :: _, e, _ => nomatch e
  | _ :: _, [], e, _ => nomatch e
  | (k1, d) :: kvs, (k2, v) :: ws, e, r => by
    simp only [List.map_cons, List.cons.injEq] at e
    obtain ⟨rfl, e⟩ := e
    obtain ⟨y, ys, e2, r1, t⟩ := r.cons_inv
    simp only [List.map_cons, List.cons.injEq] at e2
    obtain ⟨rfl, rfl⟩ := e2
    by_cases hk : k1 = k
    · exact .inr ⟨d, v, by simp [lookK, List.find?_cons, hk], by rw [valV_pos hk], r1⟩
    · rcases look_ok k e t with ⟨h1, h2⟩ | ⟨d', v', h1, h2, h3⟩
      · exact .inl ⟨by simpa [lookK, List.find?_cons, hk] using h1, by rw [valV_neg hk]; exact h2⟩
      · exact .inr ⟨d', v', by simpa [lookK, List.find?_cons, hk] using h1, by rw [valV_neg hk]; exact h2, h3⟩
theorem dLook_ok {K : PySem.W.Frag} {H : Hp} {m : List Addr} {S : Store} {n : Nat} {k : D} {r : Option D} {a : Addr} {y : V} (s : SR K H m S) (ha : m[n]? = some a) (rk : Rep K H m k y) (e : dLook S n k = some r) :
    ∃ o, DGet H a y o ∧ o.isSome = r.isSome ∧ ∀ d, r = some d → ∃ v, o = some v ∧ Rep K H m d v := by
  obtain ⟨o, eo, ro⟩ := s.at ha
  have kcase : ∀ {kvs : List (Key × D)} {ws : List (Key × V)}, Rd H a (.dK ws) → kvs.map (·.1) = ws.map (·.1) → RepL K H m (kvs.map (·.2)) (ws.map (·.2)) → (keyOf k).map (lookK kvs) = some r →
      ∃ o, DGet H a y o ∧ o.isSome = r.isSome ∧ ∀ d, r = some d → ∃ v, o = some v ∧ Rep K H m d v := by
    intro kvs ws h1 h2 h3 e
    rw [Option.map_eq_some_iff] at e
    obtain ⟨q, e2, rfl⟩ := e
    obtain ⟨rfl, _⟩ := keyOf_ok e2 rk
    refine ⟨_, .inl ⟨ws, q, h1, rfl, rfl⟩, ?_⟩
    rcases look_ok q h2 h3 with ⟨p1, p2⟩ | ⟨d', v', p1, p2, p3⟩
    · rw [p1, p2]; exact ⟨rfl, fun d z => nomatch z⟩
    · rw [p1, p2]; exact ⟨rfl, fun d z => by cases z; exact ⟨_, rfl, p3⟩⟩
  have tcase : ∀ {ks : List D} {kvs : List (List Key × D)} {ws : List (List Key × V)}, k = .tup ks → Rd H a (.dT ws) → kvs.map (·.1) = ws.map (·.1) → RepL K H m (kvs.map (·.2)) (ws.map (·.2)) → (keysOf ks).map (lookK kvs) = some r →
      ∃ o, DGet H a y o ∧ o.isSome = r.isSome ∧ ∀ d, r = some d → ∃ v, o = some v ∧ Rep K H m d v := by
    intro ks kvs ws hk h1 h2 h3 e0
    subst hk
    rw [Option.map_eq_some_iff] at e0
    obtain ⟨q, e2, rfl⟩ := e0
    obtain ⟨b, xs, rfl, hb, rx⟩ := rep_tup rk
    obtain ⟨rfl, _⟩ := keysOf_ok e2 rx
    refine ⟨_, .inr ⟨ws, q, b, h1, rfl, hb, rfl⟩, ?_⟩
    rcases look_ok q h2 h3 with ⟨p1, p2⟩ | ⟨d', v', p1, p2, p3⟩
    · rw [p1, p2]; exact ⟨rfl, fun d z => nomatch z⟩
    · rw [p1, p2]; exact ⟨rfl, fun d z => by cases z; exact ⟨_, rfl, p3⟩⟩
  unfold dLook at e
  split at e
  · rename_i kvs k' e1
    rw [e1] at eo; cases eo
    obtain ⟨ws, h1, h2, h3, h4⟩ := ro
    exact kcase (.inl h1) h2 h3 e
  · rename_i kvs k' e1
    rw [e1] at eo; cases eo
    obtain ⟨od, ws, h1, h2, h3, h4⟩ := ro
    exact kcase (.inr ⟨od, h1⟩) h2 h3 e
  · rename_i kvs ks e1
    rw [e1] at eo; cases eo
    obtain ⟨ws, h1, h2, h3, h4⟩ := ro
    exact tcase rfl (.inl h1) h2 h3 e
  · rename_i kvs ks e1
    rw [e1] at eo; cases eo
    obtain ⟨od, ws, h1, h2, h3, h4⟩ := ro
    exact tcase rfl (.inr ⟨od, h1⟩) h2 h3 e
  · cases e

theorem inL_ok {K : PySem.W.Frag} {H : Hp} {m : List Addr} {S : Store} {x : D} {ds : List D} {b : Bool} {y : V} {a : Addr} {xs : List V} (hs : SR K H m S) (rx : Rep K H m x y) (hl : SqL K H a xs) (r : RepL K H m ds xs) (e : inL S x ds = some b) :
    ∃ d es, Dp K H y d ∧ Dp K H (.ref a) (.list es) ∧ SeqAt.shaped d = true ∧ SeqAt.shaped (.list es) = true ∧ b = es.any fun z => PyData.eqv z d := by
  unfold inL at e
  split at e
  · rename_i p ps e1 e2
    cases e
    obtain ⟨q1, q2, q3⟩ := pdL59 hs e2 r
    obtain ⟨c1, c2⟩ := pdD_lay hs 59 x p y e1 rx
    exact ⟨p, ps, pdD_dp hs 59 x p y e1 rx, .lst hl q1, shaped_of c1 (by omega), shaped_of (by simp only [PyData.canLay0]; exact q2) (by simp only [PyData.depth]; omega), rfl⟩
  · cases e
def rDIn (neg : Bool) : R2 := fun y x H Q => ∃ a o, x = .ref a ∧ DGet H a y o ∧ Q (.bl (o.isSome != neg)) H
theorem op_din (hu : X.A.units + 1 < cLine) : OpR X (compareOp .In) (rDIn false) := by
  intro pins s σ H x y v u Q I rx ry h
  obtain ⟨a, o, rfl, g, q⟩ := h
  obtain rfl : u = Value.ref a := ry
  rw [bne_false] at q
  exact d_in hu I g rx fun s3 I3 => ⟨.bl o.isSome, H, I3, rfl, q⟩
theorem op_dnotin (hu : X.A.units + 1 < cLine) : OpR X (compareOp .NotIn) (rDIn true) := by
  intro pins s σ H x y v u Q I rx ry h
  obtain ⟨a, o, rfl, g, q⟩ := h
  obtain rfl : u = Value.ref a := ry
  rw [bne_true] at q
  exact d_notIn hu I g rx fun s3 I3 => ⟨.bl (!o.isSome), H, I3, rfl, q⟩
theorem bT_inv {b : Option Bool} {neg : Bool} {t : T} (e : bT b neg = some t) : ∃ c, b = some c ∧ t = .d (.bl (c != neg)) := by
  unfold bT at e
  split at e
  · cases e; exact ⟨_, rfl, rfl⟩
  · cases e
/-- in, by what each rule asks -/
theorem in_core {f : Value → Value → Sem Value} (neg : Bool)
    (h1 : OpR X f (fun x y H Q => ∃ i j, x = .str i ∧ y = .str j ∧ Q (.bl ((!(Builtin.Str.occurrences j i 0 j.length 1).isEmpty) != neg)) H))
    (h2 : OpR X f (fun x y H Q => ∃ p xs, y = .ref p ∧ SqT X.K H p xs ∧ flatV x = true ∧ xs.all flatV = true ∧ Q (.bl (inV x xs != neg)) H))
    (h3 : OpR X f (fun x y H Q => ∃ d ds, Dp X.K H x d ∧ Dp X.K H y (.list ds) ∧ SeqAt.shaped d = true ∧ SeqAt.shaped (.list ds) = true ∧ Q (.bl ((ds.any fun z => PyData.eqv z d) != neg)) H))
    (h4 : OpR X f (rDIn neg)) : OpR X f (rU2 X.K fun a b S => bT (inT S a b) neg) := by
  intro pins s σ H x y v u Q I rx ry h
  obtain ⟨t1, t2, m, S, t, hs, r1, r2, e0, k⟩ := h
  obtain ⟨c, e, rfl⟩ := bT_inv (show bT (inT S t1 t2) neg = some t from e0)
  unfold inT at e
  split at e
  · rename_i a b
    cases e
    exact h1 pins s σ H x y v u Q I rx ry ⟨a, b, (pp_str r1).1, (pp_str r2).1, fin_d hs (mk_bl _) k⟩
  · rename_i x' n _
    obtain ⟨a, rfl, ha⟩ := rep_ref (pp_d r2)
    obtain ⟨o, eo, ro⟩ := hs.at ha
    split at e
    · rename_i ds e1
      rw [e1] at eo; cases eo
      obtain ⟨xs, q1, q2⟩ := ro
      obtain ⟨d, es, p1, p2, p3, p4, rfl⟩ := inL_ok hs (pp_d r1) (SqL.of q1) q2 e
      exact h3 pins s σ H x _ v u Q I rx ry ⟨d, es, p1, p2, p3, p4, fin_d hs (mk_bl _) k⟩
    · rename_i o' e1 e2
      rw [Option.map_eq_some_iff] at e
      obtain ⟨r, e3, rfl⟩ := e
      obtain ⟨o2, g, gs, _⟩ := dLook_ok hs ha (pp_d r1) e3
      refine h4 pins s σ H x _ v u Q I rx ry ⟨a, o2, rfl, g, ?_⟩
      rw [gs]
      exact fin_d hs (mk_bl _) k
    · cases e
  · rename_i x' ds _
    obtain ⟨a, xs, rfl, q1, q2⟩ := rep_rol (pp_d r2)
    obtain ⟨d, es, p1, p2, p3, p4, rfl⟩ := inL_ok hs (pp_d r1) q1.sq q2 e
    exact h3 pins s σ H x _ v u Q I rx ry ⟨d, es, p1, p2, p3, p4, fin_d hs (mk_bl _) k⟩
  · rename_i x' ds
    obtain ⟨a, xs, rfl, q0, _, q2⟩ := r2
    obtain ⟨d, es, p1, p2, p3, p4, rfl⟩ := inL_ok hs (pp_d r1) (SqL.of q0) q2 e
    exact h3 pins s σ H x _ v u Q I rx ry ⟨d, es, p1, p2, p3, p4, fin_d hs (mk_bl _) k⟩
  · rename_i x' ds _
    split at e
    · rename_i hf
      cases e
      obtain ⟨a, xs, rfl, q1, q2⟩ := rep_tup (pp_d r2)
      obtain ⟨w1, w2⟩ := rep_flat hf.1 (pp_d r1)
      obtain ⟨w3, w4⟩ := repL_flat hf.1 hf.2 q2
      refine h2 pins s σ H x _ v u Q I rx ry ⟨a, xs, rfl, SqT.of q1, w2, w3, ?_⟩
      rw [w1, w4]
      exact fin_d hs (mk_bl _) k
    · cases e
  · rename_i x' ds _
    split at e
    · rename_i hf
      cases e
      obtain ⟨a, xs, rfl, q1, q2⟩ := rep_ktup (pp_d r2)
      obtain ⟨w1, w2⟩ := rep_flat hf.1 (pp_d r1)
      obtain ⟨w3, w4⟩ := repL_flat hf.1 hf.2 q2
      refine h2 pins s σ H x _ v u Q I rx ry ⟨a, xs, rfl, .inr q1, w2, w3, ?_⟩
      rw [w1, w4]
      exact fin_d hs (mk_bl _) k
    · cases e
  · cases e
theorem o_in (hu : X.A.units + 65 < cLine) : OpR X (compareOp .In) (rU2 X.K fun a b S => bT (inT S a b) false) := by
  refine in_core false ?_ ?_ ?_ (op_din (by omega))
  · exact opr_of op_in_str fun x y H Q ⟨i, j, e1, e2, q⟩ => ⟨i, j, e1, e2, by rw [bne_false] at q; exact q⟩
  · exact opr_of op_in_seq fun x y H Q ⟨p, xs, e1, h1, h2, h3, q⟩ => ⟨p, xs, e1, .inr h1, h2, h3, by rw [bne_false] at q; exact q⟩
  · exact opr_of (op_inD hu) fun x y H Q ⟨d, ds, h1, h2, h3, h4, q⟩ => ⟨d, ds, h1, h2, h3, h4, by rw [bne_false] at q; exact q⟩
theorem o_notin (hu : X.A.units + 65 < cLine) : OpR X (compareOp .NotIn) (rU2 X.K fun a b S => bT (inT S a b) true) := by
  refine in_core true ?_ ?_ ?_ (op_dnotin (by omega))
  · exact opr_of op_notIn_str fun x y H Q ⟨i, j, e1, e2, q⟩ => ⟨i, j, e1, e2, by rw [bne_true] at q; exact q⟩
  · exact opr_of op_notIn_seq fun x y H Q ⟨p, xs, e1, h1, h2, h3, q⟩ => ⟨p, xs, e1, .inr h1, h2, h3, by rw [bne_true] at q; exact q⟩
  · exact opr_of (op_notInD hu) fun x y H Q ⟨d, ds, h1, h2, h3, h4, q⟩ => ⟨d, ds, h1, h2, h3, h4, by rw [bne_true] at q; exact q⟩
/-! ### a[i] -/
theorem ix_dict (hu : X.A.units + 1 < cLine) : IxR X (fun x y H Q => ∃ a v, x = .ref a ∧ DGet H a y (some v) ∧ Q v H) := by
  intro value slice pins s σ H x y v u Q I rx ry h hs
  obtain ⟨a, w, rfl, g, q⟩ := h
  obtain rfl : v = Value.ref a := rx
  have hT := dict_typeIs I g
  unfold subscriptTail
  refine wpAny_bind ?_
  rw [getitemInPython_of_ne hT.not_modules]
  refine wpAny_bind (wpAny_specialOf hT PySem.F.slot_dict_getitem.lookup ?_)
  have fin : wpAny (model X.prog X.w) X.A (subscripted slice false (.ref a) u) (fun r s₃ => wpAny (model X.prog X.w) X.A (letTemporaryGo value (.ref a) r >>= fun _ => pure r) (EP X pins σ Q) X.xe s₃) X.xe s := by
    rw [hs]
    exact wpAny_operating (thn (d_getItem hu I g ry fun w' s3 I3 rw' => (show EP X pins σ Q w' s3 from ⟨w, H, I3, rw', q⟩)) fun r s₃ h₃ => wpAny_bind (wpAny_letTemporaryGo (wpAny_pure h₃)))
  first
    | exact wpAny_pure (wpAny_bind fin)
    | exact wpAny_bind (wpAny_pure (wpAny_bind fin))
    | exact wpAny_bind fin
theorem ixr_of {r r' : R2} (h : IxR X r) (k : ∀ x y H Q, r' x y H Q → r x y H Q) : IxR X r' := fun value slice pins s σ H x y v u Q I rx ry q => h value slice pins s σ H x y v u Q I rx ry (k x y H Q q)
theorem atI_rep {K : PySem.W.Frag} {H : Hp} {m : List Addr} {ds : List D} {xs : List V} {i : Int} {d : D} (r : RepL K H m ds xs) (e : atI ds i = some d) : ∃ v, atI xs i = some v ∧ Rep K H m d v := by
  unfold atI at *
  rw [Option.bind_eq_some_iff] at e
  obtain ⟨j, e1, e2⟩ := e
  obtain ⟨v, e3, r1⟩ := r.get e2
  exact ⟨v, by rw [← r.len, e1]; exact e3, r1⟩
theorem atI_mem {α : Type} {xs : List α} {i : Int} {x : α} (e : atI xs i = some x) : x ∈ xs := by
  unfold atI at e
  rw [Option.bind_eq_some_iff] at e
  obtain ⟨j, _, e2⟩ := e
  exact List.mem_of_getElem? e2
theorem o_item (hu : X.A.units + 1 < cLine) : IxR X (rU2 X.K fun a b S => itemR S a b) := by
  refine ixr_of (IxR.or ix_seq (ix_dict hu)) fun x y H Q ⟨t1, t2, m, S, t, hs, r1, r2, e, q⟩ => ?_
  change itemR S t1 t2 = some t at e
  unfold itemR at e
  split at e
  · rename_i d e0
    cases e
    unfold itemT at e0
    split at e0
    · rename_i z i
      split at e0
      · rename_i hz
        rw [Option.map_eq_some_iff] at e0
        obtain ⟨c, e1, rfl⟩ := e0
        obtain ⟨rfl, o⟩ := pp_str r1
        cases pp_int r2
        exact .inl (.inr (.inr ⟨z, i, c, rfl, rfl, hz, e1, fin_d hs (mk_str (strOk_one (strOk_iff.mp o c (atI_mem e1)))) q⟩))
      · cases e0
    · split at e0
      · rename_i ds i e1 _
        obtain ⟨a, xs, rfl, h1, h2⟩ := seqOf_ok hs r1 (by assumption)
        obtain ⟨v, h3, h4⟩ := atI_rep h2 e0
        cases pp_int r2
        rcases h1 with h1 | h1
        · exact .inl (.inl ⟨a, xs, i, v, rfl, rfl, h1, h3, fin_d hs h4 q⟩)
        · exact .inl (.inr (.inl ⟨a, xs, i, v, rfl, rfl, h1, h3, fin_d hs h4 q⟩))
      · rename_i k' e1
        split at e0
        · rename_i n
          rw [Option.join_eq_some_iff] at e0
          obtain ⟨a, rfl, ha⟩ := rep_ref (pp_d r1)
          obtain ⟨o2, g, gs, hv⟩ := dLook_ok hs ha (pp_d r2) e0
          obtain ⟨v, rfl, rv⟩ := hv d rfl
          exact .inr ⟨a, v, rfl, g, fin_d hs rv q⟩
        · cases e0
      · cases e0
  · cases e
end
end F

/-! Calls of built-ins and methods, slices, stores by place: under our reading. -/
namespace F
open PySem PySem.Spec PyProof.Rows L2
variable [Tb]

def rU1 (K : PySem.W.Frag) (f : T → Store → Option T) : V → Hp → VK → Prop := fun x H Q => ∃ t1 m S t, SR K H m S ∧ RepP K H m t1 x ∧ f t1 S = some t ∧ Wt K H m S t Q
/-- a call of one value; of two; of three -/
def rC1 (K : PySem.W.Frag) (f : T → Store → Option T) : List V → Hp → VK → Prop := fun xs H Q => ∃ x, xs = [x] ∧ rU1 K f x H Q
def rC2 (K : PySem.W.Frag) (f : T → T → Store → Option T) : List V → Hp → VK → Prop := fun xs H Q => ∃ x y, xs = [x, y] ∧ rU2 K f x y H Q
/-- a method of a receiver with one argument -/
def rM1 (K : PySem.W.Frag) (f : T → T → Store → Option T) : V → List V → Hp → VK → Prop := fun x xs H Q => ∃ y, xs = [y] ∧ rU2 K f x y H Q
/-- .. that changes the store -/
def rW2 (K : PySem.W.Frag) (f : Store → T → T → Option (T × Store)) : R2 := fun x y H Q => ∃ t1 t2 m S t S', SR K H m S ∧ RepP K H m t1 x ∧ RepP K H m t2 y ∧ f S t1 t2 = some (t, S') ∧ Wt K H m S' t Q
def rMW (K : PySem.W.Frag) (f : Store → T → T → Option (T × Store)) : V → List V → Hp → VK → Prop := fun x xs H Q => ∃ y, xs = [y] ∧ rW2 K f x y H Q
section
variable {X : Cx}
theorem un_of {f : Value → Sem Value} {r r' : V → Hp → VK → Prop} (h : UnR X f r) (k : ∀ x H Q, r' x H Q → r x H Q) : UnR X f r' := fun pins s σ H x v Q I rx q => h pins s σ H x v Q I rx (k x H Q q)
theorem mtr_of {id : String} {r r' : V → List V → Hp → VK → Prop} (h : MtR X id r) (k : ∀ x xs H Q, r' x xs H Q → r x xs H Q) : MtR X id r' := fun pins s σ H x xs v us Q I rx rs q => h pins s σ H x xs v us Q I rx rs (k x xs H Q q)
theorem o_neg : UnR X (unaryOp .USub) (rU1 X.K fun a _ => int1F (fun i => tI (-i)) a) := un_of un_neg fun x H Q ⟨t1, m, S, t, hs, r1, e, q⟩ => by
  obtain ⟨i, rfl, e⟩ := int1_inv e
  cases e
  exact ⟨i, pp_int r1, fin_d hs (mk_int _) q⟩
theorem c_abs : CallR X (.builtin "abs") (rC1 X.K fun a _ => int1F (fun i => tI (if i < 0 then -i else i)) a) := callr_of call_abs fun xs H Q ⟨x, e1, t1, m, S, t, hs, r1, e, q⟩ => by
  obtain ⟨i, rfl, e⟩ := int1_inv e
  cases e
  exact ⟨i, by rw [e1, pp_int r1], fin_d hs (mk_int _) q⟩
theorem c_min2 (hc : X.calm = true) : CallR X (.builtin "min") (rC2 X.K fun a b _ => int2 (fun i j => tI (if j < i then j else i)) a b) := callr_of (call_min2 hc) fun xs H Q ⟨x, y, e1, t1, t2, m, S, t, hs, r1, r2, e, q⟩ => by
  obtain ⟨i, j, rfl, rfl, e⟩ := int2_inv e
  cases e
  exact ⟨i, j, by rw [e1, pp_int r1, pp_int r2], fin_d hs (mk_int _) q⟩
theorem c_max2 (hc : X.calm = true) : CallR X (.builtin "max") (rC2 X.K fun a b _ => int2 (fun i j => tI (if j > i then j else i)) a b) := callr_of (call_max2 hc) fun xs H Q ⟨x, y, e1, t1, t2, m, S, t, hs, r1, r2, e, q⟩ => by
  obtain ⟨i, j, rfl, rfl, e⟩ := int2_inv e
  cases e
  exact ⟨i, j, by rw [e1, pp_int r1, pp_int r2], fin_d hs (mk_int _) q⟩
theorem c_int1 : CallR X (.type "int") (rC1 X.K fun a _ => bl1 (fun b => .d (.int (if b then 1 else 0))) a) := callr_of call_int1 fun xs H Q ⟨x, e1, t1, m, S, t, hs, r1, e, q⟩ => by
  obtain ⟨b, rfl, rfl⟩ := bl1_inv e
  exact .inr ⟨b, by rw [e1, pp_bl r1], fin_d hs (mk_int _) q⟩
theorem call_lenRd : CallR X (.builtin "len") (fun xs H Q => ∃ a kvs, xs = [V.ref a] ∧ Rd H a (.dK kvs) ∧ Q (.int kvs.length) H) := by
  intro pins s σ H xs us Q I r h
  obtain ⟨a, kvs, rfl, ha, q⟩ := h
  obtain ⟨u, rfl, ru⟩ := vals1 r
  cases ru
  exact d_len I ha fun t s' I' => ⟨.int kvs.length, H, I', ⟨t, rfl⟩, q⟩
theorem c_len : CallR X (.builtin "len") (rC1 X.K fun a S => lenR S a) := callr_of (CallR.or call_len call_lenRd) fun xs H Q ⟨x, e1, t1, m, S, t, hs, r1, e, q⟩ => by
  change lenR S t1 = some t at e
  unfold lenR at e
  split at e
  · rename_i i e2
    cases e
    unfold lenT at e2
    split at e2
    · rename_i z
      split at e2
      · rename_i hz
        cases e2
        exact .inl ⟨.str z, z.length, by rw [e1, (pp_str r1).1], ⟨hz, rfl⟩, fin_d hs (mk_int _) q⟩
      · cases e2
    · rename_i n
      obtain ⟨a, rfl, ha⟩ := rep_ref (pp_d r1)
      obtain ⟨o, eo, ro⟩ := hs.at ha
      split at e2
      · rename_i ds e3
        rw [e3] at eo; cases eo; cases e2
        obtain ⟨xs', h1, h2⟩ := ro
        exact .inl ⟨_, ds.length, e1, .inl ⟨xs', SqL.of h1, h2.len⟩, fin_d hs (mk_int _) q⟩
      · rename_i kvs e3
        rw [e3] at eo; cases eo; cases e2
        obtain ⟨ws, h1, h2, h3, h4⟩ := ro
        refine .inr ⟨a, ws, e1, .inl h1, ?_⟩
        have hl : ws.length = kvs.length := by
          have := congrArg List.length h2
          rw [List.length_map, List.length_map] at this; exact this.symm
        rw [hl]
        exact fin_d hs (mk_int _) q
      · rename_i kvs e3
        rw [e3] at eo; cases eo; cases e2
        obtain ⟨od, ws, h1, h2, h3, h4⟩ := ro
        refine .inr ⟨a, ws, e1, .inr ⟨od, h1⟩, ?_⟩
        have hl : ws.length = kvs.length := by
          have := congrArg List.length h2
          rw [List.length_map, List.length_map] at this; exact this.symm
        rw [hl]
        exact fin_d hs (mk_int _) q
      · cases e2
    · rw [Option.map_eq_some_iff] at e2
      obtain ⟨ds, e3, rfl⟩ := e2
      obtain ⟨a, xs', rfl, h1, h2⟩ := seqOf_ok hs r1 e3
      refine .inl ⟨_, ds.length, e1, ?_, fin_d hs (mk_int _) q⟩
      rcases h1 with h1 | h1
      · exact .inl ⟨xs', h1, h2.len⟩
      · exact .inr ⟨xs', h1, h2.len⟩
  · cases e
theorem allT_inv {g : List Bool → Bool} {S : Store} {a t : T} (e : allT g S a = some t) : ∃ ds bs, lstOf S a = some ds ∧ boolsOf ds = some bs ∧ t = .d (.bl (g bs)) := by
  unfold allT at e
  split at e
  · rename_i ds e1
    split at e
    · rename_i bs e2
      cases e
      exact ⟨ds, bs, e1, e2, rfl⟩
    · cases e
  · cases e
theorem c_all (hc : X.calm = true) : CallR X (.builtin "all") (rC1 X.K fun a S => allT (fun bs => bs.all id) S a) := callr_of (cr_all hc) fun xs H Q ⟨x, e1, t1, m, S, t, hs, r1, e, q⟩ => by
  obtain ⟨ds, bs, h1, h2, rfl⟩ := allT_inv e
  obtain ⟨a, xs', rfl, h3, h4⟩ := lstOf_ok hs r1 h1
  rw [repL_bools h4 h2] at h3
  exact ⟨a, bs, e1, h3, fin_d hs (mk_bl _) q⟩
theorem c_any (hc : X.calm = true) : CallR X (.builtin "any") (rC1 X.K fun a S => allT (fun bs => bs.any id) S a) := callr_of (cr_any hc) fun xs H Q ⟨x, e1, t1, m, S, t, hs, r1, e, q⟩ => by
  obtain ⟨ds, bs, h1, h2, rfl⟩ := allT_inv e
  obtain ⟨a, xs', rfl, h3, h4⟩ := lstOf_ok hs r1 h1
  rw [repL_bools h4 h2] at h3
  exact ⟨a, bs, e1, h3, fin_d hs (mk_bl _) q⟩
theorem c_tuple : CallR X (.type "tuple") (rC1 X.K fun a S => tupleT S a) := callr_of call_tuple_of fun xs H Q ⟨x, e1, t1, m, S, t, hs, r1, e, q⟩ => by
  change tupleT S t1 = some t at e
  unfold tupleT at e
  split at e
  · rename_i ds e2
    cases e
    obtain ⟨a, xs', rfl, h3, h4⟩ := lstOf_ok hs r1 e2
    exact ⟨a, xs', e1, .inl ⟨h3, fun l hl => fin_tup hs hl h4 q⟩⟩
  · cases e
theorem call_list_text (hc : X.calm = true) : CallR X (.type "list") (fun xs H Q => ∃ z : Str, xs = [.str z] ∧ z.length ≤ sizeLine ∧ ∀ p, H p = none → Q (.ref p) (upd H p (.lst (z.cps.toList.map fun c => V.str ⟨#[c]⟩)))) := by
  intro pins s σ H xs us Q I r h
  obtain ⟨z, rfl, hz, q⟩ := h
  obtain ⟨u, rfl, t, rfl⟩ := vals1 r
  refine PySem.call_list_str (I.ok.hd hc) z t (fun g tk acc c hk hS hi => ?_) hz
  have rv : Vals (z.cps.toList.map fun c => V.str ⟨#[c]⟩) acc.toList := by
    refine vals_of_idx _ _ (by rw [Array.length_toList, hi.1, List.length_map, Array.length_toList]) fun j u hj => ?_
    obtain ⟨c, t, hcc, rfl⟩ := hi.2 j u (by rw [← hj, Array.getElem?_toList])
    exact ⟨V.str ⟨#[c]⟩, by rw [List.getElem?_map, Array.getElem?_toList, hcc]; rfl, t, rfl⟩
  refine ⟨.ref _, upd H s.heap.objs.size (.lst (z.cps.toList.map fun c => V.str ⟨#[c]⟩)), I.laid (t' := tk) (fun b u e => hk b u e) (Nat.le_refl _) ⟨by rw [List.length_map, Array.length_toList]; exact hz, acc.toList, c, rv, ?_⟩, rfl, q _ (I.hok.fresh (Nat.le_refl _))⟩
  rw [Array.toArray_toList]
  exact hS
theorem c_list (hc : X.calm = true) : CallR X (.type "list") (rC1 X.K fun a S => listT S a) := callr_of (CallR.or call_list_of (call_list_text hc)) fun xs H Q ⟨x, e1, t1, m, S, t, hs, r1, e, q⟩ => by
  change listT S t1 = some t at e
  unfold listT at e
  split at e
  · rename_i ds e2
    cases e
    obtain ⟨a, xs', rfl, h3, h4⟩ := seqOf_ok hs r1 e2
    exact .inl ⟨a, xs', e1, h3, fun l hl => fin_tmp hs hl h4 q⟩
  · split at e
    · rename_i z _
      split at e
      · rename_i hz
        cases e
        obtain ⟨rfl, o⟩ := pp_str r1
        refine .inr ⟨z, e1, hz, fun p np => fin_tmp hs np ?_ q⟩
        have all : ∀ l : List Nat, (∀ c ∈ l, c < 0x110000) → ∀ {H' : Hp}, RepL X.K H' m (l.map fun c => D.str ⟨#[c]⟩) (l.map fun c => V.str ⟨#[c]⟩) := by
          intro l
          induction l with
          | nil => intro _ _; exact .nil
          | cons c l ih => intro hl H'; exact .cons (mk_str (strOk_one (hl c List.mem_cons_self))) (ih fun c h => hl c (List.mem_cons_of_mem _ h))
        exact all _ fun c hc => strOk_iff.mp o c hc
      · cases e
    · cases e
theorem strOk_glue {g : Str} (hg : PyData.strOk g = true) : ∀ (parts : List Str) (acc : Array Nat), PyData.strOk ⟨acc⟩ = true → (∀ y ∈ parts, PyData.strOk y = true) → PyData.strOk ⟨parts.foldl (fun acc p => acc ++ g.cps ++ p.cps) acc⟩ = true
  | [], acc, h, _ => h
  | p :: r, acc, h, hp => strOk_glue hg r _ (strOk_app (a := ⟨acc ++ g.cps⟩) (b := p) (strOk_app (a := ⟨acc⟩) (b := g) h hg) (hp p List.mem_cons_self)) fun y hy => hp y (List.mem_cons_of_mem _ hy)
theorem strOk_join {x : Str} (hx : PyData.strOk x = true) {ys : List Str} (h : ∀ y ∈ ys, PyData.strOk y = true) : PyData.strOk (Txt.join x ys) = true := by
  show PyData.strOk ⟨(ys.drop 1).foldl (fun acc p => acc ++ x.cps ++ p.cps) (ys.headD Str.empty).cps⟩ = true
  refine strOk_glue hx _ _ ?_ fun y hy => h y (List.mem_of_mem_drop hy)
  have e0 : PyData.strOk ⟨#[]⟩ = true := strOk_iff.mpr fun c hc => by simp at hc
  cases ys with
  | nil => exact e0
  | cons y r => exact h y List.mem_cons_self
theorem m_join : MtR X "str.join" (rM1 X.K fun a b S => joinT S a b) := mtr_of mt_join fun x xs H Q ⟨y, e1, t1, t2, m, S, t, hs, r1, r2, e, q⟩ => by
  change joinT S t1 t2 = some t at e
  unfold joinT at e
  split at e
  · rename_i x'
    split at e
    · rename_i ds e2
      split at e
      · rename_i ys e3
        split at e
        · rename_i hz
          cases e
          obtain ⟨rfl, o⟩ := pp_str r1
          obtain ⟨a, xs', rfl, h3, h4⟩ := seqOf_ok hs r2 e2
          obtain ⟨rfl, h5⟩ := repL_strs h4 e3
          exact ⟨x', a, ys, rfl, e1, h3, hz, fin_d hs (mk_str (strOk_join o h5)) q⟩
        · cases e
      · cases e
    · cases e
  · cases e
theorem m_sindex : MtR X "str.index" (rM1 X.K fun a b _ => sindexT a b) := mtr_of mt_sindex fun x xs H Q ⟨y, e1, t1, t2, m, S, t, hs, r1, r2, e, q⟩ => by
  change sindexT t1 t2 = some t at e
  unfold sindexT at e
  split at e
  · rename_i a b
    split at e
    · rename_i i r e2
      cases e
      exact ⟨a, b, i, r, (pp_str r1).1, by rw [e1, (pp_str r2).1], e2, fin_d hs (mk_int _) q⟩
    · cases e
  · cases e
theorem m_append : MtR X "list.append" (rMW X.K appendT) := mtr_of (r := rAppend) mt_append fun x xs H Q ⟨y, e1, t1, t2, m, S, t, S', hs, r1, r2, e, q⟩ => by
  unfold appendT at e
  split at e
  · rename_i n d
    split at e
    · rename_i ds e2
      split at e
      · rename_i hz
        cases e
        obtain ⟨a, rfl, ha⟩ := rep_ref (pp_d r1)
        obtain ⟨o, eo, ro⟩ := hs.at ha
        rw [e2] at eo; cases eo
        obtain ⟨ys, h1, h2⟩ := ro
        have hm : a ∈ m := List.mem_of_getElem? ha
        have f : Fr H m (upd H a (.lst (ys ++ [y]))) m := Fr.put hm (nf_lst h1)
        refine ⟨a, ys, y, rfl, e1, h1, by rw [← h2.len]; exact hz, q .non _ m (hs.set ha ⟨_, upd_same, (h2.kp (f.kp hs)).app (.cons (Rep.kp (f.kp hs) (pp_d r2)) .nil)⟩) f (show Rep X.K (upd H a (.lst (ys ++ [y]))) m .non .non from mk_non)⟩
      · cases e
    · cases e
  · cases e
theorem m_popAt : MtR X "list.pop" (rMW X.K popAtT) := mtr_of (r := rPopAt) mt_popAt fun x xs H Q ⟨y, e1, t1, t2, m, S, t, S', hs, r1, r2, e, q⟩ => by
  unfold popAtT at e
  split at e
  · rename_i n i
    split at e
    · rename_i d ds e2
      split at e
      · rename_i hz
        subst hz
        cases e
        obtain ⟨a, rfl, ha⟩ := rep_ref (pp_d r1)
        obtain ⟨o, eo, ro⟩ := hs.at ha
        rw [e2] at eo; cases eo
        obtain ⟨ys, h1, h2⟩ := ro
        obtain ⟨z, zs, rfl, h3, h4⟩ := h2.cons_inv
        have hm : a ∈ m := List.mem_of_getElem? ha
        have f : Fr H m (upd H a (.lst zs)) m := Fr.put hm (nf_lst h1)
        refine ⟨a, z :: zs, 0, 0, z, rfl, by rw [e1, pp_int r2], h1, by decide, by decide, ?_, rfl, q z _ m (hs.set ha ⟨zs, upd_same, h4.kp (f.kp hs)⟩) f (Rep.kp (f.kp hs) h3)⟩
        have : (0 : Int) < ((z :: zs).length : Nat) := by rw [List.length_cons]; omega
        simp [seqIndex?]
      · cases e
    · cases e
  · cases e
theorem m_extend : MtR X "list.extend" (rMW X.K extendT) := mtr_of (r := rExtend) mt_extend fun x xs H Q ⟨y, e1, t1, t2, m, S, t, S', hs, r1, r2, e, q⟩ => by
  unfold extendT at e
  split at e
  · rename_i n
    split at e
    · rename_i ds es e2 e3
      split at e
      · rename_i hz
        cases e
        obtain ⟨a, rfl, ha⟩ := rep_ref (pp_d r1)
        obtain ⟨o, eo, ro⟩ := hs.at ha
        rw [e2] at eo; cases eo
        obtain ⟨ys, h1, h2⟩ := ro
        obtain ⟨b, zs, rfl, h3, h4⟩ := lstM_ok hs r2 e3
        have hm : a ∈ m := List.mem_of_getElem? ha
        have f : Fr H m (upd H a (.lst (ys ++ zs))) m := Fr.put hm (nf_lst h1)
        exact ⟨a, b, ys, zs, rfl, e1, h1, h3, by rw [← h2.len, ← h4.len]; exact hz, q .non _ m (hs.set ha ⟨_, upd_same, (h2.kp (f.kp hs)).app (h4.kp (f.kp hs))⟩) f (show Rep X.K (upd H a (.lst (ys ++ zs))) m .non .non from mk_non)⟩
      · cases e
    · cases e
  · cases e
/-- a method without arguments -/
def rMW0 (K : PySem.W.Frag) (f : Store → T → Option (T × Store)) : V → List V → Hp → VK → Prop := fun x xs H Q => xs = [] ∧ ∃ t1 m S t S', SR K H m S ∧ RepP K H m t1 x ∧ f S t1 = some (t, S') ∧ Wt K H m S' t Q
theorem RepL.last {K : PySem.W.Frag} {H : Hp} {m : List Addr} : ∀ {ds : List D} {xs : List V} {d : D}, RepL K H m ds xs → ds.getLast? = some d → ∃ v, xs[xs.length - 1]? = some v ∧ Rep K H m d v ∧ RepL K H m ds.dropLast xs.dropLast := fun {ds xs d} r e => by
  have hl := r.len
  have hn : ds ≠ [] := fun z => by rw [z] at e; cases e
  have hp : 0 < ds.length := List.length_pos_iff.mpr hn
  rw [List.getLast?_eq_getElem?] at e
  obtain ⟨v, h1, h2⟩ := r.get e
  refine ⟨v, by rw [← hl]; exact h1, h2, ?_⟩
  rw [List.dropLast_eq_take, List.dropLast_eq_take, hl]
  exact r.take _
theorem m_popEnd : MtR X "list.pop" (rMW0 X.K popEndT) := mtr_of (r := rPop) mt_pop fun x xs H Q ⟨e1, t1, m, S, t, S', hs, r1, e, q⟩ => by
  unfold popEndT at e
  split at e
  · rename_i n
    split at e
    · rename_i ds e2
      split at e
      · rename_i d e3
        cases e
        obtain ⟨a, rfl, ha⟩ := rep_ref (pp_d r1)
        obtain ⟨o, eo, ro⟩ := hs.at ha
        rw [e2] at eo; cases eo
        obtain ⟨ys, h1, h2⟩ := ro
        obtain ⟨v, h3, h4, h5⟩ := h2.last e3
        have hm : a ∈ m := List.mem_of_getElem? ha
        have f : Fr H m (upd H a (.lst ys.dropLast)) m := Fr.put hm (nf_lst h1)
        exact ⟨a, ys, v, rfl, e1, h1, h3, q v _ m (hs.set ha ⟨_, upd_same, h5.kp (f.kp hs)⟩) f (Rep.kp (f.kp hs) h4)⟩
      · cases e
    · cases e
  · cases e
/-! ### isinstance -/
def tyN : Ty → String
  | .str => "str" | .int => "int" | .bool => "bool" | .tuple => "tuple" | .list => "list"
/-- a value's type, locked dicts with tuple keys among them -/
inductive TyY (K : PySem.W.Frag) (H : Hp) : V → Value → Prop where
  | base {x : V} {t : Value} (h : TyX K H x t) : TyY K H x t
  | fDT {a : Addr} {o : Obj} {kvs : List (List Key × V)} (e : H a = some (.frz o (.dT kvs))) : TyY K H (.ref a) (.type "dict")
theorem kit_ofY {X : Cx} {pins : List (Addr × Obj)} {σ : L2.St} {H : Hp} {s : Shared} {x : V} {u t : Value} (I : Inv X pins σ H s) (rx : RelV x u) (ty : TyY X.K H x t) : ∃ P : Heap → Prop, PySem.W.KitX X.K u t P ∧ P s.heap ∧ u ≠ .builtin "__main__.__loader__#opaque" := by
  cases ty with
  | base b => exact kit_of I rx b
  | @fDT a ob kvs ea =>
    cases (show u = Value.ref a from rx)
    obtain ⟨_, _, _, xs, _, o, es, ep, h1, h2, _⟩ := (show ObjOk X.prog X.w H s.heap a (.frz ob (.dT kvs)) from I.hok a _ ea)
    exact ⟨_, PySem.W.kitx_dict, ⟨o, h1, h2.1⟩, fun z => nomatch z⟩
def rIsiY (K : PySem.W.Frag) : List V → Hp → VK → Prop := fun xs H Q => ∃ (x c : V) (t u : Value) (b : Bool), xs = [x, c] ∧ ClsV c u ∧ TyY K H x t ∧ PySem.W.kitOne K t u = some b ∧ Q (.bl b) H
theorem call_isiY {X : Cx} : CallR X (.builtin "isinstance") (rIsiY X.K) := by
  intro pins s σ H xs us Q I r h
  obtain ⟨x, c, t, u, b, rfl, k, ty, e, q⟩ := h
  obtain ⟨u1, u2, rfl, r1, r2⟩ := vals2 r
  have e2 := k.eq r2
  subst e2
  obtain ⟨P, Z, p, hx⟩ := kit_ofY I r1 ty
  exact PySem.W.kia_one Z I.kIn p e hx fun tk => ⟨.bl b, H, I.tok tk, rfl, q⟩
theorem isTy_ok {K : PySem.W.Frag} {H : Hp} {m : List Addr} {S : Store} {ty : Ty} {d : D} {v : V} {b : Bool} (s : SR K H m S) (r : Rep K H m d v) (e : isTy ty d S = some b) :
    ∃ n, TyY K H v n ∧ PySem.W.kitOne K n (.type (tyN ty)) = some b := by
  suffices h : (∃ n, TyX K H v (.type n) ∧ kitB n (tyN ty) = some b) ∨ ∃ n, TyY K H v n ∧ PySem.W.kitOne K n (.type (tyN ty)) = some b by
    rcases h with ⟨n, h1, h2⟩ | h
    · exact ⟨_, .base h1, kit_ty h2⟩
    · exact h
  have dict : ∀ ty : Ty, kitB "dict" (tyN ty) = some false := fun ty => by cases ty <;> decide +kernel
  cases d with
  | non => cases rep_non r; refine .inl ⟨_, .base .non, ?_⟩; cases ty <;> cases e <;> decide +kernel
  | bl c => cases rep_bl r; refine .inl ⟨_, .base (.bl c), ?_⟩; cases ty <;> cases e <;> decide +kernel
  | int c => cases rep_int r; refine .inl ⟨_, .base (.int c), ?_⟩; cases ty <;> cases e <;> decide +kernel
  | str c => obtain ⟨rfl, _⟩ := rep_str r; refine .inl ⟨_, .base (.str c), ?_⟩; cases ty <;> cases e <;> decide +kernel
  | tup ds => obtain ⟨a, xs, rfl, h, _⟩ := rep_tup r; refine .inl ⟨_, .base (.tup h), ?_⟩; cases ty <;> cases e <;> decide +kernel
  | ktup ds => obtain ⟨a, xs, rfl, ⟨o, _, _, h, hc, _⟩, _⟩ := rep_ktup r; refine .inl ⟨_, .kTuple h hc, ?_⟩; cases ty <;> cases e <;> decide +kernel
  | rol ds =>
    obtain ⟨a, xs, rfl, h, _⟩ := rep_rol r
    rcases h with ⟨o, h⟩ | ⟨o, _, _, h, hc, _⟩
    · refine .inl ⟨_, .base (.frz h), ?_⟩; cases ty <;> cases e <;> decide +kernel
    · refine .inl ⟨_, .kList h hc, ?_⟩; cases ty <;> cases e <;> decide +kernel
  | ref n =>
    obtain ⟨a, rfl, ha⟩ := rep_ref r
    obtain ⟨o, eo, ro⟩ := s.at ha
    cases o with
    | lst ds =>
      obtain ⟨xs, h1, _⟩ := ro
      refine .inl ⟨_, .base (.lst h1), ?_⟩
      cases ty <;> (simp only [isTy, eo] at e; cases e; decide +kernel)
    | dK kvs =>
      obtain ⟨xs, h1, _⟩ := ro
      refine .inl ⟨_, .base (.dK h1), ?_⟩
      cases ty <;> (simp only [isTy, eo] at e; cases e; exact dict _)
    | dT kvs =>
      obtain ⟨xs, h1, _⟩ := ro
      refine .inl ⟨_, .base (.dT h1), ?_⟩
      cases ty <;> (simp only [isTy, eo] at e; cases e; exact dict _)
    | fK kvs =>
      obtain ⟨od, xs, h1, _⟩ := ro
      refine .inl ⟨_, .fDict h1, ?_⟩
      cases ty <;> (simp only [isTy, eo] at e; cases e; exact dict _)
    | fT kvs =>
      obtain ⟨od, xs, h1, _⟩ := ro
      refine .inr ⟨_, .fDT h1, kit_ty (a := "dict") ?_⟩
      cases ty <;> (simp only [isTy, eo] at e; cases e; exact dict _)
    | obj c fs =>
      obtain ⟨C, dx, ws, h1, h2, h3, h4, h5⟩ := ro
      refine .inr ⟨_, .base (.base (.ins h1 h5.cl h5.ha h5.hn h5.htk h5.hm)), ?_⟩
      cases ty
      · simp only [isTy, eo] at e; cases e; exact h5.i1
      · simp only [isTy, eo] at e; cases e; exact h5.i2
      · simp only [isTy, eo] at e; cases e; exact h5.i3
      · simp only [isTy, eo] at e; cases e; exact h5.i4
      · simp only [isTy, eo] at e; cases e; exact h5.i5
/-- isinstance(x, T): the second value is the type -/
theorem c_inst (ty : Ty) : CallR X (.builtin "isinstance") (fun xs H Q => ∃ x, xs = [x, .ty (tyN ty)] ∧ rU1 X.K (fun a S => instT ty S a) x H Q) := callr_of call_isiY fun xs H Q ⟨x, e1, t1, m, S, t, hs, r1, e, q⟩ => by
  change instT ty S t1 = some t at e
  unfold instT at e
  split at e
  · split at e
    · rename_i b e2
      cases e
      obtain ⟨n, h1, h2⟩ := isTy_ok hs (pp_d r1) e2
      exact ⟨x, .ty (tyN ty), n, .type (tyN ty), b, e1, .ty _, h1, h2, fin_d hs (mk_bl _) q⟩
    · cases e
  · cases e
/-! ### slices -/
def rSl (K : PySem.W.Frag) : V → Option Int → Option Int → Hp → VK → Prop := fun x lo hi H Q => ∃ t1 m S t, SR K H m S ∧ RepP K H m t1 x ∧ sliceT S t1 lo hi = some t ∧ Wt K H m S t Q
theorem repL_cut {K : PySem.W.Frag} {H : Hp} {m : List Addr} {ds : List D} {xs : List V} (r : RepL K H m ds xs) (lo hi : Option Int) :
    RepL K H m ((ds.drop (HT.sIx ds.length 0 lo)).take (HT.sIx ds.length ds.length hi - HT.sIx ds.length 0 lo)) (cutV xs lo hi) := by
  unfold cutV
  rw [← r.len]
  exact (r.drop _).take _
theorem o_slice : SlR X (rSl X.K) := by
  have h := SlR.or (sl_str (X := X)) (SlR.or (sl_tupA (X := X)) (sl_list (X := X)))
  refine fun pins s σ H x v vl vu lo hi sl Q I rx hsl pl pu ⟨t1, m, S, t, hs, r1, e, q⟩ => h pins s σ H x v vl vu lo hi sl Q I rx hsl pl pu ?_
  unfold sliceT at e
  split at e
  · rename_i z
    split at e
    · rename_i hz
      cases e
      obtain ⟨rfl, o⟩ := pp_str r1
      exact .inl ⟨z, rfl, hz, fin_d hs (mk_str (strOk_cut o)) q⟩
    · cases e
  · split at e
    · rename_i xs e2
      obtain ⟨a, vs, rfl, h1, h2⟩ := tupOf_ok r1 e2
      refine .inr (.inl ⟨a, vs, rfl, h1, fun hw => ?_, fun hw p np => ?_⟩)
      · rw [← h2.len] at hw
        rw [if_pos hw] at e
        split at e
        · cases e; exact fin_d hs (pp_d r1) q
        · cases e
      · rw [← h2.len] at hw
        rw [if_neg hw] at e
        cases e
        exact fin_tup hs np (repL_cut h2 lo hi) q
    · split at e
      · rename_i xs e2
        cases e
        obtain ⟨a, vs, rfl, h1, h2⟩ := lstOf_ok hs r1 e2
        exact .inr (.inr ⟨a, vs, rfl, h1, fun p np => fin_tmp hs np (repL_cut h2 lo hi) q⟩)
      · cases e
/-! ### o[i] = x -/
theorem store_map {κ : Type} [DecidableEq κ] {K : PySem.W.Frag} {H : Hp} {m : List Addr} {k : κ} {d : D} {v : V} (rd : Rep K H m d v) : ∀ {kvs : List (κ × D)} {ws : List (κ × V)}, kvs.map (·.1) = ws.map (·.1) → RepL K H m (kvs.map (·.2)) (ws.map (·.2)) →
    (kvs.map fun kv => if kv.1 = k then (kv.1, d) else kv).map (·.1) = (ws.map fun kv => if kv.1 = k then (kv.1, v) else kv).map (·.1) ∧
    RepL K H m ((kvs.map fun kv => if kv.1 = k then (kv.1, d) else kv).map (·.2)) ((ws.map fun kv => if kv.1 = k then (kv.1, v) else kv).map (·.2)) ∧
    (kvs.any fun kv => decide (kv.1 = k)) = (ws.any fun kv => decide (kv.1 = k)) ∧ (kvs.map fun kv => if kv.1 = k then (kv.1, d) else kv).map (·.1) = kvs.map (·.1)
  | [], [], _, _ => ⟨rfl, .nil, rfl, rfl⟩
  | [], _ :: _, e, _ => nomatch e
  | _ :: _, [], e, _ => nomatch e
  | (k1, d1) :: kvs, (k2, v1) :: ws, e, r => by
    simp only [List.map_cons, List.cons.injEq] at e
    obtain ⟨rfl, e⟩ := e
    obtain ⟨y, ys, e2, r1, t⟩ := r.cons_inv
    simp only [List.map_cons, List.cons.injEq] at e2
    obtain ⟨rfl, rfl⟩ := e2
    obtain ⟨h1, h2, h3, h4⟩ := store_map (k := k) rd e t
    by_cases hk : k1 = k
    · simp only [List.map_cons, hk, if_true, List.any_cons, h3]
      exact ⟨by rw [h1], .cons rd h2, trivial, by rw [h4]⟩
    · simp only [List.map_cons, hk, if_false, List.any_cons, h3]
      exact ⟨by rw [h1], .cons r1 h2, trivial, by rw [h4]⟩
theorem storeK_ok {κ : Type} [DecidableEq κ] {K : PySem.W.Frag} {H : Hp} {m : List Addr} {k : κ} {d : D} {v : V} (rd : Rep K H m d v) {kvs : List (κ × D)} {ws : List (κ × V)} (e : kvs.map (·.1) = ws.map (·.1)) (r : RepL K H m (kvs.map (·.2)) (ws.map (·.2))) :
    (storeK kvs k d).map (·.1) = (putK ws k v).map (·.1) ∧ RepL K H m ((storeK kvs k d).map (·.2)) ((putK ws k v).map (·.2)) ∧ ∀ q ∈ (storeK kvs k d).map (·.1), q = k ∨ q ∈ kvs.map (·.1) := by
  obtain ⟨h1, h2, h3, h4⟩ := store_map (k := k) rd e r
  unfold storeK putK
  rw [← h3]
  by_cases hk : (kvs.any fun kv => decide (kv.1 = k)) = true
  · rw [if_pos hk, if_pos hk]
    exact ⟨h1, h2, fun q hq => .inr (by rw [h4] at hq; exact hq)⟩
  · rw [if_neg hk, if_neg hk]
    refine ⟨by simp [e], ?_, fun q hq => ?_⟩
    · rw [List.map_append, List.map_append]
      exact r.app (.cons rd .nil)
    · rw [List.map_append] at hq
      rcases List.mem_append.mp hq with hq | hq
      · exact .inr hq
      · exact .inl (by simpa using hq)
def rSetP (K : PySem.W.Frag) : V → V → V → Hp → (Hp → Prop) → Prop := fun o i v H Q => ∃ x k d m S S', SR K H m S ∧ Rep K H m x o ∧ Rep K H m k i ∧ Rep K H m d v ∧ setD S x k d = some S' ∧ ∀ H', SR K H' m S' → Fr H m H' m → Q H'
theorem set_dict (hu : X.A.units + 1 < cLine) : PSet X (fun o i v H Q => ∃ a H', o = .ref a ∧ DPut H a i v H' ∧ Q H') := by
  intro pins s σ H o i v ov iv u Q I ro ri rv h
  obtain ⟨a, H', rfl, g, q⟩ := h
  obtain rfl : ov = Value.ref a := ro
  exact d_setItem hu I g ri rv fun s' I' => ⟨H', I', q⟩
theorem o_set (hu : X.A.units + 1 < cLine) : PSet X (rSetP X.K) := by
  intro pins s σ H o i v ov iv u Q I ro ri rv ⟨x, k, d, m, S, S', hs, rx, rk, rd, e, q⟩
  unfold setD at e
  split at e
  · rename_i n k' d'
    obtain ⟨a, rfl, ha⟩ := rep_ref rx
    obtain ⟨ob, eo, rob⟩ := hs.at ha
    have hm : a ∈ m := List.mem_of_getElem? ha
    split at e
    · rename_i ds e2
      rw [e2] at eo; cases eo
      obtain ⟨ys, h1, h2⟩ := rob
      split at e
      · rename_i j
        rw [Option.map_eq_some_iff] at e
        obtain ⟨jj, e3, rfl⟩ := e
        have f : Fr H m (upd H a (.lst (ys.set jj v))) m := Fr.put hm (nf_lst h1)
        refine set_list pins s σ H _ i v ov iv u Q I ro ri rv ⟨a, ys, j, jj, rfl, rep_int rk, h1, by rw [← h2.len]; exact e3, q _ (hs.set ha ⟨_, upd_same, (h2.kp (f.kp hs)).set jj (Rep.kp (f.kp hs) rd)⟩) f⟩
      · cases e
    · rename_i kvs e2
      rw [e2] at eo; cases eo
      obtain ⟨ws, h1, h2, h3, h4⟩ := rob
      split at e
      · rename_i kk e3
        split at e
        · rename_i hz
          cases e
          obtain ⟨rfl, ok⟩ := keyOf_ok e3 rk
          have hl : ws.length = kvs.length := by
            have := congrArg List.length h2
            rw [List.length_map, List.length_map] at this; exact this.symm
          have f : Fr H m (upd H a (.dK (putK ws kk v))) m := Fr.put hm (nf_dK h1)
          obtain ⟨q1, q2, q3⟩ := storeK_ok (k := kk) (Rep.kp (f.kp hs) rd) h2 (h3.kp (f.kp hs))
          refine set_dict hu pins s σ H _ _ v ov iv u Q I ro ri rv ⟨a, _, rfl, DPut.k h1 (by rw [hl]; exact hz), q _ (hs.set ha ⟨_, upd_same, q1, q2, fun z hz' => ?_⟩) f⟩
          rcases q3 z hz' with rfl | hz'
          · exact ok
          · exact h4 z hz'
        · cases e
      · cases e
    · rename_i kvs e2
      rw [e2] at eo; cases eo
      obtain ⟨ws, h1, h2, h3, h4⟩ := rob
      split at e
      · rename_i ks
        split at e
        · rename_i kk e3
          split at e
          · rename_i hz
            cases e
            obtain ⟨b, xs, rfl, hb, rx'⟩ := rep_tup rk
            obtain ⟨rfl, ok⟩ := keysOf_ok e3 rx'
            have hl : ws.length = kvs.length := by
              have := congrArg List.length h2
              rw [List.length_map, List.length_map] at this; exact this.symm
            have f : Fr H m (upd H a (.dT (putK ws kk v))) m := Fr.put hm (nf_dT h1)
            obtain ⟨q1, q2, q3⟩ := storeK_ok (k := kk) (Rep.kp (f.kp hs) rd) h2 (h3.kp (f.kp hs))
            refine set_dict hu pins s σ H _ _ v ov iv u Q I ro ri rv ⟨a, _, rfl, DPut.t h1 hb (by rw [hl]; exact hz), q _ (hs.set ha ⟨_, upd_same, q1, q2, fun z hz' => ?_⟩) f⟩
            rcases q3 z hz' with rfl | hz'
            · exact ok
            · exact h4 z hz'
          · cases e
        · cases e
      · cases e
    · cases e
  · cases e
end
end F

/-! Readings by our evaluation; contexts. -/
namespace F
open PySem PySem.Spec PyProof.Rows L2
variable [Tb]

structure Ctx where
  N : List Str
  sc : Scope
  fb : Option Scope
  gl : List (Str × D)
  bl : List Str
  fs : List (Str × Nat)
  ms : List (Str × Str × Nat)
  fa : List (Str × Str)
  rk : List Str -- defs of the top that rank
  lam : Bool -- a def that may make lambdas
abbrev Call := Nat → List D → Store → Option (D × Store)
def EnvR (K : PySem.W.Frag) (H : Hp) (m : List Addr) (ρ : Env) (σ : L2.St) : Prop := ρ.length = σ.length ∧ ∀ (i : Nat) d, ρ[i]? = some (some d) → ∃ v, σ[i]? = some (some v) ∧ Rep K H m d v
section
variable {K : PySem.W.Frag} {H H' : Hp} {m m' : List Addr} {S : Store} {ρ : Env} {σ : L2.St}
theorem EnvR.fr (e : EnvR K H m ρ σ) (f : Fr H m H' m') (s : SR K H m S) : EnvR K H' m' ρ σ :=
  ⟨e.1, fun i d h => let ⟨v, h1, h2⟩ := e.2 i d h; ⟨v, h1, h2.kp (f.kp s)⟩⟩
theorem EnvR.set (e : EnvR K H m ρ σ) {i : Nat} {d : D} {v : V} (hi : i < ρ.length) (r : Rep K H m d v) : EnvR K H m (ρ.set i (some d)) (σ.set i (some v)) := by
  refine ⟨by rw [List.length_set, List.length_set]; exact e.1, fun j d' h => ?_⟩
  by_cases hj : i = j
  · subst hj
    rw [List.getElem?_set_self hi] at h
    cases h
    exact ⟨v, List.getElem?_set_self (by rw [← e.1]; exact hi), r⟩
  · rw [List.getElem?_set_ne hj] at h
    rw [List.getElem?_set_ne hj]
    exact e.2 j d' h
theorem EnvR.wipe (e : EnvR K H m ρ σ) : ∀ vs : List Nat, EnvR K H m (wipeE ρ vs) (L2.wipe σ vs)
  | [] => e
  | v :: vs => by
    have ih := EnvR.wipe e vs
    unfold wipeE L2.wipe
    refine ⟨by rw [List.length_set, List.length_set]; exact ih.1, fun j d' h => ?_⟩
    by_cases hj : v = j
    · subst hj
      by_cases hv : v < (wipeE ρ vs).length
      · rw [List.getElem?_set_self hv] at h; cases h
      · rw [List.getElem?_eq_none (by simpa using hv)] at h; cases h
    · rw [List.getElem?_set_ne hj] at h
      rw [List.getElem?_set_ne hj]
      exact ih.2 j d' h
end

/-! ### readings -/
abbrev EF := Env → Store → Option (T × Store)
def tE (K : PySem.W.Frag) (f : EF) : TE := fun σ H Q => ∃ ρ m S t S', EnvR K H m ρ σ ∧ SR K H m S ∧ f ρ S = some (t, S') ∧ Wt K H m S' t Q
def tTst (K : PySem.W.Frag) (f : Env → Store → Option (Bool × Store)) : TT := fun σ H Q => ∃ ρ m S b S', EnvR K H m ρ σ ∧ SR K H m S ∧ f ρ S = some (b, S') ∧ ∀ H' m', SR K H' m' S' → Fr H m H' m' → Q b H'
/-- arguments as they are; as values -/
def tAs (K : PySem.W.Frag) (f : Env → Store → Option (List T × Store)) : TA := fun σ H Q => ∃ ρ m S ts S', EnvR K H m ρ σ ∧ SR K H m S ∧ f ρ S = some (ts, S') ∧ ∀ vs H' m', SR K H' m' S' → Fr H m H' m' → RepPs K H' m' ts vs → Q vs H'
def tDs (K : PySem.W.Frag) (f : Env → Store → Option (List D × Store)) : TA := fun σ H Q => ∃ ρ m S ds S', EnvR K H m ρ σ ∧ SR K H m S ∧ f ρ S = some (ds, S') ∧ ∀ vs H' m', SR K H' m' S' → Fr H m H' m' → RepL K H' m' ds vs → Q vs H'
section
variable {X : Cx}
theorem pe_imp {e : Expr} {t t' : TE} (h : PE X e t) (k : ∀ σ H Q, t' σ H Q → t σ H Q) : PE X e t' := ⟨fun pins s σ H Q I q => h.run pins s σ H Q I (k σ H Q q)⟩
theorem pt_imp {e : Expr} {t t' : TT} (h : PT X e t) (k : ∀ σ H Q, t' σ H Q → t σ H Q) : PT X e t' := ⟨fun pins s σ H Q I q => h.run pins s σ H Q I (k σ H Q q)⟩
theorem pw_imp {e : Expr} {t t' : TT} (h : PW X e t) (k : ∀ σ H Q, t' σ H Q → t σ H Q) : PW X e t' := ⟨fun wh pins s σ H Q I q => h.run wh pins s σ H Q I (k σ H Q q)⟩
theorem pa_imp {es : List Expr} {t t' : TA} (h : PA X es t) (k : ∀ σ H Q, t' σ H Q → t σ H Q) : PA X es t' := ⟨fun pos pins s σ H Q I q => h.run pos pins s σ H Q I (k σ H Q q)⟩
theorem pe_or2 {e : Expr} {t t' : TE} (h : PE X e t) (h' : PE X e t') : PE X e (fun σ H Q => t σ H Q ∨ t' σ H Q) := ⟨fun pins s σ H Q I q => q.elim (h.run pins s σ H Q I) (h'.run pins s σ H Q I)⟩
end

/-- one evaluation, then another thing -/
def bind1 {α β : Type} (f : Env → Store → Option (α × Store)) (g : α → Env → Store → Option (β × Store)) : Env → Store → Option (β × Store) := fun ρ S => match f ρ S with
  | some (a, S1) => g a ρ S1
  | none => none
theorem bind1_inv {α β : Type} {f : Env → Store → Option (α × Store)} {g : α → Env → Store → Option (β × Store)} {ρ : Env} {S : Store} {r : β × Store} (h : bind1 f g ρ S = some r) : ∃ a S1, f ρ S = some (a, S1) ∧ g a ρ S1 = some r := by
  unfold bind1 at h
  split at h
  · rename_i a S1 e; exact ⟨a, S1, e, h⟩
  · cases h
section
variable {K : PySem.W.Frag} {H : Hp} {m : List Addr} {σ : L2.St} {S : Store}
/-- what is wanted behind two steps -/
theorem Wt.step {H1 : Hp} {m1 : List Addr} {S1 S' : Store} {t : T} {Q : VK} (s : SR K H m S) (s1 : SR K H1 m1 S1) (f1 : Fr H m H1 m1) (k : Wt K H m S' t Q) : Wt K H1 m1 S' t Q := fun w H' m' s' f' r => by
  refine k w H' m' s' (f1.trans f') ?_
  cases t with
  | d x => exact r
  | tmp ds =>
    obtain ⟨a, xs, e, h0, h2, n, r⟩ := r
    exact ⟨a, xs, e, f1.untr s s1 h0, h2, n, r⟩
/-- f, then what r asks of its value -/
theorem then1 {f : EF} {ρ : Env} {t : T} {S1 : Store} {Q : VK} (en : EnvR K H m ρ σ) (s : SR K H m S) (e : f ρ S = some (t, S1)) (k : ∀ v H1 m1, SR K H1 m1 S1 → Fr H m H1 m1 → EnvR K H1 m1 ρ σ → RepT K H H1 m1 t v → Q v H1) : tE K f σ H Q :=
  ⟨ρ, m, S, t, S1, en, s, e, fun v H1 m1 s1 f1 r1 => k v H1 m1 s1 f1 (en.fr f1 s) r1⟩
end

section
variable {X : Cx}
/-! ### two values -/
theorem rd_op {fa fb : EF} {p : Prim} : ∀ σ H Q, tE X.K (bind1 fa fun t1 => bind1 fb fun t2 _ S => p.run [t1, t2] S) σ H Q → tOp (rP2 X.K p) (tE X.K fa) (tE X.K fb) σ H Q := by
  rintro σ H Q ⟨ρ, m, S, t, S', en, s, e, k⟩
  obtain ⟨t1, S1, e1, e⟩ := bind1_inv e
  obtain ⟨t2, S2, e2, e⟩ := bind1_inv e
  refine then1 en s e1 fun v H1 m1 s1 f1 en1 r1 => ?_
  refine then1 en1 s1 e2 fun u H2 m2 s2 f2 en2 r2 => ?_
  exact ⟨[t1, t2], m2, S2, t, S', s2, .cons (r1.p.fr f2 s1) (.cons r2.p .nil), e, (k.step s s1 f1).step s1 s2 f2⟩
theorem rd_un {fa : EF} {p : Prim} {r : V → Hp → VK → Prop} (hr : ∀ x H Q, rP X.K p [x] H Q → r x H Q) : ∀ σ H Q, tE X.K (bind1 fa fun t1 _ S => p.run [t1] S) σ H Q → tUn r (tE X.K fa) σ H Q := by
  rintro σ H Q ⟨ρ, m, S, t, S', en, s, e, k⟩
  obtain ⟨t1, S1, e1, e⟩ := bind1_inv e
  refine then1 en s e1 fun v H1 m1 s1 f1 en1 r1 => hr _ _ _ ?_
  exact ⟨[t1], m1, S1, t, S', s1, .cons r1.p .nil, e, k.step s s1 f1⟩
/-! ### calls of built-ins -/
theorem rd_cb {fs : Env → Store → Option (List T × Store)} {p : Prim} {r : List V → Hp → VK → Prop} (hr : ∀ xs H Q, rP X.K p xs H Q → r xs H Q) : ∀ σ H Q, tE X.K (bind1 fs fun ts _ S => p.run ts S) σ H Q → tCB r (tAs X.K fs) σ H Q := by
  rintro σ H Q ⟨ρ, m, S, t, S', en, s, e, k⟩
  obtain ⟨ts, S1, e1, e⟩ := bind1_inv e
  exact ⟨ρ, m, S, ts, S1, en, s, e1, fun vs H1 m1 s1 f1 r1 => hr _ _ _ ⟨ts, m1, S1, t, S', s1, r1, e, k.step s s1 f1⟩⟩
/-! ### argument lists -/
theorem star_cons {e : Expr} {es : List Expr} {env : Env} : True := trivial
end
def notStar : Expr → Bool
  | .Starred .. => false
  | _ => true
theorem starEach_cons {e : Expr} {es : List Expr} {env : PySem.Env} (h : notStar e = true) : starEach (e :: es) env = (false, eval e env) :: starEach es env := by
  cases e <;> first | rfl | cases h
theorem any_star {pos : Pos} {env : PySem.Env} : ∀ {es : List Expr}, es.all notStar = true → (backTo pos (starEach es env)).any (·.1) = false
  | [], _ => rfl
  | e :: es, h => by
    rw [List.all_cons, Bool.and_eq_true] at h
    rw [starEach_cons h.1]
    show (false || (backTo pos (starEach es env)).any (·.1)) = false
    rw [any_star h.2]; rfl
theorem plainIx_of {e : Expr} (h : ∀ a b c p, e ≠ .Slice a b c p) : PlainIx e := fun o i => by
  cases e <;> first | rfl | exact absurd rfl (h _ _ _ _)
section
variable {X : Cx} {G : List D} {call : Call}
theorem pa_asNil : PA X [] (tAs X.K fun ρ S => evs G call .nil ρ S) := pa_imp pa_nil fun σ H Q ⟨ρ, m, S, ts, S', en, s, e, k⟩ => by
  have e : some (([] : List T), S) = some (ts, S') := by rw [← e]; simp only [evs]
  cases e
  exact k [] H m s .refl .nil
theorem pa_asCons {e : Expr} {es : List Expr} {a : Ex} {as : Exs} (hs : notStar e = true) (h1 : PE X e (tE X.K fun ρ S => ev G call a ρ S)) (h2 : PA X es (tAs X.K fun ρ S => evs G call as ρ S)) : PA X (e :: es) (tAs X.K fun ρ S => evs G call (.cons a as) ρ S) :=
  pa_imp (pa_cons h1 h2 (starEach_cons hs)) fun σ H Q ⟨ρ, m, S, ts, S', en, s, e, k⟩ => by
    simp only [evs] at e
    split at e
    · rename_i t S1 e1
      split at e
      · rename_i ts2 S2 e2
        cases e
        refine then1 en s e1 fun v H1 m1 s1 f1 en1 r1 => ?_
        exact ⟨ρ, m1, S1, ts2, _, en1, s1, e2, fun vs H2 m2 s2 f2 r2 => k _ _ m2 s2 (f1.trans f2) (.cons (r1.p.fr f2 s1) r2)⟩
      · cases e
    · cases e
theorem pa_dsNil : PA X [] (tDs X.K fun ρ S => evDs G call .nil ρ S) := pa_imp pa_nil fun σ H Q ⟨ρ, m, S, ts, S', en, s, e, k⟩ => by
  have e : some (([] : List D), S) = some (ts, S') := by rw [← e]; simp only [evDs]
  cases e
  exact k [] H m s .refl .nil
theorem pa_dsCons {e : Expr} {es : List Expr} {a : Ex} {as : Exs} (hs : notStar e = true) (h1 : PE X e (tE X.K fun ρ S => ev G call a ρ S)) (h2 : PA X es (tDs X.K fun ρ S => evDs G call as ρ S)) : PA X (e :: es) (tDs X.K fun ρ S => evDs G call (.cons a as) ρ S) :=
  pa_imp (pa_cons h1 h2 (starEach_cons hs)) fun σ H Q ⟨ρ, m, S, ts, S', en, s, e, k⟩ => by
    simp only [evDs] at e
    split at e
    · rename_i t S1 e1
      split at e
      · rename_i ts2 S2 e2
        cases e
        refine then1 en s e1 fun v H1 m1 s1 f1 en1 r1 => ?_
        obtain ⟨m1', s1', f1', r1'⟩ := norm_ok s1 f1 r1
        exact ⟨ρ, m1', _, ts2, _, en.fr f1' s, s1', e2, fun vs H2 m2 s2 f2 r2 => k _ _ m2 s2 (f1'.trans f2) (.cons (Rep.kp (f2.kp s1') r1') r2)⟩
      · cases e
    · cases e
end
end F

/-! A key function that takes of a tuple its third and its second part: called. -/
namespace F
open PySem PySem.Spec PyProof.Rows L2

def rankE (x : Str) : Expr → Bool
  | .Tuple [.Subscript (.Name y _) (.Constant (.int i) _ _) _, .Subscript (.Name z _) (.Constant (.int j) _ _) _] _ _ => decide (y = x) && decide (z = x) && decide (i = 2) && decide (j = 1)
  | _ => false
def rankB (x : Str) : List Stmt → Bool
  | [.Return (some e) _] => rankE x e
  | [.Expr (.Constant (.str _) _ _) _, .Return (some e) _] => rankE x e
  | _ => false
section
variable {prog : Program} {w : World} {A : Around} {E : Value → Shared → Prop} {s : Shared}
theorem ev_item {env : PySem.Env} {x : Str} {v : Addr} {its : Array Value} {m : Str → Option Value} {j : Int} {jn k : Nat} {u : Value} {p1 p2 p3 : Pos} {Q : Value → Shared → Prop} (hk : env.scope.kind = .function) (hx : env.kindOf x = some .local)
    (hn : s.heap.Ns env.locals m) (hm : m x = some (.ref v)) (hv : IsTup s.heap v its) (hj : j = (jn : Nat)) (hw : its[jn]? = some u) (hz : its.size ≤ sizeLine) (hd : (x == ("__debug__" : Str)) = false)
    (h : Q u { s with toks := s.toks + 1 }) : wpAny (model prog w) A (eval (.Subscript (.Name x p1) (.Constant (.int j) k p2) p3) env) Q E s := by
  refine Subscript_Constant (wpAny_Name (wpAny_loadName_local hk hx hn hm (wpAny_Constant_int ⟨"tuple", _, slot_tuple_getitem.lookup, IsTup.typeIs (s := { s with toks := s.toks + 1 }) hv, ?_⟩)) hd)
  have hl : sizeLine = 16777216 := sizeLine_eq
  have hlt : jn < its.size := (Array.getElem?_eq_some_iff.mp hw).1
  subst hj
  exact getItem_tuple (s := { s with toks := s.toks + 1 }) hv (by omega) (by omega) (by rw [seqIndex_of (by omega) (by omega)]) (by simpa using hw) h
theorem ev_rank {env : PySem.Env} {x : Str} {v : Addr} {its : Array Value} {m : Str → Option Value} {a b : Int} {ta tb : Tok} {e : Expr} {Q : Value → Shared → Prop} (he : rankE x e = true) (hk : env.scope.kind = .function) (hx : env.kindOf x = some .local)
    (hn : s.heap.Ns env.locals m) (hm : m x = some (.ref v)) (hv : IsTup s.heap v its) (h2 : its[2]? = some (.int a ta)) (h1 : its[1]? = some (.int b tb)) (hz : its.size ≤ sizeLine) (hd : (x == ("__debug__" : Str)) = false)
    (h : ∀ tk, Q (.ref s.heap.objs.size) { s with heap := s.heap.push { cls := .type "tuple", data := .seq #[.int a ta, .int b tb] }, toks := tk }) : wpAny (model prog w) A (eval e env) Q E s := by
  unfold rankE at he
  split at he
  · simp only [Bool.and_eq_true, decide_eq_true_eq] at he
    obtain ⟨⟨⟨rfl, rfl⟩, hi⟩, hj⟩ := he
    refine wpAny_Tuple_spliced (Calls.spliced_cons ?_)
    refine ev_item (jn := 2) hk hx hn hm hv (by rw [hi]; rfl) h2 hz hd ?_
    refine Calls.spliced_cons ?_
    refine ev_item (s := { s with toks := s.toks + 1 }) (jn := 1) hk hx hn hm hv (by rw [hj]; rfl) h1 hz hd ?_
    exact Calls.spliced_nil ⟨by rw [sizeLine_eq]; exact Nat.le_of_ble_eq_true rfl, h _⟩
  · cases he
/-- a function that gives of a tuple its third and its second part -/
def RankF (h : Heap) (f : Addr) : Prop := ∃ (o : Obj) (fd : FuncData) (x : Str), h.get? f = some o ∧ o.data = .func fd ∧ h.CodeRec fd.code fd.qualname ∧ (∀ (s : Shared) (u : Value), BindsTo s fd ⟨[u], []⟩ [(x, u)]) ∧ (∀ y ∈ fd.scope.names, y.2 ≠ .cell) ∧
  fd.scope.names.lookup x = some .local ∧ fd.scope.isCoroutine = false ∧ fd.scope.isGenerator = false ∧ fd.scope.kind = .function ∧ (x == ("__debug__" : Str)) = false ∧ ((∃ body, fd.body = .stmts body ∧ rankB x body = true) ∨ (∃ e, fd.body = .expr e ∧ rankE x e = true))
theorem RankF.keeps {h h' : Heap} {f : Addr} (r : RankF h f) (k : ∀ b o, h.get? b = some o → h'.get? b = some o) : RankF h' f := by
  obtain ⟨o, fd, x, h1, h2, h3, h4⟩ := r
  exact ⟨o, fd, x, k _ _ h1, h2, h3.keeps k, h4⟩
def RankEnd (s : Shared) (a b : Int) (v : Value) (s' : Shared) : Prop := ∃ h' tk p ta tb, s' = { s with heap := h', toks := tk } ∧ (∀ b o, s.heap.get? b = some o → h'.get? b = some o) ∧ v = .ref p ∧ IsTup h' p #[.int a ta, .int b tb] ∧ s.heap.objs.size ≤ p
theorem rank_call {f v : Addr} {its : Array Value} {a b : Int} {ta tb : Tok} (r : RankF s.heap f) (hv : IsTup s.heap v its) (h2 : its[2]? = some (.int a ta)) (h1 : its[1]? = some (.int b tb)) (hz : its.size ≤ sizeLine) (hlim : s.heap.NoLimit) (hroom : A.depth < recursionLimit) :
    wpAny (model prog w) A (call (.ref f) [.ref v]) (RankEnd s a b) (fun _ _ => False) s := by
  obtain ⟨o, fd, x, ho, hd, hcd, hb, hcell, hx, hco, hgen, hk, hdbg, hbody⟩ := r
  have hloc : ∀ y ∈ [(x, Value.ref v)], fd.scope.names.lookup y.1 = some .local := fun y hy => by
    rw [List.mem_singleton.mp hy]; exact hx
  have fin : ∀ (h₀ : Heap) (tk : Nat), (∀ b o, s.heap.get? b = some o → h₀.get? b = some o) → s.heap.objs.size ≤ h₀.objs.size → RankEnd s a b (.ref h₀.objs.size) { s with heap := h₀.push { cls := .type "tuple", data := .seq #[.int a ta, .int b tb] }, toks := tk } := fun h₀ tk k hl =>
    ⟨_, tk, _, ta, tb, rfl, fun b o e => Heap.get?_push_of_some _ (k b o e), rfl, ⟨_, Heap.get?_push_size _ rfl, rfl, _, rfl⟩, hl⟩
  refine wpAny_call ?_
  rcases hbody with ⟨body, eb, hr⟩ | ⟨e, eb, hr⟩
  · refine codeAny_call_def hroom ho hd hlim hcd eb (hb s (.ref v)) hcell hloc (fun h₀ hns k => ?_) hco hgen hk
    have hl : s.heap.objs.size ≤ h₀.objs.size := Nat.le_of_lt (Heap.Ns.lt hns)
    have step : ∀ e tk, rankE x e = true → ∀ pos Q, (∀ tk', Q (.ret (.ref h₀.objs.size)) { s with heap := h₀.push { cls := .type "tuple", data := .seq #[.int a ta, .int b tb] }, toks := tk' }) → ∀ E', wpAny (model prog w) (A.deeper (callEnv fd s.heap.objs.size f)) (exec (.Return (some e) pos) (callEnv fd s.heap.objs.size f)) Q E' { s with heap := h₀, toks := tk } := by
      intro e tk he pos Q hQ E'
      exact wpAny_Return_some (ev_rank (s := { s with heap := h₀, toks := tk }) (m := fun y => [(x, Value.ref v)].reverse.lookup y) he hk hx hns (by simp) (hv.keeps k) h2 h1 hz hdbg fun tk' => hQ tk')
    unfold rankB at hr
    split at hr
    · refine wpAny_execs_cons (step _ _ hr _ _ (fun tk' => ?_) _)
      exact fin h₀ tk' k hl
    · refine wpAny_execs_cons (wpAny_Expr (Calls.Constant_str ?_) (by simp [interactive, callEnv, newEnv, hk]))
      refine wpAny_execs_cons (step _ _ hr _ _ (fun tk' => ?_) _)
      exact fin h₀ tk' k hl
    · cases hr
  · refine PySem.W.kla_callFunE hroom ho hd hco hgen eb hcd (hb s (.ref v) _ _ _ _ ?_)
    refine wpAny_newFunctionEnv hcell hloc (fun h₀ hns hsb => ⟨hlim.fresh _ hsb, PySem.W.kla_codeExpr ?_⟩) hk
    have k : ∀ b o, s.heap.get? b = some o → h₀.get? b = some o := fun b o e => hsb.extBut b o (Nat.ne_of_lt (Heap.lt_size e)) (Heap.get?_push_of_some _ e)
    have hl : s.heap.objs.size ≤ h₀.objs.size := Nat.le_of_lt (Heap.Ns.lt hns)
    exact ev_rank (s := { s with heap := h₀, toks := s.toks + [(x, Value.ref v)].length }) (m := fun y => [(x, Value.ref v)].reverse.lookup y) hr hk hx hns (by simp) (hv.keeps k) h2 h1 hz hdbg fun tk' => fin h₀ tk' k hl
end
/-! ### a def's promise where no repr is under way -/
structure FnG (P : Program) (w : World) (K : PySem.W.Frag) (mg : Str → Option Value) (base : Heap) (CX : CXT) (k : Nat) (f : Addr) (fd : FuncData) (ps : List Str) (sp : Sp) : Prop where
  len : ∀ vs H Q E, sp vs H Q E → vs.length = ps.length
  go : ∀ (A : Around) (outer : List PySem.Env) (s : Shared) (H : Hp) (args : Args) (us : List Value) (vs : List V) (Q : VK) (E : XK), A.guards = some [] → Room k A → Env0 P w K mg base A outer s H → BindsTo s fd args (ps.zip us) → Vals vs us → sp vs H Q E →
    codeAny (model P w) A (.call (.ref f) args) (CR CX outer P w H s Q E) s
section
variable {X : Cx} {k : Nat} {f C : Addr} {fd : FuncData} {ps : List Str} {sp : Sp} {x : Str} {p pos : Pos} {e : Expr} {es : List Expr} {t : TA} {pins : List (Addr × Obj)} {σ : L2.St} {H : Hp} {s : Shared} {Q : VK} {us : List Value} {vs : List V} {CX : CXT} {E : XK}
theorem run_fnG (F : FnG X.prog X.w X.K X.mg X.base CX k f fd ps sp) (hgd : X.A.guards = some []) (hr : Room k X.A) (hb : Binds X.K fd ps []) (hx : Passes CX X E) (I : Inv X pins σ H s) (r : Vals vs us) (h : sp vs H Q E) :
    wpAny (model X.prog X.w) X.A (call (.ref f) us) (EP X pins σ Q) X.xe s := by
  have hl : (us ++ []).length = ps.length := by rw [List.append_nil, ← r.length]; exact F.len _ _ _ _ h
  have hb1 := hb s us I.kIn hl
  rw [List.append_nil] at hb1
  exact wpAny_call (codeAny_mono (F.go X.A X.stack s H ⟨us, []⟩ us vs Q E hgd hr I.env0 hb1 r h) fun r s' hq => by
    match r, hq with
    | .error e, hq => exact hx pins σ H s e s' I hq
    | .ok (.ret u), hq => exact I.after hq)
theorem pe_callG (F : FnG X.prog X.w X.K X.mg X.base CX k f fd ps sp) (hgd : X.A.guards = some []) (hr : Room k X.A) (hg : Gl X x) (hm : X.mg x = some (.ref f)) (hk : PySem.W.keepIn X.K (.ref f) = true) (hb : Binds X.K fd ps []) (hx : Passes CX X E)
    (ha : PA X (e :: es) t) (hdb : (x == ("__debug__" : Str)) = false) (he : starEach (e :: es) X.env = (false, eval e X.env) :: starEach es X.env) (hpl : (backTo pos (starEach es X.env)).any (·.1) = false) :
    PE X (.Call (.Name x p) (e :: es) [] pos) (fun σ H Q => t σ H fun vs H1 => sp vs H1 Q E) := ⟨fun pins s σ H Q I h =>
  wpAny_Call_Name_kw (ld_glob I hg hm (PySem.W.callWith_K (h₀ := X.base) I.ok.mod.kin hk (thn (ha.run pos pins s σ H _ I h) fun us s1 ⟨vs, H1, I1, r, q⟩ => ⟨I1.kIn, run_fnG F hgd hr hb hx I1 r q⟩) he hpl) hdb)⟩
theorem run_makeG (M : Mk X.K C f) (F : FnG X.prog X.w X.K X.mg X.base CX k f fd ps sp) (hgd : X.A.guards = some []) (hr : Room (k + 1) X.A) (hb : Binds X.K fd ps []) (hx : Passes CX X E) (I : Inv X pins σ H s) (r : Vals vs us)
    (h : ∀ x dx, H x = none → H dx = none → dx ≠ x → sp (.ref x :: vs) (upd (upd H dx (.own x)) x (.ins C dx [])) (fun v H2 => v = .non ∧ Q (.ref x) H2) E) :
    wpAny (model X.prog X.w) X.A (call (.ref C) us) (EP X pins σ Q) X.xe s := by
  have I2 := Inv.made (C := C) I
  have hq := h (s.heap.objs.size + 1) s.heap.objs.size (I.hok.fresh (Nat.le_succ _)) (I.hok.fresh (Nat.le_refl _)) (Nat.ne_of_lt (Nat.lt_succ_self _))
  have r2 : Vals (V.ref (s.heap.objs.size + 1) :: vs) (Value.ref (s.heap.objs.size + 1) :: us) := .cons rfl r
  have hl : ((Value.ref (s.heap.objs.size + 1) :: us) ++ []).length = ps.length := by
    rw [List.append_nil, ← r2.length]
    exact F.len _ _ _ _ hq
  have hb1 := hb _ (Value.ref (s.heap.objs.size + 1) :: us) I2.kIn hl
  rw [List.append_nil] at hb1
  refine wpAny_call (make_map (f := f) I.kIn M.makes M.init (beq_iff_eq.mp M.fn) (codeAny_mono (F.go _ X.stack _ _ ⟨Value.ref (s.heap.objs.size + 1) :: us, []⟩ _ _ _ E ?gd (hr.make C us []) (I2.env0.make C us []) hb1 r2 hq) fun r s' hz => ?fin))
  case gd => first | exact hgd | (simp only [Around.in1_guards]; exact hgd) | simpa using hgd
  case fin =>
    match r, hz with
    | .error e, hz => exact hx pins σ _ _ e s' I2 hz
    | .ok (.ret u), hz =>
      obtain ⟨v, H', I3, rv, ev, q3⟩ := I2.after hz
      subst ev
      exact ⟨rv, ⟨V.ref (s.heap.objs.size + 1), H', I3, rfl, q3⟩⟩
theorem pe_makeG (M : Mk X.K C f) (F : FnG X.prog X.w X.K X.mg X.base CX k f fd ps sp) (hgd : X.A.guards = some []) (hr : Room (k + 1) X.A) (hg : Gl X x) (hm : X.mg x = some (.ref C)) (hb : Binds X.K fd ps []) (hx : Passes CX X E)
    (ha : PA X (e :: es) t) (hdb : (x == ("__debug__" : Str)) = false) (he : starEach (e :: es) X.env = (false, eval e X.env) :: starEach es X.env) (hpl : (backTo pos (starEach es X.env)).any (·.1) = false) :
    PE X (.Call (.Name x p) (e :: es) [] pos) (fun σ H Q => t σ H fun vs H1 => ∀ x dx, H1 x = none → H1 dx = none → dx ≠ x → sp (.ref x :: vs) (upd (upd H1 dx (.own x)) x (.ins C dx [])) (fun v H2 => v = .non ∧ Q (.ref x) H2) E) := ⟨fun pins s σ H Q I h =>
  wpAny_Call_Name_kw (ld_glob I hg hm (PySem.W.callWith_K (h₀ := X.base) I.ok.mod.kin M.kp (thn (ha.run pos pins s σ H _ I h) fun us s1 ⟨vs, H1, I1, r, q⟩ => ⟨I1.kIn, run_makeG M F hgd hr hb hx I1 r q⟩) he hpl) hdb)⟩
end
end F

/-! The link between the program's syntax and ours: a check, and that a checked expression is what we say. -/
namespace F
open PySem PySem.Spec PyProof.Rows L2
variable [Tb]

def fnb (C : Ctx) (x : Str) : Bool := match C.fb with | none => true | some s => s.names.lookup x == some .cell
def spC (K : PySem.W.Frag) (call : Call) (i : Nat) : Sp := fun vs H Q _ => ∃ m S ds d S', SR K H m S ∧ RepL K H m ds vs ∧ call i ds S = some (d, S') ∧ ∀ v H' m', SR K H' m' S' → Fr H m H' m' → Rep K H' m' d v → Q v H'
/-- a def that may make lambdas: its code object, and the table of the code objects within -/
def LamH (X : Cx) : Prop := ∃ c P, X.env.code = .ref c ∧ LamX.TabB X.base X.mg c P ∧ (P, X.env.qual ++ "<lambda>") ∈ Tb.T ∧ ∀ p ∈ Tb.T, p.1 = P → p.2 = X.env.qual ++ "<lambda>"
structure COk (X : Cx) (C : Ctx) (G : List D) (call : Call) : Prop where
  hN : X.N = C.N
  nd : C.N.Nodup
  sc : X.env.scope = C.sc
  kind : C.sc.kind = .function
  calm : X.calm = true
  fnh : ∀ x, fnb C x = true → X.fn x = true
  gl : ∀ (j : Nat) x d, C.gl[j]? = some (x, d) → G[j]? = some d ∧ ∃ u v, X.mg x = some u ∧ RelV v u ∧ ∀ H m, Rep X.K H m d v
  bl : ∀ x, x ∈ C.bl → X.mg x = none
  fs : ∀ x i, (x, i) ∈ C.fs → ∃ k f fd ps, FnG X.prog X.w X.K X.mg X.base CX0 k f fd ps (spC X.K call i) ∧ Room k X.A ∧ X.mg x = some (.ref f) ∧ PySem.W.keepIn X.K (.ref f) = true ∧ Binds X.K fd ps [] ∧ ∀ ds S r, call i ds S = some r → ds.length = ps.length
  ms : ∀ c m i, (c, m, i) ∈ C.ms → ∃ C0 k f fd ps, PySem.W.nsIn X.K mainGlobals c = some (some (.ref C0)) ∧ X.mg c = some (.ref C0) ∧ Cls X.K C0 ∧ FnG X.prog X.w X.K X.mg X.base CX0 k f fd ps (spC X.K call i) ∧ Room (k + 1) X.A ∧
    (m = "__init__" → Mk X.K C0 f ∧ InsOk X.K C0) ∧ (m ≠ "__init__" → Meth X.K C0 m f) ∧ Binds X.K fd ps [] ∧ ∀ ds S r, call i ds S = some r → ds.length = ps.length
  fa : ∀ c f, (c, f) ∈ C.fa → ∃ C0, PySem.W.nsIn X.K mainGlobals c = some (some (.ref C0)) ∧ Cls X.K C0 ∧ NoAttr X.K C0 f
  room : Room 1 X.A
  gd : X.A.guards = some []
  rk : ∀ x, x ∈ C.rk → ∃ f, X.mg x = some (.ref f) ∧ PySem.W.keepIn X.K (.ref f) = true ∧ ∀ h, X.K.In h → RankF h f
  lm : C.lam = true → LamH X

def visB (sc : Scope) (x : Str) : Bool := match sc.names.lookup x with | some .local => true | some .cell => true | some .free => true | _ => false
def locB (C : Ctx) (x : Str) : Bool := match C.sc.names.lookup x with | some .local => true | some .cell => fnb C x | _ => false
def gloB (sc : Scope) (x : Str) : Bool := decide (sc.names.lookup x = some .globalImplicit)
def notDbg (x : Str) : Bool := !(x == ("__debug__" : Str)) && !(x == ("__classdict__" : Str))
def blt (C : Ctx) (f : Str) (s : Str) : Bool := decide (f = s) && gloB C.sc f && decide (f ∈ C.bl)
def notSet : Expr → Bool
  | .Set .. => false
  | _ => true
def notCall0 : Expr → Bool
  | .Call _ [] _ _ => false
  | _ => true
def tOk : Expr → Bool
  | .IfExp .. => false
  | _ => true
def binOf : Prim → Option Operator
  | .add => some .Add | .sub => some .Sub | .mul => some .Mult | .fdiv => some .FloorDiv | .mod => some .Mod | .pow => some .Pow | _ => none
def cmpOf : Prim → Option CmpOp
  | .lt => some .Lt | .le => some .LtE | .gt => some .Gt | .ge => some .GtE | .eq => some .Eq | .ne => some .NotEq
  | .isin false => some .In | .isin true => some .NotIn | _ => none
/-- a built-in function's name -/
def cbOf : Prim → Option String
  | .len => some "len" | .abs => some "abs" | .min2 => some "min" | .max2 => some "max" | .all => some "all" | .any => some "any" | _ => none
def ctOf : Prim → Option String
  | .tuple => some "tuple" | .list => some "list" | .int1 => some "int" | _ => none
def mtOf : Prim → Option (String × String)
  | .join => some ("str", "join") | .sindex => some ("str", "index") | .append => some ("list", "append") | .popAt => some ("list", "pop") | .extend => some ("list", "extend") | _ => none
/-- methods of lists without arguments -/
def md0Of : Prim → Option String
  | .popEnd => some "pop" | _ => none
/-- methods of dicts, with one argument, with two -/
def md1Of : Prim → Option String
  | .get1 => some "get" | _ => none
def md2Of : Prim → Option String
  | .get2 => some "get" | .setdef => some "setdefault" | .insert => some "insert" | _ => none
/-- a lambda of one parameter that ranks -/
def lamB (ps : Arguments) (body : Expr) (sc : Scope) : Bool := match ps with
  | ⟨[], [⟨x, none, _⟩], none, [], [], none, []⟩ => decide (sc.kind = .function) && !sc.isCoroutine && !sc.isGenerator && decide (sc.names = [(x, .local)]) && rankE x body && !(x == ("__debug__" : Str))
  | _ => false
/-- what a key= is: a def of the top that ranks, or such a lambda -/
def keyOk (C : Ctx) : Expr → Bool
  | .Name x _ => decide (x ∈ C.rk) && gloB C.sc x && notDbg x
  | .Lambda ps body sc _ => C.lam && lamB ps body sc
  | _ => false
def isNoneC : Expr → Bool
  | .Constant .none _ _ => true
  | _ => false
def reprA (C : Ctx) : Expr → Option Expr
  | .Call (.Name f _) [a] [] _ => if blt C f "repr" = true ∧ notStar a = true then some a else none
  | _ => none
def reprOp (neg : Bool) : CmpOp := if neg then CmpOp.NotEq else CmpOp.Eq
def reprSh (C : Ctx) (neg : Bool) (op : CmpOp) (a b : Expr) : Option (List Expr) := match reprA C a, reprA C b with
  | some x, some y => if op = reprOp neg then some [x, y] else none
  | _, _ => none
theorem reprA_inv {C : Ctx} {e a : Expr} (h : reprA C e = some a) : ∃ f p q, e = .Call (.Name f p) [a] [] q ∧ blt C f "repr" = true ∧ notStar a = true := by
  unfold reprA at h
  split at h
  · split at h
    · rename_i hz
      cases h
      exact ⟨_, _, _, rfl, hz⟩
    · cases h
  · cases h
theorem reprSh_inv {C : Ctx} {neg : Bool} {op : CmpOp} {a b : Expr} {es : List Expr} (h : reprSh C neg op a b = some es) : ∃ x y, reprA C a = some x ∧ reprA C b = some y ∧ op = reprOp neg ∧ es = [x, y] := by
  unfold reprSh at h
  split at h
  · rename_i x y h1 h2
    split at h
    · rename_i hz
      cases h
      exact ⟨x, y, h1, h2, hz, rfl⟩
    · cases h
  · cases h
def shape (C : Ctx) (p : Prim) : Expr → Option (List Expr)
  | .BinOp a op b _ => if binOf p = some op then some [a, b] else none
  | .UnaryOp op a _ => if p = .neg ∧ op = .USub then some [a] else none
  | .Compare a [op] [b] _ => if cmpOf p = some op ∧ notSet b = true then some [a, b] else
      match p, op, b with
      | .isN false, .Is, .Constant .none _ _ => some [a]
      | .isN true, .IsNot, .Constant .none _ _ => some [a]
      | .isB false k, .Is, .Constant (.bool c) _ _ => if k = c then some [a] else none
      | .isB true k, .IsNot, .Constant (.bool c) _ _ => if k = c then some [a] else none
      | .reprC neg, op, b => reprSh C neg op a b
      | _, _, _ => none
  | .Call (.Name f _) (e :: es) [] _ => match cbOf p with
    | some s => if blt C f s = true then some (e :: es) else none
    | none => match ctOf p with
      | some s => if blt C f s = true then some (e :: es) else none
      | none => match p, e, es with
        | .inst t, _, [.Name g _] => if blt C f "isinstance" = true ∧ blt C g (tyN t) = true then some [e] else none
        | .lenSet, .Call (.Name g _) [a] [] _, [] => if blt C f "len" = true ∧ blt C g "set" = true ∧ notStar a = true then some [a] else none
        | .sortedSet, .Call (.Name g _) [a] [] _, [] => if blt C f "sorted" = true ∧ blt C g "set" = true ∧ notStar a = true then some [a] else none
        | .sorted, a, [] => if blt C f "sorted" = true ∧ notStar a = true then some [a] else none
        | .minL, a, [] => if blt C f "min" = true ∧ notStar a = true then some [a] else none
        | .maxL, a, [] => if blt C f "max" = true ∧ notStar a = true then some [a] else none
        | .dictP, a, [] => if blt C f "dict" = true ∧ notStar a = true then some [a] else none
        | .tupRev, .Call (.Name g _) [a] [] _, [] => if blt C f "tuple" = true ∧ blt C g "reversed" = true ∧ notStar a = true then some [a] else none
        | .tupRange, .Call (.Name g _) [a, b, c] [] _, [] => if blt C f "tuple" = true ∧ blt C g "range" = true ∧ notStar a = true ∧ notStar b = true ∧ notStar c = true then some [a, b, c] else none
        | _, _, _ => none
  | .Call (.Name f _) [e] [⟨some k, d, _⟩] _ => if p = .minD ∧ blt C f "min" = true ∧ k = ("default" : Str) ∧ notStar e = true then some [e, d] else
      if p = .sortR ∧ blt C f "sorted" = true ∧ k = ("key" : Str) ∧ notStar e = true ∧ keyOk C d = true then some [e] else none
  | .Call (.Name f _) [e] [⟨some k, d, _⟩, ⟨some k2, d2, _⟩] _ => if p = .maxR ∧ blt C f "max" = true ∧ k = ("key" : Str) ∧ k2 = ("default" : Str) ∧ notStar e = true ∧ keyOk C d = true ∧ isNoneC d2 = true then some [e] else none
  | .Subscript a (.Slice lo hi none _) _ => match p, lo, hi with
    | .slice false false, none, none => some [a]
    | .slice true false, some l, none => some [a, l]
    | .slice false true, none, some h => some [a, h]
    | .slice true true, some l, some h => some [a, l, h]
    | _, _, _ => none
  | .Subscript a (.Slice none none (some (.UnaryOp .USub (.Constant (.int 1) _ _) _)) _) _ => if p = .rev then some [a] else none
  | .Subscript a i _ => match i with
    | .Slice .. => none
    | i => if p = .item then some [a, i] else none
  | _ => none
def constB : D → Const → Bool
  | .non, .none => true
  | .bl b, .bool c => decide (b = c)
  | .int i, .int j => decide (i = j)
  | .str x, .str y => decide (x = y) && PyData.strOk x
  | _, _ => false
def ownP (N : List Str) (own : List Nat) : List (Str × Nat) := own.map fun i => (N.getD i ⟨#[]⟩, i)
def blkX (C : Ctx) (scope : Scope) : Ctx := { C with sc := relS scope C.sc, fb := some scope, lam := false }
mutual
def slots : Tg → List Nat
  | .n i => [i]
  | .tup ts => slotss ts
  | .sub _ _ => []
def slotss : Tgs → List Nat
  | .nil => []
  | .cons t ts => slots t ++ slotss ts
end
def exsLen : Exs → Nat
  | .nil => 0
  | .cons _ as => exsLen as + 1
mutual
def mtE (C : Ctx) : Ex → Expr → Bool
  | .c d, e => match e with | .Constant k _ _ => constB d k | _ => false
  | .v i, e => match e with | .Name x _ => decide (C.N[i]? = some x) && visB C.sc x && notDbg x | _ => false
  | .g j, e => match e with | .Name x _ => (match C.gl[j]? with | some (y, _) => decide (y = x) | none => false) && gloB C.sc x && notDbg x | _ => false
  | .prim p as, e => match shape C p e with | some es => mtEs C as es | none => false
  | .meth p o as, e => match e with
    | .Call (.Attribute o' m apos) [] [] pos => (match md0Of p with | some n => decide (m = (n : Str)) | none => false) && notCall0 o' && decide (apos.endLine = pos.line) && mtE C o o' && mtEs C as []
    | .Call (.Attribute o' m apos) [a] [] pos => (match mtOf p with | some (_, n) => decide (m = (n : Str)) | none => match md1Of p with | some n => decide (m = (n : Str)) | none => false) && notCall0 o' && decide (apos.endLine = pos.line) && mtE C o o' && mtEs C as [a]
    | .Call (.Attribute o' m apos) [a, b] [] pos => (match md2Of p with | some n => decide (m = (n : Str)) | none => false) && notCall0 o' && decide (apos.endLine = pos.line) && mtE C o o' && mtEs C as [a, b]
    | _ => false
  | .fld cs o f, e => match e with
    | .Attribute o' f' _ => decide (f' = f) && notCall0 o' && mtE C o o' && cs.all (fun c => decide ((c, f) ∈ C.fa))
    | _ => false
  | .mcall tb o m as, e => match e with
    | .Call (.Attribute o' m' apos) es [] pos => decide (m' = m) && notCall0 o' && decide (apos.endLine = pos.line) && decide (es.length < 20) && decide (m ≠ "__init__") && mtE C o o' && mtEs C as es && tb.all (fun p => decide ((p.1, m, p.2) ∈ C.ms))
    | _ => false
  | .make c i as, e => match e with
    | .Call (.Name x _) (e :: es) [] _ => decide (x = c) && decide ((c, ("__init__" : Str), i) ∈ C.ms) && gloB C.sc x && notDbg x && mtEs C as (e :: es)
    | _ => false
  | .tup as, e => match e with | .Tuple es _ _ => mtEs C as es | _ => false
  | .lst as, e => match e with | .List es _ => mtEs C as es | _ => false
  | .dK, e => match e with | .Dict [] [] _ => true | _ => false
  | .dT, e => match e with | .Dict [] [] _ => true | _ => false
  | .disp k v, e => match e with | .Dict [some a] [b] _ => mtE C k a && mtE C v b | _ => false
  | .and as, e => match e with | .BoolOp .And es _ => mtEs C as es && es.all tOk | _ => false
  | .or as, e => match e with | .BoolOp .Or es _ => mtEs C as es && es.all tOk | _ => false
  | .not a, e => match e with | .UnaryOp .Not x _ => mtE C a x && tOk x | _ => false
  | .ite t a b, e => match e with | .IfExp t' a' b' _ => mtE C t t' && mtE C a a' && mtE C b b' && tOk t' | _ => false
  | .chain p q a b c, e => match e with
    | .Compare a' [o1, o2] [b', c'] _ => decide (cmpOf p = some o1) && decide (cmpOf q = some o2) && notSet b' && notSet c' && mtE C a a' && mtE C b b' && mtE C c c'
    | _ => false
  | .call f as, e => match e with
    | .Call (.Name x _) (e :: es) [] _ => decide ((x, f) ∈ C.fs) && gloB C.sc x && notDbg x && mtEs C as (e :: es)
    | _ => false
  | .lc elt tg it cond own, e => match e with
    | .ListComp e' [⟨t, i, ifs, a⟩] scope _ => decide (a = 0) && mtI C it i t && notSet i && blkC C.N C.sc scope (ownP C.N own) && (slots tg).all (fun j => decide (j ∈ own)) && own.all (fun j => decide (j < C.N.length)) &&
        decide (exsLen cond ≤ 1) && ifs.all tOk && mtT (blkX C scope) tg t && mtEs (blkX C scope) cond ifs && mtE (blkX C scope) elt e'
    | _ => false
def mtEs (C : Ctx) : Exs → List Expr → Bool
  | .nil, es => match es with | [] => true | _ => false
  | .cons a as, es => match es with | e :: r => notStar e && mtE C a e && mtEs C as r | [] => false
def mtI (C : Ctx) : It → Expr → Expr → Bool
  | .seq a, e, _ => mtE C a e
  | .range1 a, e, _ => match e with | .Call (.Name f _) [x] [] _ => blt C f "range" && notStar x && mtE C a x | _ => false
  | .range2 a b, e, _ => match e with | .Call (.Name f _) [x, y] [] _ => blt C f "range" && notStar x && notStar y && mtE C a x && mtE C b y | _ => false
  | .zip a b, e, t => match e with
    | .Call (.Name f _) [x, y] [] _ => (match t with | .Tuple .. => true | _ => false) && blt C f "zip" && notStar x && notStar y && mtE C a x && mtE C b y
    | _ => false
  | .range3 a b c, e, _ => match e with | .Call (.Name f _) [x, y, z] [] _ => blt C f "range" && notStar x && notStar y && notStar z && mtE C a x && mtE C b y && mtE C c z | _ => false
  | .revd a, e, _ => match e with | .Call (.Name f _) [x] [] _ => blt C f "reversed" && notStar x && mtE C a x | _ => false
  | .keys a, e, _ => mtE C a e
  | .vals a, e, _ => match e with | .Call (.Attribute o m apos) [] [] pos => decide (m = ("values" : Str)) && notCall0 o && decide (apos.endLine = pos.line) && mtE C a o | _ => false
  | .items a, e, t => match e with | .Call (.Attribute o m apos) [] [] pos => (match t with | .Tuple .. => true | _ => false) && decide (m = ("items" : Str)) && notCall0 o && decide (apos.endLine = pos.line) && mtE C a o | _ => false
  | .enum a, e, t => match e with
    | .Call (.Name f _) [x] [] _ => (match t with | .Tuple .. => true | _ => false) && blt C f "enumerate" && notStar x && mtE C a x
    | _ => false
def mtT (C : Ctx) : Tg → Expr → Bool
  | .n i, e => match e with | .Name x _ => decide (C.N[i]? = some x) && locB C x | _ => false
  | .tup ts, e => match e with | .Tuple es _ _ => mtTs C ts es | _ => false
  | .sub o i, e => match e with
    | .Subscript o' i' _ => mtE C o o' && mtE C i i' && (match i' with | .Slice .. => false | _ => true)
    | _ => false
def mtTs (C : Ctx) : Tgs → List Expr → Bool
  | .nil, es => match es with | [] => true | _ => false
  | .cons t ts, es => match es with | e :: r => notStar e && mtT C t e && mtTs C ts r | [] => false
end

/-! ### the operations, by their signs -/
section
variable {X : Cx}
theorem run2 {p : Prim} {f : T → T → Store → Option T} (h : ∀ a b S, p.run [a, b] S = match f a b S with | some t => some (t, S) | none => none) : ∀ x y H Q, rP2 X.K p x y H Q → rU2 X.K f x y H Q := toP2 h
theorem bin_ok {p : Prim} {op : Operator} (h : binOf p = some op) : OpR X (binaryOp op) (rP2 X.K p) := by
  cases p <;> cases h
  · exact opr_of o_add (toP2 fun _ _ _ => rfl)
  · exact opr_of o_sub (toP2 fun _ _ _ => rfl)
  · exact opr_of o_mul (toP2 fun _ _ _ => rfl)
  · exact opr_of o_fdiv (toP2 fun _ _ _ => rfl)
  · exact opr_of o_mod (toP2 fun _ _ _ => rfl)
  · exact opr_of o_pow (toP2 fun _ _ _ => rfl)
theorem cmp_ok {p : Prim} {op : CmpOp} (r : Room 1 X.A) (h : cmpOf p = some op) : OpR X (compareOp op) (rP2 X.K p) := by
  have hu : X.A.units + 65 < cLine := by have := r.un; omega
  cases p with
  | isin neg =>
    cases neg <;> cases h
    · exact opr_of (o_in hu) (toP2 fun _ _ _ => rfl)
    · exact opr_of (o_notin hu) (toP2 fun _ _ _ => rfl)
  | lt => cases h; exact opr_of (o_lt (by omega)) (toP2 fun _ _ _ => rfl)
  | le => cases h; exact opr_of (o_le (by omega)) (toP2 fun _ _ _ => rfl)
  | gt => cases h; exact opr_of (o_gt (by omega)) (toP2 fun _ _ _ => rfl)
  | ge => cases h; exact opr_of (o_ge (by omega)) (toP2 fun _ _ _ => rfl)
  | eq => cases h; exact opr_of (o_eq (by omega)) (toP2 fun _ _ _ => rfl)
  | ne => cases h; exact opr_of (o_ne (by omega)) (toP2 fun _ _ _ => rfl)
  | _ => cases h
/-- one value in -/
theorem toC1 {p : Prim} {f : T → Store → Option T} (h : ∀ a S, p.run [a] S = match f a S with | some t => some (t, S) | none => none) (h0 : ∀ S, p.run [] S = none) (h2 : ∀ a b r S, p.run (a :: b :: r) S = none) : ∀ xs H Q, rP X.K p xs H Q → rC1 X.K f xs H Q := by
  rintro xs H Q ⟨ts, m, S, t, S', hs, hr, e, k⟩
  cases hr with
  | nil => rw [h0] at e; cases e
  | cons r1 r2 =>
    cases r2 with
    | nil =>
      rw [h] at e
      split at e
      · rename_i t' e1
        cases e
        exact ⟨_, rfl, _, m, S, _, hs, r1, e1, k⟩
      · cases e
    | cons r2 r3 => rw [h2] at e; cases e
theorem toC2 {p : Prim} {f : T → T → Store → Option T} (h : ∀ a b S, p.run [a, b] S = match f a b S with | some t => some (t, S) | none => none) (h0 : ∀ S, p.run [] S = none) (h1 : ∀ a S, p.run [a] S = none) (h2 : ∀ a b c r S, p.run (a :: b :: c :: r) S = none) : ∀ xs H Q, rP X.K p xs H Q → rC2 X.K f xs H Q := by
  rintro xs H Q ⟨ts, m, S, t, S', hs, hr, e, k⟩
  cases hr with
  | nil => rw [h0] at e; cases e
  | cons r1 r2 =>
    cases r2 with
    | nil => rw [h1] at e; cases e
    | cons r2 r3 =>
      cases r3 with
      | nil =>
        rw [h] at e
        split at e
        · rename_i t' e1
          cases e
          exact ⟨_, _, rfl, _, _, m, S, _, hs, r1, r2, e1, k⟩
        · cases e
      | cons r3 r4 => rw [h2] at e; cases e
theorem cb_ok {p : Prim} {s : String} (hc : X.calm = true) (h : cbOf p = some s) : CallR X (.builtin s) (rP X.K p) ∧ bootBuiltins (s : Str) = some (.builtin s) ∧ ((s : Str) ≠ "__name__") ∧ (((s : Str) == ("__debug__" : Str)) = false) := by
  cases p <;> cases h
  · exact ⟨callr_of c_len (toC1 (fun _ _ => rfl) (fun _ => rfl) fun _ _ _ _ => rfl), by decide +kernel, by decide, by decide⟩
  · exact ⟨callr_of c_abs (toC1 (fun _ _ => rfl) (fun _ => rfl) fun _ _ _ _ => rfl), by decide +kernel, by decide, by decide⟩
  · exact ⟨callr_of (c_min2 hc) (toC2 (fun _ _ _ => rfl) (fun _ => rfl) (fun _ _ => rfl) fun _ _ _ _ _ => rfl), by decide +kernel, by decide, by decide⟩
  · exact ⟨callr_of (c_max2 hc) (toC2 (fun _ _ _ => rfl) (fun _ => rfl) (fun _ _ => rfl) fun _ _ _ _ _ => rfl), by decide +kernel, by decide, by decide⟩
  · exact ⟨callr_of (c_all hc) (toC1 (fun _ _ => rfl) (fun _ => rfl) fun _ _ _ _ => rfl), by decide +kernel, by decide, by decide⟩
  · exact ⟨callr_of (c_any hc) (toC1 (fun _ _ => rfl) (fun _ => rfl) fun _ _ _ _ => rfl), by decide +kernel, by decide, by decide⟩
theorem ct_ok {p : Prim} {s : String} (hc : X.calm = true) (h : ctOf p = some s) : CallR X (.type s) (rP X.K p) ∧ bootBuiltins (s : Str) = some (.type s) ∧ ((s : Str) ≠ "__name__") ∧ (((s : Str) == ("__debug__" : Str)) = false) := by
  cases p <;> cases h
  · exact ⟨callr_of c_int1 (toC1 (fun _ _ => rfl) (fun _ => rfl) fun _ _ _ _ => rfl), by decide +kernel, by decide, by decide⟩
  · exact ⟨callr_of c_tuple (toC1 (fun _ _ => rfl) (fun _ => rfl) fun _ _ _ _ => rfl), by decide +kernel, by decide, by decide⟩
  · exact ⟨callr_of (c_list hc) (toC1 (fun _ _ => rfl) (fun _ => rfl) fun _ _ _ _ => rfl), by decide +kernel, by decide, by decide⟩
end
end F

/-! A checked expression is what we say. -/
namespace F
open PySem PySem.Spec PyProof.Rows L2
variable [Tb]

section
variable {X : Cx} {C : Ctx} {G : List D} {call : Call}
noncomputable abbrev evf (G : List D) (call : Call) (x : Ex) : EF := fun ρ S => ev G call x ρ S
/-- what is shown of an expression -/
def SE (X : Cx) (G : List D) (call : Call) (x : Ex) (e : Expr) : Prop := PE X e (tE X.K (evf G call x)) ∧ (tOk e = true → PT X e (tTst X.K fun ρ S => toB (ev G call x ρ S)))
inductive SEs (X : Cx) (G : List D) (call : Call) : Exs → List Expr → Prop where
  | nil : SEs X G call .nil []
  | cons {a : Ex} {as : Exs} {e : Expr} {es : List Expr} : notStar e = true → SE X G call a e → SEs X G call as es → SEs X G call (.cons a as) (e :: es)
theorem pe_no {e : Expr} {t : TE} (h : ∀ σ H Q, ¬ t σ H Q) : PE X e t := ⟨fun pins s σ H Q I q => (h σ H Q q).elim⟩
theorem pt_no {e : Expr} {t : TT} (h : ∀ σ H Q, ¬ t σ H Q) : PT X e t := ⟨fun pins s σ H Q I q => (h σ H Q q).elim⟩
theorem pw_no {e : Expr} {t : TT} (h : ∀ σ H Q, ¬ t σ H Q) : PW X e t := ⟨fun wh pins s σ H Q I q => (h σ H Q q).elim⟩
theorem toB_inv {r : Option (T × Store)} {b : Bool} {S : Store} (h : toB r = some (b, S)) : r = some (.d (.bl b), S) := by
  unfold toB at h
  split at h
  · cases h; rfl
  · cases h
theorem rd_tst {f : EF} : ∀ σ H (Q : Bool → Hp → Prop), tTst X.K (fun ρ S => toB (f ρ S)) σ H Q → tE X.K f σ H fun x H' => ∃ k, x = .bl k ∧ Q k H' := by
  rintro σ H Q ⟨ρ, m, S, b, S', en, s, e, k⟩
  exact ⟨ρ, m, S, _, S', en, s, toB_inv e, fun w H' m' s' f' r' => ⟨b, pp_bl (RepT.p r'), k H' m' s' f'⟩⟩
/-- an expression whose truth is its value's -/
theorem se_val {x : Ex} {e : Expr} (h : PE X e (tE X.K (evf G call x))) (he : ∀ whole, isTrue e X.env whole = (do let v ← whole; standAt e.pos; holding [v] (truthy v))) : SE X G call x e :=
  ⟨h, fun _ => pt_imp (pt_val h he) rd_tst⟩
theorem behind_of {op : CmpOp} {b : Expr} (h : notSet b = true) : behindInMarks op b = false := by
  cases b <;> first | rfl | cases h
theorem last_of {o1 o2 : CmpOp} {b c : Expr} (h : notSet c = true) : lastMarks [o1, o2] [b, c] = false := by
  show lastMarks [o2] [c] = false
  show behindInMarks o2 c = false
  exact behind_of h
theorem evPn {p : Prim} {as : Exs} {ρ : Env} {S : Store} : ev G call (.prim p as) ρ S = bind1 (fun ρ S => evs G call as ρ S) (fun ts _ S => p.run ts S) ρ S := by
  simp only [ev, bind1]
  cases evs G call as ρ S with
  | none => rfl
  | some r => rfl
theorem evP1 {p : Prim} {a : Ex} {ρ : Env} {S : Store} : ev G call (.prim p (.cons a .nil)) ρ S = bind1 (evf G call a) (fun t _ S => p.run [t] S) ρ S := by
  simp only [ev, evs, bind1, evf]
  cases ev G call a ρ S with
  | none => rfl
  | some r => rfl
theorem evP2 {p : Prim} {a b : Ex} {ρ : Env} {S : Store} : ev G call (.prim p (.cons a (.cons b .nil))) ρ S = bind1 (evf G call a) (fun t => bind1 (evf G call b) fun u _ S => p.run [t, u] S) ρ S := by
  simp only [ev, evs, bind1, evf]
  cases ev G call a ρ S with
  | none => rfl
  | some r =>
    obtain ⟨t, S1⟩ := r
    simp only
    cases ev G call b ρ S1 with
    | none => rfl
    | some r => rfl
theorem tE_congr {f g : EF} (h : ∀ ρ S, f ρ S = g ρ S) : tE X.K f = tE X.K g := by
  have : f = g := funext fun ρ => funext fun S => h ρ S
  rw [this]
theorem SEs.as {as : Exs} {es : List Expr} (h : SEs X G call as es) : PA X es (tAs X.K fun ρ S => evs G call as ρ S) := by
  induction h with
  | nil => exact pa_asNil
  | cons hs h1 h2 ih => exact pa_asCons hs h1.1 ih
theorem SEs.ds {as : Exs} {es : List Expr} (h : SEs X G call as es) : PA X es (tDs X.K fun ρ S => evDs G call as ρ S) := by
  induction h with
  | nil => exact pa_dsNil
  | cons hs h1 h2 ih => exact pa_dsCons hs h1.1 ih
theorem SEs.star {as : Exs} {es : List Expr} (h : SEs X G call as es) : es.all notStar = true := by
  induction h with
  | nil => rfl
  | cons hs h1 h2 ih => rw [List.all_cons, hs, ih]; rfl
theorem SEs.one {as : Exs} {e : Expr} (h : SEs X G call as [e]) : ∃ a, as = .cons a .nil ∧ SE X G call a e := by
  cases h with
  | cons _ h1 h2 => cases h2; exact ⟨_, rfl, h1⟩
theorem SEs.two {as : Exs} {e e' : Expr} (h : SEs X G call as [e, e']) : ∃ a b, as = .cons a (.cons b .nil) ∧ SE X G call a e ∧ SE X G call b e' := by
  cases h with
  | cons _ h1 h2 => obtain ⟨b, rfl, h3⟩ := h2.one; exact ⟨_, _, rfl, h1, h3⟩
theorem SEs.three {as : Exs} {e e' e2 : Expr} (h : SEs X G call as [e, e', e2]) : ∃ a b c, as = .cons a (.cons b (.cons c .nil)) ∧ SE X G call a e ∧ SE X G call b e' ∧ SE X G call c e2 := by
  cases h with
  | cons _ h1 h2 => obtain ⟨b, c, rfl, h3, h4⟩ := h2.two; exact ⟨_, _, _, rfl, h1, h3, h4⟩
theorem blt_ok (c : COk X C G call) {f s : Str} (h : blt C f s = true) : f = s ∧ Gl X f ∧ X.mg f = none := by
  unfold blt gloB at h
  rw [Bool.and_eq_true, Bool.and_eq_true] at h
  obtain ⟨⟨h1, h2⟩, h3⟩ := h
  refine ⟨of_decide_eq_true h1, ?_, c.bl f (of_decide_eq_true h3)⟩
  show X.env.scope.names.lookup f = _
  rw [c.sc]; exact of_decide_eq_true h2
theorem glo_ok (c : COk X C G call) {f : Str} (h : gloB C.sc f = true) : Gl X f := by
  show X.env.scope.names.lookup f = _
  rw [c.sc]; exact of_decide_eq_true h
theorem dbg_ok {x : Str} (h : notDbg x = true) : (x == ("__debug__" : Str)) = false ∧ (x == ("__classdict__" : Str)) = false := by
  unfold notDbg at h
  rw [Bool.and_eq_true] at h
  exact ⟨by simpa using h.1, by simpa using h.2⟩
theorem vis_ok (c : COk X C G call) {x : Str} (h : visB C.sc x = true) : Vis X.env.scope x := by
  unfold visB at h
  unfold Vis
  rw [c.sc]
  split at h
  · exact .inl (by assumption)
  · exact .inr (.inl (by assumption))
  · exact .inr (.inr (by assumption))
  · cases h
theorem loc_ok (c : COk X C G call) {x : Str} (h : locB C x = true) : L2.Loc X.env.scope x ∧ (X.fn x = true ∨ X.env.scope.names.lookup x = some .local) := by
  unfold locB at h
  unfold L2.Loc
  rw [c.sc]
  split at h
  · exact ⟨.inl (by assumption), .inr (by assumption)⟩
  · exact ⟨.inr (by assumption), .inl (c.fnh x h)⟩
  · cases h
/-! ### the cases -/
theorem se_c {d : D} {k : Const} {j : Nat} {pos : Pos} (h : constB d k = true) : SE X G call (.c d) (.Constant k j pos) := by
  refine se_val ?_ fun _ => rfl
  have go : ∀ (v : V), (∀ H m, Rep X.K H m d v) → ∀ σ H Q, tE X.K (evf G call (.c d)) σ H Q → tC v σ H Q := by
    rintro v hv σ H Q ⟨ρ, m, S, t, S', en, s, e, kk⟩
    simp only [evf, ev] at e
    cases e
    exact fin_d s (hv H m) kk
  cases d <;> cases k <;> first | cases h | skip
  · exact pe_imp pe_non (go _ fun H m => mk_non)
  · rename_i a b; cases of_decide_eq_true h; exact pe_imp pe_bl (go _ fun H m => mk_bl _)
  · rename_i a b; cases of_decide_eq_true h; exact pe_imp pe_int (go _ fun H m => mk_int _)
  · rename_i a b
    unfold constB at h
    rw [Bool.and_eq_true] at h
    cases of_decide_eq_true h.1
    exact pe_imp pe_str (go _ fun H m => mk_str h.2)
theorem se_v (c : COk X C G call) {i : Nat} {x : Str} {pos : Pos} (h1 : C.N[i]? = some x) (h2 : visB C.sc x = true) (h3 : notDbg x = true) : SE X G call (.v i) (.Name x pos) := by
  refine se_val (pe_imp (pe_var (i := i) (by rw [c.hN]; exact h1) (vis_ok c h2) (dbg_ok h3).1 (dbg_ok h3).2) ?_) fun _ => rfl
  rintro σ H Q ⟨ρ, m, S, t, S', en, s, e, kk⟩
  simp only [evf, ev] at e
  split at e
  · rename_i d e1
    cases e
    obtain ⟨v, h4, h5⟩ := en.2 i d e1
    exact ⟨v, h4, fin_d s h5 kk⟩
  · cases e
theorem se_g (c : COk X C G call) {j : Nat} {x : Str} {d : D} {pos : Pos} (h1 : C.gl[j]? = some (x, d)) (h2 : gloB C.sc x = true) (h3 : notDbg x = true) : SE X G call (.g j) (.Name x pos) := by
  obtain ⟨h4, u, v, h5, h6, h7⟩ := c.gl j x d h1
  refine se_val (pe_imp (pe_glob (glo_ok c h2) h5 h6 (dbg_ok h3).1) ?_) fun _ => rfl
  rintro σ H Q ⟨ρ, m, S, t, S', en, s, e, kk⟩
  simp only [evf, ev, h4] at e
  cases e
  exact fin_d s (h7 H m) kk
theorem se_bin {p : Prim} {op : Operator} {a b : Ex} {e e' : Expr} {pos : Pos} (h : binOf p = some op) (ha : SE X G call a e) (hb : SE X G call b e') : SE X G call (.prim p (.cons a (.cons b .nil))) (.BinOp e op e' pos) := by
  refine se_val ?_ fun _ => rfl
  unfold evf
  rw [tE_congr fun ρ S => evP2]
  exact pe_imp (pe_op (bin_ok h) ha.1 hb.1) rd_op
theorem se_cmp (c : COk X C G call) {p : Prim} {op : CmpOp} {a b : Ex} {e e' : Expr} {pos : Pos} (h : cmpOf p = some op) (hn : notSet e' = true) (ha : SE X G call a e) (hb : SE X G call b e') : SE X G call (.prim p (.cons a (.cons b .nil))) (.Compare e [op] [e'] pos) := by
  have hE : tE X.K (evf G call (.prim p (.cons a (.cons b .nil)))) = _ := tE_congr fun ρ S => evP2
  refine ⟨?_, fun _ => ?_⟩
  · rw [hE]
    exact pe_imp (pe_cmpR (cmp_ok c.room h) ha.1 hb.1 (behind_of hn)) rd_op
  · refine pt_imp (pt_cmpR (cmp_ok c.room h) ha.1 hb.1 (behind_of hn)) fun σ H Q q => ?_
    have q2 := rd_tst σ H Q q
    rw [hE] at q2
    exact rd_op σ H _ q2
theorem se_neg {a : Ex} {e : Expr} {pos : Pos} (ha : SE X G call a e) : SE X G call (.prim .neg (.cons a .nil)) (.UnaryOp .USub e pos) := by
  refine se_val ?_ fun _ => rfl
  unfold evf
  rw [tE_congr fun ρ S => evP1]
  refine pe_imp (pe_un o_neg ha.1) (rd_un fun x H Q q => ?_)
  obtain ⟨y, e1, q⟩ := toC1 (f := fun a _ => int1F (fun i => tI (-i)) a) (fun _ _ => rfl) (fun _ => rfl) (fun _ _ _ _ => rfl) _ _ _ q
  cases e1
  exact q
/-- is None, is not None -/
theorem pe_pt_is {p : Prim} {op : CmpOp} {a : Ex} {e k : Expr} {pos : Pos} {r : R2} {w : V} (ha : SE X G call a e) (ho : OpR X (compareOp op) r) (hk : PE X k (tC w)) (hn : notSet k = true)
    (hr : ∀ x H Q, rP X.K p [x] H Q → r x w H Q) : SE X G call (.prim p (.cons a .nil)) (.Compare e [op] [k] pos) := by
  have hE : tE X.K (evf G call (.prim p (.cons a .nil))) = _ := tE_congr fun ρ S => evP1
  have rd : ∀ σ H Q, tE X.K (bind1 (evf G call a) fun t1 _ S => p.run [t1] S) σ H Q → tOp r (tE X.K (evf G call a)) (tC w) σ H Q := by
    rintro σ H Q ⟨ρ, m, S, t, S', en, s, e, k⟩
    obtain ⟨t1, S1, e1, e⟩ := bind1_inv e
    refine then1 en s e1 fun v H1 m1 s1 f1 en1 r1 => hr _ _ _ ?_
    exact ⟨[t1], m1, S1, t, S', s1, .cons r1.p .nil, e, k.step s s1 f1⟩
  refine ⟨?_, fun _ => ?_⟩
  · rw [hE]
    exact pe_imp (pe_cmpR ho ha.1 hk (behind_of hn)) rd
  · refine pt_imp (pt_cmpR ho ha.1 hk (behind_of hn)) fun σ H Q q => ?_
    have q2 := rd_tst σ H Q q
    rw [hE] at q2
    exact rd σ H _ q2
theorem isNon_ok {K : PySem.W.Frag} {H : Hp} {m : List Addr} {t : T} {v : V} (r : RepP K H m t v) : decide (v = .non) = isNon t := by
  cases t with
  | tmp ds => obtain ⟨a, xs, rfl, _⟩ := r; rfl
  | d x =>
    cases x with
    | non => cases rep_non (pp_d r); rfl
    | bl b => cases pp_bl r; rfl
    | int b => cases pp_int r; rfl
    | str b => obtain ⟨rfl, _⟩ := pp_str r; rfl
    | tup ds => obtain ⟨a, xs, rfl, _⟩ := rep_tup (pp_d r); rfl
    | ktup ds => obtain ⟨a, xs, rfl, _⟩ := rep_ktup (pp_d r); rfl
    | rol ds => obtain ⟨a, xs, rfl, _⟩ := rep_rol (pp_d r); rfl
    | ref n => obtain ⟨a, rfl, _⟩ := rep_ref (pp_d r); rfl
theorem se_isN {neg : Bool} {a : Ex} {e : Expr} {pos pos' : Pos} {j : Nat} (ha : SE X G call a e) : SE X G call (.prim (.isN neg) (.cons a .nil)) (.Compare e [if neg then .IsNot else .Is] [.Constant .none j pos'] pos) := by
  cases neg
  · refine pe_pt_is ha op_isN pe_non rfl fun x H Q q => ?_
    obtain ⟨y, e1, t1, m, S, t, hs, r1, e, k⟩ := toC1 (f := fun a _ => tBl (isNon a != false)) (fun _ _ => rfl) (fun _ => rfl) (fun _ _ _ _ => rfl) _ _ _ q
    cases e1; cases e
    refine ⟨rfl, ?_⟩
    rw [isNon_ok r1, ← bne_false (isNon t1)]
    exact fin_d hs (mk_bl _) k
  · refine pe_pt_is ha op_notN pe_non rfl fun x H Q q => ?_
    obtain ⟨y, e1, t1, m, S, t, hs, r1, e, k⟩ := toC1 (f := fun a _ => tBl (isNon a != true)) (fun _ _ => rfl) (fun _ => rfl) (fun _ _ _ _ => rfl) _ _ _ q
    cases e1; cases e
    refine ⟨rfl, ?_⟩
    rw [isNon_ok r1, ← bne_true (isNon t1)]
    exact fin_d hs (mk_bl _) k
theorem se_isB {neg c : Bool} {a : Ex} {e : Expr} {pos pos' : Pos} {j : Nat} (ha : SE X G call a e) : SE X G call (.prim (.isB neg c) (.cons a .nil)) (.Compare e [if neg then .IsNot else .Is] [.Constant (.bool c) j pos'] pos) := by
  cases neg
  · refine pe_pt_is ha op_isBl pe_bl rfl fun x H Q q => ?_
    obtain ⟨y, e1, t1, m, S, t, hs, r1, e, k⟩ := toC1 (f := fun a _ => bl1 (fun k => .d (.bl (decide (k = c) != false))) a) (fun _ _ => rfl) (fun _ => rfl) (fun _ _ _ _ => rfl) _ _ _ q
    cases e1
    obtain ⟨b, rfl, rfl⟩ := bl1_inv e
    refine ⟨b, c, pp_bl r1, rfl, ?_⟩
    rw [← bne_false (decide (b = c))]
    exact fin_d hs (mk_bl _) k
  · refine pe_pt_is ha op_notBl pe_bl rfl fun x H Q q => ?_
    obtain ⟨y, e1, t1, m, S, t, hs, r1, e, k⟩ := toC1 (f := fun a _ => bl1 (fun k => .d (.bl (decide (k = c) != true))) a) (fun _ _ => rfl) (fun _ => rfl) (fun _ _ _ _ => rfl) _ _ _ q
    cases e1
    obtain ⟨b, rfl, rfl⟩ := bl1_inv e
    refine ⟨b, c, pp_bl r1, rfl, ?_⟩
    rw [← bne_true (decide (b = c))]
    exact fin_d hs (mk_bl _) k
end
end F

/-! t[::-1] of a tuple, of a list. -/
namespace F
open PySem PySem.Spec PyProof.Rows L2

theorem fm_all {α β : Type} {f : α → Option β} {g : α → β} : ∀ (l : List α), (∀ m ∈ l, f m = some (g m)) → l.filterMap f = l.map g
  | [], _ => rfl
  | x :: xs, h => by
    rw [List.filterMap_cons, h x List.mem_cons_self]
    dsimp only
    rw [fm_all xs fun m hm => h m (List.mem_cons_of_mem _ hm), List.map_cons]
theorem pick_back (xs : Array Value) : ((List.range xs.size).filterMap fun (m : Nat) => xs[(((xs.size : Int) - 1) + (m : Int) * (-1)).toNat]?) = xs.toList.reverse := by
  rw [fm_all (g := fun (m : Nat) => xs.getD (xs.size - 1 - m) .none)]
  · refine List.ext_getElem (by simp) fun i h1 h2 => ?_
    have hi : i < xs.size := by simpa using h1
    rw [List.getElem_map, List.getElem_range, List.getElem_reverse]
    rw [Array.getD_eq_getD_getElem?, Array.getElem?_eq_getElem (by omega)]
    rfl
  · intro m hm
    have h1 : m < xs.size := by simpa using hm
    have h2 : (((xs.size : Int) - 1) + (m : Int) * (-1)).toNat = xs.size - 1 - m := by omega
    rw [h2, Array.getD_eq_getD_getElem?, Array.getElem?_eq_getElem (by omega)]
    rfl
theorem adjust_back (n : Nat) : Builtin.Slice.sliceAdjust none none (-1) (n : Int) = ((n : Int) - 1, -1) := rfl
theorem places_back (n : Nat) : Builtin.Slice.slicePlaces ((n : Int) - 1) (-1) (-1) = n := by
  unfold Builtin.Slice.slicePlaces
  rw [if_neg (by decide)]
  split
  · have : ((n : Int) - 1 - -1 - 1) / (- -1) = (n : Int) - 1 := by
      rw [show (- -1 : Int) = 1 from rfl, Int.ediv_one]; omega
    rw [this]; omega
  · omega
section
variable {prog : Program} {w : World} {A : Around} {E : Value → Shared → Prop} {s : Shared}
theorem applied_back {sl : Addr} {vs : Value} {n : Nat} {Q : Int × Int × Nat → Shared → Prop} (hs : s.heap.IsSliceOf sl .none .none vs) (ps : IsPart vs (some (-1))) (h : Q ((n : Int) - 1, -1, n) s) : wpAny (model prog w) A (Builtin.Slice.sliceApplied (.ref sl) (pure (n : Int))) Q E s := by
  obtain ⟨o, ho, _, hd⟩ := id hs
  unfold Builtin.Slice.sliceApplied Builtin.Slice.sliceFields
  refine wpAny_bind (wpAny_bind (wpAny_field ho hd (x := Value.none) rfl (wpAny_bind (wpAny_field ho hd (x := Value.none) rfl (wpAny_bind (wpAny_field ho hd (x := vs) rfl (wpAny_pure ?_)))))))
  refine wpAny_bind (HT.slicePart_ ps ?_)
  show wpAny (model prog w) A (if ((-1 : Int) == 0) = true then _ else _) Q E s
  rw [if_neg (show ¬((-1 : Int) == 0) = true by decide)]
  refine wpAny_bind (HT.slicePart_ .none (wpAny_bind (HT.slicePart_ .none (wpAny_bind (wpAny_pure ?_)))))
  show wpAny (model prog w) A (pure ((n : Int) - 1, (-1 : Int), Builtin.Slice.slicePlaces ((n : Int) - 1) (-1) (-1))) Q E s
  rw [places_back]
  exact wpAny_pure h
theorem tup_back {t sl : Addr} {items : Array Value} {vs : Value} {Q : Value → Shared → Prop} (ht : IsTup s.heap t items) (hs : s.heap.IsSliceOf sl .none .none vs) (ps : IsPart vs (some (-1)))
    (h : Q (.ref s.heap.objs.size) { s with heap := s.heap.push { cls := .type "tuple", data := .seq items.toList.reverse.toArray } }) (hz : items.size ≤ sizeLine) : wpAny (model prog w) A (getItem (.ref t) (.ref sl)) Q E s := by
  have hok : sizeOk (.seq items.toList.reverse.toArray) := by
    show items.toList.reverse.toArray.size ≤ sizeLine
    simpa using hz
  obtain ⟨o, ho, hc, hd⟩ := id hs
  unfold getItem
  try with_reducible refine wpAny_holding ?_
  first | refine wpAny_bind (wpAny_pure ?_) | skip
  refine wpAny_bind (wpAny_sequenceKey ht.typeIs (by decide) (wpAny_bind (wpAny_callSpecial?_slot (name := Str.ofString "__getitem__") ht.typeIs PyProof.Rows.slot_tuple_getitem (wpAny_call_entry PyProof.Rows.slot_tuple_getitem ht.typeIs entry_tuple_getitem ?_ (args_tuple_getitem _ _)))))
  show wpAny _ _ (Builtin.Tuple.tupleItemsOf (.ref t) >>= _) _ _ s
  refine wpAny_bind (tupleItemsOf_ ht (wpAny_bind (wpAny_typeOf (show s.TypeIs (.ref sl) "slice" from ⟨o, ho, hc⟩) ?_)))
  rw [if_pos (by decide)]
  refine wpAny_bind (applied_back hs ps ?_)
  have hno : ¬ ((((items.size : Int) - 1) == 0 && (-1 : Int) == 1 && items.size == items.size) = true) := by
    rw [show ((-1 : Int) == 1) = false from rfl, Bool.and_false, Bool.false_and]
    exact Bool.false_ne_true
  show wpAny _ _ (if (((items.size : Int) - 1) == 0 && (-1 : Int) == 1 && items.size == items.size) = true then _ else _) _ _ s
  rw [if_neg hno, pick_back]
  first
    | exact wpAny_bind (m := Builtin.Tuple.tupleExact _) (wpAny_newObj_type (wpAny_pure ⟨_, rfl, wpAny_pure h⟩) hok)
    | exact wpAny_bind (m := Builtin.Tuple.tupleExact _) (wpAny_newObj_type (wpAny_bind (wpAny_pure (wpAny_pure ⟨_, rfl, wpAny_pure h⟩))) hok)
    | exact wpAny_bind (wpAny_bind (m := Builtin.Tuple.tupleExact _) (wpAny_newObj_type (wpAny_pure (wpAny_pure ⟨_, rfl, wpAny_pure h⟩)) hok))
    | exact wpAny_bind (wpAny_bind (m := Builtin.Tuple.tupleExact _) (wpAny_newObj_type (wpAny_pure ⟨_, rfl, wpAny_pure h⟩) hok))
end
section
variable {X : Cx}
def tBack (K : PySem.W.Frag) (te : TE) : TE := fun σ H Q => te σ H fun x H1 => ∃ a xs, x = .ref a ∧ ((SqL K H1 a xs ∧ ∀ p, H1 p = none → Q (.ref p) (upd H1 p (.lst xs.reverse))) ∨ (SqT K H1 a xs ∧ ∀ p, H1 p = none → Q (.ref p) (upd H1 p (.tup xs.reverse))))
theorem pe_back {e : Expr} {te : TE} {k : Nat} {p1 p2 p3 pos : Pos} (he : PE X e te) : PE X (.Subscript e (.Slice none none (some (.UnaryOp .USub (.Constant (.int 1) k p1) p2)) p3) pos) (tBack X.K te) := by
  refine ⟨fun pins s σ H Q I h => Subscript_ (thn (he.run pins s σ H _ I h) ?_)⟩
  rintro v s1 ⟨x, H1, I1, r1, a, xs, rfl, q⟩
  cases r1
  have st : PO X (some (.UnaryOp .USub (.Constant (.int 1) k p1) p2)) (tPart (tUn (rU fun i => .int (-i)) (tC (.int 1)))) := po_some (pe_un un_neg pe_int)
  refine wpAny_Slice (thn (po_none.run pins s1 σ H1 (fun o H2 => o = none ∧ H2 = H1) I1 ⟨rfl, rfl⟩) ?_)
  rintro vl s2 ⟨l, H2, I2, pl, rfl, rfl⟩
  refine thn (po_none.run pins s2 σ H2 (fun o H3 => o = none ∧ H3 = H2) I2 ⟨rfl, rfl⟩) ?_
  rintro vu s3 ⟨u, H3, I3, pu, rfl, rfl⟩
  refine thn (st.run pins s3 σ H3 (fun o H4 => o = some (-1) ∧ H4 = H3) I3 ⟨1, rfl, -1, rfl, rfl, rfl⟩) ?_
  rintro vs s4 ⟨o, H4, I4, ps, rfl, rfl⟩
  cases pl
  cases pu
  have I5 : Inv X pins σ H4 { s4 with heap := s4.heap.push { cls := .type "slice", data := .fields #[.none, .none, vs] } } := I4.kept (t' := s4.toks) fun b ob q => Heap.get?_push_of_some _ q
  show wpAny (model X.prog X.w) X.A (subscriptTail e (.Slice none none (some (.UnaryOp .USub (.Constant (.int 1) k p1) p2)) p3) (.ref a) (.ref s4.heap.objs.size)) (EP X pins σ Q) X.xe { s4 with heap := s4.heap.push { cls := .type "slice", data := .fields #[.none, .none, vs] } }
  rcases q with ⟨hx, q⟩ | ⟨hx, q⟩
  · obtain ⟨its, r, ht, hz⟩ := I5.list hx
    have hlen := r.length
    refine tail_any (ops := [.ref a, .ref s4.heap.objs.size]) ht.isList.typeIs (PySem.slot_list_getitem.lookup) (wpAny_getItem_list_slice ht.isList (Heap.IsSliceOf.new _ .none .none vs) .none .none ps (by decide) ?_ (by rw [List.size_toArray]; omega)) (by with_unfolding_all rfl)
    rw [PySem.W.krv_pick]
    exact ⟨.ref _, _, I5.laid (t' := s4.toks) (o := .lst xs.reverse) (fun b ob q => Heap.get?_push_of_some _ q) (Nat.le_refl _) ⟨by rw [List.length_reverse]; exact hz, _, 0, r.reverse, Heap.get?_push_size _ rfl⟩, rfl, q _ (I5.hok.fresh (Nat.le_refl _))⟩
  · obtain ⟨its, r, ht, hz⟩ := I5.tuple hx
    have hlen := r.length
    refine tail_any (ops := [.ref a, .ref s4.heap.objs.size]) ht.typeIs (PyProof.Rows.slot_tuple_getitem.lookup) (tup_back ht (Heap.IsSliceOf.new _ .none .none vs) ps ?_ (by rw [List.size_toArray]; omega)) (by with_unfolding_all rfl)
    exact ⟨.ref _, _, I5.laid (t' := s4.toks) (o := .tup xs.reverse) (fun b ob q => Heap.get?_push_of_some _ q) (Nat.le_refl _) ⟨by rw [List.length_reverse]; exact hz, _, by simpa using r.reverse, IsTup.new _ _⟩, rfl, q _ (I5.hok.fresh (Nat.le_refl _))⟩
end
end F

/-! sorted, min, max of lists of data. -/
namespace F
open PySem PySem.Spec PyProof.Rows L2
section
variable {X : Cx}
/-- the items of a list as data -/
def DatB (K : PySem.W.Frag) (H : Hp) (u : Nat) (enc : D → PyData) (bs : List (D × V)) : Prop := ∀ b ∈ bs, Dp K H b.2 (enc b.1) ∧ u + 2 + (enc b.1).depth < cLine
theorem each_of {pins : List (Addr × Obj)} {σ : L2.St} {H : Hp} {s : Shared} (I : Inv X pins σ H s) {u : Nat} {enc : D → PyData} : ∀ {bs : List (D × V)} {its : List Value}, DatB X.K H u enc bs → Vals (bs.map Prod.snd) its →
    PySem.W.EachIs (fun v b => RelV b.2 v) its bs ∧ PySem.W.EachIs (fun v b => ∃ as, Reads s.heap v (enc b.1) as) its bs
  | [], its, h, r => by
    cases r
    exact ⟨.nil, .nil⟩
  | b :: bs, its, h, r => by
    cases r with
    | cons r1 r2 =>
      obtain ⟨e1, e2⟩ := each_of I (fun b hb => h b (List.mem_cons_of_mem _ hb)) r2
      exact ⟨.cons r1 e1, .cons (Dp.reads I _ _ _ (h b List.mem_cons_self).1 r1) e2⟩
theorem vals_each : ∀ {bs : List (D × V)} {its : List Value}, PySem.W.EachIs (fun v b => RelV b.2 v) its bs → Vals (bs.map Prod.snd) its
  | _, _, .nil => .nil
  | _, _, .cons r e => .cons r (vals_each e)
def rSortedD (K : PySem.W.Frag) (u : Nat) : List V → Hp → VK → Prop := fun vs H Q => ∃ (a : Addr) (enc : D → PyData) (bs : List (D × V)), vs = [V.ref a] ∧ SqL K H a (bs.map Prod.snd) ∧ DatB K H u enc bs ∧ PySem.W.AllAlike (bs.map fun b => enc b.1) ∧ PySem.W.Sortable (bs.map fun b => enc b.1) ∧ bs.length ≤ sizeLine ∧
  ∀ p, H p = none → Q (.ref p) (upd H p (.lst ((bs.mergeSort (PySem.W.dataLe false fun b => enc b.1)).map Prod.snd)))
theorem cr_sortedD : CallR X (.builtin "sorted") (rSortedD X.K X.A.units) := by
  intro pins s σ H vs us Q I r h
  obtain ⟨a, enc, bs, rfl, hs, hd, hal, hk, hL, q⟩ := h
  obtain ⟨its, rv, hl, hz⟩ := I.list hs
  rw [Vals.ref1 r]
  obtain ⟨e, er⟩ := each_of I hd rv
  refine PySem.W.sorted_data (enc := fun b : D × V => enc b.1) hl.isList e er hal hk hL (fun b hb => (hd b hb).2) fun out hlen he => ?_
  obtain ⟨ep, he'⟩ := PyProof.Rows.sortedAll_at s.heap its out.toArray
  have hlen2 : ((bs.mergeSort (PySem.W.dataLe false fun b => enc b.1)).map Prod.snd).length ≤ sizeLine := by
    rw [List.length_map, List.length_mergeSort]
    exact hL
  exact ⟨.ref _, upd H (s.heap.objs.size + 1) (.lst ((bs.mergeSort (PySem.W.dataLe false fun b => enc b.1)).map Prod.snd)), I.laid (t' := s.toks) (fun _ _ => PyProof.Rows.sortedAll_old) (Nat.le_succ _) ⟨hlen2, out, ep, vals_each he, he'⟩, rfl, q _ (I.hok.fresh (Nat.le_succ _))⟩
theorem depthAll_le : ∀ {ps : List PyData} {n : Nat}, (∀ p ∈ ps, p.depth ≤ n) → PyData.depthAll ps ≤ n
  | [], n, _ => by simp [PyData.depthAll]
  | p :: ps, n, h => by
    have h1 := h p List.mem_cons_self
    have h2 := depthAll_le (ps := ps) fun q hq => h q (List.mem_cons_of_mem _ hq)
    simp only [PyData.depthAll]
    omega
def rBestD (mx : Bool) (K : PySem.W.Frag) (u : Nat) : List V → Hp → VK → Prop := fun vs H Q => ∃ (a : Addr) (enc : D → PyData) (b : D × V) (bs : List (D × V)), vs = [V.ref a] ∧ SqL K H a ((b :: bs).map Prod.snd) ∧ DatB K H u enc (b :: bs) ∧ PySem.W.AlikeAll ((b :: bs).map fun b => enc b.1) ∧ PyData.depthAll ((b :: bs).map fun b => enc b.1) ≤ 60 ∧
  Q (bs.foldl (fun a y => if PySem.W.dataLt (enc (if mx then a else y).1) (enc (if mx then y else a).1) = true then y else a) b).2 H
theorem fold_mem {α : Type} (f : α → α → Bool) : ∀ (bs : List α) (b : α), bs.foldl (fun a y => if f a y = true then y else a) b ∈ b :: bs
  | [], b => List.mem_cons_self
  | y :: bs, b => by
    rw [List.foldl_cons]
    by_cases h : f b y = true
    · rw [if_pos h]
      exact List.mem_cons_of_mem _ (fold_mem f bs y)
    · rw [if_neg h]
      rcases List.mem_cons.mp (fold_mem f bs b) with e | e
      · rw [e]; exact List.mem_cons_self
      · exact List.mem_cons_of_mem _ (List.mem_cons_of_mem _ e)
theorem getD_map {α β : Type} (f : α → β) (l : List α) (i : Nat) (d : β) (d0 : α) (hi : i < l.length) : (l.map f).getD i d = f (l.getD i d0) := by
  rw [List.getD_eq_getElem?_getD, List.getD_eq_getElem?_getD, List.getElem?_map, List.getElem?_eq_getElem hi]
  rfl
theorem cr_minB (hc : X.calm = true) (hu : X.A.units + 62 < cLine) : CallR X (.builtin "min") (rBestD false X.K X.A.units) := by
  intro pins s σ H vs us Q I r h
  obtain ⟨a, enc, b, bs, rfl, hs, hd, hal, hdp, q⟩ := h
  obtain ⟨its, rv, hl, hz⟩ := I.list hs
  rw [Vals.ref1 r]
  obtain ⟨e, er⟩ := each_of I hd rv
  obtain ⟨as, hr⟩ := PySem.W.each_readsAll (fun b : D × V => enc b.1) er
  have hn : its.toArray.size = bs.length + 1 := by
    have := e.length
    rw [List.size_toArray, this, List.length_cons]
  refine call_min_walkH (PySem.W.iter_listW (A := X.A.in1) (I.ok.hd hc) hl.isList fun s₂ e2 W st hfp hw hk => ?_)
  refine ⟨_, _, _, _, _, _, _, s.heap, _, rfl, W, st, hfp, by omega, hw, hk, PySem.W.cmpIn_lt (A := X.A.in1) (by rw [List.toList_toArray]; exact hr) hal (by show X.A.units + 1 + _ < _; omega), fun v s' hP m => ?_⟩
  obtain ⟨h', tk, rfl, hk'⟩ := PySem.W.moved_old e2 rfl m
  have e1 : its.toArray.size - 1 = bs.length := by omega
  obtain ⟨k1, k2⟩ := PySem.W.argBest_fold (fun x y : D × V => PySem.W.dataLt (enc x.1) (enc y.1)) b b bs bs.length (Nat.le_refl _)
  rw [List.take_length] at k2
  have same : ∀ k, k ≤ bs.length → argBest (fun i j => PySem.W.dataLt (((b :: bs).map fun b => enc b.1).getD i .none) (((b :: bs).map fun b => enc b.1).getD j .none)) k = argBest (fun i j => PySem.W.dataLt (enc ((b :: bs).getD i b).1) (enc ((b :: bs).getD j b).1)) k := by
    intro k
    induction k with
    | zero => intro _; rfl
    | succ k ih =>
      intro hk
      have ih := ih (by omega)
      have hb := (PySem.W.argBest_fold (fun x y : D × V => PySem.W.dataLt (enc x.1) (enc y.1)) b b bs k (by omega)).1
      show (if PySem.W.dataLt (((b :: bs).map fun b => enc b.1).getD (k + 1) .none) (((b :: bs).map fun b => enc b.1).getD (argBest _ k) .none) = true then k + 1 else argBest _ k) = (if PySem.W.dataLt (enc ((b :: bs).getD (k + 1) b).1) (enc ((b :: bs).getD (argBest _ k) b).1) = true then k + 1 else argBest _ k)
      rw [ih, getD_map (fun b : D × V => enc b.1) (b :: bs) (k + 1) .none b (by rw [List.length_cons]; omega), getD_map (fun b : D × V => enc b.1) (b :: bs) _ .none b (by rw [List.length_cons]; omega)]
  rw [e1, same _ (Nat.le_refl _)] at hP
  have hlt : argBest (fun i j => PySem.W.dataLt (enc ((b :: bs).getD i b).1) (enc ((b :: bs).getD j b).1)) bs.length < (b :: bs).length := by rw [List.length_cons]; omega
  have hv : its[argBest (fun i j => PySem.W.dataLt (enc ((b :: bs).getD i b).1) (enc ((b :: bs).getD j b).1)) bs.length]? = some v := by simpa using hP
  have rel : RelV ((b :: bs).getD (argBest (fun i j => PySem.W.dataLt (enc ((b :: bs).getD i b).1) (enc ((b :: bs).getD j b).1)) bs.length) b).2 v := by
    have hz := e.zip (v, (b :: bs).getD (argBest (fun i j => PySem.W.dataLt (enc ((b :: bs).getD i b).1) (enc ((b :: bs).getD j b).1)) bs.length) b) (List.mem_of_getElem? (i := argBest (fun i j => PySem.W.dataLt (enc ((b :: bs).getD i b).1) (enc ((b :: bs).getD j b).1)) bs.length) (by
      rw [List.getElem?_zip_eq_some]
      exact ⟨hv, by rw [List.getD_eq_getElem?_getD, List.getElem?_eq_getElem hlt]; rfl⟩))
    exact hz
  rw [k2] at rel
  exact ⟨_, H, I.kept hk', rel, q⟩
theorem cr_maxB (hc : X.calm = true) (hu : X.A.units + 62 < cLine) : CallR X (.builtin "max") (rBestD true X.K X.A.units) := by
  intro pins s σ H vs us Q I r h
  obtain ⟨a, enc, b, bs, rfl, hs, hd, hal, hdp, q⟩ := h
  obtain ⟨its, rv, hl, hz⟩ := I.list hs
  rw [Vals.ref1 r]
  obtain ⟨e, er⟩ := each_of I hd rv
  obtain ⟨as, hr⟩ := PySem.W.each_readsAll (fun b : D × V => enc b.1) er
  have hn : its.toArray.size = bs.length + 1 := by
    have := e.length
    rw [List.size_toArray, this, List.length_cons]
  refine call_max_walkH (PySem.W.iter_listW (A := X.A.in1) (I.ok.hd hc) hl.isList fun s₂ e2 W st hfp hw hk => ?_)
  refine ⟨_, _, _, _, _, _, _, s.heap, _, rfl, W, st, hfp, by omega, hw, hk, PySem.W.cmpIn_gt (A := X.A.in1) (by rw [List.toList_toArray]; exact hr) hal (by show X.A.units + 1 + _ < _; omega), fun v s' hP m => ?_⟩
  obtain ⟨h', tk, rfl, hk'⟩ := PySem.W.moved_old e2 rfl m
  have e1 : its.toArray.size - 1 = bs.length := by omega
  obtain ⟨k1, k2⟩ := PySem.W.argBest_fold (fun x y : D × V => PySem.W.dataLt (enc y.1) (enc x.1)) b b bs bs.length (Nat.le_refl _)
  rw [List.take_length] at k2
  have same : ∀ k, k ≤ bs.length → argBest (fun i j => PySem.W.dataLt (((b :: bs).map fun b => enc b.1).getD j .none) (((b :: bs).map fun b => enc b.1).getD i .none)) k = argBest (fun i j => PySem.W.dataLt (enc ((b :: bs).getD j b).1) (enc ((b :: bs).getD i b).1)) k := by
    intro k
    induction k with
    | zero => intro _; rfl
    | succ k ih =>
      intro hk
      have ih := ih (by omega)
      have hb := (PySem.W.argBest_fold (fun x y : D × V => PySem.W.dataLt (enc y.1) (enc x.1)) b b bs k (by omega)).1
      show (if PySem.W.dataLt (((b :: bs).map fun b => enc b.1).getD (argBest _ k) .none) (((b :: bs).map fun b => enc b.1).getD (k + 1) .none) = true then k + 1 else argBest _ k) = (if PySem.W.dataLt (enc ((b :: bs).getD (argBest _ k) b).1) (enc ((b :: bs).getD (k + 1) b).1) = true then k + 1 else argBest _ k)
      rw [ih, getD_map (fun b : D × V => enc b.1) (b :: bs) (k + 1) .none b (by rw [List.length_cons]; omega), getD_map (fun b : D × V => enc b.1) (b :: bs) _ .none b (by rw [List.length_cons]; omega)]
  rw [e1, same _ (Nat.le_refl _)] at hP
  have hlt : argBest (fun i j => PySem.W.dataLt (enc ((b :: bs).getD j b).1) (enc ((b :: bs).getD i b).1)) bs.length < (b :: bs).length := by rw [List.length_cons]; omega
  have hv : its[argBest (fun i j => PySem.W.dataLt (enc ((b :: bs).getD j b).1) (enc ((b :: bs).getD i b).1)) bs.length]? = some v := by simpa using hP
  have rel : RelV ((b :: bs).getD (argBest (fun i j => PySem.W.dataLt (enc ((b :: bs).getD j b).1) (enc ((b :: bs).getD i b).1)) bs.length) b).2 v := by
    have hz := e.zip (v, (b :: bs).getD (argBest (fun i j => PySem.W.dataLt (enc ((b :: bs).getD j b).1) (enc ((b :: bs).getD i b).1)) bs.length) b) (List.mem_of_getElem? (i := argBest (fun i j => PySem.W.dataLt (enc ((b :: bs).getD j b).1) (enc ((b :: bs).getD i b).1)) bs.length) (by
      rw [List.getElem?_zip_eq_some]
      exact ⟨hv, by rw [List.getD_eq_getElem?_getD, List.getElem?_eq_getElem hlt]; rfl⟩))
    exact hz
  rw [k2] at rel
  exact ⟨_, H, I.kept hk', rel, q⟩
end
end F

/-! A checked expression is what we say: calls, subscripts, displays, logic. -/
namespace F
open PySem PySem.Spec PyProof.Rows L2
variable [Tb]

section
variable {X : Cx} {C : Ctx} {G : List D} {call : Call}
/-! ### calls of built-ins -/
theorem se_cb (c : COk X C G call) {p : Prim} {s : String} {f : Str} {as : Exs} {e : Expr} {es : List Expr} {pf pos : Pos} (h : cbOf p = some s) (hf : blt C f s = true) (ha : SEs X G call as (e :: es)) : SE X G call (.prim p as) (.Call (.Name f pf) (e :: es) [] pos) := by
  obtain ⟨rfl, hg, hm⟩ := blt_ok c hf
  obtain ⟨h1, h2, h3, h4⟩ := cb_ok (X := X) c.calm h
  have st := ha.star
  rw [List.all_cons, Bool.and_eq_true] at st
  refine se_val ?_ fun _ => rfl
  unfold evf
  rw [tE_congr fun ρ S => evPn]
  exact pe_imp (pe_callB h1 hg hm h2 ha.as h3 h4 (starEach_cons st.1) (any_star st.2)) (rd_cb fun _ _ _ q => q)
theorem se_ct (c : COk X C G call) {p : Prim} {s : String} {f : Str} {as : Exs} {e : Expr} {es : List Expr} {pf pos : Pos} (h : ctOf p = some s) (hf : blt C f s = true) (ha : SEs X G call as (e :: es)) : SE X G call (.prim p as) (.Call (.Name f pf) (e :: es) [] pos) := by
  obtain ⟨rfl, hg, hm⟩ := blt_ok c hf
  obtain ⟨h1, h2, h3, h4⟩ := ct_ok (X := X) c.calm h
  have st := ha.star
  rw [List.all_cons, Bool.and_eq_true] at st
  refine se_val ?_ fun _ => rfl
  unfold evf
  rw [tE_congr fun ρ S => evPn]
  exact pe_imp (pe_callTy h1 hg hm h2 ha.as h3 h4 (starEach_cons st.1) (any_star st.2)) (rd_cb fun _ _ _ q => q)
theorem ty_boot (t : Ty) : bootBuiltins (tyN t : Str) = some (.type (tyN t)) ∧ ((tyN t : Str) ≠ "__name__") ∧ (((tyN t : Str) == ("__debug__" : Str)) = false) := by
  cases t
  · exact ⟨by decide +kernel, by decide, by decide⟩
  · exact ⟨by decide +kernel, by decide, by decide⟩
  · exact ⟨by decide +kernel, by decide, by decide⟩
  · exact ⟨by decide +kernel, by decide, by decide⟩
  · exact ⟨by decide +kernel, by decide, by decide⟩
theorem se_inst (c : COk X C G call) {t : Ty} {f g : Str} {a : Ex} {e : Expr} {pf pg pos : Pos} (hf : blt C f "isinstance" = true) (hg : blt C g (tyN t) = true) (hs : notStar e = true) (ha : SE X G call a e) : SE X G call (.prim (.inst t) (.cons a .nil)) (.Call (.Name f pf) [e, .Name g pg] [] pos) := by
  obtain ⟨rfl, hg1, hm1⟩ := blt_ok c hf
  obtain ⟨rfl, hg2, hm2⟩ := blt_ok c hg
  obtain ⟨b1, b2, b3⟩ := ty_boot t
  have hb : bootBuiltins ("isinstance" : Str) = some (.builtin "isinstance") := by decide +kernel
  refine se_val ?_ fun _ => rfl
  unfold evf
  rw [tE_congr fun ρ S => evP1]
  refine pe_imp (pe_callB (c_inst t) hg1 hm1 hb (pa_cons ha.1 (pa_cons (pe_bltn (v := .ty (tyN t)) hg2 hm2 b1 rfl b2 b3) pa_nil (starEach_cons rfl)) (starEach_cons hs)) (by decide) (by decide) (starEach_cons hs) (any_star rfl)) ?_
  rintro σ H Q ⟨ρ, m, S, t', S', en, s, e, k⟩
  obtain ⟨t1, S1, e1, e⟩ := bind1_inv e
  refine then1 en s e1 fun v H1 m1 s1 f1 en1 r1 => ?_
  obtain ⟨y, e2, q⟩ := toC1 (X := X) (p := .inst t) (f := fun a S => instT t S a) (fun _ _ => rfl) (fun _ => rfl) (fun _ _ _ _ => rfl) [v] H1 Q ⟨[t1], m1, S1, t', S', s1, .cons r1.p .nil, e, k.step s s1 f1⟩
  cases e2
  exact ⟨_, rfl, q⟩
/-! ### subscripts -/
theorem se_item (c : COk X C G call) {a b : Ex} {e i : Expr} {pos : Pos} (hi : ∀ a b c p, i ≠ .Slice a b c p) (ha : SE X G call a e) (hb : SE X G call b i) : SE X G call (.prim .item (.cons a (.cons b .nil))) (.Subscript e i pos) := by
  have hu : X.A.units + 1 < cLine := by have := c.room.un; omega
  refine se_val ?_ fun _ => rfl
  unfold evf
  rw [tE_congr fun ρ S => evP2]
  exact pe_imp (pe_ix (ixr_of (o_item hu) (toP2 fun _ _ _ => rfl)) ha.1 hb.1 (plainIx_of hi)) rd_op
theorem rd_part {f : EF} {σ : L2.St} {H : Hp} {Q : Option Int → Hp → Prop} (h : tE X.K f σ H fun v H1 => ∃ i, v = .int i ∧ Q (some i) H1) : tPart (tE X.K f) σ H Q := h
theorem sl_inv {lo hi : Bool} {t1 t : T} {r : List T} {S S' : Store} (e : (Prim.slice lo hi).run (t1 :: r) S = some (t, S')) : S' = S ∧ slT S lo hi t1 r = some t := by
  have e' : (match slT S lo hi t1 r with | some t => some (t, S) | none => none) = some (t, S') := by
    rw [← e]
    cases r with
    | nil => rfl
    | cons x r => rfl
  split at e'
  · rename_i t' e1; cases e'; exact ⟨rfl, e1⟩
  · cases e'
theorem se_slice00 {a : Ex} {e : Expr} {p2 pos : Pos} (ha : SE X G call a e) : SE X G call (.prim (.slice false false) (.cons a .nil)) (.Subscript e (.Slice none none none p2) pos) := by
  refine se_val ?_ fun _ => rfl
  unfold evf
  rw [tE_congr fun ρ S => evP1]
  refine pe_imp (pe_slice o_slice ha.1 po_none po_none) ?_
  rintro σ H Q ⟨ρ, m, S, t, S', en, s, e, k⟩
  obtain ⟨t1, S1, e1, e⟩ := bind1_inv e
  refine then1 en s e1 fun v H1 m1 s1 f1 en1 r1 => ?_
  obtain ⟨rfl, e⟩ := sl_inv e
  exact ⟨t1, m1, S', t, s1, r1.p, e, k.step s s1 f1⟩
theorem se_slice10 {a b : Ex} {e l : Expr} {p2 pos : Pos} (ha : SE X G call a e) (hb : SE X G call b l) : SE X G call (.prim (.slice true false) (.cons a (.cons b .nil))) (.Subscript e (.Slice (some l) none none p2) pos) := by
  refine se_val ?_ fun _ => rfl
  unfold evf
  rw [tE_congr fun ρ S => evP2]
  refine pe_imp (pe_slice o_slice ha.1 (po_some hb.1) po_none) ?_
  rintro σ H Q ⟨ρ, m, S, t, S', en, s, e, k⟩
  obtain ⟨t1, S1, e1, e⟩ := bind1_inv e
  obtain ⟨t2, S2, e2, e⟩ := bind1_inv e
  obtain ⟨rfl, e⟩ := sl_inv e
  obtain ⟨i, rfl, e⟩ := int1_inv (show int1F (fun i => sliceT S' t1 (some i) none) t2 = some t from e)
  refine then1 en s e1 fun v H1 m1 s1 f1 en1 r1 => ?_
  refine rd_part (then1 en1 s1 e2 fun u H2 m2 s2 f2 en2 r2 => ⟨i, pp_int r2.p, ?_⟩)
  exact ⟨t1, m2, S', t, s2, r1.p.fr f2 s1, e, (k.step s s1 f1).step s1 s2 f2⟩
theorem se_slice01 {a b : Ex} {e l : Expr} {p2 pos : Pos} (ha : SE X G call a e) (hb : SE X G call b l) : SE X G call (.prim (.slice false true) (.cons a (.cons b .nil))) (.Subscript e (.Slice none (some l) none p2) pos) := by
  refine se_val ?_ fun _ => rfl
  unfold evf
  rw [tE_congr fun ρ S => evP2]
  refine pe_imp (pe_slice o_slice ha.1 po_none (po_some hb.1)) ?_
  rintro σ H Q ⟨ρ, m, S, t, S', en, s, e, k⟩
  obtain ⟨t1, S1, e1, e⟩ := bind1_inv e
  obtain ⟨t2, S2, e2, e⟩ := bind1_inv e
  obtain ⟨rfl, e⟩ := sl_inv e
  obtain ⟨i, rfl, e⟩ := int1_inv (show int1F (fun j => sliceT S' t1 none (some j)) t2 = some t from e)
  refine then1 en s e1 fun v H1 m1 s1 f1 en1 r1 => ?_
  show tPart (tE X.K (evf G call b)) σ H1 fun u H3 => rSl X.K v none u H3 Q
  refine rd_part (then1 en1 s1 e2 fun u H2 m2 s2 f2 en2 r2 => ⟨i, pp_int r2.p, ?_⟩)
  exact ⟨t1, m2, S', t, s2, r1.p.fr f2 s1, e, (k.step s s1 f1).step s1 s2 f2⟩
theorem evP3 {p : Prim} {a b c : Ex} {ρ : Env} {S : Store} : ev G call (.prim p (.cons a (.cons b (.cons c .nil)))) ρ S = bind1 (evf G call a) (fun t => bind1 (evf G call b) fun u => bind1 (evf G call c) fun w _ S => p.run [t, u, w] S) ρ S := by
  simp only [ev, evs, bind1, evf]
  cases ev G call a ρ S with
  | none => rfl
  | some r =>
    obtain ⟨t, S1⟩ := r
    simp only
    cases ev G call b ρ S1 with
    | none => rfl
    | some r =>
      obtain ⟨u, S2⟩ := r
      simp only
      cases ev G call c ρ S2 with
      | none => rfl
      | some r => rfl
theorem se_slice11 {a b c : Ex} {e l h : Expr} {p2 pos : Pos} (ha : SE X G call a e) (hb : SE X G call b l) (hc : SE X G call c h) : SE X G call (.prim (.slice true true) (.cons a (.cons b (.cons c .nil)))) (.Subscript e (.Slice (some l) (some h) none p2) pos) := by
  refine se_val ?_ fun _ => rfl
  unfold evf
  rw [tE_congr fun ρ S => evP3]
  refine pe_imp (pe_slice o_slice ha.1 (po_some hb.1) (po_some hc.1)) ?_
  rintro σ H Q ⟨ρ, m, S, t, S', en, s, e, k⟩
  obtain ⟨t1, S1, e1, e⟩ := bind1_inv e
  obtain ⟨t2, S2, e2, e⟩ := bind1_inv e
  obtain ⟨t3, S3, e3, e⟩ := bind1_inv e
  obtain ⟨rfl, e⟩ := sl_inv e
  obtain ⟨i, j, rfl, rfl, e⟩ := int2_inv (show int2 (fun i j => sliceT S' t1 (some i) (some j)) t2 t3 = some t from e)
  refine then1 en s e1 fun v H1 m1 s1 f1 en1 r1 => ?_
  refine rd_part (then1 en1 s1 e2 fun u H2 m2 s2 f2 en2 r2 => ⟨i, pp_int r2.p, ?_⟩)
  refine rd_part (then1 en2 s2 e3 fun u H3 m3 s3 f3 en3 r3 => ⟨j, pp_int r3.p, ?_⟩)
  exact ⟨t1, m3, S', t, s3, (r1.p.fr f2 s1).fr f3 s2, e, ((k.step s s1 f1).step s1 s2 f2).step s2 s3 f3⟩
theorem se_rev {a : Ex} {e : Expr} {j : Nat} {p1 p2 p3 pos : Pos} (ha : SE X G call a e) : SE X G call (.prim .rev (.cons a .nil)) (.Subscript e (.Slice none none (some (.UnaryOp .USub (.Constant (.int 1) j p1) p2)) p3) pos) := by
  refine se_val ?_ fun _ => rfl
  unfold evf
  rw [tE_congr fun ρ S => evP1]
  refine pe_imp (pe_back ha.1) ?_
  rintro σ H Q ⟨ρ, m, S, t, S', en, s, e, k⟩
  obtain ⟨t1, S1, e1, e⟩ := bind1_inv e
  refine then1 en s e1 fun v H1 m1 s1 f1 en1 r1 => ?_
  have e' : (match revT S1 t1 with | some t => some (t, S1) | none => none) = some (t, S') := e
  have k1 := k.step s s1 f1
  split at e'
  · rename_i t' e2
    cases e'
    unfold revT at e2
    split at e2
    · rename_i ds e3
      cases e2
      obtain ⟨b, vs, rfl, h1, h2⟩ := lstOf_ok s1 r1.p e3
      exact ⟨b, vs, rfl, .inl ⟨h1, fun p np => fin_tmp s1 np h2.rev k1⟩⟩
    · split at e2
      · rename_i ds e3
        cases e2
        obtain ⟨b, vs, rfl, h1, h2⟩ := tupOf_ok r1.p e3
        exact ⟨b, vs, rfl, .inr ⟨h1, fun p np => fin_tup s1 np h2.rev k1⟩⟩
      · cases e2
  · cases e'
/-! ### methods -/
theorem attrBase_of {o : Expr} {n : Str} {env : PySem.Env} {w : Sem Value} (h : notCall0 o = true) : attributeBase o n env w = w := by
  cases o <;> first | rfl | skip
  rename_i f args kw pos
  cases args with
  | nil => cases h
  | cons a as => cases f <;> rfl
theorem recv_ok {K : PySem.W.Frag} {H : Hp} {m : List Addr} {S : Store} {p : Prim} {Tn n : String} {t : T} {v : V} (hm : mtOf p = some (Tn, n)) (hs : SR K H m S) (r : RepP K H m t v) (h : recvOk p t S = true) 
    : tyV K Tn v H := by
  have str : ∀ x, t = .d (.str x) → Tn = "str" → tyV K Tn v H := by
    rintro x rfl rfl
    obtain ⟨rfl, _⟩ := pp_str r
    exact rfl
  have lst : ∀ k ds, t = .d (.ref k) → S[k]? = some (.lst ds) → Tn = "list" → tyV K Tn v H := by
    rintro k ds rfl e rfl
    obtain ⟨a, rfl, ha⟩ := rep_ref (pp_d r)
    obtain ⟨o, eo, ro⟩ := hs.at ha
    rw [e] at eo; cases eo
    obtain ⟨ys, h1, _⟩ := ro
    exact .inl ⟨rfl, ys, SqL.of h1⟩
  unfold recvOk at h
  split at h
  · cases hm; exact str _ rfl rfl
  · cases hm; exact str _ rfl rfl
  · cases hm
    split at h
    · exact lst _ _ rfl (by assumption) rfl
    · cases h
  · cases hm
    split at h
    · exact lst _ _ rfl (by assumption) rfl
    · cases h
  · cases hm
  · cases hm
    split at h
    · exact lst _ _ rfl (by assumption) rfl
    · cases h
  · cases hm
  · cases hm
  · cases hm
  · cases hm
  · cases h
theorem toM1 {p : Prim} {f : T → T → Store → Option T} (h : ∀ a b S, p.run [a, b] S = match f a b S with | some t => some (t, S) | none => none) : ∀ x y H Q, rP X.K p [x, y] H Q → rM1 X.K f x [y] H Q := fun x y H Q q => ⟨y, rfl, toP2 h x y H Q q⟩
theorem toMW {p : Prim} {f : Store → T → T → Option (T × Store)} (h : ∀ a b S, p.run [a, b] S = f S a b) : ∀ x y H Q, rP X.K p [x, y] H Q → rMW X.K f x [y] H Q := by
  rintro x y H Q ⟨ts, m, S, t, S', hs, hr, e, k⟩
  obtain ⟨t1, t2, rfl, r1, r2⟩ := hr.two
  rw [h] at e
  exact ⟨y, rfl, t1, t2, m, S, t, S', hs, r1, r2, e, k⟩
theorem mt_ok {p : Prim} {Tn n : String} (h : mtOf p = some (Tn, n)) : ∃ id, PlainAttrs Tn ∧ Slot Tn (n : Str) id ∧ typeOf (.builtin id) = pure (.type "method_descriptor") ∧ MtR X id (fun x xs H Q => ∃ y, xs = [y] ∧ rP X.K p [x, y] H Q) := by
  cases p <;> cases h
  · exact ⟨_, PySem.F.plainAttrs_str, PySem.F.slot_str_join, PySem.F.type_str_join, mtr_of m_join fun x xs H Q ⟨y, e, q⟩ => by rw [e]; exact toM1 (fun _ _ _ => rfl) x y H Q q⟩
  · exact ⟨_, PySem.F.plainAttrs_list, PySem.F.slot_list_append, PySem.F.type_list_append, mtr_of m_append fun x xs H Q ⟨y, e, q⟩ => by rw [e]; exact toMW (fun _ _ _ => rfl) x y H Q q⟩
  · exact ⟨_, PySem.F.plainAttrs_str, PySem.F.slot_str_index, PySem.F.type_str_index, mtr_of m_sindex fun x xs H Q ⟨y, e, q⟩ => by rw [e]; exact toM1 (fun _ _ _ => rfl) x y H Q q⟩
  · exact ⟨_, PySem.F.plainAttrs_list, PySem.F.slot_list_pop, PySem.F.type_list_pop, mtr_of m_popAt fun x xs H Q ⟨y, e, q⟩ => by rw [e]; exact toMW (fun _ _ _ => rfl) x y H Q q⟩
  · exact ⟨_, PySem.F.plainAttrs_list, PySem.F.slot_list_extend, PySem.F.type_list_extend, mtr_of m_extend fun x xs H Q ⟨y, e, q⟩ => by rw [e]; exact toMW (fun _ _ _ => rfl) x y H Q q⟩
theorem se_meth {p : Prim} {Tn n : String} {o a : Ex} {e y : Expr} {m : Str} {apos pos : Pos} (h : mtOf p = some (Tn, n)) (hm : m = (n : Str)) (h0 : notCall0 e = true) (hl : apos.endLine = pos.line) (hs : notStar y = true) (ho : SE X G call o e) (ha : SE X G call a y) :
    SE X G call (.meth p o (.cons a .nil)) (.Call (.Attribute e m apos) [y] [] pos) := by
  subst hm
  obtain ⟨id, h1, h2, h3, h4⟩ := mt_ok (X := X) h
  refine se_val ?_ fun _ => rfl
  refine pe_imp (pe_bm h1 h2 h3 h4 ho.1 (pa_cons ha.1 pa_nil (starEach_cons hs)) (attrBase_of h0) (by rw [starEach_cons hs]; rfl) (by rw [hl]; exact beq_self_eq_true _) (starEach_cons hs) (any_star rfl)) ?_
  rintro σ H Q ⟨ρ, m, S, t, S', en, s, e, k⟩
  simp only [evf, ev, evs] at e
  split at e
  · rename_i t1 S1 e1
    split at e
    · rename_i hr
      split at e
      · rename_i ts S2 e2
        split at e2
        · rename_i t2 S2' e3
          cases e2
          refine then1 en s e1 fun v H1 m1 s1 f1 en1 r1 => ⟨recv_ok h s1 r1.p hr, ?_⟩
          refine then1 en1 s1 e3 fun u H2 m2 s2 f2 en2 r2 => ?_
          exact ⟨u, rfl, [t1, t2], m2, _, t, S', s2, .cons (r1.p.fr f2 s1) (.cons r2.p .nil), e, (k.step s s1 f1).step s1 s2 f2⟩
        · cases e2
      · cases e
    · cases e
  · cases e
/-! ### displays -/
theorem se_tup {as : Exs} {es : List Expr} {j : Nat} {pos : Pos} (ha : SEs X G call as es) : SE X G call (.tup as) (.Tuple es j pos) := by
  refine se_val (pe_imp (pe_tup ha.ds) ?_) fun _ => rfl
  rintro σ H Q ⟨ρ, m, S, t, S', en, s, e, k⟩
  simp only [evf, ev] at e
  split at e
  · rename_i ds S1 e1
    split at e
    · rename_i hz
      cases e
      refine ⟨ρ, m, S, ds, S', en, s, e1, fun vs H1 m1 s1 f1 r1 => ⟨by rw [← r1.len]; exact Nat.le_trans hz (by decide), fun p np => ?_⟩⟩
      exact fin_tup s1 np r1 (k.step s s1 f1)
    · cases e
  · cases e
theorem se_lst {as : Exs} {es : List Expr} {pos : Pos} (ha : SEs X G call as es) : SE X G call (.lst as) (.List es pos) := by
  refine se_val (pe_imp (pe_lst ha.ds) ?_) fun _ => rfl
  rintro σ H Q ⟨ρ, m, S, t, S', en, s, e, k⟩
  simp only [evf, ev] at e
  split at e
  · rename_i ds S1 e1
    split at e
    · rename_i hz
      cases e
      refine ⟨ρ, m, S, ds, S', en, s, e1, fun vs H1 m1 s1 f1 r1 => ⟨by rw [← r1.len]; exact Nat.le_trans hz (by decide), fun p np => ?_⟩⟩
      exact fin_tmp s1 np r1 (k.step s s1 f1)
    · cases e
  · cases e
theorem fin_new {K : PySem.W.Frag} {H : Hp} {m : List Addr} {S : Store} {Q : VK} {p : Addr} {o : O} {u : HO} (s : SR K H m S) (np : H p = none) (r : RepO K (upd H p u) m o p) (k : Wt K H m (S ++ [o]) (.d (.ref S.length)) Q) : Q (.ref p) (upd H p u) := by
  refine k _ _ (m ++ [p]) ((s.new np).app (s.nnone np) r) ((Fr.new np).join np) (show Rep K (upd H p u) (m ++ [p]) (.ref S.length) (.ref p) from mk_ref ?_)
  rw [← s.len, List.getElem?_append_right (Nat.le_refl _), Nat.sub_self]; rfl
theorem se_dK {pos : Pos} : SE X G call .dK (.Dict [] [] pos) := by
  refine se_val (pe_imp pe_dnewK ?_) fun _ => rfl
  rintro σ H Q ⟨ρ, m, S, t, S', en, s, e, k⟩
  simp only [evf, ev] at e
  cases e
  exact fun p np => fin_new (o := .dK []) s np ⟨[], upd_same, rfl, .nil, fun _ z => nomatch z⟩ k
theorem se_dT {pos : Pos} : SE X G call .dT (.Dict [] [] pos) := by
  refine se_val (pe_imp pe_dnewT ?_) fun _ => rfl
  rintro σ H Q ⟨ρ, m, S, t, S', en, s, e, k⟩
  simp only [evf, ev] at e
  cases e
  exact fun p np => fin_new (o := .dT []) s np ⟨[], upd_same, rfl, .nil, fun _ z => nomatch z⟩ k
/-! ### logic -/
theorem se_not {a : Ex} {e : Expr} {pos : Pos} (ht : tOk e = true) (ha : SE X G call a e) : SE X G call (.not a) (.UnaryOp .Not e pos) := by
  refine ⟨pe_imp (pe_not ha.1) ?_, fun _ => pt_imp (pt_not (ha.2 ht)) ?_⟩
  · rintro σ H Q ⟨ρ, m, S, t, S', en, s, e, k⟩
    simp only [evf, ev] at e
    split at e
    · rename_i b S1 e1
      cases e
      exact then1 en s e1 fun v H1 m1 s1 f1 en1 r1 => ⟨b, pp_bl r1.p, fin_d s1 (mk_bl _) (k.step s s1 f1)⟩
    · cases e
  · rintro σ H Q ⟨ρ, m, S, b, S', en, s, e, k⟩
    have e := toB_inv e
    simp only [ev] at e
    split at e
    · rename_i b' S1 e1
      cases e
      exact ⟨ρ, m, S, b', S', en, s, (by show toB _ = _; rw [e1]; rfl), fun H1 m1 s1 f1 => k H1 m1 s1 f1⟩
    · cases e
theorem se_ite {t a b : Ex} {e x y : Expr} {pos : Pos} (ht : tOk e = true) (h1 : SE X G call t e) (h2 : SE X G call a x) (h3 : SE X G call b y) : SE X G call (.ite t a b) (.IfExp e x y pos) := by
  refine ⟨pe_imp (pe_ifExp (h1.2 ht) h2.1 h3.1) ?_, fun h => nomatch h⟩
  rintro σ H Q ⟨ρ, m, S, t', S', en, s, e, k⟩
  simp only [evf, ev] at e
  split at e
  · rename_i S1 e1
    refine ⟨ρ, m, S, true, S1, en, s, (by show toB _ = _; rw [e1]; rfl), fun H1 m1 s1 f1 => ?_⟩
    refine iteT ?_
    exact ⟨ρ, m1, S1, t', S', en.fr f1 s, s1, e, k.step s s1 f1⟩
  · rename_i S1 e1
    refine ⟨ρ, m, S, false, S1, en, s, (by show toB _ = _; rw [e1]; rfl), fun H1 m1 s1 f1 => ?_⟩
    refine iteF ?_
    exact ⟨ρ, m1, S1, t', S', en.fr f1 s, s1, e, k.step s s1 f1⟩
  · cases e
theorem se_chain (c : COk X C G call) {p q : Prim} {o1 o2 : CmpOp} {a b d : Ex} {e x y : Expr} {pos : Pos} (hp : cmpOf p = some o1) (hq : cmpOf q = some o2) (hn : notSet y = true) (h1 : SE X G call a e) (h2 : SE X G call b x) (h3 : SE X G call d y) :
    SE X G call (.chain p q a b d) (.Compare e [o1, o2] [x, y] pos) := by
  have rd : ∀ σ H Q, tE X.K (evf G call (.chain p q a b d)) σ H Q → tChain (rP2 X.K p) (rP2 X.K q) (tE X.K (evf G call a)) (tE X.K (evf G call b)) (tE X.K (evf G call d)) σ H Q := by
    rintro σ H Q ⟨ρ, m, S, t', S', en, s, e, k⟩
    simp only [evf, ev] at e
    split at e
    · rename_i t1 S1 e1
      split at e
      · rename_i t2 S2 e2
        have run : ∀ t, pureR p [t1, t2] S2 = some t → p.run [t1, t2] S2 = some (t, S2) := fun t h => by
          cases p <;> first | (cases hp; done) | (show (match pureR _ [t1, t2] S2 with | some t => some (t, S2) | none => none) = _; rw [h])
        have run2 : ∀ t3 S3 t, pureR q [t2, t3] S3 = some t → q.run [t2, t3] S3 = some (t, S3) := fun t3 S3 t h => by
          cases q <;> first | (cases hq; done) | (show (match pureR _ [t2, t3] S3 with | some t => some (t, S3) | none => none) = _; rw [h])
        split at e
        · rename_i e3
          split at e
          · rename_i t3 S3 e4
            split at e
            · rename_i t e5
              cases e
              refine then1 en s e1 fun v H1 m1 s1 f1 en1 r1 => ?_
              refine then1 en1 s1 e2 fun u H2 m2 s2 f2 en2 r2 => ?_
              refine ⟨[t1, t2], m2, S2, _, S2, s2, .cons (r1.p.fr f2 s1) (.cons r2.p .nil), run _ e3, fun w H3 m3 s3 f3 r3 => ⟨true, pp_bl r3.p, ?_⟩⟩
              refine iteT ?_
              refine then1 (en2.fr f3 s2) s3 e4 fun w' H4 m4 s4 f4 en4 r4 => ?_
              exact ⟨[t2, t3], m4, _, _, _, s4, .cons ((r2.p.fr f3 s2).fr f4 s3) (.cons r4.p .nil), run2 _ _ _ e5, (((k.step s s1 f1).step s1 s2 f2).step s2 s3 f3).step s3 s4 f4⟩
            · cases e
          · cases e
        · rename_i e3
          cases e
          refine then1 en s e1 fun v H1 m1 s1 f1 en1 r1 => ?_
          refine then1 en1 s1 e2 fun u H2 m2 s2 f2 en2 r2 => ?_
          refine ⟨[t1, t2], m2, _, _, _, s2, .cons (r1.p.fr f2 s1) (.cons r2.p .nil), run _ e3, fun w H3 m3 s3 f3 r3 => ⟨false, pp_bl r3.p, ?_⟩⟩
          refine iteF ?_
          exact fin_d s3 (mk_bl _) (((k.step s s1 f1).step s1 s2 f2).step s2 s3 f3)
        · cases e
      · cases e
    · cases e
  refine ⟨pe_imp (pe_chain (cmp_ok c.room hp) (cmp_ok c.room hq) h1.1 h2.1 h3.1 (last_of hn)) rd, fun _ => ?_⟩
  exact pt_imp (pt_chain (cmp_ok c.room hp) (cmp_ok c.room hq) h1.1 h2.1 h3.1 (last_of hn)) fun σ H Q h => rd σ H _ (rd_tst σ H Q h)
/-- and, or -/
theorem se_and {pos : Pos} : ∀ {as : Exs} {es : List Expr}, SEs X G call as es → es.all tOk = true → PE X (.BoolOp .And es pos) (tE X.K fun ρ S => evB G call true as ρ S) ∧ PW X (.BoolOp .And es pos) (tTst X.K fun ρ S => toB (evB G call true as ρ S))
  | _, _, .nil, _ => ⟨pe_no fun σ H Q ⟨ρ, m, S, t, S', en, s, e, k⟩ => by simp [evB] at e, pw_no fun σ H Q ⟨ρ, m, S, t, S', en, s, e, k⟩ => by simp [evB, toB] at e⟩
  | .cons a .nil, [e], .cons hs h1 .nil, ht => by
    rw [List.all_cons, Bool.and_eq_true] at ht
    refine ⟨pe_imp (pe_one h1.1) ?_, pw_imp (pw_and1 (h1.2 ht.1)) ?_⟩
    · rintro σ H Q ⟨ρ, m, S, t, S', en, s, e, k⟩
      simp only [evB] at e
      exact ⟨ρ, m, S, t, S', en, s, e, k⟩
    · rintro σ H Q ⟨ρ, m, S, t, S', en, s, e, k⟩
      simp only [evB] at e
      exact ⟨ρ, m, S, t, S', en, s, e, k⟩
  | .cons a (.cons b as), e :: e' :: es, .cons hs h1 (.cons hs2 h2 h3), ht => by
    have ih := se_and (pos := pos) (.cons hs2 h2 h3) (by rw [List.all_cons, Bool.and_eq_true] at ht; exact ht.2)
    rw [List.all_cons, Bool.and_eq_true] at ht
    refine ⟨pe_imp (pe_and h1.1 ih.1) ?_, pw_imp (pw_and (h1.2 ht.1) ih.2) ?_⟩
    · rintro σ H Q ⟨ρ, m, S, t, S', en, s, e, k⟩
      simp only [evB] at e
      split at e
      · rename_i c S1 e1
        refine then1 en s e1 fun v H1 m1 s1 f1 en1 r1 => ⟨c, pp_bl r1.p, ?_⟩
        cases c with
        | true =>
          rw [if_pos rfl] at e
          refine iteT ?_
          exact ⟨ρ, m1, S1, t, S', en1, s1, e, k.step s s1 f1⟩
        | false =>
          rw [if_neg Bool.false_ne_true] at e
          refine iteF ?_
          cases e
          exact fin_d s1 (mk_bl _) (k.step s s1 f1)
      · cases e
    · rintro σ H Q ⟨ρ, m, S, b', S', en, s, e, k⟩
      have e := toB_inv e
      simp only [evB] at e
      split at e
      · rename_i c S1 e1
        refine ⟨ρ, m, S, c, S1, en, s, (by show toB _ = _; rw [e1]; rfl), fun H1 m1 s1 f1 => ?_⟩
        cases c with
        | true =>
          rw [if_pos rfl] at e
          refine iteT ?_
          exact ⟨ρ, m1, S1, b', S', en.fr f1 s, s1, (by show toB _ = _; rw [e]; rfl), fun H2 m2 s2 f2 => k H2 m2 s2 (f1.trans f2)⟩
        | false =>
          rw [if_neg Bool.false_ne_true] at e
          refine iteF ?_
          cases e
          exact k H1 m1 s1 f1
      · cases e
theorem se_or {pos : Pos} : ∀ {as : Exs} {es : List Expr}, SEs X G call as es → es.all tOk = true → PE X (.BoolOp .Or es pos) (tE X.K fun ρ S => evB G call false as ρ S) ∧ PW X (.BoolOp .Or es pos) (tTst X.K fun ρ S => toB (evB G call false as ρ S))
  | _, _, .nil, _ => ⟨pe_no fun σ H Q ⟨ρ, m, S, t, S', en, s, e, k⟩ => by simp [evB] at e, pw_no fun σ H Q ⟨ρ, m, S, t, S', en, s, e, k⟩ => by simp [evB, toB] at e⟩
  | .cons a .nil, [e], .cons hs h1 .nil, ht => by
    rw [List.all_cons, Bool.and_eq_true] at ht
    refine ⟨pe_imp (pe_one h1.1) ?_, pw_imp (pw_or1 (h1.2 ht.1)) ?_⟩
    · rintro σ H Q ⟨ρ, m, S, t, S', en, s, e, k⟩
      simp only [evB] at e
      exact ⟨ρ, m, S, t, S', en, s, e, k⟩
    · rintro σ H Q ⟨ρ, m, S, t, S', en, s, e, k⟩
      simp only [evB] at e
      exact ⟨ρ, m, S, t, S', en, s, e, k⟩
  | .cons a (.cons b as), e :: e' :: es, .cons hs h1 (.cons hs2 h2 h3), ht => by
    have ih := se_or (pos := pos) (.cons hs2 h2 h3) (by rw [List.all_cons, Bool.and_eq_true] at ht; exact ht.2)
    rw [List.all_cons, Bool.and_eq_true] at ht
    refine ⟨pe_imp (pe_or h1.1 ih.1) ?_, pw_imp (pw_or (h1.2 ht.1) ih.2) ?_⟩
    · rintro σ H Q ⟨ρ, m, S, t, S', en, s, e, k⟩
      simp only [evB] at e
      split at e
      · rename_i c S1 e1
        refine then1 en s e1 fun v H1 m1 s1 f1 en1 r1 => ⟨c, pp_bl r1.p, ?_⟩
        cases c with
        | false =>
          rw [if_pos rfl] at e
          refine iteF ?_
          exact ⟨ρ, m1, S1, t, S', en1, s1, e, k.step s s1 f1⟩
        | true =>
          rw [if_neg (fun z => nomatch z)] at e
          refine iteT ?_
          cases e
          exact fin_d s1 (mk_bl _) (k.step s s1 f1)
      · cases e
    · rintro σ H Q ⟨ρ, m, S, b', S', en, s, e, k⟩
      have e := toB_inv e
      simp only [evB] at e
      split at e
      · rename_i c S1 e1
        refine ⟨ρ, m, S, c, S1, en, s, (by show toB _ = _; rw [e1]; rfl), fun H1 m1 s1 f1 => ?_⟩
        cases c with
        | false =>
          rw [if_pos rfl] at e
          refine iteF ?_
          exact ⟨ρ, m1, S1, b', S', en.fr f1 s, s1, (by show toB _ = _; rw [e]; rfl), fun H2 m2 s2 f2 => k H2 m2 s2 (f1.trans f2)⟩
        | true =>
          rw [if_neg (fun z => nomatch z)] at e
          refine iteT ?_
          cases e
          exact k H1 m1 s1 f1
      · cases e
/-! ### a def called -/
theorem se_call (c : COk X C G call) {f : Nat} {x : Str} {as : Exs} {e : Expr} {es : List Expr} {px pos : Pos} (h1 : (x, f) ∈ C.fs) (h2 : gloB C.sc x = true) (h3 : notDbg x = true) (ha : SEs X G call as (e :: es)) : SE X G call (.call f as) (.Call (.Name x px) (e :: es) [] pos) := by
  obtain ⟨k, fa, fd, ps, F, hr, hm, hk, hb, hl⟩ := c.fs x f h1
  have st := ha.star
  rw [List.all_cons, Bool.and_eq_true] at st
  refine se_val (pe_imp (pe_callG F c.gd hr (glo_ok c h2) hm hk hb pass0 ha.ds (dbg_ok h3).1 (starEach_cons st.1) (any_star st.2)) ?_) fun _ => rfl
  rintro σ H Q ⟨ρ, m, S, t, S', en, s, e, k⟩
  simp only [evf, ev] at e
  split at e
  · rename_i ds S1 e1
    split at e
    · rename_i d S2 e2
      cases e
      refine ⟨ρ, m, S, ds, S1, en, s, e1, fun vs H1 m1 s1 f1 r1 => ?_⟩
      exact ⟨m1, S1, ds, d, _, s1, r1, e2, fun v H2 m2 s2 f2 r2 => (k.step s s1 f1) v H2 m2 s2 f2 r2⟩
    · cases e
  · cases e
/-- tuple(range(a, b, c)) -/
theorem tupRange_inv {t1 t2 t3 t : T} (e : tupRangeT t1 t2 t3 = some t) : ∃ a b c, t1 = .d (.int a) ∧ t2 = .d (.int b) ∧ t3 = .d (.int c) ∧ (0 < c ∧ c < 1073741824 ∧ Builtin.Range.small a b c = true ∧ (Builtin.Range.rangeSize a b c).toNat ≤ 16777216) ∧
    t = .d (.tup ((List.range (Builtin.Range.rangeSize a b c).toNat).map fun (k : Nat) => D.int (a + k * c))) := by
  unfold tupRangeT at e
  split at e
  · split at e
    · rename_i h; cases e; exact ⟨_, _, _, rfl, rfl, rfl, h, rfl⟩
    · cases e
  · cases e
theorem repL_map {K : PySem.W.Frag} {H : Hp} {m : List Addr} (f : Nat → Int) : ∀ l : List Nat, RepL K H m (l.map fun k => D.int (f k)) (l.map fun k => V.int (f k))
  | [] => .nil
  | k :: l => .cons (mk_int _) (repL_map f l)
theorem se_tupRange (c : COk X C G call) {a b d : Ex} {f g : Str} {x y z : Expr} {pf pg pr pos : Pos} (hf : blt C f "tuple" = true) (hg : blt C g "range" = true) (n1 : notStar x = true) (n2 : notStar y = true) (n3 : notStar z = true) (h1 : SE X G call a x) (h2 : SE X G call b y) (h3 : SE X G call d z) :
    SE X G call (.prim .tupRange (.cons a (.cons b (.cons d .nil)))) (.Call (.Name f pf) [.Call (.Name g pg) [x, y, z] [] pr] [] pos) := by
  obtain ⟨rfl, hg1, hm1⟩ := blt_ok c hf
  obtain ⟨rfl, hg2, hm2⟩ := blt_ok c hg
  have ha := (SEs.cons n1 h1 (.cons n2 h2 (.cons n3 h3 .nil))).as
  have na : starEach [Expr.Call (.Name ("range" : Str) pg) [x, y, z] [] pr] X.env = (false, eval (Expr.Call (.Name ("range" : Str) pg) [x, y, z] [] pr) X.env) :: starEach [] X.env := rfl
  refine se_val ⟨fun pins s σ H Q I h => ?_⟩ fun _ => rfl
  refine Call_ (ld_blt I hg1 hm1 boot_tuple (PyProof.Rows.callWith_type1 (args_cons ?_ na) na))
  refine Call_ (ld_blt I hg2 hm2 boot_range (PyProof.Rows.callWith_type1 (thn (ha.run pr pins s σ H (fun vs H1 => ∃ m1 S1 t S' ts, SR X.K H1 m1 S1 ∧ RepPs X.K H1 m1 ts vs ∧ Prim.tupRange.run ts S1 = some (t, S') ∧ Wt X.K H1 m1 S' t Q) I ?_) fun us s1 ⟨vs, H1, I1, r1, q1⟩ => ?_) (starEach_cons n1) (any_star (by simp only [List.all_cons, n2, n3]; rfl))))
  · obtain ⟨ρ, m, S, t, S', en, hs, e, k⟩ := h
    unfold evf at e
    rw [evPn] at e
    obtain ⟨ts, S1, e1, e⟩ := bind1_inv e
    exact ⟨ρ, m, S, ts, S1, en, hs, e1, fun vs H1 m1 s1 f1 r1 => ⟨m1, S1, t, S', ts, s1, r1, e, k.step hs s1 f1⟩⟩
  · obtain ⟨m1, S1, t, S', ts, hs, hr, e, k⟩ := q1
    have three : ∃ u1 u2 u3 t1 t2 t3, us = [u1, u2, u3] ∧ ts = [t1, t2, t3] ∧ ∃ v1 v2 v3, RelV v1 u1 ∧ RelV v2 u2 ∧ RelV v3 u3 ∧ RepP X.K H1 m1 t1 v1 ∧ RepP X.K H1 m1 t2 v2 ∧ RepP X.K H1 m1 t3 v3 := by
      cases hr with
      | nil => cases e
      | cons p1 hr => cases hr with
        | nil => cases e
        | cons p2 hr => cases hr with
          | nil => cases e
          | cons p3 hr => cases hr with
            | cons p4 hr => cases e
            | nil =>
              cases r1 with
              | cons q1 r1 => cases r1 with
                | cons q2 r1 => cases r1 with
                  | cons q3 r1 => cases r1; exact ⟨_, _, _, _, _, _, rfl, rfl, _, _, _, q1, q2, q3, p1, p2, p3⟩
    obtain ⟨u1, u2, u3, t1, t2, t3, rfl, rfl, v1, v2, v3, q1, q2, q3, p1, p2, p3⟩ := three
    have e' : (match tupRangeT t1 t2 t3 with | some t => some (t, S1) | none => none) = some (t, S') := e
    split at e'
    · rename_i t' e2
      cases e'
      obtain ⟨i, j, k', rfl, rfl, rfl, ⟨c0, c1, c2, c3⟩, rfl⟩ := tupRange_inv e2
      cases pp_int p1; cases pp_int p2; cases pp_int p3
      obtain ⟨w1, rfl⟩ := q1
      obtain ⟨w2, rfl⟩ := q2
      obtain ⟨w3, rfl⟩ := q3
      refine call_range_3 (by omega) ?_ (.inl (PyProof.noPylong_small (by omega)))
      have I2 : Inv X pins σ H1 { s1 with heap := s1.heap.push { cls := .type "range", data := .fields #[.int i w1, .int j w2, .int k' w3] } } := I1.kept (t' := s1.toks) fun b o e => Heap.get?_push_of_some _ e
      refine args_nil ?_
      refine call_tuple_range (n := (Builtin.Range.rangeSize i j k').toNat) (I2.ok.hd c.calm) (IsRange.new _ _ _ _ _ _ _) c2 (PyProof.Rows.rangeSize_toNat i j k') c3 fun h' tk acc hk hi => ?_
      have I3 : Inv X pins σ H1 { s1 with heap := h', toks := tk } := I2.kept hk
      have el : acc.toList.length = (Builtin.Range.rangeSize i j k').toNat := by rw [Array.length_toList]; exact hi.1
      have rv : Vals ((List.range (Builtin.Range.rangeSize i j k').toNat).map fun q => V.int (i + (q : Nat) * k')) acc.toList := by
        rw [← el]
        refine vals_of_get acc.toList _ fun j' u hj => ?_
        obtain ⟨t, rfl⟩ := hi.2 j' u (by rw [← hj, Array.getElem?_toList])
        exact ⟨t, rfl⟩
      have nP := I3.hok.fresh (Nat.le_refl _)
      refine ⟨.ref h'.objs.size, upd H1 h'.objs.size (.tup ((List.range (Builtin.Range.rangeSize i j k').toNat).map fun q => V.int (i + (q : Nat) * k'))), I3.laid (t' := tk) (fun c o e => Heap.get?_push_of_some _ e) (Nat.le_refl _) (show ObjOk X.prog X.w _ _ _ (.tup _) from ⟨?_, acc.toList, rv, ?_⟩), rfl, ?_⟩
      · rw [List.length_map, List.length_range]; exact c3
      · rw [Array.toArray_toList]; exact IsTup.new _ _
      · exact fin_tup hs nP (repL_map (fun q => i + (q : Nat) * k') _) k
    · cases e'
end
end F

/-! A checked expression is what we say: sets within len and sorted, methods of dicts, displays of dicts. -/
namespace F
open PySem PySem.Spec PyProof.Rows L2
variable [Tb]

theorem met_map {κ ι : Type} [DecidableEq κ] [DecidableEq ι] {f : κ → ι} (inj : ∀ a b, f a = f b → a = b) : ∀ (xs σ : List κ), (xs.map f).foldl dd (σ.map f) = (xs.foldl dd σ).map f
  | [], σ => rfl
  | x :: xs, σ => by
    rw [List.map_cons, List.foldl_cons, List.foldl_cons]
    have : dd (σ.map f) (f x) = (dd σ x).map f := by
      unfold dd
      by_cases h : x ∈ σ
      · rw [if_pos h, if_pos (List.mem_map_of_mem h)]
      · rw [if_neg h, if_neg fun z => ?_, List.map_append]; rfl
        obtain ⟨y, hy, e⟩ := List.mem_map.mp z
        exact h (inj _ _ e ▸ hy)
    rw [this]
    exact met_map inj xs (dd σ x)
theorem mem_dd {κ : Type} [DecidableEq κ] {σ : List κ} {k x : κ} : x ∈ dd σ k ↔ x ∈ σ ∨ x = k := by
  unfold dd
  split
  · rename_i h
    exact ⟨.inl, fun z => z.elim (fun z => z) fun e => e ▸ h⟩
  · rw [List.mem_append, List.mem_singleton]
theorem mem_fold {κ : Type} [DecidableEq κ] {x : κ} : ∀ (xs σ : List κ), x ∈ xs.foldl dd σ ↔ x ∈ σ ∨ x ∈ xs
  | [], σ => by simp
  | y :: xs, σ => by
    rw [List.foldl_cons, mem_fold xs, mem_dd, List.mem_cons]
    exact or_assoc
theorem mem_met {κ : Type} [DecidableEq κ] {x : κ} {xs : List κ} : x ∈ met xs ↔ x ∈ xs := by
  unfold met
  rw [mem_fold]
  simp
section
variable {X : Cx} {C : Ctx} {G : List D} {call : Call}
theorem repL_keys {K : PySem.W.Frag} {H : Hp} {m : List Addr} : ∀ {ds : List D} {xs : List V} {ks : List L2.Key}, RepL K H m ds xs → keysOf ds = some ks → xs = ks.map kV := fun {ds xs ks} r e => (keysOf_ok e r).1
theorem keys_strs : ∀ {ds : List D} {xs : List Str}, strsOf ds = some xs → keysOf ds = some (xs.map Sum.inr)
  | [], xs, e => by cases e; rfl
  | d :: ds, xs, e => by
    cases d with
    | str x =>
      simp only [strsOf, Option.map_eq_some_iff] at e
      obtain ⟨ys, e1, rfl⟩ := e
      unfold keysOf
      rw [keys_strs e1]
      rfl
    | _ => simp [strsOf] at e
theorem keys_ints : ∀ {ds : List D} {xs : List Int}, intsOf ds = some xs → keysOf ds = some (xs.map Sum.inl)
  | [], xs, e => by cases e; rfl
  | d :: ds, xs, e => by
    cases d with
    | int x =>
      simp only [intsOf, Option.map_eq_some_iff] at e
      obtain ⟨ys, e1, rfl⟩ := e
      unfold keysOf
      rw [keys_ints e1]
      rfl
    | _ => simp [intsOf] at e
theorem scan_big {n : Nat} (h : n ≤ 4000) : n + 1 < scanBound := by
  have : 4002 ≤ scanBound := by decide
  omega
/-- set(e), as an argument -/
theorem pe_setOf (c : COk X C G call) {g : Str} {a : Expr} {ta : TE} {pg pos : Pos} (hg : blt C g "set" = true) (hs : notStar a = true) (ha : PE X a ta) : PE X (.Call (.Name g pg) [a] [] pos) (tCB (rSetM X.K X.prog X.w) (tCons ta tNil)) := by
  obtain ⟨rfl, hg1, hm1⟩ := blt_ok c hg
  exact pe_callTy (cr_setM c.calm) hg1 hm1 (by decide +kernel) (pa_cons ha pa_nil (starEach_cons hs)) (by decide) (by decide) (starEach_cons hs) (any_star rfl)
theorem se_lenSet (c : COk X C G call) {a : Ex} {f g : Str} {e : Expr} {pf pg pr pos : Pos} (hf : blt C f "len" = true) (hg : blt C g "set" = true) (hs : notStar e = true) (ha : SE X G call a e) : SE X G call (.prim .lenSet (.cons a .nil)) (.Call (.Name f pf) [.Call (.Name g pg) [e] [] pr] [] pos) := by
  obtain ⟨rfl, hg1, hm1⟩ := blt_ok c hf
  refine se_val ?_ fun _ => rfl
  unfold evf
  rw [tE_congr fun ρ S => evP1]
  refine pe_imp (pe_callB cr_lenM hg1 hm1 boot_len (pa_cons (pe_setOf c hg hs ha.1) pa_nil (starEach_cons rfl)) (by decide) (by decide) (starEach_cons rfl) (any_star rfl)) ?_
  rintro σ H Q ⟨ρ, m, S, t, S', en, s, e, k⟩
  obtain ⟨t1, S1, e1, e⟩ := bind1_inv e
  have e' : (match lenSetT S1 t1 with | some t => some (t, S1) | none => none) = some (t, S') := e
  split at e'
  · rename_i t' e2
    cases e'
    unfold lenSetT at e2
    split at e2
    · rename_i ds e3
      split at e2
      · rename_i ks e4
        split at e2
        · rename_i hz
          cases e2
          refine then1 en s e1 fun v H1 m1 s1 f1 en1 r1 => ?_
          obtain ⟨l, xs, rfl, hq, hr⟩ := lstOf_ok s1 r1.p e3
          have hk := repL_keys hr e4
          subst hk
          refine ⟨l, ks, rfl, hq, scan_big hz, fun p np => ⟨p, met ks, rfl, upd_same, ?_⟩⟩
          exact fin_d (s1.new np) (mk_int _) ((k.step s s1 f1).step s1 (s1.new np) (Fr.new np))
        · cases e2
      · cases e2
    · cases e2
  · cases e'
theorem se_sortedSet (c : COk X C G call) {a : Ex} {f g : Str} {e : Expr} {pf pg pr pos : Pos} (hf : blt C f "sorted" = true) (hg : blt C g "set" = true) (hs : notStar e = true) (ha : SE X G call a e) : SE X G call (.prim .sortedSet (.cons a .nil)) (.Call (.Name f pf) [.Call (.Name g pg) [e] [] pr] [] pos) := by
  obtain ⟨rfl, hg1, hm1⟩ := blt_ok c hf
  refine se_val ?_ fun _ => rfl
  unfold evf
  rw [tE_congr fun ρ S => evP1]
  refine pe_imp (pe_callB (CallR.or (cr_sortedMS c.calm) (cr_sortedMI c.calm)) hg1 hm1 (by decide +kernel) (pa_cons (pe_setOf c hg hs ha.1) pa_nil (starEach_cons rfl)) (by decide) (by decide) (starEach_cons rfl) (any_star rfl)) ?_
  rintro σ H Q ⟨ρ, m, S, t, S', en, s, e, k⟩
  obtain ⟨t1, S1, e1, e⟩ := bind1_inv e
  have e' : (match sortedSetT S1 t1 with | some t => some (t, S1) | none => none) = some (t, S') := e
  split at e'
  · rename_i t' e2
    cases e'
    unfold sortedSetT at e2
    split at e2
    · rename_i ds e3
      split at e2
      · rename_i xs e4
        split at e2
        · rename_i hz
          cases e2
          refine then1 en s e1 fun v H1 m1 s1 f1 en1 r1 => ?_
          obtain ⟨l, ys, rfl, hq, hr⟩ := lstOf_ok s1 r1.p e3
          obtain ⟨hys, hok⟩ := repL_strs hr e4
          have hk := repL_keys hr (keys_strs e4)
          rw [hk] at hq
          refine ⟨l, xs.map Sum.inr, rfl, hq, scan_big (by rw [List.length_map]; exact hz), fun p np => .inl ⟨p, met xs, rfl, ?_, fun p2 np2 => ?_⟩⟩
          · rw [upd_same, show met (xs.map (Sum.inr : Str → L2.Key)) = (met xs).map Sum.inr from met_map (fun a b z => Sum.inr.inj z) xs []]
          · have s2 := s1.new (o := SetX X.prog X.w p (met (xs.map (Sum.inr : Str → L2.Key)))) np
            refine fin_tmp s2 np2 ?_ ((k.step s s1 f1).step s1 s2 (Fr.new np))
            have all : ∀ l : List Str, (∀ x ∈ l, PyData.strOk x = true) → ∀ {H' : Hp}, RepL X.K H' m1 (l.map D.str) (l.map V.str) := by
              intro l
              induction l with
              | nil => intro _ _; exact .nil
              | cons x l ih => intro hl H'; exact .cons (mk_str (hl x List.mem_cons_self)) (ih fun y h => hl y (List.mem_cons_of_mem _ h))
            exact all _ fun x hx => hok x (mem_met.mp ((sortS_perm _).mem_iff.mp hx))
        · cases e2
      · split at e2
        · rename_i ns e4
          split at e2
          · rename_i hz
            cases e2
            refine then1 en s e1 fun v H1 m1 s1 f1 en1 r1 => ?_
            obtain ⟨l, ys, rfl, hq, hr⟩ := lstOf_ok s1 r1.p e3
            have hk := repL_keys hr (keys_ints e4)
            rw [hk] at hq
            refine ⟨l, ns.map Sum.inl, rfl, hq, scan_big (by rw [List.length_map]; exact hz), fun p np => .inr ⟨p, met ns, rfl, ?_, fun p2 np2 => ?_⟩⟩
            · rw [upd_same, show met (ns.map (Sum.inl : Int → L2.Key)) = (met ns).map Sum.inl from met_map (fun a b z => Sum.inl.inj z) ns []]
            · have s2 := s1.new (o := SetX X.prog X.w p (met (ns.map (Sum.inl : Int → L2.Key)))) np
              refine fin_tmp s2 np2 ?_ ((k.step s s1 f1).step s1 s2 (Fr.new np))
              have all : ∀ l : List Int, ∀ {H' : Hp}, RepL X.K H' m1 (l.map D.int) (l.map V.int) := by
                intro l
                induction l with
                | nil => intro _; exact .nil
                | cons x l ih => intro H'; exact .cons (mk_int _) ih
              exact all _
          · cases e2
        · cases e2
    · cases e2
  · cases e'
theorem alike_all {ps : List PyData} (h : alikeB ps = true) : PySem.W.AllAlike ps := fun x hx y hy => List.all_eq_true.mp (List.all_eq_true.mp h x hx) y hy
theorem sortable_of {ps : List PyData} (h : ps.all tupPB = true ∨ ps.all othPB = true) : PySem.W.Sortable ps := by
  rcases h with h | h
  · refine .inl fun d hd => ?_
    have := List.all_eq_true.mp h d hd
    cases d with
    | tuple xs => cases xs with
      | nil => cases this
      | cons x r => exact ⟨x, r, rfl⟩
    | _ => cases this
  · refine .inr fun d hd => ?_
    have := List.all_eq_true.mp h d hd
    cases d with
    | tuple xs => cases this
    | none => cases this
    | _ => exact ⟨fun z => (by cases z), fun xs z => by cases z⟩
theorem zip_rep {K : PySem.W.Frag} {H : Hp} {m : List Addr} : ∀ {ds : List D} {xs : List V}, RepL K H m ds xs → ∀ p ∈ ds.zip xs, Rep K H m p.1 p.2
  | [], xs, h, p, hp => by simp at hp
  | d :: ds, xs, h, p, hp => by
    obtain ⟨y, ys, rfl, r, t⟩ := h.cons_inv
    rcases List.mem_cons.mp hp with rfl | hp
    · exact r
    · exact zip_rep t p hp
theorem repL_zip {K : PySem.W.Frag} {H : Hp} {m : List Addr} : ∀ {zs : List (D × V)}, (∀ p ∈ zs, Rep K H m p.1 p.2) → ∀ {H' : Hp}, (∀ d v, Rep K H m d v → Rep K H' m d v) → RepL K H' m (zs.map Prod.fst) (zs.map Prod.snd)
  | [], _, _, _ => .nil
  | z :: zs, h, H', hk => .cons (hk _ _ (h z List.mem_cons_self)) (repL_zip (fun p hp => h p (List.mem_cons_of_mem _ hp)) hk)
theorem dat_zip {K : PySem.W.Frag} {H : Hp} {m : List Addr} {S : Store} {u : Nat} {ds : List D} {xs : List V} {ps : List PyData} (s : SR K H m S) (hu : u + 200 < cLine) (e : pdL (pdD S 59) ds = some ps) (r : RepL K H m ds xs) :
    (ds.zip xs).map Prod.snd = xs ∧ (ds.zip xs).map Prod.fst = ds ∧ DatB K H u (pdOf S) (ds.zip xs) ∧ ((ds.zip xs).map fun b => pdOf S b.1) = ps := by
  induction ds generalizing xs ps with
  | nil => rw [r.nil_inv]; cases e; exact ⟨rfl, rfl, (fun b hb => by simp at hb), rfl⟩
  | cons d ds ih =>
    obtain ⟨y, ys, rfl, r1, r2⟩ := r.cons_inv
    unfold pdL at e
    split at e
    · rename_i p qs e1 e2
      cases e
      obtain ⟨h1, h2, h3, h4⟩ := ih e2 r2
      have hp : pdOf S d = p := by unfold pdOf; rw [e1]; rfl
      refine ⟨by rw [List.zip_cons_cons, List.map_cons, h1], by rw [List.zip_cons_cons, List.map_cons, h2], fun b hb => ?_, by rw [List.zip_cons_cons, List.map_cons, h4, hp]⟩
      rcases List.mem_cons.mp hb with rfl | hb
      · show Dp K H y (pdOf S d) ∧ u + 2 + (pdOf S d).depth < cLine
        rw [hp]
        have := (pdD_lay s 59 d p y e1 r1).2
        exact ⟨pdD_dp s 59 d p y e1 r1, by omega⟩
      · exact h3 b hb
    · cases e
theorem se_sorted (c : COk X C G call) {a : Ex} {f : Str} {e : Expr} {pf pos : Pos} (hf : blt C f "sorted" = true) (hs : notStar e = true) (ha : SE X G call a e) : SE X G call (.prim .sorted (.cons a .nil)) (.Call (.Name f pf) [e] [] pos) := by
  obtain ⟨rfl, hg1, hm1⟩ := blt_ok c hf
  refine se_val ?_ fun _ => rfl
  unfold evf
  rw [tE_congr fun ρ S => evP1]
  refine pe_imp (pe_callB (CallR.or cr_sortedS (CallR.or cr_sortedI cr_sortedD)) hg1 hm1 (by decide +kernel) (pa_cons ha.1 pa_nil (starEach_cons hs)) (by decide) (by decide) (starEach_cons hs) (any_star rfl)) ?_
  rintro σ H Q ⟨ρ, m, S, t, S', en, s, e, k⟩
  obtain ⟨t1, S1, e1, e⟩ := bind1_inv e
  have e' : (match sortedT S1 t1 with | some t => some (t, S1) | none => none) = some (t, S') := e
  split at e'
  · rename_i t' e2
    cases e'
    unfold sortedT at e2
    split at e2
    · rename_i ds e3
      split at e2
      · rename_i xs e4
        cases e2
        refine then1 en s e1 fun v H1 m1 s1 f1 en1 r1 => ?_
        obtain ⟨l, ys, rfl, hq, hr⟩ := lstOf_ok s1 r1.p e3
        obtain ⟨hys, hok⟩ := repL_strs hr e4
        rw [hys] at hq
        refine .inl ⟨l, xs, rfl, hq, fun p np => ?_⟩
        refine fin_tmp s1 np ?_ (k.step s s1 f1)
        have all : ∀ l : List Str, (∀ x ∈ l, PyData.strOk x = true) → ∀ {H' : Hp}, RepL X.K H' m1 (l.map D.str) (l.map V.str) := by
          intro l
          induction l with
          | nil => intro _ _; exact .nil
          | cons x l ih => intro hl H'; exact .cons (mk_str (hl x List.mem_cons_self)) (ih fun y h => hl y (List.mem_cons_of_mem _ h))
        exact all _ fun x hx => hok x ((sortS_perm _).mem_iff.mp hx)
      · split at e2
        · rename_i ns e4
          cases e2
          refine then1 en s e1 fun v H1 m1 s1 f1 en1 r1 => ?_
          obtain ⟨l, ys, rfl, hq, hr⟩ := lstOf_ok s1 r1.p e3
          have hys := repL_ints hr e4
          rw [hys] at hq
          refine .inr (.inl ⟨l, ns, rfl, hq, fun ns' p pm ord np => ?_⟩)
          have same : ns' = sortI ns := perm_one (le := leI) leI_anti (pm.trans (sortI_perm ns).symm) (ord.imp fun {x y} z => decide_eq_true z) (sortI_ord ns)
          rw [same]
          refine fin_tmp s1 np ?_ (k.step s s1 f1)
          have all : ∀ l : List Int, ∀ {H' : Hp}, RepL X.K H' m1 (l.map D.int) (l.map V.int) := by
            intro l
            induction l with
            | nil => intro _; exact .nil
            | cons x l ih => intro H'; exact .cons (mk_int _) ih
          exact all _
        · split at e2
          · rename_i ps e5
            split at e2
            · rename_i hz
              cases e2
              refine then1 en s e1 fun v H1 m1 s1 f1 en1 r1 => ?_
              obtain ⟨l, ys, rfl, hq, hr⟩ := lstOf_ok s1 r1.p e3
              have hul : X.A.units + 200 < cLine := by have := c.room.un; omega
              obtain ⟨b1, b2, b3, b4⟩ := dat_zip s1 hul e5 hr
              refine .inr (.inr ⟨l, pdOf S', ds.zip ys, rfl, by rw [b1]; exact hq, b3, ?_, ?_, by rw [List.length_zip, hr.len, Nat.min_self, ← hr.len]; exact hz.2.2, fun p np => ?_⟩)
              · rw [b4]; exact alike_all hz.1
              · rw [b4]; exact sortable_of hz.2.1
              · have e7 : ((ds.zip ys).mergeSort (PySem.W.dataLe false fun b => pdOf S' b.1)).map Prod.fst = sortDD S' ds := by
                  unfold sortDD
                  have h9 : ((ds.zip ys).mergeSort (PySem.W.dataLe false fun b => pdOf S' b.1)).map Prod.fst = ((ds.zip ys).map Prod.fst).mergeSort (leD S') := List.map_mergeSort fun a _ b _ => rfl
                  rw [h9, b2]
                refine fin_tmp s1 np ?_ (k.step s s1 f1)
                rw [← e7]
                exact repL_zip (fun p hp => zip_rep hr p ((List.mem_mergeSort).mp hp)) fun d v h => h
            · cases e2
          · cases e2
    · cases e2
  · cases e'
theorem se_best (c : COk X C G call) (mx : Bool) {a : Ex} {f : Str} {e : Expr} {pf pos : Pos} (hf : blt C f (if mx then "max" else "min") = true) (hs : notStar e = true) (ha : SE X G call a e) : SE X G call (.prim (if mx then .maxL else .minL) (.cons a .nil)) (.Call (.Name f pf) [e] [] pos) := by
  obtain ⟨rfl, hg1, hm1⟩ := blt_ok c hf
  have hul : X.A.units + 200 < cLine := by have := c.room.un; omega
  refine se_val ?_ fun _ => rfl
  unfold evf
  rw [tE_congr fun ρ S => evP1]
  have hc : CallR X (.builtin (if mx then "max" else "min")) (rBestD mx X.K X.A.units) := by
    cases mx
    · exact cr_minB c.calm (by omega)
    · exact cr_maxB c.calm (by omega)
  have hb : bootBuiltins ((if mx then "max" else "min") : Str) = some (.builtin (if mx then "max" else "min")) := by cases mx <;> decide +kernel
  refine pe_imp (pe_callB hc (by cases mx <;> exact hg1) (by cases mx <;> exact hm1) (by cases mx <;> exact hb) (pa_cons ha.1 pa_nil (starEach_cons hs)) (by cases mx <;> decide) (by cases mx <;> decide) (starEach_cons hs) (any_star rfl)) ?_
  rintro σ H Q ⟨ρ, m, S, t, S', en, s, e, k⟩
  obtain ⟨t1, S1, e1, e⟩ := bind1_inv e
  have e' : (match minLT mx S1 t1 with | some t => some (t, S1) | none => none) = some (t, S') := by cases mx <;> exact e
  split at e'
  · rename_i t' e2
    cases e'
    unfold minLT at e2
    split at e2
    · rename_i d ds e3
      split at e2
      · rename_i ps e5
        split at e2
        · rename_i hz
          cases e2
          refine then1 en s e1 fun v H1 m1 s1 f1 en1 r1 => ?_
          obtain ⟨l, ys, rfl, hq, hr⟩ := lstOf_ok s1 r1.p e3
          obtain ⟨b1, b2, b3, b4⟩ := dat_zip s1 hul e5 hr
          obtain ⟨y, ys', rfl, r2, r3⟩ := hr.cons_inv
          refine ⟨l, pdOf S', (d, y), ds.zip ys', rfl, by rw [show ((d, y) :: ds.zip ys') = (d :: ds).zip (y :: ys') from rfl, b1]; exact hq, b3, ?_, ?_, ?_⟩
          · rw [show ((d, y) :: ds.zip ys') = (d :: ds).zip (y :: ys') from rfl, b4]
            exact ⟨fun x hx z hz2 => alike_all hz.1 x hx z hz2, fun x hx z => by
              have := List.all_eq_true.mp hz.2 x hx
              rw [z] at this
              cases this⟩
          · rw [show ((d, y) :: ds.zip ys') = (d :: ds).zip (y :: ys') from rfl, b4]
            have := (pdL_lay (fun d p v => pdD_lay s1 59 d p v) e5 hr).2
            omega
          · have key : ∀ (zs : List (D × V)) (b : D × V), (zs.foldl (fun a y => if PySem.W.dataLt (pdOf S' (if mx then a else y).1) (pdOf S' (if mx then y else a).1) = true then y else a) b).1 = (if mx then maxDD S' b.1 (zs.map Prod.fst) else minDD S' b.1 (zs.map Prod.fst)) := by
              intro zs
              induction zs with
              | nil => intro b; cases mx <;> rfl
              | cons z zs ih =>
                intro b
                rw [List.foldl_cons, ih, List.map_cons]
                cases mx
                · show minDD S' (if PySem.W.dataLt (pdOf S' z.1) (pdOf S' b.1) = true then z else b).1 _ = minDD S' (if ltD S' z.1 b.1 = true then z.1 else b.1) _
                  unfold ltD
                  by_cases hb : PySem.W.dataLt (pdOf S' z.1) (pdOf S' b.1) = true
                  · rw [if_pos hb, if_pos hb]
                  · rw [if_neg hb, if_neg hb]
                · show maxDD S' (if PySem.W.dataLt (pdOf S' b.1) (pdOf S' z.1) = true then z else b).1 _ = maxDD S' (if ltD S' b.1 z.1 = true then z.1 else b.1) _
                  unfold ltD
                  by_cases hb : PySem.W.dataLt (pdOf S' b.1) (pdOf S' z.1) = true
                  · rw [if_pos hb, if_pos hb]
                  · rw [if_neg hb, if_neg hb]
            have hmem := fold_mem (fun a y : D × V => PySem.W.dataLt (pdOf S' (if mx then a else y).1) (pdOf S' (if mx then y else a).1)) (ds.zip ys') (d, y)
            have hrep := zip_rep hr _ (show _ ∈ (d :: ds).zip (y :: ys') from hmem)
            have hk := key (ds.zip ys') (d, y)
            have hfst : (ds.zip ys').map Prod.fst = ds := by
              have h0 := b2
              rw [show ((d :: ds).zip (y :: ys')).map Prod.fst = d :: (ds.zip ys').map Prod.fst from rfl] at h0
              exact (List.cons.inj h0).2
            rw [hfst] at hk
            rw [hk] at hrep
            exact fin_d s1 hrep (k.step s s1 f1)
        · cases e2
      · cases e2
    · cases e2
  · cases e'
theorem se_minD (c : COk X C G call) {a b : Ex} {f : Str} {e d : Expr} {pf pk pos : Pos} (hf : blt C f "min" = true) (hs : notStar e = true) (ha : SE X G call a e) (hb : SE X G call b d) : SE X G call (.prim .minD (.cons a (.cons b .nil))) (.Call (.Name f pf) [e] [⟨some ("default" : Str), d, pk⟩] pos) := by
  obtain ⟨rfl, hg1, hm1⟩ := blt_ok c hf
  have hu : X.A.units + 1 < cLine := by have := c.room.un; omega
  refine se_val ?_ fun _ => rfl
  unfold evf
  rw [tE_congr fun ρ S => evP2]
  refine pe_imp (pe_callBK (cr_minD c.calm hu) hg1 hm1 (by decide +kernel) (pa_cons ha.1 pa_nil (starEach_cons hs)) (pk_cons hb.1 pk_nil) (by decide) (by decide) (by rw [starEach_cons hs]; rfl) (by rw [starEach_cons hs]; rfl) rfl rfl rfl) ?_
  rintro σ H Q ⟨ρ, m, S, t, S', en, s, e, k⟩
  obtain ⟨t1, S1, e1, e⟩ := bind1_inv e
  obtain ⟨t2, S2, e2, e⟩ := bind1_inv e
  have e' : (match minDT S2 t1 t2 with | some t => some (t, S2) | none => none) = some (t, S') := e
  split at e'
  · rename_i t' e3
    cases e'
    unfold minDT at e3
    split at e3
    · rename_i ds cc e4
      split at e3
      · rename_i ns e5
        cases e3
        refine then1 en s e1 fun v H1 m1 s1 f1 en1 r1 => ?_
        refine then1 en1 s1 e2 fun u H2 m2 s2 f2 en2 r2 => ?_
        obtain ⟨l, ys, rfl, hq, hr⟩ := lstOf_ok s2 (RepP.fr f2 s1 r1.p) e4
        have hys := repL_ints hr e5
        rw [hys] at hq
        have hu : u = .int cc := rep_int (pp_d r2.p)
        exact ⟨l, ns, cc, rfl, by rw [hu], hq, fin_d s2 (mk_int _) ((k.step s s1 f1).step s1 s2 f2)⟩
      · cases e3
    · cases e3
  · cases e'
/-! ### methods of dicts -/
theorem md1_m {o e : Expr} {mm : Str} {apos pos : Pos} (h0 : notCall0 o = true) (hl : apos.endLine = pos.line) (hs : notStar e = true) : M1 X o mm apos e pos :=
  ⟨attrBase_of h0, by rw [starEach_cons hs]; rfl, by rw [hl]; exact beq_self_eq_true _, by rw [starEach_cons hs]; rfl⟩
theorem md2_m {o e f : Expr} {mm : Str} {apos pos : Pos} (h0 : notCall0 o = true) (hl : apos.endLine = pos.line) (hs : notStar e = true) (hs2 : notStar f = true) : M2 X o mm apos e f pos :=
  ⟨attrBase_of h0, by rw [starEach_cons hs, starEach_cons hs2]; rfl, by rw [hl]; exact beq_self_eq_true _, by rw [starEach_cons hs, starEach_cons hs2]; rfl⟩
theorem isDict_ok {K : PySem.W.Frag} {H : Hp} {m : List Addr} {S : Store} {n : Nat} {v : V} (hs : SR K H m S) (r : Rep K H m (.ref n) v) (h : (match S[n]? with | some (.dK _) => true | some (.dT _) => true | some (.fK _) => true | some (.fT _) => true | _ => false) = true) : ∃ a, v = .ref a ∧ m[n]? = some a ∧ IsD H a := by
  obtain ⟨a, rfl, ha⟩ := rep_ref r
  obtain ⟨o, eo, ro⟩ := hs.at ha
  rw [eo] at h
  cases o with
  | lst ds => cases h
  | dK kvs => obtain ⟨ws, h1, _⟩ := ro; exact ⟨a, rfl, ha, .inl ⟨ws, .inl h1⟩⟩
  | dT kvs => obtain ⟨ws, h1, _⟩ := ro; exact ⟨a, rfl, ha, .inr ⟨ws, .inl h1⟩⟩
  | fK kvs => obtain ⟨od, ws, h1, _⟩ := ro; exact ⟨a, rfl, ha, .inl ⟨ws, .inr ⟨od, h1⟩⟩⟩
  | fT kvs => obtain ⟨od, ws, h1, _⟩ := ro; exact ⟨a, rfl, ha, .inr ⟨ws, .inr ⟨od, h1⟩⟩⟩
  | obj n fs => cases h
theorem recv_ref {p : Prim} {t : T} {S : Store} (hp : p = .get1 ∨ p = .get2) (h : recvOk p t S = true) : ∃ n, t = .d (.ref n) ∧ (match S[n]? with | some (.dK _) => true | some (.dT _) => true | some (.fK _) => true | some (.fT _) => true | _ => false) = true := by
  rcases hp with rfl | rfl
  · unfold recvOk at h
    split at h <;> first | exact ⟨_, rfl, h⟩ | (exfalso; simp_all)
  · unfold recvOk at h
    split at h <;> first | exact ⟨_, rfl, h⟩ | (exfalso; simp_all)
theorem recv_set {t : T} {S : Store} (h : recvOk .setdef t S = true) : ∃ n, t = .d (.ref n) ∧ ((∃ kvs, S[n]? = some (.dK kvs)) ∨ ∃ kvs, S[n]? = some (.dT kvs)) := by
  cases t with
  | tmp ds => exact absurd h (by simp [recvOk])
  | d x =>
    cases x with
    | ref n =>
      refine ⟨n, rfl, ?_⟩
      simp only [recvOk] at h
      split at h
      · exact .inl ⟨_, by assumption⟩
      · exact .inr ⟨_, by assumption⟩
      · cases h
    | _ => exact absurd h (by simp [recvOk])
theorem se_get1 (c : COk X C G call) {o a : Ex} {e y : Expr} {apos pos : Pos} (h0 : notCall0 e = true) (hl : apos.endLine = pos.line) (hs : notStar y = true) (ho : SE X G call o e) (ha : SE X G call a y) :
    SE X G call (.meth .get1 o (.cons a .nil)) (.Call (.Attribute e "get" apos) [y] [] pos) := by
  have hu : X.A.units + 1 < cLine := by have := c.room.un; omega
  refine se_val (pe_imp (pe_dget1 hu ho.1 ha.1 (md1_m h0 hl hs)) ?_) fun _ => rfl
  rintro σ H Q ⟨ρ, m, S, t, S', en, s, e, k⟩
  simp only [evf, ev, evs] at e
  split at e
  · rename_i t1 S1 e1
    split at e
    · rename_i hr
      split at e
      · rename_i ts S2 e2
        split at e2
        · rename_i t2 S2' e3
          cases e2
          obtain ⟨n, rfl, hd⟩ := recv_ref (.inl rfl) hr
          refine then1 en s e1 fun v H1 m1 s1 f1 en1 r1 => ?_
          obtain ⟨a, rfl, ham, hi⟩ := isDict_ok s1 r1 hd
          refine ⟨a, rfl, hi, then1 en1 s1 e3 fun u H2 m2 s2 f2 en2 r2 => ?_⟩
          have e' : (match get1T S2 (.d (.ref n)) t2 with | some t => some (t, S2) | none => none) = some (t, S') := e
          split at e'
          · rename_i t' e4
            cases e'
            cases t2 with
            | tmp ds => cases e4
            | d kd =>
              simp only [get1T, Option.map_eq_some_iff] at e4
              obtain ⟨r, e5, rfl⟩ := e4
              have ham2 : m2[n]? = some a := by
                obtain ⟨q, hq⟩ := f2.pre
                rw [hq, List.getElem?_append_left (List.getElem?_eq_some_iff.mp ham).1]; exact ham
              obtain ⟨ov, g, gs, hv⟩ := dLook_ok s2 ham2 (pp_d r2.p) e5
              refine ⟨ov, g, ?_⟩
              have k2 := (k.step s s1 f1).step s1 s2 f2
              cases r with
              | none =>
                cases ov with
                | none => exact fin_d s2 mk_non k2
                | some _ => cases gs
              | some d =>
                obtain ⟨v, rfl, rv⟩ := hv d rfl
                exact fin_d s2 rv k2
          · cases e'
        · cases e2
      · cases e
    · cases e
  · cases e
theorem se_get2 (c : COk X C G call) {o a b : Ex} {e y z : Expr} {apos pos : Pos} (h0 : notCall0 e = true) (hl : apos.endLine = pos.line) (hs : notStar y = true) (hs2 : notStar z = true) (ho : SE X G call o e) (ha : SE X G call a y) (hb : SE X G call b z) :
    SE X G call (.meth .get2 o (.cons a (.cons b .nil))) (.Call (.Attribute e "get" apos) [y, z] [] pos) := by
  have hu : X.A.units + 1 < cLine := by have := c.room.un; omega
  refine se_val (pe_imp (pe_dget2 hu ho.1 ha.1 hb.1 (md2_m h0 hl hs hs2)) ?_) fun _ => rfl
  rintro σ H Q ⟨ρ, m, S, t, S', en, s, e, k⟩
  simp only [evf, ev, evs] at e
  split at e
  · rename_i t1 S1 e1
    split at e
    · rename_i hr
      split at e
      · rename_i ts S3 e2
        split at e2
        · rename_i t2 S2 e3
          split at e2
          · rename_i us S3' e4
            split at e4
            · rename_i t3 S3'' e5
              cases e4
              cases e2
              obtain ⟨n, rfl, hd⟩ := recv_ref (.inr rfl) hr
              refine then1 en s e1 fun v H1 m1 s1 f1 en1 r1 => ?_
              obtain ⟨a, rfl, ham, hi⟩ := isDict_ok s1 r1 hd
              refine ⟨a, rfl, hi, then1 en1 s1 e3 fun u H2 m2 s2 f2 en2 r2 => ?_⟩
              refine then1 en2 s2 e5 fun w H3 m3 s3 f3 en3 r3 => ?_
              have e' : (match get2T S3 (.d (.ref n)) t2 t3 with | some t => some (t, S3) | none => none) = some (t, S') := e
              split at e'
              · rename_i t' e6
                cases e'
                cases t2 with
                | tmp ds => cases e6
                | d kd =>
                  have ham3 : m3[n]? = some a := by
                    obtain ⟨q, hq⟩ := (f2.trans f3).pre
                    rw [hq, List.getElem?_append_left (List.getElem?_eq_some_iff.mp ham).1]; exact ham
                  have k3 := ((k.step s s1 f1).step s1 s2 f2).step s2 s3 f3
                  simp only [get2T] at e6
                  split at e6
                  · rename_i d e7
                    cases e6
                    obtain ⟨ov, g, gs, hv⟩ := dLook_ok s3 ham3 ((pp_d r2.p).kp (f3.kp s2)) e7
                    obtain ⟨v, rfl, rv⟩ := hv d rfl
                    exact ⟨_, g, fin_d s3 rv k3⟩
                  · rename_i e7
                    cases e6
                    obtain ⟨ov, g, gs, hv⟩ := dLook_ok s3 ham3 ((pp_d r2.p).kp (f3.kp s2)) e7
                    cases ov with
                    | some _ => cases gs
                    | none => exact ⟨_, g, (k.step s s1 f1).step s1 s2 f2 _ _ _ s3 f3 r3⟩
                  · cases e6
              · cases e'
            · cases e4
          · cases e2
        · cases e2
      · cases e
    · cases e
  · cases e
/-! ### {k: v} -/
theorem SR.offW {K : PySem.W.Frag} {H : Hp} {m : List Addr} {S : Store} {a : Addr} {o u : HO} (s : SR K H m S) (n : a ∉ m) (h : H a = some o) (w : Wr o) : SR K (upd H a u) m S := by
  have k : Kp H m (upd H a u) m := ⟨fun b zs e => by rw [upd_ne (fun z => by rw [z, h] at e; cases e; exact w)]; exact e, fun b o u e => by rw [upd_ne (fun z => by rw [z, h] at e; cases e; exact w)]; exact e, [], (List.append_nil _).symm⟩
  exact ⟨s.len, s.nd, fun i o b e1 e2 => (s.ob i o b e1 e2).kp k (upd_ne fun z => n (by rw [← z]; exact List.mem_of_getElem? e2)), tabs_put s.tab h w⟩
theorem se_disp {a b : Ex} {e y : Expr} {pos : Pos} (ha : SE X G call a e) (hb : SE X G call b y) : SE X G call (.disp a b) (.Dict [some e] [y] pos) := by
  refine se_val (pe_imp (pe_disp (pps_cons ha.1 hb.1 pps_nil) rfl rfl (fun z => nomatch z) (Nat.le_of_ble_eq_true rfl)) ?_) fun _ => rfl
  rintro σ H Q ⟨ρ, m, S, t, S', en, s, e, k⟩ p np
  simp only [evf, ev] at e
  split at e
  · rename_i kd S1 e1
    split at e
    · rename_i u S2 e2
      split at e
      · rename_i q e3
        cases e
        have f0 := Fr.new (o := .dK []) (m := m) np
        have s0 := s.new (o := .dK []) np
        show tE X.K (evf G call a) σ _ _
        refine then1 (en.fr f0 s) s0 e1 fun v H1 m1 s1 f1 en1 r1 => ?_
        refine then1 en1 s1 e2 fun w H2 m2 s2 f2 en2 r2 => ?_
        have f02 := f0.trans (f1.trans f2)
        obtain ⟨h2p, n2p⟩ := (f1.trans f2).keep p _ upd_same (s.nnone np)
        obtain ⟨m3, s3, f3, r3⟩ := norm_ok s2 f2 r2
        have n3p : p ∉ m3 := (f1.trans f3).keep p _ upd_same (s.nnone np) |>.2
        obtain ⟨rfl, ok⟩ := keyOf_ok e3 (pp_d r1.p)
        refine ⟨h2p, [(q, w)], rfl, Nat.le_of_ble_eq_true rfl, ?_⟩
        have s4 : SR X.K (upd H2 p (.dK (mergeK [] [(q, w)]))) m3 (norm u S2).2 := s3.offW n3p h2p trivial
        have hf : Fr H m H2 m3 := f0.trans (f1.trans f3)
        have kp : Kp H2 m3 (upd H2 p (.dK (mergeK [] [(q, w)]))) m3 := ⟨fun b zs e => by rw [upd_ne (fun z => by rw [z, h2p] at e; cases e)]; exact e, fun b o u e => by rw [upd_ne (fun z => by rw [z, h2p] at e; cases e)]; exact e, [], (List.append_nil _).symm⟩
        have fo : Fr H m (upd H2 p (.dK (mergeK [] [(q, w)]))) m3 := ⟨fun b u e n t => ⟨by rw [upd_ne (ne_of_none e np)]; exact (hf.keepN b u e n t).1, (hf.keepN b u e n t).2⟩, fun b ps e n => ⟨(by obtain ⟨⟨qs, q⟩, _⟩ := hf.tb b ps e n; exact ⟨qs, by rw [upd_ne (ne_of_none e np)]; exact q⟩), (hf.tb b ps e n).2⟩, hf.pre, fun b _ _ e => by rw [upd_ne (ne_of_none e np)]; exact hf.frz b _ _ e⟩
        refine k _ _ (m3 ++ [p]) (s4.app (o := .dK [(q, (norm u S2).1)]) n3p ⟨[(q, w)], upd_same, rfl, .cons (r3.kp kp) .nil, fun z hz => by rw [List.mem_singleton.mp hz]; exact ok⟩) (fo.join np) (show Rep X.K (upd H2 p (.dK (mergeK [] [(q, w)]))) (m3 ++ [p]) (.ref (norm u S2).2.length) (.ref p) from mk_ref ?_)
        rw [← s3.len, List.getElem?_append_right (Nat.le_refl _), Nat.sub_self]; rfl
      · cases e
    · cases e
  · cases e
end
end F

/-! sorted and max by a key that ranks; repr compared. -/
namespace F
open PySem PySem.Spec PyProof.Rows L2
variable [Tb]
section
variable {X : Cx} {C : Ctx} {G : List D} {call : Call} {pins : List (Addr × Obj)} {σ : L2.St} {H : Hp} {s : Shared} {m : List Addr} {S : Store}
/-! ### a lambda made -/
theorem lam_run {c P : Addr} {ps : Arguments} {body : Expr} {sc : Scope} {pos : Pos} {x : Str} {E : Value → Shared → Prop} {Q : Value → Shared → Prop} (I : Inv X pins σ H s) (sr : SR X.K H m S) (TB : LamX.TabB X.base X.mg c P) (hcode : X.env.code = .ref c)
    (hm : (P, X.env.qual ++ "<lambda>") ∈ Tb.T) (hu : ∀ p ∈ Tb.T, p.1 = P → p.2 = X.env.qual ++ "<lambda>") (hdef : defaultsOf ps X.env = ([], [])) (hn : sc.names = [(x, .local)])
    (k : ∀ (f c' : Addr) (pm ctv : Value) (H1 : Hp) (s' : Shared), Inv X pins σ H1 s' → SR X.K H1 m S → Fr H m H1 m →
      s'.heap.get? f = some (PySem.W.kla_obj "<lambda>" (X.env.qual ++ "<lambda>") ps body sc (cloFrom X.env.cells sc.names []) pm c' ctv) → s'.heap.CodeRec (.ref c') (X.env.qual ++ "<lambda>") → Q (.ref f) s') :
    wpAny (model X.prog X.w) X.A (eval (.Lambda ps body sc pos) X.env) Q E s := by
  obtain ⟨tb, hP, ht, ha⟩ := sr.tab _ hm
  have hfree : ∀ y ∈ sc.names, y.2 = .free → ∃ c, X.env.cells.lookup y.1 = some c := fun y hy e => by
    rw [hn] at hy
    rw [List.mem_singleton.mp hy] at e
    cases e
  have bP : s.heap.BuiltinsAt X.mg P := TB.bm.keeps I.bk
  have gP : s.heap.get? P = some { cls := .none, data := .fields tb } := I.hok P _ hP
  refine PySem.W.kla_eval hdef ?_
  cases hc : codeAmong pos tb.toList with
  | some cv =>
    obtain ⟨c', e, hco⟩ := ha pos cv hc
    subst e
    refine PySem.W.kla_makeFunctionHit (closure_ok hfree) I.ok.glob (I.mod.glob.keeps I.bk) hcode
      (TB.code.keeps I.bk) gP ht hc bP fun ctv h' tk hx hsz => ?_
    have I1 : Inv X pins σ H { s with heap := h'.push (PySem.W.kla_obj "<lambda>" (X.env.qual ++ "<lambda>") ps body sc (cloFrom X.env.cells sc.names []) ((X.mg "__name__").getD .none) c' ctv), toks := tk } :=
      I.kept fun b o e => Heap.get?_push_of_some _ (hx b o e)
    obtain ⟨⟨oc, vs, t, z1, z2, z3⟩, _, _⟩ := I1.hok c' _ hco
    exact k _ c' _ ctv H _ I1 sr .refl (Heap.get?_push_size _ rfl) ⟨c', oc, vs, t, rfl, z1, z2, z3⟩
  | none =>
    refine PySem.W.kla_makeFunction (closure_ok hfree) I.ok.glob (I.mod.glob.keeps I.bk) hcode
      (TB.code.keeps I.bk) gP ht hc TB.gP bP fun c' ctv h' tk hx hge hlt hrec htb => ?_
    obtain ⟨c2, oc, vs, t, e2, hoc, hd, hv⟩ := id hrec
    cases e2
    have nC : H c' = none := I.hok.fresh hge
    have nP : P ≠ c' := ne_of_none hP nC
    have up : ∀ b o, b ≠ P → s.heap.get? b = some o → (h'.push (PySem.W.kla_obj "<lambda>" (X.env.qual ++ "<lambda>") ps body sc (cloFrom X.env.cells sc.names []) ((X.mg "__name__").getD .none) c' ctv)).get? b = some o := fun b o hb e => Heap.get?_push_of_some _ (hx b o hb e)
    have I1 := LamX.inv_table (t' := tk) (more := #[rawInt pos.line, rawInt pos.col, .ref c']) I hP up (Heap.get?_push_of_some _ htb) hge ⟨oc, vs, t, Heap.get?_push_of_some _ hoc, hd, hv⟩
    have old : ∀ b o, H b = some o → NT o → upd (upd H P (.tbl (tb ++ #[rawInt pos.line, rawInt pos.col, .ref c']))) c' (LamX.CodeO c' (X.env.qual ++ "<lambda>")) b = some o := fun b o e n => by
      rw [upd_ne (ne_of_none e nC), upd_ne (fun z => n tb (by rw [z, hP] at e; exact (Option.some.inj e).symm))]
      exact e
    have kp : Kp H m (upd (upd H P (.tbl (tb ++ #[rawInt pos.line, rawInt pos.col, .ref c']))) c' (LamX.CodeO c' (X.env.qual ++ "<lambda>"))) m :=
      ⟨fun b xs e => old b _ e (fun _ z => by cases z), fun b o xs e => old b _ e (fun _ z => by cases z), [], (List.append_nil _).symm⟩
    have eL : (tb ++ #[rawInt pos.line, rawInt pos.col, .ref c']).toList = tb.toList ++ [rawInt pos.line, rawInt pos.col, .ref c'] := by simp
    have tabs : LamX.Tabs Tb.T (upd (upd H P (.tbl (tb ++ #[rawInt pos.line, rawInt pos.col, .ref c']))) c' (LamX.CodeO c' (X.env.qual ++ "<lambda>"))) := fun p hp => by
      by_cases hb : p.1 = P
      · rw [hu p hp hb, hb]
        refine ⟨_, by rw [upd_ne nP, upd_same], by rw [eL]; exact PySem.TriplesOk_snoc _ _ _ _ ht, fun p' cv hcv => ?_⟩
        rw [eL] at hcv
        rcases LamX.among_app _ ht hcv with z | z
        · obtain ⟨c0, e1, e2⟩ := ha p' cv z
          exact ⟨c0, e1, old _ _ e2 LamX.codeO_ne⟩
        · exact ⟨c', z, upd_same⟩
      · obtain ⟨ps', a1, a2, a3⟩ := sr.tab p hp
        refine ⟨ps', by rw [upd_ne (ne_of_none a1 nC), upd_ne hb]; exact a1, a2, fun p' cv hcv => ?_⟩
        obtain ⟨c0, e1, e2⟩ := a3 p' cv hcv
        exact ⟨c0, e1, old _ _ e2 LamX.codeO_ne⟩
    refine k _ c' _ ctv _ _ I1 ⟨sr.len, sr.nd, fun n o a e1 e2 => ?_, tabs⟩ ⟨fun b o e n z => ⟨old b o e z, n⟩, fun b qs e n => ⟨?_, n⟩, ⟨[], (List.append_nil _).symm⟩, fun b o u e => old b _ e (fun _ z => by cases z)⟩ (Heap.get?_push_size _ rfl) (hrec.keeps fun b o e => Heap.get?_push_of_some _ e)
    · have r := sr.ob n o a e1 e2
      obtain ⟨w, hw, ww⟩ := r.wr
      exact r.kp kp ((old a w hw ww.nt).trans hw.symm)
    · by_cases hb : b = P
      · exact ⟨_, by rw [hb, upd_ne nP, upd_same]⟩
      · exact ⟨qs, by rw [upd_ne (ne_of_none e nC), upd_ne hb]; exact e⟩
theorem bind_lam {x : Str} {an : Pos} {q : Str} {body : Expr} {sc : Scope} {cl : List (Str × Addr)} {pm cv ctv u : Value} : bindArgs (PySem.W.kla_fn "<lambda>" q ⟨[], [⟨x, none, an⟩], none, [], [], none, []⟩ body sc cl pm cv ctv) ⟨[u], []⟩ = pure [(x, u)] := by
  have e : seqItems? (Value.none) = (pure none : Sem (Option (Array Value))) := rfl
  simp [bindArgs, e]
/-- a key= evaluated -/
theorem key_run (c : COk X C G call) {e : Expr} (h : keyOk C e = true) {Q : Value → Shared → Prop} (I : Inv X pins σ H s) (sr : SR X.K H m S)
    (k : ∀ (f : Addr) (H1 : Hp) (s' : Shared), Inv X pins σ H1 s' → SR X.K H1 m S → Fr H m H1 m → RankF s'.heap f → Q (.ref f) s') : wpAny (model X.prog X.w) X.A (eval e X.env) Q X.xe s := by
  unfold keyOk at h
  split at h
  · simp only [Bool.and_eq_true, decide_eq_true_eq] at h
    obtain ⟨⟨h1, h2⟩, h3⟩ := h
    obtain ⟨f, hf, _, hr⟩ := c.rk _ h1
    exact ld_glob I (glo_ok c h2) hf (k f H s I sr .refl (hr _ I.kIn)) (dbg_ok h3).1
  · rename_i ps body sc pos
    rw [Bool.and_eq_true] at h
    obtain ⟨h1, h2⟩ := h
    obtain ⟨cc, P, hcode, TB, hm, hu⟩ := c.lm h1
    unfold lamB at h2
    split at h2
    · rename_i x an
      simp only [Bool.and_eq_true, decide_eq_true_eq, Bool.not_eq_true'] at h2
      obtain ⟨⟨⟨⟨⟨e1, e2⟩, e3⟩, e4⟩, e5⟩, e6⟩ := h2
      refine lam_run I sr TB hcode hm hu rfl e4 fun f c' pm ctv H1 s' I1 s1 f1 hf hcd => k f H1 s' I1 s1 f1 ?_
      refine ⟨_, _, x, hf, rfl, hcd, fun s u => .of_eq bind_lam, ?_, ?_, e2, e3, e1, e6, .inr ⟨body, rfl, e5⟩⟩
      · show ∀ y ∈ sc.names, y.2 ≠ .cell
        rw [e4]
        intro y hy
        rw [List.mem_singleton.mp hy]
        exact fun z => by cases z
      · show sc.names.lookup x = _
        rw [e4]
        simp
    · cases h2
  · cases h
end
/-! ### sorted by a key -/
section
variable {prog : Program} {w : World} {A : Around} {E : Value → Shared → Prop} {s : Shared}
/-- a tuple's items, collected -/
theorem collect_tup {l : Addr} {us : List Value} {Q : List Value → Shared → Prop} (hl : IsTup s.heap l us.toArray) (hz : us.length ≤ sizeLine)
    (h : Q us { s with heap := (s.heap.push (seqObj "list" #[] 0)).update s.heap.objs.size (Obj.mapSeq (· ++ us.toArray)) }) : wpAny (model prog w) A (collect (.ref l)) Q E s := by
  obtain ⟨ob, g1, g2, n, g3⟩ := id hl
  have g4 : (s.heap.push (seqObj "list" #[] 0)).get? l = some ob := Heap.get?_push_of_some _ g1
  have g5 : (Value.type "tuple" == Value.type "tuple") = true := by rfl
  unfold collect
  refine wpAny_bind (wpAny_runValue (codeAny_builtin entry_proto_collect' ?_))
  change wpAny _ _ (do again (.builtin "list.__iadd__" ⟨[← newList [], .ref l], []⟩)) _ _ s
  refine wpAny_bind (wpAny_newList (wpAny_pure ⟨Code.quiet_builtin _ (by decide +kernel), codeAny_builtin entry_list_iadd' ?_⟩))
  change wpAny _ _ (Builtin.List.listExtendWith (.ref s.heap.objs.size) (.ref l) (.ref s.heap.objs.size)) _ _ { s with heap := s.heap.push (seqObj "list" #[] 0) }
  unfold Builtin.List.listExtendWith
  refine wpAny_bind (wpAny_typeOf (T := "tuple") ⟨ob, g4, g2⟩ ?_)
  rw [if_pos (by simp [g5])]
  refine wpAny_bind (listItems_at g4 g3 (wpAny_bind (listItems_at (xs := #[]) (n := 0) (Heap.get?_push_size _ rfl) rfl ?_)))
  rw [if_neg (by simp)]
  refine wpAny_bind (listUpdate_at (xs := #[]) (n := 0) (Heap.get?_push_size _ rfl) rfl ?_ (Nat.zero_le _) (by show (#[] ++ us.toArray).size ≤ sizeLine + 1; simp only [Array.size_append, List.size_toArray, List.length_nil]; omega))
  refine wpAny_pure ?_
  change wpAny (model prog w) A (load s.heap.objs.size >>= fun o => match o.data with | .seq xs _ => pure xs.toList | _ => unsupported "internal:collect") Q E { s with heap := (s.heap.push (seqObj "list" #[] 0)).update s.heap.objs.size (Obj.mapSeq (· ++ us.toArray)) }
  refine wpAny_bind (wpAny_load (get?_update_seq (Heap.get?_push_size _ rfl) _) ?_)
  change wpAny _ _ (pure ((#[] : Array Value) ++ us.toArray).toList) Q E _
  rw [show ((#[] : Array Value) ++ us.toArray).toList = us by simp]
  exact wpAny_pure h
/-- the rank of an item, as data -/
def rkP (b : D × V) : PyData := .tuple [.int (rkOf b.1).1, .int (rkOf b.1).2]
def RkItems (h : Heap) (bs : List (D × V)) : Prop := ∀ (v : Value) (b : D × V), RelV b.2 v → b ∈ bs → ∃ (p : Addr) (its : Array Value) (ta tb : Tok), v = .ref p ∧ IsTup h p its ∧ its[2]? = some (.int (rkOf b.1).1 ta) ∧ its[1]? = some (.int (rkOf b.1).2 tb) ∧ its.size ≤ sizeLine
theorem IsTup.up {h h' : Heap} {p : Addr} {its : Array Value} (t : IsTup h p its) (k : ∀ b o, h.get? b = some o → h'.get? b = some o) : IsTup h' p its := by
  obtain ⟨o, h1, h2⟩ := t
  exact ⟨o, k _ _ h1, h2⟩
theorem rk_turn {f : Addr} {bs : List (D × V)} (hf : RankF s.heap f) (hlim : s.heap.NoLimit) (hroom : A.depth < recursionLimit) (ht : RkItems s.heap bs) (v : Value) (b : D × V) (rv : RelV b.2 v) (hb : b ∈ bs) (h : Heap) (tk : Nat) (k : ∀ b o, s.heap.get? b = some o → h.get? b = some o) :
    wpAny (model prog w) A (call (.ref f) [v]) (fun v' s' => ∃ h' tk' p ta tb, s' = { s with heap := h', toks := tk' } ∧ (∀ b o, h.get? b = some o → h'.get? b = some o) ∧ v' = .ref p ∧ IsTup h' p #[.int (rkOf b.1).1 ta,   .int (rkOf b.1).2 tb] ∧ h.objs.size ≤ p) (fun _ _ => False) { s with heap := h, toks := tk } := by
  obtain ⟨p, its, ta, tb, rfl, h1, h2, h3, h4⟩ := ht v b rv hb
  refine wpAny_mono (rank_call (s := { s with heap := h, toks := tk }) (hf.keeps k) (F.IsTup.up h1 k) h2 h3 h4 (hlim.keeps k) hroom) (fun v' s' hq => ?_) fun _ _ z => z
  obtain ⟨h', tk', q, ta', tb', rfl, e1, e2, e3, e4⟩ := hq
  exact ⟨h', tk', q, ta', tb', rfl, e1, e2, e3, e4⟩
theorem rk_reads {h : Heap} {p : Addr} {a b : Int} {ta tb : Tok} (t : IsTup h p #[.int a ta, .int b tb]) : Reads h (.ref p) (.tuple [.int a, .int b]) [] := by
  obtain ⟨o, h1, h2, n, h3⟩ := t
  have r : ReadsAll h [.int a ta, .int b tb] [.int a, .int b] ([] ++ ([] ++ [])) := .cons (.int a ta) (.cons (.int b tb) .nil)
  exact .tuple h1 h2 h3 r
theorem sorted_rank {l f : Addr} {us : List Value} {bs : List (D × V)} {Q : Value → Shared → Prop}
    (hcol : ∀ (A' : Around) (E' : Value → Shared → Prop) (Q' : List Value → Shared → Prop), Q' us { s with heap := (s.heap.push (seqObj "list" #[] 0)).update s.heap.objs.size (Obj.mapSeq (· ++ us.toArray)) } → wpAny (model prog w) A' (collect (.ref l)) Q' E' s)
    (hz : us.length ≤ sizeLine) (hf : RankF s.heap f) (hlim : s.heap.NoLimit) (hroom : A.depth < recursionLimit) (hu : A.units + 64 < cLine) (e : PySem.W.EachIs (fun v (b : D × V) => RelV b.2 v) us bs) (ht : RkItems s.heap bs)
    (h : ∀ out c h' tk, (∀ b o, s.heap.get? b = some o → h'.get? b = some o) → s.heap.get? (s.heap.objs.size + 1) = none → h'.get? (s.heap.objs.size + 1) = some (seqObj "list" (List.toArray out) c) → PySem.W.EachIs (fun v (b : D × V) => RelV b.2 v) out (bs.mergeSort (PySem.W.dataLe false rkP)) → Q (.ref (s.heap.objs.size + 1)) { s with heap := h', toks := tk }) :
    wpAny (model prog w) A (call (.builtin "sorted") [.ref l] [(Str.ofString "key", .ref f)]) Q E s := by
  have hsz : ((s.heap.push (seqObj "list" #[] 0)).update s.heap.objs.size (Obj.mapSeq (· ++ us.toArray))).objs.size = s.heap.objs.size + 1 := by
    rw [Heap.size_update, size_push']
  have fresh : s.heap.get? (s.heap.objs.size + 1) = none := Heap.get?_none_of_le (Nat.le_succ _)
  have hlen := e.length
  have up : ∀ {g : Heap}, PySem.W.KeepsBut (s.heap.objs.size + 1) (PySem.W.copyHeap s.heap us) g → ∀ b o, s.heap.get? b = some o → g.get? b = some o := fun {g} kp b o q =>
    kp b o (Nat.ne_of_lt (Nat.lt_succ_of_lt (Heap.lt_size q))) (PySem.W.copyHeap_old q)
  refine call_function_entry_kw kind_sorted plain_sorted entry_sorted (PyProof.Rows.ksk_s1 _ _) ?_
  unfold Builtin.«sorted»
  refine wpAny_bind (m := checkCount "sorted" 1 1 _) (wpAny_pure (wpAny_bind (hcol _ _ _ (wpAny_bind (wpAny_newList ?_ hz)))))
  show wpAny _ _ _ _ _ { s with heap := PySem.W.copyHeap s.heap us }
  rw [hsz]
  refine wpAny_bind (wpAny_holding (wpAny_call_entry_kw slot_list_sort ⟨_, PySem.W.copyHeap_at s.heap us, rfl⟩ entry_list_sort ?_ (PyProof.Rows.ksk_l1 _ _)))
  rw [PyProof.Rows.ksk_t1]
  refine PySem.W.keyH_tree (kz := bs.map rkP) (s := { s with heap := PySem.W.copyHeap s.heap us }) (PySem.W.copyHeap_at s.heap us) (by rw [List.length_map]; exact hlen.symm) hz (.of fun _ _ => by simp [rkP, PySem.W.alike, PySem.W.alikeAll]) (.tuples fun b => ⟨_, _, rfl⟩)
    (fun d hd => by
      obtain ⟨b, _, rfl⟩ := List.mem_map.mp hd
      have hd2 : (rkP b).depth ≤ 2 := by simp [rkP, PyData.depth, PyData.depthAll]
      show A.units + 1 + 1 + _ < cLine
      omega)
    (PySem.W.keyH_turns (s := { s with heap := PySem.W.copyHeap s.heap us }) e fun v b rv hb g tk kp => ?_) fun h' tk out c kp hD ko => ?_
  · refine wpAny_mono (rk_turn (A := A.in1.in1) hf hlim hroom ht v b rv hb g tk (up kp)) (fun v' s' hq => ?_) fun _ _ z => z
    obtain ⟨h', tk', p, ta, tb, rfl, k2, rfl, k3, _⟩ := hq
    exact ⟨h', tk', rfl, k2, rk_reads k3⟩
  · exact ⟨_, rfl, wpAny_pure ⟨_, rfl, h out c h' tk (up kp) fresh hD (PySem.W.keyedOut_each rkP ko e)⟩⟩
/-! ### max by a key -/
theorem rk_gt {v u : Value} {b c : D × V} {h : Heap} {p q : Addr} {t1 t2 t3 t4 : Tok} {Q E : Value → Shared → Prop} (hu : A.units + 64 < cLine) (h1 : v = .ref p ∧ IsTup s.heap p #[.int (rkOf b.1).1 t1, .int (rkOf b.1).2 t2]) (h2 : u = .ref q ∧ IsTup s.heap q #[.int (rkOf c.1).1 t3, .int (rkOf c.1).2 t4])
    (hq : Q (.bool (PySem.W.dataLt (rkP c) (rkP b))) s) : wpAny (model prog w) A (richCompare .Gt v u) Q E s := by
  obtain ⟨rfl, h1⟩ := h1
  obtain ⟨rfl, h2⟩ := h2
  have hd : (rkP b).depth ≤ 2 := by simp [rkP, PyData.depth, PyData.depthAll]
  exact PySem.W.gt_data (da := rkP b) (db := rkP c) (rk_reads h1) (rk_reads h2) (by simp [rkP, PySem.W.alike, PySem.W.alikeAll]) (fun z => by cases z) (by omega) hq
theorem max_rank {l f : Addr} {us : List Value} {bs : List (D × V)} {Q : Value → Shared → Prop} (hh : A.handled = none) (hl : s.heap.IsList l us.toArray) (hf : RankF s.heap f) (hlim : s.heap.NoLimit) (hroom : A.depth < recursionLimit) (hu : A.units + 70 < cLine)
    (e : PySem.W.EachIs (fun v (b : D × V) => RelV b.2 v) us bs) (ht : RkItems s.heap bs) (h0 : bs = [] → ∀ h' tk, (∀ b o, s.heap.get? b = some o → h'.get? b = some o) → Q .none { s with heap := h', toks := tk })
    (h : ∀ b bs', bs = b :: bs' → ∀ v h' tk, (∀ b o, s.heap.get? b = some o → h'.get? b = some o) → RelV (bs'.foldl (fun a y => if PySem.W.dataLt (rkP a) (rkP y) = true then y else a) b).2 v → Q v { s with heap := h', toks := tk }) :
    wpAny (model prog w) A (call (.builtin "max") [.ref l] [(Str.ofString "key", .ref f), (Str.ofString "default", .none)]) Q E s := by
  have hlen := e.length
  have hsz : us.toArray.size = bs.length := by rw [List.size_toArray, hlen]
  let b0 : D × V := (.non, .non)
  have pair : ∀ (i : Nat) (v : Value), us.toArray[i]? = some v → i < bs.length ∧ RelV (bs.getD i b0).2 v ∧ bs.getD i b0 ∈ bs := fun i v hv => by
    have hv2 : us[i]? = some v := by simpa using hv
    have hi : i < bs.length := by rw [← hlen]; exact (List.getElem?_eq_some_iff.mp hv2).1
    have hb : bs[i]? = some (bs.getD i b0) := by rw [List.getD_eq_getElem?_getD, List.getElem?_eq_getElem hi]; rfl
    exact ⟨hi, e.zip (v, bs.getD i b0) (List.mem_of_getElem? (i := i) (by rw [List.getElem?_zip_eq_some]; exact ⟨hv2, hb⟩)), List.mem_of_getElem? hb⟩
  refine call_max_walkKD (PySem.W.iter_listW (A := A.in1) hh hl fun s₂ e2 W st hfp hw hk => ?_)
  have keepJ : ∀ (s1 s' : Shared), (∃ h' tk, s1 = { s with heap := h', toks := tk } ∧ (∀ b o, s.heap.get? b = some o → h'.get? b = some o)) → Moved (s₂.heap.objs.size :: [s.heap.objs.size]) (fun a b => b = a) s1 s' → ∃ h' tk, s' = { s with heap := h', toks := tk } ∧ (∀ b o, s.heap.get? b = some o → h'.get? b = some o) := by
    rintro s1 s' ⟨h1, tk1, rfl, k1⟩ mv
    obtain ⟨mh, mg, md, mo, mt⟩ := mv
    refine ⟨s'.heap, s'.toks, ?_, fun b o eb => mh b o (fun hb => ?_) (k1 b o eb)⟩
    · obtain ⟨hp, g, d, tk, os⟩ := s'
      simp only at mg md mo
      subst mg md mo
      rfl
    · have lb := Heap.lt_size eb
      have l2 : s₂.heap.objs.size = s.heap.objs.size + 1 := by rw [e2]; exact size_push' ..
      rcases List.mem_cons.mp hb with z | z
      · exact absurd lb (Nat.not_lt.mpr (by rw [z, l2]; exact Nat.le_succ _))
      · exact absurd lb (Nat.not_lt.mpr (by rw [List.mem_singleton.mp z]; exact Nat.le_refl _))
  have l2 : s₂.heap.objs.size = s.heap.objs.size + 1 := by rw [e2]; exact size_push' ..
  refine ⟨_, _, _, _, _, _, _, (fun s' => ∃ h' tk, s' = { s with heap := h', toks := tk } ∧ (∀ b o, s.heap.get? b = some o → h'.get? b = some o)),
    (fun i k s' => ∃ p ta tb, k = .ref p ∧ IsTup s'.heap p #[.int (rkOf (bs.getD i b0).1).1 ta, .int (rkOf (bs.getD i b0).1).2 tb] ∧ s₂.heap.objs.size < p),
    (fun i j => PySem.W.dataLt (rkP (bs.getD j b0)) (rkP (bs.getD i b0))), rfl, W, st, hfp, ⟨keepJ, ?_, ?_, ?_⟩, ⟨_, s₂.toks, by rw [e2], fun b o eb => Heap.get?_push_of_some _ eb⟩, ?_, ?_⟩
  · rintro i k s1 s' ⟨p, ta, tb, rfl, t, hp⟩ mv
    obtain ⟨o, g1, g2⟩ := t
    refine ⟨p, ta, tb, rfl, ⟨o, mv.heap p o (fun hb => ?_) g1, g2⟩, hp⟩
    rcases List.mem_cons.mp hb with z | z
    · exact absurd z (Nat.ne_of_gt hp)
    · exact absurd (List.mem_singleton.mp z) (fun z2 => by rw [z2, l2] at hp; exact Nat.lt_irrefl _ (Nat.lt_of_succ_lt hp))
  · rintro i v s1 o Q1 E1 hi hv ⟨h1, tk1, rfl, k1⟩ st1 hS hq
    obtain ⟨_, rv, mb⟩ := pair i v hv
    refine wpAny_with_toks (Nat.le_refl tk1) (wpAny_mono (rk_turn (A := A.in1) hf hlim hroom ht v _ rv mb h1 tk1 k1) (fun k' s' hq' => ?_) fun _ _ z => z.elim)
    obtain ⟨h', tk', p, ta, tb, rfl, kk, rfl, t, hp⟩ := hq'
    intro htk
    have hS2 := Heap.lt_size hS
    refine hq _ _ ⟨h', tk', rfl, fun b o eb => kk b o (k1 b o eb)⟩ (W.frame (i + 1) { s with heap := h1, toks := tk1 } h' tk' st1 htk fun b _ o eb => kk b o eb) (kk _ _ hS) ⟨p, ta, tb, rfl, t, Nat.lt_of_lt_of_le hS2 hp⟩ fun j k' hV => ?_
    obtain ⟨p', ta', tb', rfl, t', hp'⟩ := hV
    exact ⟨p', ta', tb', rfl, F.IsTup.up t' kk, hp'⟩
  · rintro i j ki kj s1 Q1 E1 _ ⟨p, ta, tb, rfl, t, _⟩ ⟨p', ta', tb', rfl, t', _⟩ hq
    exact rk_gt (h := s1.heap) (by show A.units + 1 + 64 < cLine; omega) ⟨rfl, t⟩ ⟨rfl, t'⟩ hq
  · rintro hz s' ⟨h', tk, rfl, kk⟩
    exact h0 (List.eq_nil_of_length_eq_zero (by rw [← hsz]; exact hz)) h' tk kk
  · rintro hp v s' hP ⟨h', tk, rfl, kk⟩
    cases bs with
    | nil => rw [hsz] at hp; exact absurd hp (Nat.lt_irrefl 0)
    | cons b bs' =>
      obtain ⟨k1, k2⟩ := PySem.W.argBest_fold (fun x y : D × V => PySem.W.dataLt (rkP y) (rkP x)) b0 b bs' bs'.length (Nat.le_refl _)
      rw [List.take_length] at k2
      have e1 : us.toArray.size - 1 = bs'.length := by rw [hsz]; rfl
      rw [e1] at hP
      obtain ⟨_, rv, _⟩ := pair _ v hP
      rw [k2] at rv
      exact h b bs' rfl v h' tk kk rv
end
end F

/-! sorted and max by a key that ranks, repr compared: as expressions. -/
namespace F
open PySem PySem.Spec PyProof.Rows L2
variable [Tb]
theorem each_vals : ∀ {bs : List (D × V)} {its : List Value}, Vals (bs.map Prod.snd) its → PySem.W.EachIs (fun v b => RelV b.2 v) its bs
  | [], its, h => by cases h; exact .nil
  | b :: bs, its, h => by
    cases h with
    | cons r t => exact .cons r (each_vals t)
section
variable {X : Cx} {C : Ctx} {G : List D} {call : Call}
theorem zip_fst {ds : List D} {xs : List V} (h : ds.length = xs.length) : (ds.zip xs).map Prod.fst = ds := by rw [List.map_fst_zip (by omega)]
theorem zip_snd {ds : List D} {xs : List V} (h : ds.length = xs.length) : (ds.zip xs).map Prod.snd = xs := by rw [List.map_snd_zip (by omega)]
theorem rk_items {pins : List (Addr × Obj)} {σ : L2.St} {H : Hp} {s : Shared} {m : List Addr} {ds : List D} {xs : List V} (I : Inv X pins σ H s) (hr : RepL X.K H m ds xs) (h : ranked ds = true) : RkItems s.heap (ds.zip xs) := by
  intro v b rv hb
  have rp := zip_rep hr b hb
  have hd : b.1 ∈ ds := (List.of_mem_zip hb).1
  have hk := List.all_eq_true.mp h b.1 hd
  have e0 : rankD b.1 = some (rkOf b.1) := by
    unfold rkOf
    cases q : rankD b.1 with
    | none => rw [q] at hk; cases hk
    | some z => rfl
  unfold rankD at e0
  split at e0
  · rename_i ys e1
    split at e0
    · rename_i a c e2 e3
      have e4 := Option.some.inj e0
      obtain ⟨p, zs, e5, hq, hz⟩ := tupOf_ok (show RepP X.K H m (.d b.1) b.2 from rp) e1
      rw [e5] at rv
      obtain rfl : v = Value.ref p := rv
      obtain ⟨its, r, pl, hzz⟩ := I.tuple hq
      have at_ : ∀ (i : Nat) (n : Int), ys[i]? = some (D.int n) → ∃ t, its.toArray[i]? = some (.int n t) := fun i n e => by
        obtain ⟨w, h1, h2⟩ := hz.get e
        rw [rep_int h2] at h1
        obtain ⟨u, h3, h4⟩ := r.get h1
        obtain ⟨t, rfl⟩ := h4
        exact ⟨t, by simpa using h3⟩
      obtain ⟨ta, ha⟩ := at_ 2 a e2
      obtain ⟨tb, hb⟩ := at_ 1 c e3
      exact ⟨p, its.toArray, ta, tb, rfl, pl, by rw [← e4]; exact ha, by rw [← e4]; exact hb, by rw [List.size_toArray, ← r.length]; exact hzz⟩
    · cases e0
  · cases e0
theorem rk_le (x y : D × V) : PySem.W.dataLe false rkP x y = rkLe x.1 y.1 := by
  unfold rkP rkLe
  rw [PySem.W.dataLe_ii (fun b : D × V => (rkOf b.1).1) (fun b => (rkOf b.1).2)]
theorem rk_lt (x y : D × V) : PySem.W.dataLt (rkP x) (rkP y) = rkLt x.1 y.1 := by
  unfold rkP rkLt
  rw [PySem.W.dataLt_ii]
theorem key_args (c : COk X C G call) {e : Ex} {d : Expr} (hk : keyOk C d = true) {pins : List (Addr × Obj)} {σ : L2.St} {H : Hp} {s : Shared} {m : List Addr} {S : Store} {pos : Pos} {rest : List (Sem Value)} {Q : List Value → Shared → Prop} (I : Inv X pins σ H s) (sr : SR X.K H m S)
    (k : ∀ (f : Addr) (H1 : Hp) (s' : Shared), Inv X pins σ H1 s' → SR X.K H1 m S → Fr H m H1 m → RankF s'.heap f → wpAny (model X.prog X.w) X.A (evalAll rest) (fun us s'' => Q (.ref f :: us) s'') X.xe s') :
    wpAny (model X.prog X.w) X.A (evalAll ((do let v ← eval d X.env; standAt pos; pure v) :: rest)) Q X.xe s :=
  wpAny_evalAll_cons (wpAny_bind (key_run c hk I sr fun f H1 s' I1 s1 f1 hR => wpAny_bind (wpAny_standAt (wpAny_pure (k f H1 s' I1 s1 f1 hR)))))
theorem se_sortR (c : COk X C G call) {a : Ex} {f : Str} {e d : Expr} {pf pk pos : Pos} (hf : blt C f "sorted" = true) (hs : notStar e = true) (hk : keyOk C d = true) (ha : SE X G call a e) : SE X G call (.prim .sortR (.cons a .nil)) (.Call (.Name f pf) [e] [⟨some ("key" : Str), d, pk⟩] pos) := by
  obtain ⟨rfl, hg1, hm1⟩ := blt_ok c hf
  refine se_val ?_ fun _ => rfl
  unfold evf
  rw [tE_congr fun ρ S => evP1]
  refine ⟨fun pins s σ H Q I h => ?_⟩
  obtain ⟨ρ, m, S, t, S', en, sr, e', k⟩ := h
  obtain ⟨t1, S1, e1, e'⟩ := bind1_inv e'
  have e' : (match sortRkT S1 t1 with | some t => some (t, S1) | none => none) = some (t, S') := e'
  split at e'
  · rename_i t' e2
    cases e'
    unfold sortRkT at e2
    split at e2
    · rename_i ds e3
      split at e2
      · rename_i hz
        cases e2
        refine wpAny_Call_Name_kw (ld_blt (u := .builtin "sorted") I hg1 hm1 (by decide +kernel) ?_ (by decide) (by decide))
        refine PyProof.Rows.callWith_kw (thn ((pa_cons ha.1 pa_nil (starEach_cons hs)).run pos pins s σ H (fun vs H1 => ∃ v m1, vs = [v] ∧ SR X.K H1 m1 S' ∧ Fr H m H1 m1 ∧ RepT X.K H H1 m1 t1 v) I ?_) fun us s1 ⟨vs, H1, I1, r1, q1⟩ => ?_) (by rw [starEach_cons hs]; rfl) (by rw [starEach_cons hs]; rfl) rfl rfl
        · exact then1 en sr e1 fun v H1 m1 s1 f1 en1 r1 => ⟨v, m1, rfl, s1, f1, r1⟩
        · obtain ⟨v, m1, rfl, sr1, f1, rt⟩ := q1
          refine key_args (e := a) c hk I1 sr1 fun ff H2 s2 I2 sr2 f2 hR => wpAny_evalAll_nil ?_
          show wpAny (model X.prog X.w) X.A (PySem.call (.builtin "sorted") us [(Str.ofString "key", .ref ff)]) (EP X pins σ Q) X.xe s2
          obtain ⟨l, xs, rfl, hq, hr⟩ := seqOf_ok sr2 (RepP.fr f2 sr1 rt.p) e3
          rw [Vals.ref1 r1]
          have hul := c.room.un
          have hdp := c.room.depth
          have hlen := hr.len
          have e8 : ((ds.zip xs).mergeSort (PySem.W.dataLe false rkP)).map Prod.fst = sortRk ds := by
            unfold sortRk
            have h9 : ((ds.zip xs).mergeSort (PySem.W.dataLe false rkP)).map Prod.fst = ((ds.zip xs).map Prod.fst).mergeSort rkLe := List.map_mergeSort fun a _ b _ => rk_le a b
            rw [h9, zip_fst hlen]
          have hl2 : (((ds.zip xs).mergeSort (PySem.W.dataLe false rkP)).map Prod.snd).length ≤ sizeLine := by
            rw [List.length_map, List.length_mergeSort, List.length_zip, hlen, Nat.min_self, ← hlen]
            exact hz.2
          have fin : ∀ {its : List Value}, Vals xs its → (∀ (A' : Around) (E' : Value → Shared → Prop) (Q' : List Value → Shared → Prop), Q' its { s2 with heap := (s2.heap.push (seqObj "list" #[] 0)).update s2.heap.objs.size (Obj.mapSeq (· ++ its.toArray)) } → wpAny (model X.prog X.w) A' (collect (.ref l)) Q' E' s2) →
              wpAny (model X.prog X.w) X.A (PySem.call (.builtin "sorted") [.ref l] [(Str.ofString "key", .ref ff)]) (EP X pins σ Q) X.xe s2 := by
            intro its rv hcol
            refine sorted_rank (bs := ds.zip xs) hcol (by rw [← rv.length, ← hlen]; exact hz.2) hR I2.nolimit hdp (by omega) (each_vals (by rw [zip_snd hlen]; exact rv)) (rk_items I2 hr hz.1) fun out cc h' tk kp fresh hD he => ?_
            refine ⟨.ref _, upd H2 (s2.heap.objs.size + 1) (.lst (((ds.zip xs).mergeSort (PySem.W.dataLe false rkP)).map Prod.snd)), I2.laid (t' := tk) kp (Nat.le_succ _) ⟨hl2, out, cc, vals_each he, hD⟩, rfl, ?_⟩
            refine fin_tmp sr2 (I2.hok.fresh (Nat.le_succ _)) ?_ (k.step sr sr2 (f1.trans f2))
            rw [← e8]
            exact repL_zip (fun p hp => zip_rep hr p ((List.mem_mergeSort).mp hp)) fun d v h => h
          rcases hq with hq | hq
          · obtain ⟨its, rv, pl, hzz⟩ := I2.list hq
            exact fin rv fun A' E' Q' hQ => collect_list pl.isList hQ (by rw [← rv.length]; exact hzz)
          · obtain ⟨its, rv, pl, hzz⟩ := I2.tuple hq
            exact fin rv fun A' E' Q' hQ => collect_tup pl (by rw [← rv.length]; exact hzz) hQ
      · cases e2
    · cases e2
  · cases e'
theorem max_fst : ∀ (zs : List (D × V)) (b : D × V), (zs.foldl (fun a y => if PySem.W.dataLt (rkP a) (rkP y) = true then y else a) b).1 = maxRk b.1 (zs.map Prod.fst)
  | [], b => rfl
  | z :: zs, b => by
    rw [List.foldl_cons, max_fst zs, List.map_cons]
    show maxRk (if PySem.W.dataLt (rkP b) (rkP z) = true then z else b).1 _ = maxRk (if rkLt b.1 z.1 = true then z.1 else b.1) _
    rw [rk_lt]
    by_cases h : rkLt b.1 z.1 = true
    · rw [if_pos h, if_pos h]
    · rw [if_neg h, if_neg h]
theorem se_maxR (c : COk X C G call) {a : Ex} {f : Str} {e d d2 : Expr} {pf pk pk2 pos : Pos} (hf : blt C f "max" = true) (hs : notStar e = true) (hk : keyOk C d = true) (hn : isNoneC d2 = true) (ha : SE X G call a e) :
    SE X G call (.prim .maxR (.cons a .nil)) (.Call (.Name f pf) [e] [⟨some ("key" : Str), d, pk⟩, ⟨some ("default" : Str), d2, pk2⟩] pos) := by
  obtain ⟨rfl, hg1, hm1⟩ := blt_ok c hf
  have hd2 : ∃ j p, d2 = .Constant .none j p := by
    unfold isNoneC at hn
    split at hn
    · exact ⟨_, _, rfl⟩
    · cases hn
  obtain ⟨j2, p2, rfl⟩ := hd2
  refine se_val ?_ fun _ => rfl
  unfold evf
  rw [tE_congr fun ρ S => evP1]
  refine ⟨fun pins s σ H Q I h => ?_⟩
  obtain ⟨ρ, m, S, t, S', en, sr, e', k⟩ := h
  obtain ⟨t1, S1, e1, e'⟩ := bind1_inv e'
  have e' : (match maxRkT S1 t1 with | some t => some (t, S1) | none => none) = some (t, S') := e'
  split at e'
  · rename_i t' e2
    cases e'
    refine wpAny_Call_Name_kw (ld_blt (u := .builtin "max") I hg1 hm1 (by decide +kernel) ?_ (by decide) (by decide))
    refine PyProof.Rows.callWith_kw (thn ((pa_cons ha.1 pa_nil (starEach_cons hs)).run pos pins s σ H (fun vs H1 => ∃ v m1, vs = [v] ∧ SR X.K H1 m1 S' ∧ Fr H m H1 m1 ∧ RepT X.K H H1 m1 t1 v) I ?_) fun us s1 ⟨vs, H1, I1, r1, q1⟩ => ?_) (by rw [starEach_cons hs]; rfl) (by rw [starEach_cons hs]; rfl) rfl rfl
    · exact then1 en sr e1 fun v H1 m1 s1 f1 en1 r1 => ⟨v, m1, rfl, s1, f1, r1⟩
    · obtain ⟨v, m1, rfl, sr1, f1, rt⟩ := q1
      refine key_args (e := a) c hk I1 sr1 fun ff H2 s2 I2 sr2 f2 hR => ?_
      show wpAny (model X.prog X.w) X.A (evalAll [do let v ← eval (.Constant .none j2 p2) X.env; standAt pos; pure v]) _ X.xe s2
      refine wpAny_evalAll_cons (wpAny_bind (Constant_none (wpAny_bind (wpAny_standAt (wpAny_pure (wpAny_evalAll_nil ?_))))))
      show wpAny (model X.prog X.w) X.A (PySem.call (.builtin "max") us [(Str.ofString "key", .ref ff), (Str.ofString "default", .none)]) (EP X pins σ Q) X.xe s2
      have hul := c.room.un
      have hdp := c.room.depth
      have go : ∀ ds, lstOf S' t1 = some ds → ranked ds = true → (ds = [] → t = .d .non) → (∀ d ds', ds = d :: ds' → t = .d (maxRk d ds')) → wpAny (model X.prog X.w) X.A (PySem.call (.builtin "max") us [(Str.ofString "key", .ref ff), (Str.ofString "default", .none)]) (EP X pins σ Q) X.xe s2 := by
        intro ds e3 hz h0 h1
        obtain ⟨l, xs, rfl, hq, hr⟩ := lstOf_ok sr2 (RepP.fr f2 sr1 rt.p) e3
        rw [Vals.ref1 r1]
        have hlen := hr.len
        obtain ⟨its, rv, pl, hzz⟩ := I2.list hq
        refine max_rank (bs := ds.zip xs) (I2.ok.hd c.calm) pl.isList hR I2.nolimit hdp (by omega) (each_vals (by rw [zip_snd hlen]; exact rv)) (rk_items I2 hr hz) (fun e0 h' tk kp => ?_) fun b bs' e0 v h' tk kp rel => ?_
        · have e5 : ds = [] := by
            have := congrArg (List.map Prod.fst) e0
            rw [zip_fst hlen] at this
            exact this
          have k2 := k.step sr sr2 (f1.trans f2)
          rw [h0 e5] at k2
          exact ⟨.non, H2, I2.kept kp, rfl, fin_d sr2 mk_non k2⟩
        · have e5 : ds = b.1 :: bs'.map Prod.fst := by
            have := congrArg (List.map Prod.fst) e0
            rw [zip_fst hlen] at this
            exact this
          have k2 := k.step sr sr2 (f1.trans f2)
          rw [h1 _ _ e5, ← max_fst] at k2
          have hmem := fold_mem (fun a y : D × V => PySem.W.dataLt (rkP a) (rkP y)) bs' b
          have hrep := zip_rep hr _ (by rw [e0]; exact hmem)
          exact ⟨_, H2, I2.kept kp, rel, fin_d sr2 hrep k2⟩
      unfold maxRkT at e2
      split at e2
      · rename_i e3
        cases e2
        exact go [] e3 rfl (fun _ => rfl) fun d ds' z => nomatch z
      · rename_i d ds e3
        split at e2
        · rename_i hz
          cases e2
          exact go _ e3 hz (fun z => nomatch z) fun d' ds' z => by cases z; rfl
        · cases e2
      · cases e2
  · cases e'
/-! ### repr(a) == repr(b), repr(a) != repr(b) -/
theorem pdL_up {f g : D → Option PyData} (h : ∀ d p, f d = some p → g d = some p) : ∀ {ds : List D} {ps : List PyData}, pdL f ds = some ps → pdL g ds = some ps
  | [], ps, e => e
  | d :: ds, ps, e => by
    unfold pdL at e ⊢
    split at e
    · rename_i x xs e1 e2
      rw [h _ _ e1, pdL_up h e2]
      exact e
    · cases e
theorem pdD_up (S : Store) : ∀ (n : Nat) (d : D) (p : PyData), pdD [] n d = some p → pdD S n d = some p
  | 0, d, p, e => by unfold pdD at e; cases e
  | n + 1, d, p, e => by
    have up : ∀ {ds : List D} {g : List PyData → PyData}, (pdL (pdD [] n) ds).map g = some p → (pdL (pdD S n) ds).map g = some p := fun {ds g} e => by
      obtain ⟨ps, e1, e2⟩ := Option.map_eq_some_iff.mp e
      rw [pdL_up (pdD_up S n) e1, ← e2]
      rfl
    cases d with
    | ref k => unfold pdD at e; simp at e
    | tup ds => unfold pdD at e ⊢; exact up e
    | ktup ds => unfold pdD at e ⊢; exact up e
    | rol ds => unfold pdD at e ⊢; exact up e
    | non => unfold pdD at e ⊢; exact e
    | bl b => unfold pdD at e ⊢; exact e
    | int i => unfold pdD at e ⊢; exact e
    | str x => unfold pdD at e ⊢; exact e
theorem pdT_up (S : Store) {t : T} {p : PyData} (e : pdT [] t = some p) : pdT S t = some p := by
  cases t with
  | d x => exact pdD_up S 60 x p e
  | tmp ds =>
    unfold pdT at e
    obtain ⟨ps, e1, e2⟩ := Option.map_eq_some_iff.mp e
    show (pdL (pdD S 59) ds).map PyData.list = some p
    rw [pdL_up (pdD_up S 59) e1, ← e2]
    rfl
theorem pdT_deep {K : PySem.W.Frag} {H : Hp} {m : List Addr} {S : Store} {t : T} {v : V} {p : PyData} (s : SR K H m S) (r : RepP K H m t v) (e : pdT S t = some p) : p.depth ≤ 60 := by
  cases t with
  | d x => exact (pdD_lay s 60 x p v e r).2
  | tmp ds =>
    unfold pdT at e
    obtain ⟨ps, e1, rfl⟩ := Option.map_eq_some_iff.mp e
    obtain ⟨a, xs, _, _, _, hr⟩ := r
    have := (pdL59 s e1 hr).2.2
    simp only [PyData.depth]
    omega
def rRepr (K : PySem.W.Frag) : List V → Hp → VK → Prop := fun xs H Q => ∃ x p, xs = [x] ∧ Dp K H x p ∧ p.showable = true ∧ p.hasDict = false ∧ p.shown.length ≤ sizeLine ∧ p.depth ≤ 60 ∧ Q (.str p.shown) H
theorem cr_repr (hg : X.A.guards = some []) (hu : X.A.units + 70 < cLine) : CallR X (.builtin "repr") (rRepr X.K) := by
  intro pins s σ H xs us Q I r ⟨x, p, hx, dp, hs, hd, hl, hdp, q⟩
  subst hx
  obtain ⟨u, rfl, ru⟩ := vals1 r
  obtain ⟨as, rd⟩ := Dp.reads I p x u dp ru
  cases rd with
  | none => exact PySem.P.repr_of_none ⟨.str _, H, I.tok _, ⟨_, rfl⟩, by simpa [PyData.shown] using q⟩
  | bool b => exact PySem.P.repr_of_bool ⟨.str _, H, I.tok _, ⟨_, rfl⟩, by simpa [PyData.shown] using q⟩
  | int i t => exact PySem.P.repr_of_int (by simpa [PyData.showable] using hs) ⟨.str _, H, I.tok _, ⟨_, rfl⟩, by simpa [PyData.shown] using q⟩
  | str y t => exact PySem.P.repr_of_str ⟨.str _, H, I.tok _, ⟨_, rfl⟩, by simpa [PyData.shown] using q⟩ (by simpa [PyData.shown] using hl)
  | list h1 h2 h3 h4 => exact repr_of_reads' (.list h1 h2 h3 h4) hs (fun z => by rw [hd] at z; cases z) hg (by omega) (fun _ _ e => e) (fun h' u tk hk => ⟨.str _, H, I.kept hk, ⟨_, rfl⟩, q⟩) hl
  | tuple h1 h2 h3 h4 => exact repr_of_reads' (.tuple h1 h2 h3 h4) hs (fun z => by rw [hd] at z; cases z) hg (by omega) (fun _ _ e => e) (fun h' u tk hk => ⟨.str _, H, I.kept hk, ⟨_, rfl⟩, q⟩) hl
  | dict h1 h2 h3 h4 h5 => simp [PyData.hasDict] at hd
theorem rd_repr {neg : Bool} {a b : Ex} {r2 : R2} (hr2 : ∀ (x : Str) (H : Hp) (Q : VK), Q (.bl (!neg)) H → r2 (.str x) (.str x) H Q) : ∀ σ H Q, tE X.K (bind1 (evf G call a) fun t => bind1 (evf G call b) fun u _ S => (Prim.reprC neg).run [t, u] S) σ H Q →
    tOp r2 (fun σ H Q => tE X.K (evf G call a) σ H fun v H1 => rRepr X.K [v] H1 Q) (fun σ H Q => tE X.K (evf G call b) σ H fun v H1 => rRepr X.K [v] H1 Q) σ H Q := by
  rintro σ H Q ⟨ρ, m, S, t, S', en, s, e, k⟩
  obtain ⟨t1, S1, e1, e⟩ := bind1_inv e
  obtain ⟨t2, S2, e2, e⟩ := bind1_inv e
  have e' : (match reprCT neg S2 t1 t2 with | some t => some (t, S2) | none => none) = some (t, S') := e
  split at e'
  · rename_i t' e3
    cases e'
    unfold reprCT at e3
    split at e3
    · rename_i p q p1 p2
      split at e3
      · rename_i hz
        cases e3
        obtain ⟨rfl, hs, hd, hl⟩ := hz
        refine then1 en s e1 fun v H1 m1 s1 f1 en1 r1 => ⟨v, p, rfl, (pdT_ok s1 r1.p (pdT_up S1 p1)).1, hs, hd, hl, pdT_deep s1 r1.p (pdT_up S1 p1), ?_⟩
        refine then1 en1 s1 e2 fun w H2 m2 s2 f2 en2 r2 => ⟨w, p, rfl, (pdT_ok s2 r2.p p2).1, hs, hd, hl, pdT_deep s2 r2.p p2, ?_⟩
        exact hr2 _ _ _ (fin_d s2 (mk_bl _) ((k.step s s1 f1).step s1 s2 f2))
      · cases e3
    · cases e3
  · cases e'
theorem se_reprC (c : COk X C G call) {neg : Bool} {op : CmpOp} {a b : Ex} {f g : Str} {e e' : Expr} {pf pg p1 p2 pos : Pos} (hf : blt C f "repr" = true) (hg : blt C g "repr" = true) (hs : notStar e = true) (hs' : notStar e' = true) (ho : op = (if neg then CmpOp.NotEq else CmpOp.Eq)) (ha : SE X G call a e) (hb : SE X G call b e') :
    SE X G call (.prim (.reprC neg) (.cons a (.cons b .nil))) (.Compare (.Call (.Name f pf) [e] [] p1) [op] [.Call (.Name g pg) [e'] [] p2] pos) := by
  obtain ⟨rfl, hg1, hm1⟩ := blt_ok c hf
  obtain ⟨rfl, hg2, hm2⟩ := blt_ok c hg
  have hu : X.A.units + 70 < cLine := by have := c.room.un; omega
  have one : ∀ {x : Ex} {y : Expr} {px pc : Pos}, notStar y = true → SE X G call x y → PE X (.Call (.Name "repr" px) [y] [] pc) (fun σ H Q => tE X.K (evf G call x) σ H fun v H1 => rRepr X.K [v] H1 Q) := fun {x y px pc} hy hx =>
    pe_callB (cr_repr c.gd hu) hg1 hm1 (by decide +kernel) (pa_cons hx.1 pa_nil (starEach_cons hy)) (by decide) (by decide) (starEach_cons hy) (any_star rfl)
  have hE : tE X.K (evf G call (.prim (.reprC neg) (.cons a (.cons b .nil)))) = _ := tE_congr fun ρ S => evP2
  have core : ∃ r2 : R2, OpR X (compareOp op) r2 ∧ ∀ (x : Str) (H : Hp) (Q : VK), Q (.bl (!neg)) H → r2 (.str x) (.str x) H Q := by
    cases neg
    · exact ⟨rEq, by rw [ho]; exact op_eq, fun x H Q q => ⟨rfl, by simpa using q⟩⟩
    · exact ⟨rNe, by rw [ho]; exact op_ne, fun x H Q q => ⟨rfl, by simpa using q⟩⟩
  obtain ⟨r2, h1, h2⟩ := core
  refine ⟨?_, fun _ => ?_⟩
  · rw [hE]
    exact pe_imp (pe_cmpR h1 (one hs ha) (one hs' hb) (behind_of rfl)) (rd_repr h2)
  · refine pt_imp (pt_cmpR h1 (one hs ha) (one hs' hb) (behind_of rfl)) fun σ H Q q => ?_
    have q2 := rd_tst σ H Q q
    rw [hE] at q2
    exact rd_repr h2 σ H _ q2
end
end F

/-! A checked expression is what we say: more methods, instances, dict of pairs. -/
namespace F
open PySem PySem.Spec PyProof.Rows L2
variable [Tb]
/-! ### setdefault -/
section
variable {X : Cx} {pins : List (Addr × Obj)} {σ : L2.St} {H : Hp} {s : Shared} {a b : Addr} {d : V} {u r : Value} {A : Around} {E : Value → Shared → Prop}
theorem d_setdT {kvs : List (List L2.Key × V)} {k : List L2.Key} {Q : Value → Shared → Prop} (hu : A.units + 1 < cLine) (I : Inv X pins σ H s) (e : H a = some (.dT kvs)) (eb : H b = some (.tup (k.map kV))) (rd : RelV d r) (hl : kvs.length < sizeLine)
    (h1 : ∀ v, valV kvs k = some v → ∀ (w' : Value) (s' : Shared), Inv X pins σ H s' → RelV v w' → Q w' s') (h2 : valV kvs k = none → ∀ (w' : Value) (s' : Shared), Inv X pins σ (upd H a (.dT (putK kvs k d))) s' → RelV d w' → Q w' s') :
    wpAny (model X.prog X.w) A (call (.builtin "dict.setdefault") [.ref a, .ref b, r]) Q E s := by
  obtain ⟨z, hd, xs, rel, dd⟩ := dt_of I.hok e
  have hz : xs.length ≤ sizeLine := by rw [← Paired.length rel]; exact z
  have hl2 : (putK kvs k d).length ≤ sizeLine := by have := length_putK kvs k d; omega
  refine call_setdefault_heap (hsz := hz) (tupleKind_room_in1 hu) (key_of I.hok eb) hd dd (fun p hp => ?_) fun hn h' dd' hs => ?_
  · have q := rel.val k
    rw [hp] at q
    cases q0 : valV kvs k with
    | none =>
      rw [q0] at q
      exact (show False from q).elim
    | some v0 =>
      rw [q0] at q
      exact h1 v0 q0 _ _ (I.tok _) q
  · have q := rel.val k
    rw [hn] at q
    cases q0 : valV kvs k with
    | some v0 =>
      rw [q0] at q
      exact (show False from q).elim
    | none =>
      obtain ⟨q, es, ep, hq, g2, g3, g4, _, g5⟩ := dd'
      refine h2 q0 _ _ (d_write (t' := s.toks + _) I (by rw [e]; exact True.intro) hs ⟨q, hq⟩ ⟨hl2, hd, _, (rel.put k eb rd).keeps fun c ys ec => ?_, q, es, ep, hq, g2, g3, g4, g5⟩) rd
      rw [upd_ne (ne_of ec e (fun z => nomatch z))]
      exact ec
end
def tSetdA (td ty tx : TE) : TE := fun σ H Q => td σ H fun x H1 => ∃ a, x = .ref a ∧ IsD H1 a ∧ ty σ H1 fun y H2 => tx σ H2 fun z H3 =>
  (∃ (kvs : List (L2.Key × V)) (k : L2.Key), H3 a = some (.dK kvs) ∧ y = kV k ∧ kvs.length < sizeLine ∧ (∀ v, valV kvs k = some v → Q v H3) ∧ (valV kvs k = none → Q z (upd H3 a (.dK (putK kvs k z))))) ∨
  ∃ (kvs : List (List L2.Key × V)) (k : List L2.Key) (b : Addr), H3 a = some (.dT kvs) ∧ y = .ref b ∧ H3 b = some (.tup (k.map kV)) ∧ kvs.length < sizeLine ∧ (∀ v, valV kvs k = some v → Q v H3) ∧ (valV kvs k = none → Q z (upd H3 a (.dT (putK kvs k z))))
section
variable {X : Cx} {C : Ctx} {G : List D} {call : Call}
theorem pe_setdA {o e f : Expr} {td ty tx : TE} {apos cpos : Pos} (hu : X.A.units + 1 < cLine) (ho : PE X o td) (he : PE X e ty) (hf : PE X f tx) (m : M2 X o "setdefault" apos e f cpos) : PE X (.Call (.Attribute o "setdefault" apos) [e, f] [] cpos) (tSetdA td ty tx) := by
  refine ⟨fun pins s σ H Q I h => ?_⟩
  refine wpAny_Call_method m.base m.few m.line PySem.F.plainAttrs_dict PySem.F.slot_dict_setdefault PySem.F.type_dict_setdefault (thn (ho.run pins s σ H _ I h) fun u s1 ⟨x, H1, I1, rx, a, ex, d, q1⟩ => ?_)
  subst ex
  obtain rfl : u = Value.ref a := rx
  obtain ⟨t1, t2, _⟩ := isD_at I1 d
  refine ⟨t1, t2, ?_⟩
  rw [m.trees]
  refine Calls.callWith_builtin rfl (Calls.evalArgs_plain (Calls.spliced_cons (thn (he.run pins s1 σ H1 _ I1 q1) fun iv s2 ⟨y, H2, I2, ry, q2⟩ =>
    Calls.spliced_cons (thn (hf.run pins s2 σ H2 _ I2 q2) fun fv s3 ⟨z, H3, I3, rz, q⟩ => Calls.spliced_nil ?_))))
  rcases q with ⟨kvs, k, ea, ey, hl, q3, q4⟩ | ⟨kvs, k, b, ea, ey, eb, hl, q3, q4⟩
  · subst ey
    exact d_setd I3 ea ry rz hl (fun v hv w' s4 I4 rw' => ⟨v, _, I4, rw', q3 v hv⟩) fun hn w' s4 I4 rw' => ⟨z, _, I4, rw', q4 hn⟩
  · subst ey
    obtain rfl : iv = Value.ref b := ry
    exact d_setdT hu I3 ea eb rz hl (fun v hv w' s4 I4 rw' => ⟨v, _, I4, rw', q3 v hv⟩) fun hn w' s4 I4 rw' => ⟨z, _, I4, rw', q4 hn⟩
theorem se_setdef (c : COk X C G call) {o a b : Ex} {e y z : Expr} {apos pos : Pos} (h0 : notCall0 e = true) (hl : apos.endLine = pos.line) (hs : notStar y = true) (hs2 : notStar z = true) (ho : SE X G call o e) (ha : SE X G call a y) (hb : SE X G call b z) :
    SE X G call (.meth .setdef o (.cons a (.cons b .nil))) (.Call (.Attribute e "setdefault" apos) [y, z] [] pos) := by
  have hu : X.A.units + 1 < cLine := by have := c.room.un; omega
  refine se_val (pe_imp (pe_setdA hu ho.1 ha.1 hb.1 (md2_m h0 hl hs hs2)) ?_) fun _ => rfl
  rintro σ H Q ⟨ρ, m, S, t, S', en, s, e, k⟩
  simp only [evf, ev, evs] at e
  split at e
  · rename_i t1 S1 e1
    split at e
    · rename_i hr
      split at e
      · rename_i ts S3 e2
        split at e2
        · rename_i t2 S2 e3
          split at e2
          · rename_i us S3' e4
            split at e4
            · rename_i t3 S3'' e5
              cases e4
              cases e2
              obtain ⟨n, rfl, hd⟩ := recv_set hr
              refine then1 en s e1 fun v H1 m1 s1 f1 en1 r1 => ?_
              have hd' : (match S1[n]? with | some (.dK _) => true | some (.dT _) => true | some (.fK _) => true | some (.fT _) => true | _ => false) = true := by
                rcases hd with ⟨kvs, e⟩ | ⟨kvs, e⟩ <;> rw [e]
              obtain ⟨a, rfl, ham, hi⟩ := isDict_ok s1 r1 hd'
              refine ⟨a, rfl, hi, then1 en1 s1 e3 fun u H2 m2 s2 f2 en2 r2 => ?_⟩
              refine then1 en2 s2 e5 fun w H3 m3 s3 f3 en3 r3 => ?_
              have e' : setdefT S3 (.d (.ref n)) t2 t3 = some (t, S') := e
              have k2 := (k.step s s1 f1).step s1 s2 f2
              have k3 := k2.step s2 s3 f3
              have ham3 : m3[n]? = some a := by
                obtain ⟨q, hq⟩ := (f2.trans f3).pre
                rw [hq, List.getElem?_append_left (List.getElem?_eq_some_iff.mp ham).1]; exact ham
              cases t2 with
              | tmp ds => cases e'
              | d kd =>
                have rk := (pp_d r2.p).kp (f3.kp s2)
                obtain ⟨m4, s4, f4, r4⟩ := norm_ok s3 f3 r3
                have ham4 : m4[n]? = some a := by
                  obtain ⟨q, hq⟩ := f4.pre
                  obtain ⟨q', hq'⟩ := f2.pre
                  rw [hq, hq', List.append_assoc, List.getElem?_append_left (List.getElem?_eq_some_iff.mp ham).1]; exact ham
                have hm4 : a ∈ m4 := List.mem_of_getElem? ham4
                have hS4 : ∀ o, S3[n]? = some o → (norm t3 S3).2[n]? = some o := fun o ho => by
                  cases t3 with
                  | d x => exact ho
                  | tmp ds => show (S3 ++ [O.lst ds])[n]? = _; rw [List.getElem?_append_left (List.getElem?_eq_some_iff.mp ho).1]; exact ho
                unfold setdefT at e'
                dsimp only at e'
                split at e'
                · rename_i kvs e7
                  split at e'
                  · rename_i q e8
                    split at e'
                    · rename_i hz
                      obtain ⟨rfl, ok⟩ := keyOf_ok e8 rk
                      obtain ⟨ws, h1, h2, h3, h4⟩ := s4.ob n _ a (hS4 _ e7) ham4
                      obtain ⟨ws', g1, g2, g3, g4⟩ := s3.ob n _ a e7 ham3
                      rw [h1] at g1
                      cases g1
                      have hl2 : ws.length = kvs.length := by
                        have := congrArg List.length h2
                        rw [List.length_map, List.length_map] at this; exact this.symm
                      refine .inl ⟨ws, q, h1, rfl, by rw [hl2]; exact hz, fun v0 hv => ?_, fun hn => ?_⟩
                      · rcases look_ok q g2 g3 with ⟨p1, p2⟩ | ⟨d', v', p1, p2, p3⟩
                        · rw [p2] at hv; cases hv
                        · rw [p2] at hv; cases hv
                          rw [p1] at e'
                          cases e'
                          exact fin_d s3 p3 k3
                      · rcases look_ok q g2 g3 with ⟨p1, p2⟩ | ⟨d', v', p1, p2, p3⟩
                        · rw [p1] at e'
                          cases e'
                          have f : Fr H3 m4 (upd H3 a (.dK (putK ws q w))) m4 := Fr.put hm4 (nf_dK h1)
                          obtain ⟨q1, q2, q3⟩ := storeK_ok (k := q) (Rep.kp (f.kp s4) r4) h2 (h3.kp (f.kp s4))
                          exact k2 w _ m4 (s4.set ham4 ⟨_, upd_same, q1, q2, fun z hz' => (q3 z hz').elim (fun e => e ▸ ok) (h4 z)⟩) (f4.trans f) (Rep.kp (f.kp s4) r4)
                        · rw [p2] at hn; cases hn
                    · cases e'
                  · cases e'
                · rename_i kvs e7
                  split at e'
                  · rename_i ks
                    split at e'
                    · rename_i q e8
                      split at e'
                      · rename_i hz
                        obtain ⟨b, xs, rfl, hb, rx'⟩ := rep_tup rk
                        obtain ⟨rfl, ok⟩ := keysOf_ok e8 rx'
                        obtain ⟨ws, h1, h2, h3, h4⟩ := s4.ob n _ a (hS4 _ e7) ham4
                        obtain ⟨ws', g1, g2, g3, g4⟩ := s3.ob n _ a e7 ham3
                        rw [h1] at g1
                        cases g1
                        have hl2 : ws.length = kvs.length := by
                          have := congrArg List.length h2
                          rw [List.length_map, List.length_map] at this; exact this.symm
                        refine .inr ⟨ws, q, b, h1, rfl, hb, by rw [hl2]; exact hz, fun v0 hv => ?_, fun hn => ?_⟩
                        · rcases look_ok q g2 g3 with ⟨p1, p2⟩ | ⟨d', v', p1, p2, p3⟩
                          · rw [p2] at hv; cases hv
                          · rw [p2] at hv; cases hv
                            rw [p1] at e'
                            cases e'
                            exact fin_d s3 p3 k3
                        · rcases look_ok q g2 g3 with ⟨p1, p2⟩ | ⟨d', v', p1, p2, p3⟩
                          · rw [p1] at e'
                            cases e'
                            have f : Fr H3 m4 (upd H3 a (.dT (putK ws q w))) m4 := Fr.put hm4 (nf_dT h1)
                            obtain ⟨q1, q2, q3⟩ := storeK_ok (k := q) (Rep.kp (f.kp s4) r4) h2 (h3.kp (f.kp s4))
                            exact k2 w _ m4 (s4.set ham4 ⟨_, upd_same, q1, q2, fun z hz' => (q3 z hz').elim (fun e => e ▸ ok) (h4 z)⟩) (f4.trans f) (Rep.kp (f.kp s4) r4)
                          · rw [p2] at hn; cases hn
                      · cases e'
                    · cases e'
                  · cases e'
                · cases e'
            · cases e4
          · cases e2
        · cases e2
      · cases e
    · cases e
  · cases e
/-! ### methods of lists -/
theorem list_ty {K : PySem.W.Frag} {H : Hp} {m : List Addr} {S : Store} {n : Nat} {v : V} {ds : List D} (hs : SR K H m S) (r : Rep K H m (.ref n) v) (h : S[n]? = some (.lst ds)) : tyV K "list" v H := by
  obtain ⟨a, rfl, ha⟩ := rep_ref r
  obtain ⟨o, eo, ro⟩ := hs.at ha
  rw [h] at eo; cases eo
  obtain ⟨ys, h1, _⟩ := ro
  exact .inl ⟨rfl, ys, SqL.of h1⟩
theorem recv_lst {p : Prim} {t : T} {S : Store} (hp : p = .popEnd ∨ p = .insert) (h : recvOk p t S = true) : ∃ n ds, t = .d (.ref n) ∧ S[n]? = some (.lst ds) := by
  cases t with
  | tmp ds => rcases hp with rfl | rfl <;> exact absurd h (by simp [recvOk])
  | d x =>
    cases x with
    | ref n =>
      rcases hp with rfl | rfl
      · simp only [recvOk] at h
        split at h
        · exact ⟨n, _, rfl, by assumption⟩
        · cases h
      · simp only [recvOk] at h
        split at h
        · exact ⟨n, _, rfl, by assumption⟩
        · cases h
    | _ => rcases hp with rfl | rfl <;> exact absurd h (by simp [recvOk])
theorem se_popEnd {o : Ex} {e : Expr} {apos pos : Pos} (h0 : notCall0 e = true) (hl : apos.endLine = pos.line) (ho : SE X G call o e) : SE X G call (.meth .popEnd o .nil) (.Call (.Attribute e "pop" apos) [] [] pos) := by
  refine se_val ?_ fun _ => rfl
  refine pe_imp (pe_bm0 PySem.F.plainAttrs_list PySem.F.slot_list_pop PySem.F.type_list_pop m_popEnd ho.1 (attrBase_of h0) (by rw [hl]; exact beq_self_eq_true _)) ?_
  rintro σ H Q ⟨ρ, m, S, t, S', en, s, e, k⟩
  simp only [evf, ev, evs] at e
  split at e
  · rename_i t1 S1 e1
    split at e
    · rename_i hr
      obtain ⟨n, ds, rfl, hd⟩ := recv_lst (.inl rfl) hr
      have e' : popEndT S1 (.d (.ref n)) = some (t, S') := e
      refine then1 en s e1 fun v H1 m1 s1 f1 en1 r1 => ⟨list_ty s1 (pp_d r1.p) hd, rfl, _, m1, S1, t, S', s1, r1.p, e', k.step s s1 f1⟩
    · cases e
  · cases e
theorem se_insert (c : COk X C G call) {o a b : Ex} {e y z : Expr} {apos pos : Pos} (h0 : notCall0 e = true) (hl : apos.endLine = pos.line) (hs : notStar y = true) (hs2 : notStar z = true) (ho : SE X G call o e) (ha : SE X G call a y) (hb : SE X G call b z) :
    SE X G call (.meth .insert o (.cons a (.cons b .nil))) (.Call (.Attribute e "insert" apos) [y, z] [] pos) := by
  refine se_val (pe_imp (pe_bm PySem.F.plainAttrs_list PySem.F.slot_list_insert PySem.F.type_list_insert mt_insert ho.1 (pa_cons ha.1 (pa_cons hb.1 pa_nil (starEach_cons hs2)) (starEach_cons hs)) (attrBase_of h0) (by rw [starEach_cons hs, starEach_cons hs2]; rfl) (by rw [hl]; exact beq_self_eq_true _) (starEach_cons hs) (by rw [starEach_cons hs2]; rfl)) ?_) fun _ => rfl
  rintro σ H Q ⟨ρ, m, S, t, S', en, s, e, k⟩
  simp only [evf, ev, evs] at e
  split at e
  · rename_i t1 S1 e1
    split at e
    · rename_i hr
      split at e
      · rename_i ts S3 e2
        split at e2
        · rename_i t2 S2 e3
          split at e2
          · rename_i us S3' e4
            split at e4
            · rename_i t3 S3'' e5
              cases e4
              cases e2
              obtain ⟨n, ds0, rfl, hd⟩ := recv_lst (.inr rfl) hr
              have e' : insertT S3 (.d (.ref n)) t2 t3 = some (t, S') := e
              refine then1 en s e1 fun v H1 m1 s1 f1 en1 r1 => ⟨list_ty s1 (pp_d r1.p) hd, ?_⟩
              obtain ⟨a, rfl, ha1⟩ := rep_ref (pp_d r1.p)
              refine then1 en1 s1 e3 fun u H2 m2 s2 f2 en2 r2 => ?_
              refine then1 en2 s2 e5 fun w H3 m3 s3 f3 en3 r3 => ?_
              have k2 := (k.step s s1 f1).step s1 s2 f2
              obtain ⟨m4, s4, f4, r4⟩ := norm_ok s3 f3 r3
              have ham4 : m4[n]? = some a := by
                obtain ⟨q, hq⟩ := f4.pre
                obtain ⟨q', hq'⟩ := f2.pre
                rw [hq, hq', List.append_assoc, List.getElem?_append_left (List.getElem?_eq_some_iff.mp ha1).1]; exact ha1
              cases t2 with
              | tmp _ => cases e'
              | d kd =>
                cases kd with
                | int i =>
                  simp only [insertT] at e'
                  split at e'
                  · rename_i ds e7
                    split at e'
                    · rename_i hz
                      cases e'
                      obtain ⟨ys, h1, h2⟩ := s4.ob n _ a e7 ham4
                      have hm : a ∈ m4 := List.mem_of_getElem? ham4
                      have f : Fr H3 m4 (upd H3 a (.lst (ys.take i.toNat ++ [w] ++ ys.drop i.toNat))) m4 := Fr.put hm (nf_lst h1)
                      refine ⟨a, ys, i, w, rfl, by rw [pp_int r2.p], h1, by rw [← h2.len]; exact hz.1, hz.2.1, hz.2.2, ?_⟩
                      exact k2 .non _ m4 (s4.set ham4 ⟨_, upd_same, (((h2.take _).app (.cons r4 .nil)).app (h2.drop _)).kp (f.kp s4)⟩) (f4.trans f) (show Rep X.K (upd H3 a (.lst (ys.take i.toNat ++ [w] ++ ys.drop i.toNat))) m4 .non .non from mk_non)
                    · cases e'
                  · cases e'
                | _ => cases e'
            · cases e4
          · cases e2
        · cases e2
      · cases e
    · cases e
  · cases e
/-! ### instances -/
theorem fld_ok {K : PySem.W.Frag} {H : Hp} {m : List Addr} (f : Str) : ∀ {fs : List (Str × D)} {ws : List (Str × V)}, fs.map (·.1) = ws.map (·.1) → RepL K H m (fs.map (·.2)) (ws.map (·.2)) →
    (fs.lookup f = none ∧ ws.lookup f = none) ∨ ∃ d v, fs.lookup f = some d ∧ ws.lookup f = some v ∧ Rep K H m d v
  | [], [], _, _ => .inl ⟨rfl, rfl⟩
  | [], _ :: _, e, _ => nomatch e
  | _ :: _, [], e, _ => nomatch e
  | (k1, d) :: fs, (k2, v) :: ws, e, r => by
    simp only [List.map_cons, List.cons.injEq] at e
    obtain ⟨rfl, e⟩ := e
    obtain ⟨y, ys, e2, r1, t⟩ := r.cons_inv
    simp only [List.map_cons, List.cons.injEq] at e2
    obtain ⟨rfl, rfl⟩ := e2
    rw [List.lookup_cons, List.lookup_cons]
    cases hk : (f == k1)
    · exact fld_ok f e t
    · exact .inr ⟨d, v, rfl, rfl, r1⟩
theorem putF_ok {K : PySem.W.Frag} {H : Hp} {m : List Addr} {f : Str} {d : D} {v : V} (rd : Rep K H m d v) : ∀ {fs : List (Str × D)} {ws : List (Str × V)}, fs.map (·.1) = ws.map (·.1) → RepL K H m (fs.map (·.2)) (ws.map (·.2)) →
    (putFD f d fs).map (·.1) = (putF f v ws).map (·.1) ∧ RepL K H m ((putFD f d fs).map (·.2)) ((putF f v ws).map (·.2))
  | [], [], _, _ => ⟨rfl, .cons rd .nil⟩
  | [], _ :: _, e, _ => nomatch e
  | _ :: _, [], e, _ => nomatch e
  | (k1, d1) :: fs, (k2, v1) :: ws, e, r => by
    simp only [List.map_cons, List.cons.injEq] at e
    obtain ⟨rfl, e⟩ := e
    obtain ⟨y, ys, e2, r1, t⟩ := r.cons_inv
    simp only [List.map_cons, List.cons.injEq] at e2
    obtain ⟨rfl, rfl⟩ := e2
    rw [putFD, putF]
    obtain ⟨h1, h2⟩ := putF_ok rd e t
    by_cases hk : k1 = f
    · rw [if_pos hk, if_pos hk]
      exact ⟨by rw [List.map_cons, List.map_cons, e], .cons rd t⟩
    · rw [if_neg hk, if_neg hk]
      exact ⟨by rw [List.map_cons, List.map_cons, h1], .cons r1 h2⟩
theorem se_fld (c : COk X C G call) {cs : List Str} {o : Ex} {f : Str} {e : Expr} {pos : Pos} (h0 : notCall0 e = true) (hc : ∀ x ∈ cs, (x, f) ∈ C.fa) (ho : SE X G call o e) : SE X G call (.fld cs o f) (.Attribute e f pos) := by
  refine se_val (pe_imp (pe_fld ho.1 (attrBase_of h0)) ?_) fun _ => rfl
  rintro σ H Q ⟨ρ, m, S, t, S', en, s, e, k⟩
  simp only [evf, ev] at e
  split at e
  · rename_i t1 S1 e1
    split at e
    · rename_i x e2
      cases e
      refine then1 en s e1 fun v H1 m1 s1 f1 en1 r1 => ?_
      unfold fldT at e2
      split at e2
      · rename_i n
        split at e2
        · rename_i cn fs e3
          split at e2
          · rename_i hcn
            obtain ⟨a, rfl, ha⟩ := rep_ref (pp_d r1.p)
            obtain ⟨C1, dx, ws, h1, h2, h3, h4, h5⟩ := s1.ob n _ a e3 ha
            obtain ⟨C0, g1, g2, g3⟩ := c.fa cn f (hc cn hcn)
            rw [g1] at h2
            cases h2
            rcases fld_ok f h3 h4 with ⟨p1, p2⟩ | ⟨d', v', p1, p2, p3⟩
            · unfold lookF at e2
              rw [p1] at e2; cases e2
            · unfold lookF at e2
              rw [p1] at e2; cases e2
              exact ⟨a, _, dx, ws, v', rfl, h1, g2, g3, p2, fin_d s1 p3 (k.step s s1 f1)⟩
          · cases e2
        · cases e2
      · cases e2
    · cases e
  · cases e
theorem meth_eq {o : Expr} {m : Str} {apos pos : Pos} {args : List Expr} {env : PySem.Env} (hb : attributeBase o m env (eval o env) = eval o env) (hf : (backTo pos (starEach args env)).any (·.1) = false) (hn : args.length < 20) (hl : apos.endLine = pos.line) :
    eval (.Call (.Attribute o m apos) args [] pos) env = (do
      let ov ← eval o env
      standAt apos.atName
      let (f, first) ← holding [ov] (getMethod ov m (do return (← importBound o env).getD true))
      callWith pos f first (backTo pos (starEach args env)) (backToKw pos (keywordEach [] env))) := by
  have hform : methodCallForm (args.length + ([] : List Keyword).length) (backTo pos (starEach args env)) (backToKw pos (keywordEach [] env)) = true := by
    unfold methodCallForm
    have h1 : (backTo pos (starEach args env)).all (fun x => !x.1) = true := by
      rw [List.all_eq_true]
      intro x hx
      rw [List.any_eq_false] at hf
      simpa using hf x hx
    rw [h1]
    show (true && true && decide (args.length + 0 + 0 < 30)) = true
    rw [decide_eq_true (by omega)]
    rfl
  have hpos : methodCallPos true o env apos pos = pure pos := by
    unfold methodCallPos
    rw [hl]
    simp
  rw [arm_eval_Call, hb]
  unfold methodCall
  rw [hform, hpos]
  rfl
theorem se_mcall (c : COk X C G call) {tb : List (Str × Nat)} {o : Ex} {m : Str} {as : Exs} {e : Expr} {es : List Expr} {apos pos : Pos} (h0 : notCall0 e = true) (hl : apos.endLine = pos.line) (hn : es.length < 20) (hm : m ≠ ("__init__" : Str)) (hc : ∀ p ∈ tb, (p.1, m, p.2) ∈ C.ms) (ho : SE X G call o e) (ha : SEs X G call as es) :
    SE X G call (.mcall tb o m as) (.Call (.Attribute e m apos) es [] pos) := by
  have st := ha.star
  refine se_val ⟨fun pins s0 σ H Q I h => ?_⟩ fun _ => rfl
  obtain ⟨ρ, mm, S, t, S', en, s, e, k⟩ := h
  simp only [evf, ev] at e
  split at e
  · rename_i t1 S1 e1
    split at e
    · rename_i i e2
      split at e
      · rename_i ds S2 e3
        split at e
        · rename_i x S3 e4
          cases e
          refine methcall_of ho.1 I (then1 en s e1 fun v H1 m1 s1 f1 en1 r1 => ?_) (meth_eq (attrBase_of h0) (any_star st) hn hl)
          unfold methT at e2
          split at e2
          · rename_i n
            split at e2
            · rename_i cn fs e5
              split at e2
              · rename_i hno
                obtain ⟨a, rfl, ham⟩ := rep_ref (pp_d r1.p)
                obtain ⟨C1, dx, ws, h1, h2, h3, h4, h5⟩ := s1.ob n _ a e5 ham
                have hmem : (cn, i) ∈ tb := by
                  have := PySem.mem_of_lookup e2
                  exact this
                obtain ⟨C0, kk, fa, fd, ps, g1, g2, g3, g4, g5, g6, g7, g8, g9⟩ := c.ms cn m i (hc _ hmem)
                rw [g1] at h2
                cases h2
                have hM := g7 hm
                have hln : ws.lookup m = none := by
                  rcases fld_ok m h3 h4 with ⟨p1, p2⟩ | ⟨d', v', p1, p2, p3⟩
                  · exact p2
                  · unfold lookF at hno
                    rw [p1] at hno; cases hno
                refine ⟨a, _, dx, ws, fa, rfl, h1, g3, hM, hln, fun s1' I1 => ?_⟩
                have body : ∀ {vs : List V} {H2 : Hp} {m2 : List Addr}, SR X.K H2 m2 S2 → Fr H1 m1 H2 m2 → RepL X.K H2 m2 ds vs → spC X.K call i (.ref a :: vs) H2 Q E0 := fun {vs H2 m2} s2 f2 r2 => by
                  refine ⟨m2, S2, .ref n :: ds, x, _, s2, .cons (show Rep X.K H2 m2 (.ref n) (.ref a) from Rep.kp (f2.kp s1) (mk_ref ham)) r2, e4, fun v H3 m3 s3 f3 r3 => ?_⟩
                  exact (k.step s s1 f1) v H3 m3 s3 (f2.trans f3) r3
                cases es with
                | nil =>
                  cases ha with
                  | nil =>
                    have e3' : some (([] : List D), S1) = some (ds, S2) := by rw [← e3]; simp only [evDs]
                    cases e3'
                    exact PySem.W.callWith_K0 (first := [.ref a]) I1.kIn hM.kp (run_fnG (us := [.ref a]) (vs := [.ref a]) g4 c.gd (g5.mono (Nat.le_succ _)) g8 pass0 I1 (.cons rfl .nil) (body s1 .refl .nil))
                | cons y ys =>
                  rw [List.all_cons, Bool.and_eq_true] at st
                  refine PySem.W.callWith_K (first := [.ref a]) (h₀ := X.base) I1.ok.mod.kin hM.kp (thn (ha.ds.run pos pins s1' σ H1 (fun vs H2 => spC X.K call i (.ref a :: vs) H2 Q E0) I1 ⟨ρ, m1, S1, ds, S2, en1, s1, e3, fun vs H2 m2 s2 f2 r2 => body s2 f2 r2⟩) fun us s2 ⟨vs, H2, I2, r, q2⟩ => ⟨I2.kIn, ?_⟩) (starEach_cons st.1) (any_star st.2)
                  exact run_fnG (us := .ref a :: us) (vs := .ref a :: vs) g4 c.gd (g5.mono (Nat.le_succ _)) g8 pass0 I2 (.cons rfl r) q2
              · cases e2
            · cases e2
          · cases e2
        · cases e
      · cases e
    · cases e
  · cases e
theorem se_make (c : COk X C G call) {cn : Str} {i : Nat} {as : Exs} {x : Str} {e : Expr} {es : List Expr} {px pos : Pos} (hx : x = cn) (hi : (cn, ("__init__" : Str), i) ∈ C.ms) (h2 : gloB C.sc x = true) (h3 : notDbg x = true) (ha : SEs X G call as (e :: es)) : SE X G call (.make cn i as) (.Call (.Name x px) (e :: es) [] pos) := by
  subst hx
  have st := ha.star
  rw [List.all_cons, Bool.and_eq_true] at st
  obtain ⟨C0, kk, fa, fd, ps, g1, g2, g3, g4, g5, g6, g7, g8, g9⟩ := c.ms x "__init__" i hi
  refine se_val (pe_imp (pe_makeG (g6 rfl).1 g4 c.gd g5 (glo_ok c h2) g2 g8 pass0 ha.ds (dbg_ok h3).1 (starEach_cons st.1) (any_star st.2)) ?_) fun _ => rfl
  rintro σ H Q ⟨ρ, m, S, t, S', en, s, e, k⟩
  simp only [evf, ev] at e
  split at e
  · rename_i ds S1 e1
    split at e
    · rename_i S2 e2
      cases e
      refine ⟨ρ, m, S, ds, S1, en, s, e1, fun vs H1 m1 s1 f1 r1 => ?_⟩
      intro p dx np nd ne
      have np' : (upd H1 dx (.own p)) p = none := by rw [upd_ne (fun z => ne z.symm)]; exact np
      have s2 := (s1.new (o := .own p) nd).new (o := .ins C0 dx []) np'
      have f2 : Fr H1 m1 (upd (upd H1 dx (.own p)) p (.ins C0 dx [])) m1 := (Fr.new nd).trans (Fr.new np')
      have s3 : SR X.K (upd (upd H1 dx (.own p)) p (.ins C0 dx [])) (m1 ++ [p]) (S1 ++ [.obj x []]) := s2.app (s1.nnone np) ⟨C0, dx, [], upd_same, g1, rfl, .nil, (g6 rfl).2⟩
      have f3 : Fr H1 m1 (upd (upd H1 dx (.own p)) p (.ins C0 dx [])) (m1 ++ [p]) := f2.join np
      have hp : (m1 ++ [p])[S1.length]? = some p := by rw [← s1.len, List.getElem?_append_right (Nat.le_refl _), Nat.sub_self]; rfl
      refine ⟨m1 ++ [p], S1 ++ [.obj x []], .ref S1.length :: ds, .non, _, s3, .cons (mk_ref hp) (r1.kp (f3.kp s1)), e2, fun v H2 m2 s4 f4 r4 => ⟨rep_non r4, ?_⟩⟩
      refine (k.step s s1 f1) _ H2 m2 s4 (f3.trans f4) (show Rep X.K H2 m2 (.ref S1.length) (.ref p) from mk_ref ?_)
      obtain ⟨q, hq⟩ := f4.pre
      rw [hq, List.getElem?_append_left (List.getElem?_eq_some_iff.mp hp).1]
      exact hp
    · cases e
  · cases e
/-! ### dict(pairs), tuple(reversed(list)) -/
theorem pairs_ok {K : PySem.W.Frag} {H : Hp} {m : List Addr} : ∀ {ds : List D} {xs : List V} {kvs : List (L2.Key × D)}, RepL K H m ds xs → pairsOf ds = some kvs → ∃ (ps : List Addr) (ws : List (L2.Key × V)), xs = ps.map V.ref ∧ Paired (fun p kv => SqT K H p [kV kv.1, kv.2]) ps ws ∧
    kvs.map (·.1) = ws.map (·.1) ∧ RepL K H m (kvs.map (·.2)) (ws.map (·.2)) ∧ ∀ k ∈ kvs.map (·.1), kOk k = true
  | [], xs, kvs, r, e => by
    rw [r.nil_inv]
    cases e
    exact ⟨[], [], rfl, .nil, rfl, .nil, fun _ z => nomatch z⟩
  | d :: ds, xs, kvs, r, e => by
    unfold pairsOf at e
    split at e
    · rename_i heq
      cases heq
    · rename_i k v r' heq
      cases heq
      split at e
      · rename_i q kvs' e1 e2
        cases e
        obtain ⟨y, ys, rfl, r1, r2⟩ := r.cons_inv
        obtain ⟨ps, ws, rfl, h1, h2, h3, h4⟩ := pairs_ok r2 e2
        obtain ⟨a, zs, rfl, hz, rz⟩ := rep_tup r1
        obtain ⟨z1, zs1, rfl, rz1, rz2⟩ := rz.cons_inv
        obtain ⟨z2, zs2, rfl, rz3, rz4⟩ := rz2.cons_inv
        rw [rz4.nil_inv] at hz
        obtain ⟨rfl, ok⟩ := keyOf_ok e1 rz1
        refine ⟨a :: ps, (q, z2) :: ws, rfl, .cons (SqT.of hz) h1, by rw [List.map_cons, List.map_cons, h2], .cons rz3 h3, fun k hk => ?_⟩
        rcases List.mem_cons.mp hk with rfl | hk
        · exact ok
        · exact h4 k hk
      · cases e
    · cases e
theorem merge_ok {K : PySem.W.Frag} {H : Hp} {m : List Addr} : ∀ {kvs : List (L2.Key × D)} {ws : List (L2.Key × V)} {kvs0 : List (L2.Key × D)} {ws0 : List (L2.Key × V)}, kvs.map (·.1) = ws.map (·.1) → RepL K H m (kvs.map (·.2)) (ws.map (·.2)) → (∀ k ∈ kvs.map (·.1), kOk k = true) →
    kvs0.map (·.1) = ws0.map (·.1) → RepL K H m (kvs0.map (·.2)) (ws0.map (·.2)) → (∀ k ∈ kvs0.map (·.1), kOk k = true) →
    (kvs.foldl (fun m kv => storeK m kv.1 kv.2) kvs0).map (·.1) = (mergeK ws0 ws).map (·.1) ∧ RepL K H m ((kvs.foldl (fun m kv => storeK m kv.1 kv.2) kvs0).map (·.2)) ((mergeK ws0 ws).map (·.2)) ∧ ∀ k ∈ (kvs.foldl (fun m kv => storeK m kv.1 kv.2) kvs0).map (·.1), kOk k = true
  | [], [], kvs0, ws0, _, _, _, a, b, c => ⟨a, b, c⟩
  | [], _ :: _, _, _, e, _, _, _, _, _ => nomatch e
  | _ :: _, [], _, _, e, _, _, _, _, _ => nomatch e
  | (k1, d) :: kvs, (k2, v) :: ws, kvs0, ws0, e, r, ok, a, b, c => by
    simp only [List.map_cons, List.cons.injEq] at e
    obtain ⟨rfl, e⟩ := e
    obtain ⟨y, ys, e2, r1, t⟩ := r.cons_inv
    simp only [List.map_cons, List.cons.injEq] at e2
    obtain ⟨rfl, rfl⟩ := e2
    obtain ⟨q1, q2, q3⟩ := storeK_ok (k := k1) r1 a b
    refine merge_ok (kvs := kvs) (ws := ws) e t (fun k hk => ok k (List.mem_cons_of_mem _ hk)) q1 q2 fun k hk => ?_
    rcases q3 k hk with rfl | hk
    · exact ok _ List.mem_cons_self
    · exact c k hk
theorem RepL.upd_new {K : PySem.W.Frag} {H : Hp} {m : List Addr} {S : Store} {p : Addr} {o : HO} {ds : List D} {xs : List V} (s : SR K H m S) (np : H p = none) (r : RepL K H m ds xs) : RepL K (upd H p o) m ds xs := r.kp ((Fr.new np).kp s)
theorem se_dictP (c : COk X C G call) {a : Ex} {f : Str} {e : Expr} {pf pos : Pos} (hf : blt C f "dict" = true) (hs : notStar e = true) (ha : SE X G call a e) : SE X G call (.prim .dictP (.cons a .nil)) (.Call (.Name f pf) [e] [] pos) := by
  obtain ⟨rfl, hg1, hm1⟩ := blt_ok c hf
  refine se_val ?_ fun _ => rfl
  unfold evf
  rw [tE_congr fun ρ S => evP1]
  refine pe_imp (pe_callTy (call_dictP c.calm) hg1 hm1 (by decide +kernel) (pa_cons ha.1 pa_nil (starEach_cons hs)) (by decide) (by decide) (starEach_cons hs) (any_star rfl)) ?_
  rintro σ H Q ⟨ρ, m, S, t, S', en, s, e, k⟩
  obtain ⟨t1, S1, e1, e⟩ := bind1_inv e
  have e' : dictPT S1 t1 = some (t, S') := e
  unfold dictPT at e'
  split at e'
  · rename_i ds e2
    split at e'
    · rename_i kvs e3
      cases e'
      refine then1 en s e1 fun v H1 m1 s1 f1 en1 r1 => ?_
      obtain ⟨l, ys, rfl, hq, hr⟩ := lstOf_ok s1 r1.p e2
      obtain ⟨ps, ws, rfl, h1, h2, h3, h4⟩ := pairs_ok hr e3
      refine ⟨l, ps, ws, rfl, hq, h1, fun p np => ?_⟩
      obtain ⟨q1, q2, q3⟩ := merge_ok (kvs0 := []) (ws0 := []) h2 (RepL.upd_new (o := .dK (mergeK [] ws)) s1 np h3) h4 rfl .nil fun _ z => nomatch z
      exact fin_new (o := .dK (mergeD kvs)) s1 np ⟨_, upd_same, q1, q2, q3⟩ (k.step s s1 f1)
    · cases e'
  · cases e'
theorem se_tupRev (c : COk X C G call) {a : Ex} {f g : Str} {e : Expr} {pf pg pr pos : Pos} (hf : blt C f "tuple" = true) (hg : blt C g "reversed" = true) (hs : notStar e = true) (ha : SE X G call a e) : SE X G call (.prim .tupRev (.cons a .nil)) (.Call (.Name f pf) [.Call (.Name g pg) [e] [] pr] [] pos) := by
  obtain ⟨rfl, hg1, hm1⟩ := blt_ok c hf
  obtain ⟨rfl, hg2, hm2⟩ := blt_ok c hg
  refine se_val ?_ fun _ => rfl
  unfold evf
  rw [tE_congr fun ρ S => evP1]
  refine pe_imp (RT.pe_tupRev c.calm hg1 hm1 hg2 hm2 ha.1 (starEach_cons hs)) ?_
  rintro σ H Q ⟨ρ, m, S, t, S', en, s, e, k⟩
  obtain ⟨t1, S1, e1, e⟩ := bind1_inv e
  have e' : (match tupRevT S1 t1 with | some t => some (t, S1) | none => none) = some (t, S') := e
  split at e'
  · rename_i t' e2
    cases e'
    unfold tupRevT at e2
    split at e2
    · rename_i ds e3
      cases e2
      refine then1 en s e1 fun v H1 m1 s1 f1 en1 r1 => ?_
      obtain ⟨l, ys, rfl, hq, hr⟩ := lstOf_ok s1 r1.p e3
      exact ⟨l, ys, rfl, hq, fun p np => fin_tup s1 np hr.rev (k.step s s1 f1)⟩
    · cases e2
  · cases e'
end
end F

/-! What a loop walks; targets. -/
namespace F
open PySem PySem.Spec PyProof.Rows L2
variable [Tb]

structure ItS (K : PySem.W.Frag) (J : L2.It) (H1 : Hp) (m1 : List Addr) (ds : List D) (ch : Live) : Prop where
  turn : ∀ (i : Nat) H m S, Fr H1 m1 H m → SR K H m S → chk ch S → (ds.length ≤ i → J.stop i H) ∧ ∀ d, ds[i]? = some d → J.go i H ∧ ∀ x H', J.yld i H x H' → Rep K H' m d x ∧ SR K H' m S ∧ Fr H m H' m
/-- a dict is walked -/
def isF : O → Bool
  | .fK _ => true | .fT _ => true | _ => false
/-- the dicts that are walked were free before -/
def NFs (X : Cx) (H0 : Hp) (m : List Addr) (ch : Live) : Prop := ∀ p ∈ ch, isF p.2 = true → ∃ a, m[p.1]? = some a ∧ NFr X.H_0 a ∧ NFr H0 a
theorem nfs_nil {X : Cx} {H0 : Hp} {m : List Addr} : NFs X H0 m [] := fun _ z => nomatch z
theorem nfs_live {X : Cx} {H0 : Hp} {m : List Addr} {t : T} {ds : List D} : NFs X H0 m (liveOf t ds) := fun p hp hf => by
  unfold liveOf at hp
  split at hp
  · rw [List.mem_singleton] at hp; rw [hp] at hf; cases hf
  · cases hp
theorem nfs_app {X : Cx} {H0 : Hp} {m : List Addr} {a b : Live} (ha : NFs X H0 m a) (hb : NFs X H0 m b) : NFs X H0 m (a ++ b) := fun p hp hf => (List.mem_append.mp hp).elim (fun z => ha p z hf) fun z => hb p z hf
def tIt (X : Cx) (f : Env → Store → Option (List D × Live × Store)) : TI := fun σ H R => ∃ ρ m S ds ch S', EnvR X.K H m ρ σ ∧ SR X.K H m S ∧ f ρ S = some (ds, ch, S') ∧ ∀ J H' m', SR X.K H' m' S' → Fr H m H' m' → NFs X H m' ch → ItS X.K J H' m' ds ch → R J H'
section
variable {K : PySem.W.Frag} {H1 : Hp} {m1 : List Addr} {ds : List D} {ch : Live}
theorem itl_ok {a : Addr} (h : ∀ H m S, Fr H1 m1 H m → SR K H m S → chk ch S → ∃ xs, SqL K H a xs ∧ RepL K H m ds xs) : ItS K (Itl K a) H1 m1 ds ch := by
  refine ⟨fun i H m S f s c => ?_⟩
  obtain ⟨xs, hq, hr⟩ := h H m S f s c
  refine ⟨fun hl => ⟨xs, hq, by rw [← hr.len]; exact hl⟩, fun d hd => ?_⟩
  obtain ⟨v, h1, h2⟩ := hr.get hd
  refine ⟨⟨xs, v, hq, h1⟩, fun x H' hy => ?_⟩
  obtain ⟨rfl, hy⟩ := hy
  have e := hy xs hq
  rw [h1] at e; cases e
  exact ⟨h2, s, .refl⟩
theorem itt_ok {a : Addr} (h : ∀ H m S, Fr H1 m1 H m → SR K H m S → chk ch S → ∃ xs, SqT K H a xs ∧ RepL K H m ds xs) : ItS K (Itt K a) H1 m1 ds ch := by
  refine ⟨fun i H m S f s c => ?_⟩
  obtain ⟨xs, hq, hr⟩ := h H m S f s c
  refine ⟨fun hl => ⟨xs, hq, by rw [← hr.len]; exact hl⟩, fun d hd => ?_⟩
  obtain ⟨v, h1, h2⟩ := hr.get hd
  refine ⟨⟨xs, v, hq, h1⟩, fun x H' hy => ?_⟩
  obtain ⟨rfl, hy⟩ := hy
  have e := hy xs hq
  rw [h1] at e; cases e
  exact ⟨h2, s, .refl⟩
/-- a list that is read, through the loop -/
theorem live_ok {S1 : Store} {t : T} {v : V} (s1 : SR K H1 m1 S1) (r : RepP K H1 m1 t v) (e : lstOf S1 t = some ds) : ∃ a, v = .ref a ∧ (∃ xs, SqL K H1 a xs) ∧
    ∀ H m S, Fr H1 m1 H m → SR K H m S → chk (liveOf t ds) S → ∃ xs, SqL K H a xs ∧ RepL K H m ds xs := by
  cases t with
  | tmp es =>
    cases e
    obtain ⟨a, xs, rfl, h2, n, r⟩ := r
    refine ⟨a, rfl, ⟨xs, SqL.of h2⟩, fun H m S f s c => ⟨xs, SqL.of (f.keep a _ h2 n).1, r.kp (f.kp s1)⟩⟩
  | d x =>
    cases x with
    | rol es =>
      cases e
      obtain ⟨a, xs, rfl, h, r⟩ := rep_rol (pp_d r)
      refine ⟨a, rfl, ⟨xs, h.sq⟩, fun H m S f s c => ?_⟩
      have := Rep.kp (f.kp s1) (show Rep K H1 m1 (.rol ds) (.ref a) by unfold Rep; exact ⟨a, xs, rfl, h, r⟩)
      obtain ⟨a', xs', e1, h', r'⟩ := rep_rol this
      cases e1
      exact ⟨xs', h'.sq, r'⟩
    | ref n =>
      obtain ⟨a, rfl, h⟩ := rep_ref (pp_d r)
      obtain ⟨o, e1, r1⟩ := s1.at h
      simp only [lstOf, e1] at e
      cases o with
      | lst es =>
        cases e
        obtain ⟨xs, h1, r2⟩ := r1
        refine ⟨a, rfl, ⟨xs, SqL.of h1⟩, fun H m S f s c => ?_⟩
        have c1 : S[n]? = some (.lst ds) := c (n, .lst ds) (by simp [liveOf])
        obtain ⟨q, hq⟩ := f.pre
        have ha : m[n]? = some a := by rw [hq, List.getElem?_append_left (List.getElem?_eq_some_iff.mp h).1]; exact h
        obtain ⟨ys, h3, h4⟩ := s.ob n _ a c1 ha
        exact ⟨ys, SqL.of h3, h4⟩
      | _ => cases e
    | _ => cases e
theorem liveT_ok {S1 : Store} {t : T} {v : V} (s1 : SR K H1 m1 S1) (r : RepP K H1 m1 t v) (e : tupOf t = some ds) : ∃ a, v = .ref a ∧ (∃ xs, SqT K H1 a xs) ∧
    ∀ H m S, Fr H1 m1 H m → SR K H m S → ∃ xs, SqT K H a xs ∧ RepL K H m ds xs := by
  obtain ⟨a, xs, rfl, h, _⟩ := tupOf_ok r e
  refine ⟨a, rfl, ⟨xs, h⟩, fun H m S f s => ?_⟩
  obtain ⟨a', xs', e1, h', r'⟩ := tupOf_ok (r.fr f s1) e
  cases e1
  exact ⟨xs', h', r'⟩
theorem its_ok {x : Str} (o : PyData.strOk x = true) (e : ds = x.cps.toList.map fun c => D.str ⟨#[c]⟩) : ItS K (Its x) H1 m1 ds ch := by
  subst e
  refine ⟨fun i H m S f s c => ⟨fun hl => (show x.cps.size ≤ i by simpa using hl), fun d hd => ?_⟩⟩
  rw [List.getElem?_map, Option.map_eq_some_iff] at hd
  obtain ⟨c0, hc, rfl⟩ := hd
  have hc' : x.cps[i]? = some c0 := by simpa using hc
  refine ⟨(Array.getElem?_eq_some_iff.mp hc').1, fun v H' hy => ?_⟩
  obtain ⟨rfl, c1, h1, rfl⟩ := hy
  rw [hc'] at h1; cases h1
  exact ⟨mk_str (strOk_one (strOk_iff.mp o c0 (List.mem_of_getElem? hc))), s, .refl⟩
theorem itr_ok {lo : Int} {n : Nat} : ItS K (Itr lo n) H1 m1 (rngD lo n) ch := by
  refine ⟨fun i H m S f s c => ⟨fun hl => ?_, fun d hd => ?_⟩⟩
  · have : (rngD lo n).length = n := by simp [rngD]
    show n ≤ i
    omega
  · unfold rngD at hd
    rw [List.getElem?_map, Option.map_eq_some_iff] at hd
    obtain ⟨k, hk, rfl⟩ := hd
    obtain ⟨h1, h2⟩ := List.getElem?_eq_some_iff.mp hk
    rw [List.length_range] at h1
    have h3 : k = i := by rw [List.getElem_range] at h2; exact h2.symm
    subst h3
    refine ⟨h1, fun v H' hy => ?_⟩
    obtain ⟨rfl, rfl⟩ := hy
    exact ⟨mk_int _, s, .refl⟩
theorem zipD_get : ∀ {xs ys : List D} {i : Nat} {d : D}, (zipD xs ys)[i]? = some d → ∃ x y, xs[i]? = some x ∧ ys[i]? = some y ∧ d = .tup [x, y]
  | [], ys, i, d, h => by simp [zipD] at h
  | x :: xs, [], i, d, h => by simp [zipD] at h
  | x :: xs, y :: ys, 0, d, h => by simp [zipD] at h; exact ⟨x, y, rfl, rfl, h.symm⟩
  | x :: xs, y :: ys, i + 1, d, h => by
    simp only [zipD, List.getElem?_cons_succ] at h
    obtain ⟨a, b, h1, h2, h3⟩ := zipD_get h
    exact ⟨a, b, by simpa using h1, by simpa using h2, h3⟩
theorem zipD_len : ∀ {xs ys : List D}, (zipD xs ys).length = min xs.length ys.length
  | [], ys => by simp [zipD]
  | x :: xs, [] => by simp [zipD]
  | x :: xs, y :: ys => by simp only [zipD, List.length_cons, zipD_len]; omega
theorem enumD_get : ∀ {n : Nat} {xs : List D} {i : Nat} {d : D}, (enumD n xs)[i]? = some d → ∃ x, xs[i]? = some x ∧ d = .tup [.int ((n + i : Nat) : Int), x]
  | n, [], i, d, h => by simp [enumD] at h
  | n, x :: xs, 0, d, h => by simp [enumD] at h; exact ⟨x, rfl, by simpa using h.symm⟩
  | n, x :: xs, i + 1, d, h => by
    simp only [enumD, List.getElem?_cons_succ] at h
    obtain ⟨y, h1, h2⟩ := enumD_get h
    exact ⟨y, by simpa using h1, by rw [h2, show n + 1 + i = n + (i + 1) by omega]⟩
theorem enumD_len : ∀ {n : Nat} {xs : List D}, (enumD n xs).length = xs.length
  | n, [] => rfl
  | n, x :: xs => by simp only [enumD, List.length_cons, enumD_len]
theorem new2 {H : Hp} {m : List Addr} {S : Store} {p : Addr} {x y : V} {d e : D} (s : SR K H m S) (np : H p = none) (h1 : Rep K H m d x) (h2 : Rep K H m e y) : Rep K (upd H p (.tup [x, y])) m (.tup [d, e]) (.ref p) ∧ SR K (upd H p (.tup [x, y])) m S ∧ Fr H m (upd H p (.tup [x, y])) m :=
  ⟨mk_tup upd_same (.cons (h1.kp ((Fr.new np).kp s)) (.cons (h2.kp ((Fr.new np).kp s)) .nil)), s.new np, Fr.new np⟩
theorem itz_ok {a b : Addr} {xs ys : List D} {cx cy : Live} (h : ∀ H m S, Fr H1 m1 H m → SR K H m S → chk cx S → ∃ vs, SqL K H a vs ∧ RepL K H m xs vs) (h' : ∀ H m S, Fr H1 m1 H m → SR K H m S → chk cy S → ∃ vs, SqL K H b vs ∧ RepL K H m ys vs) :
    ItS K (Itz K a b) H1 m1 (zipD xs ys) (cx ++ cy) := by
  refine ⟨fun i H m S f s c => ?_⟩
  obtain ⟨vs, hq, hr⟩ := h H m S f s fun p hp => c p (List.mem_append_left _ hp)
  obtain ⟨ws, hq', hr'⟩ := h' H m S f s fun p hp => c p (List.mem_append_right _ hp)
  refine ⟨fun hl => ⟨vs, ws, hq, hq', ?_⟩, fun d hd => ?_⟩
  · rw [zipD_len, hr.len, hr'.len] at hl
    rcases Nat.le_total vs.length ws.length with z | z
    · exact .inl (by omega)
    · exact .inr (by omega)
  · obtain ⟨x, y, e1, e2, rfl⟩ := zipD_get hd
    obtain ⟨v, h1, h2⟩ := hr.get e1
    obtain ⟨w, h3, h4⟩ := hr'.get e2
    refine ⟨⟨vs, ws, v, w, hq, hq', h1, h3⟩, fun z H' hy => ?_⟩
    obtain ⟨T, p, q, rfl, np, rfl, g1, g2⟩ := hy
    have k1 := g1 _ hq
    have k2 := g2 _ hq'
    rw [h1] at k1; cases k1
    rw [h3] at k2; cases k2
    exact new2 s np h2 h4
theorem itzT_ok {a b : Addr} {xs ys : List D} (h : ∀ H m S, Fr H1 m1 H m → SR K H m S → ∃ vs, SqT K H a vs ∧ RepL K H m xs vs) (h' : ∀ H m S, Fr H1 m1 H m → SR K H m S → ∃ vs, SqT K H b vs ∧ RepL K H m ys vs) :
    ItS K (RZ.ItzT K a b) H1 m1 (zipD xs ys) [] := by
  refine ⟨fun i H m S f s c => ?_⟩
  obtain ⟨vs, hq, hr⟩ := h H m S f s
  obtain ⟨ws, hq', hr'⟩ := h' H m S f s
  refine ⟨fun hl => ⟨vs, ws, hq, hq', ?_⟩, fun d hd => ?_⟩
  · rw [zipD_len, hr.len, hr'.len] at hl
    rcases Nat.le_total vs.length ws.length with z | z
    · exact .inl (by omega)
    · exact .inr (by omega)
  · obtain ⟨x, y, e1, e2, rfl⟩ := zipD_get hd
    obtain ⟨v, h1, h2⟩ := hr.get e1
    obtain ⟨w, h3, h4⟩ := hr'.get e2
    refine ⟨⟨vs, ws, v, w, hq, hq', h1, h3⟩, fun z H' hy => ?_⟩
    obtain ⟨T, p, q, rfl, np, rfl, g1, g2⟩ := hy
    have k1 := g1 _ hq
    have k2 := g2 _ hq'
    rw [h1] at k1; cases k1
    rw [h3] at k2; cases k2
    exact new2 s np h2 h4
theorem ite_ok {a : Addr} {xs : List D} (h : ∀ H m S, Fr H1 m1 H m → SR K H m S → chk ch S → ∃ vs, SqL K H a vs ∧ RepL K H m xs vs) : ItS K (Ite K a) H1 m1 (enumD 0 xs) ch := by
  refine ⟨fun i H m S f s c => ?_⟩
  obtain ⟨vs, hq, hr⟩ := h H m S f s c
  refine ⟨fun hl => ⟨vs, hq, by rw [← hr.len]; rw [enumD_len] at hl; exact hl⟩, fun d hd => ?_⟩
  obtain ⟨x, e1, rfl⟩ := enumD_get hd
  obtain ⟨v, h1, h2⟩ := hr.get e1
  refine ⟨⟨vs, v, hq, h1⟩, fun z H' hy => ?_⟩
  obtain ⟨T, p, rfl, np, rfl, g1⟩ := hy
  have k1 := g1 _ hq
  rw [h1] at k1; cases k1
  rw [Nat.zero_add]
  exact new2 s np (mk_int _) h2
end
section
variable {X : Cx} {C : Ctx} {G : List D} {call : Call}
theorem pi_imp {tg e : Expr} {t t' : TI} (h : PI X tg e t) (k : ∀ σ H R, t' σ H R → t σ H R) : PI X tg e t' := ⟨fun pins s σ H R I q => h.run pins s σ H R I (k σ H R q)⟩
/-- a list, a tuple, a text -/
theorem pi_any {tg e : Expr} {te : TE} (he : PE X e te) : PI X tg e (fun σ H R => te σ H fun x H1 => (∃ a, x = .ref a ∧ (∃ xs, SqL X.K H1 a xs) ∧ R (Itl X.K a) H1) ∨ (∃ a, x = .ref a ∧ (∃ xs, SqT X.K H1 a xs) ∧ R (Itt X.K a) H1) ∨ ∃ z, x = .str z ∧ R (Its z) H1) := by
  refine ⟨fun pins s σ H R I h => ?_⟩
  refine thn (he.run pins s σ H _ I h) fun v s1 ⟨x, H1, I1, r1, q1⟩ => ?_
  rcases q1 with ⟨a, e, ⟨xs, hq⟩, q⟩ | ⟨a, e, ⟨xs, hq⟩, q⟩ | ⟨z, e, q⟩
  · subst e
    cases r1
    obtain ⟨its, rv, p, hz⟩ := I1.list hq
    refine wpAny_pyIter_list p.isList ?_
    refine ⟨s1.heap.objs.size, [s1.heap.objs.size], _, _, H1, rfl, I1.kept (t' := s1.toks) fun b o e => Heap.get?_push_of_some _ e, turn_list a _, ⟨_, Heap.get?_push_size _ rfl, rfl, rfl⟩, fun b hb => ?_, q⟩
    have e : b = s1.heap.objs.size := by simpa using hb
    subst e
    exact I1.fpOk (Nat.le_refl _) (I1.hok.fresh (Nat.le_refl _))
  · subst e
    cases r1
    obtain ⟨its, rv, p, hz⟩ := I1.tuple hq
    refine wpAny_pyIter_tuple (show s1.heap.IsTuple a its.toArray from p) ?_
    refine ⟨s1.heap.objs.size, [s1.heap.objs.size], _, _, H1, rfl, I1.kept (t' := s1.toks) fun b o e => Heap.get?_push_of_some _ e, turn_tuple a _, ⟨_, Heap.get?_push_size _ rfl, rfl, rfl⟩, fun b hb => ?_, q⟩
    have e : b = s1.heap.objs.size := by simpa using hb
    subst e
    exact I1.fpOk (Nat.le_refl _) (I1.hok.fresh (Nat.le_refl _))
  · subst e
    obtain ⟨t, rfl⟩ := r1
    cases ha : z.cps.all (· < 128)
    · exact wpAny_pyIter_wide ha (pi_one (tk := s1.toks) I1 _ (turn_str _ z t "str_iterator" (.inr rfl)) ⟨_, Heap.get?_push_size _ rfl, rfl, rfl⟩ q)
    · exact wpAny_pyIter_ascii ha (pi_one (tk := s1.toks) I1 _ (turn_str _ z t "str_ascii_iterator" (.inl rfl)) ⟨_, Heap.get?_push_size _ rfl, rfl, rfl⟩ q)
noncomputable abbrev evif (G : List D) (call : Call) (it : It) : Env → Store → Option (List D × Live × Store) := fun ρ S => evIt G call it ρ S
theorem si_seq {a : Ex} {e tg : Expr} (ha : SE X G call a e) : PI X tg e (tIt X (evif G call (.seq a))) := by
  refine pi_imp (pi_any ha.1) ?_
  rintro σ H R ⟨ρ, m, S, ds, ch, S', en, s, e, k⟩
  simp only [evif, evIt] at e
  split at e
  · rename_i t S1 e1
    split at e
    · rename_i ds' e2
      cases e
      refine then1 en s e1 fun v H1 m1 s1 f1 en1 r1 => ?_
      unfold itemsOf at e2
      split at e2
      · rename_i x
        cases e2
        obtain ⟨rfl, o⟩ := pp_str r1.p
        exact .inr (.inr ⟨x, rfl, k _ H1 m1 s1 f1 nfs_live (its_ok o rfl)⟩)
      · unfold seqOf at e2
        split at e2
        · rename_i ds2 e3
          cases e2
          obtain ⟨a', rfl, hx, hl⟩ := live_ok s1 r1.p e3
          exact .inl ⟨a', rfl, hx, k _ H1 m1 s1 f1 nfs_live (itl_ok hl)⟩
        · rename_i e3
          obtain ⟨a', rfl, hx, hl⟩ := liveT_ok s1 r1.p e2
          exact .inr (.inl ⟨a', rfl, hx, k _ H1 m1 s1 f1 nfs_live (itt_ok fun H m S f s c => hl H m S f s)⟩)
    · cases e
  · cases e
theorem si_range1 (c : COk X C G call) {a : Ex} {f : Str} {e tg : Expr} {pf pos : Pos} (hf : blt C f "range" = true) (hs : notStar e = true) (ha : SE X G call a e) : PI X tg (.Call (.Name f pf) [e] [] pos) (tIt X (evif G call (.range1 a))) := by
  obtain ⟨rfl, hg, hm⟩ := blt_ok c hf
  refine pi_imp (pi_range1 hg hm (pa_cons ha.1 pa_nil (starEach_cons hs)) (starEach_cons hs)) ?_
  rintro σ H R ⟨ρ, m, S, ds, ch, S', en, s, e, k⟩
  simp only [evif, evIt] at e
  split at e
  · rename_i n S1 e1
    split at e
    · rename_i hz
      cases e
      refine then1 en s e1 fun v H1 m1 s1 f1 en1 r1 => ?_
      exact ⟨n, by rw [pp_int r1.p], hz.1, hz.2, k _ H1 m1 s1 f1 nfs_nil itr_ok⟩
    · cases e
  · cases e
theorem si_range2 (c : COk X C G call) {a b : Ex} {f : Str} {e y tg : Expr} {pf pos : Pos} (hf : blt C f "range" = true) (hs : notStar e = true) (hs2 : notStar y = true) (ha : SE X G call a e) (hb : SE X G call b y) : PI X tg (.Call (.Name f pf) [e, y] [] pos) (tIt X (evif G call (.range2 a b))) := by
  obtain ⟨rfl, hg, hm⟩ := blt_ok c hf
  refine pi_imp (pi_range2 hg hm (pa_cons ha.1 (pa_cons hb.1 pa_nil (starEach_cons hs2)) (starEach_cons hs)) (by rw [starEach_cons hs, starEach_cons hs2]; rfl) (starEach_cons hs2)) ?_
  rintro σ H R ⟨ρ, m, S, ds, ch, S', en, s, e, k⟩
  simp only [evif, evIt] at e
  split at e
  · rename_i i S1 e1
    split at e
    · rename_i j S2 e2
      split at e
      · rename_i hz
        cases e
        refine then1 en s e1 fun v H1 m1 s1 f1 en1 r1 => ?_
        refine then1 en1 s1 e2 fun u H2 m2 s2 f2 en2 r2 => ?_
        exact ⟨i, j, by rw [pp_int r1.p, pp_int r2.p], ⟨hz.1.1, hz.1.2, hz.2.1, hz.2.2⟩, k _ H2 m2 s2 (f1.trans f2) nfs_nil itr_ok⟩
      · cases e
    · cases e
  · cases e
theorem si_zip (c : COk X C G call) {a b : Ex} {f : Str} {e y : Expr} {pf pos tpos : Pos} {elts : List Expr} {kk : Nat} (hf : blt C f "zip" = true) (hs : notStar e = true) (hs2 : notStar y = true) (ha : SE X G call a e) (hb : SE X G call b y) :
    PI X (.Tuple elts kk tpos) (.Call (.Name f pf) [e, y] [] pos) (tIt X (evif G call (.zip a b))) := by
  obtain ⟨rfl, hg, hm⟩ := blt_ok c hf
  refine pi_imp (RZ.pi_zipA hg hm (pa_cons ha.1 (pa_cons hb.1 pa_nil (starEach_cons hs2)) (starEach_cons hs)) (starEach_cons hs) (by rw [starEach_cons hs2]; rfl)) ?_
  rintro σ H R ⟨ρ, m, S, ds, ch, S', en, s, e, k⟩
  simp only [evif, evIt] at e
  split at e
  · rename_i t S1 e1
    split at e
    · rename_i u S2 e2
      refine then1 en s e1 fun v H1 m1 s1 f1 en1 r1 => ?_
      refine then1 en1 s1 e2 fun w H2 m2 s2 f2 en2 r2 => ?_
      unfold zipIt at e
      split at e
      · rename_i xs ys h1 h2
        cases e
        obtain ⟨p, rfl, ⟨vs, hx⟩, hl⟩ := live_ok s2 (r1.p.fr f2 s1) h1
        obtain ⟨q, rfl, ⟨ws, hy⟩, hl'⟩ := live_ok s2 r2.p h2
        exact ⟨p, q, vs, ws, rfl, .inl ⟨hx, hy, k _ H2 m2 s2 (f1.trans f2) (nfs_app nfs_live nfs_live) (itz_ok hl hl')⟩⟩
      · split at e
        · rename_i xs ys h1 h2
          cases e
          obtain ⟨p, rfl, ⟨vs, hx⟩, hl⟩ := liveT_ok s2 (r1.p.fr f2 s1) h1
          obtain ⟨q, rfl, ⟨ws, hy⟩, hl'⟩ := liveT_ok s2 r2.p h2
          exact ⟨p, q, vs, ws, rfl, .inr ⟨hx, hy, k _ H2 m2 s2 (f1.trans f2) nfs_nil (itzT_ok hl hl')⟩⟩
        · cases e
    · cases e
  · cases e
theorem chk_live {S : Store} {t : T} {ds : List D} (e : lstOf S t = some ds) : chk (liveOf t ds) S := by
  cases t with
  | tmp xs => exact fun p hp => nomatch hp
  | d x =>
    cases x with
    | ref n =>
      simp only [lstOf] at e
      split at e
      · rename_i xs h
        cases e
        intro p hp
        rw [List.mem_singleton.mp hp]
        exact h
      · cases e
    | _ => exact fun p hp => nomatch hp
theorem seq_live {K : PySem.W.Frag} {H1 : Hp} {m1 : List Addr} {ds : List D} {S1 : Store} {t : T} {v : V} (s1 : SR K H1 m1 S1) (r : RepP K H1 m1 t v) (e : seqOf S1 t = some ds) :
    ∃ a, v = .ref a ∧ (((∃ xs, SqL K H1 a xs ∧ ds.length = xs.length) ∧ ∀ H m S, Fr H1 m1 H m → SR K H m S → chk (liveOf t ds) S → ∃ xs, SqL K H a xs ∧ RepL K H m ds xs) ∨
      ((∃ xs, SqT K H1 a xs ∧ ds.length = xs.length) ∧ ∀ H m S, Fr H1 m1 H m → SR K H m S → ∃ xs, SqT K H a xs ∧ RepL K H m ds xs)) := by
  unfold seqOf at e
  split at e
  · rename_i ds' e3
    cases e
    obtain ⟨a, h1, h2, h3⟩ := live_ok s1 r e3
    obtain ⟨ys, hy, hr⟩ := h3 H1 m1 S1 .refl s1 (chk_live e3)
    exact ⟨a, h1, .inl ⟨⟨ys, hy, hr.len⟩, h3⟩⟩
  · obtain ⟨a, h1, h2, h3⟩ := liveT_ok s1 r e
    obtain ⟨ys, hy, hr⟩ := h3 H1 m1 S1 .refl s1
    exact ⟨a, h1, .inr ⟨⟨ys, hy, hr.len⟩, h3⟩⟩
theorem itet_ok {K : PySem.W.Frag} {H1 : Hp} {m1 : List Addr} {ch : Live} {a : Addr} {xs : List D} (h : ∀ H m S, Fr H1 m1 H m → SR K H m S → ∃ vs, SqT K H a vs ∧ RepL K H m xs vs) : ItS K (IteT K a) H1 m1 (enumD 0 xs) ch := by
  refine ⟨fun i H m S f s c => ?_⟩
  obtain ⟨vs, hq, hr⟩ := h H m S f s
  refine ⟨fun hl => ⟨vs, hq, by rw [← hr.len]; rw [enumD_len] at hl; exact hl⟩, fun d hd => ?_⟩
  obtain ⟨x, e1, rfl⟩ := enumD_get hd
  obtain ⟨v, h1, h2⟩ := hr.get e1
  refine ⟨⟨vs, v, hq, h1⟩, fun z H' hy => ?_⟩
  obtain ⟨T, p, rfl, np, rfl, g1⟩ := hy
  have k1 := g1 _ hq
  rw [h1] at k1; cases k1
  rw [Nat.zero_add]
  exact new2 s np (mk_int _) h2
theorem si_enum (c : COk X C G call) {a : Ex} {f : Str} {e : Expr} {pf pos tpos : Pos} {elts : List Expr} {kk : Nat} (hf : blt C f "enumerate" = true) (hs : notStar e = true) (ha : SE X G call a e) :
    PI X (.Tuple elts kk tpos) (.Call (.Name f pf) [e] [] pos) (tIt X (evif G call (.enum a))) := by
  obtain ⟨rfl, hg, hm⟩ := blt_ok c hf
  refine pi_imp (pi_enumA hg hm (pa_cons ha.1 pa_nil (starEach_cons hs)) (starEach_cons hs)) ?_
  rintro σ H R ⟨ρ, m, S, ds, ch, S', en, s, e, k⟩
  simp only [evif, evIt] at e
  split at e
  · rename_i t S1 e1
    split at e
    · rename_i xs h1
      cases e
      refine then1 en s e1 fun v H1 m1 s1 f1 en1 r1 => ?_
      obtain ⟨p, rfl, h⟩ := seq_live s1 r1.p h1
      rcases h with ⟨⟨vs, hx, hxl⟩, hl⟩ | ⟨⟨vs, hx, hxl⟩, hl⟩
      · exact ⟨p, vs, rfl, .inl ⟨hx, k _ H1 m1 s1 f1 nfs_live (ite_ok hl)⟩⟩
      · exact ⟨p, vs, rfl, .inr ⟨hx, k _ H1 m1 s1 f1 nfs_live (itet_ok hl)⟩⟩
    · cases e
  · cases e
theorem itc_ok {K : PySem.W.Frag} {H1 : Hp} {m1 : List Addr} {i0 : Int} {n : Nat} {ds : List D} {ch : Live} (hn : ds.length = n) (h : ∀ i d, ds[i]? = some d → d = D.int (i0 + (i : Nat) * (-1))) : ItS K (Itc i0 (-1) n) H1 m1 ds ch := by
  refine ⟨fun i H m S f s c => ⟨fun hl => by show n ≤ i; omega, fun d hd => ?_⟩⟩
  have hlt := (List.getElem?_eq_some_iff.mp hd).1
  refine ⟨by show i < n; omega, fun x H' hy => ?_⟩
  obtain ⟨rfl, rfl⟩ := hy
  rw [h i d hd]
  exact ⟨mk_int _, s, .refl⟩
theorem si_range3 (cc : COk X C G call) {a b c : Ex} {f : Str} {e y z tg : Expr} {pf pos : Pos} (hf : blt C f "range" = true) (hs : notStar e = true) (hs2 : notStar y = true) (hs3 : notStar z = true) (ha : SE X G call a e) (hb : SE X G call b y) (hc : SE X G call c z) : PI X tg (.Call (.Name f pf) [e, y, z] [] pos) (tIt X (evif G call (.range3 a b c))) := by
  obtain ⟨rfl, hg, hm⟩ := blt_ok cc hf
  refine pi_imp (pi_range3 hg hm (pa_cons ha.1 (pa_cons hb.1 (pa_cons hc.1 pa_nil (starEach_cons hs3)) (starEach_cons hs2)) (starEach_cons hs)) (starEach_cons hs) (by rw [starEach_cons hs2, starEach_cons hs3]; rfl)) ?_
  rintro σ H R ⟨ρ, m, S, ds, ch, S', en, s, e, k⟩
  simp only [evif, evIt] at e
  split at e
  · rename_i i S1 e1
    split at e
    · rename_i j S2 e2
      split at e
      · rename_i kk S3 e3
        split at e
        · rename_i hz
          cases e
          obtain ⟨h1, h2, rfl⟩ := hz
          refine then1 en s e1 fun v H1 m1 s1 f1 en1 r1 => ?_
          refine then1 en1 s1 e2 fun u H2 m2 s2 f2 en2 r2 => ?_
          refine then1 en2 s2 e3 fun w H3 m3 s3 f3 en3 r3 => ?_
          refine ⟨i, j, -1, (i - j).toNat, by rw [pp_int r1.p, pp_int r2.p, pp_int r3.p], RgC.neg h1.1 h1.2 h2.1 h2.2, k _ H3 m3 s3 ((f1.trans f2).trans f3) nfs_nil (itc_ok (by simp [rngD]) fun q d hd => ?_)⟩
          have hlt := (List.getElem?_eq_some_iff.mp hd).1
          have hl : (rngD (j + 1) (i - j).toNat).length = (i - j).toNat := by simp [rngD]
          rw [List.length_reverse, hl] at hlt
          rw [List.getElem?_reverse (by rw [hl]; exact hlt), hl] at hd
          unfold rngD at hd
          rw [List.getElem?_map, List.getElem?_range (by omega)] at hd
          simp only [Option.map_some, Option.some.injEq] at hd
          subst hd
          congr 1
          omega
        · cases e
      · cases e
    · cases e
  · cases e
theorem itv_ok {K : PySem.W.Frag} {H1 : Hp} {m1 : List Addr} {ds : List D} {ch : Live} {a : Addr} {n : Nat} (hn : ds.length = n) (h : ∀ H m S, Fr H1 m1 H m → SR K H m S → chk ch S → ∃ xs, SqL K H a xs ∧ RepL K H m ds xs) : ItS K (Itv K a n) H1 m1 ds.reverse ch := by
  refine ⟨fun i H m S f s c => ?_⟩
  obtain ⟨xs, hq, hr⟩ := h H m S f s c
  refine ⟨fun hl => by rw [List.length_reverse] at hl; show n ≤ i; omega, fun d hd => ?_⟩
  have hlt := (List.getElem?_eq_some_iff.mp hd).1
  rw [List.length_reverse] at hlt
  rw [List.getElem?_reverse hlt, hn] at hd
  obtain ⟨v, h1, h2⟩ := hr.get hd
  refine ⟨⟨by omega, xs, v, hq, h1⟩, fun x H' hy => ?_⟩
  obtain ⟨rfl, hy⟩ := hy
  have e := hy xs hq
  rw [h1] at e; cases e
  exact ⟨h2, s, .refl⟩
theorem itvT_ok {K : PySem.W.Frag} {H1 : Hp} {m1 : List Addr} {ds : List D} {ch : Live} {a : Addr} {n : Nat} (hn : ds.length = n) (h : ∀ H m S, Fr H1 m1 H m → SR K H m S → ∃ xs, SqT K H a xs ∧ RepL K H m ds xs) : ItS K (RT.ItvT K a n) H1 m1 ds.reverse ch := by
  refine ⟨fun i H m S f s c => ?_⟩
  obtain ⟨xs, hq, hr⟩ := h H m S f s
  refine ⟨fun hl => by rw [List.length_reverse] at hl; show n ≤ i; omega, fun d hd => ?_⟩
  have hlt := (List.getElem?_eq_some_iff.mp hd).1
  rw [List.length_reverse] at hlt
  rw [List.getElem?_reverse hlt, hn] at hd
  obtain ⟨v, h1, h2⟩ := hr.get hd
  refine ⟨⟨by omega, xs, v, hq, h1⟩, fun x H' hy => ?_⟩
  obtain ⟨rfl, hy⟩ := hy
  have e := hy xs hq
  rw [h1] at e; cases e
  exact ⟨h2, s, .refl⟩
theorem si_revd (c : COk X C G call) {a : Ex} {f : Str} {e tg : Expr} {pf pos : Pos} (hf : blt C f "reversed" = true) (hs : notStar e = true) (ha : SE X G call a e) : PI X tg (.Call (.Name f pf) [e] [] pos) (tIt X (evif G call (.revd a))) := by
  obtain ⟨rfl, hg, hm⟩ := blt_ok c hf
  refine pi_imp (RT.pi_revA hg hm ha.1 (starEach_cons hs)) ?_
  rintro σ H R ⟨ρ, m, S, ds, ch, S', en, s, e, k⟩
  simp only [evif, evIt] at e
  split at e
  · rename_i t S1 e1
    split at e
    · rename_i xs h1
      cases e
      refine then1 en s e1 fun v H1 m1 s1 f1 en1 r1 => ?_
      obtain ⟨p, rfl, h⟩ := seq_live s1 r1.p h1
      rcases h with ⟨⟨vs, hx, hxl⟩, hl⟩ | ⟨⟨vs, hx, hxl⟩, hl⟩
      · exact ⟨p, vs, rfl, .inl ⟨hx, k _ H1 m1 s1 f1 nfs_live (itv_ok hxl hl)⟩⟩
      · exact ⟨p, vs, rfl, .inr ⟨hx, k _ H1 m1 s1 f1 nfs_live (itvT_ok hxl hl)⟩⟩
    · cases e
  · cases e
/-! ### walks of dicts: the dict is locked -/
/-- an expression, behind which the thing that it gives is locked -/
theorem pe_lk {e : Expr} {td : TE} (he : PE X e td) : PE X e (fun σ H Q => td σ H fun x H1 => ∃ d u, x = .ref d ∧ H1 d = some u ∧ Mut (some u) ∧ ∀ od, NFr X.H_0 d → Q x (upd H1 d (.frz od u))) := by
  refine ⟨fun pins s σ H Q I h => ?_⟩
  refine thn (he.run pins s σ H _ I h) fun u s1 ⟨x, H1, I1, rx, d, w, ex, hd, mu, q⟩ => ?_
  obtain ⟨od, I2⟩ := I1.lock hd mu
  refine ⟨x, _, I2, ?_, q od (I1.nofrz hd mu)⟩
  subst ex
  exact rx
theorem lockK {H H1 : Hp} {m m1 : List Addr} {S1 : Store} {n : Nat} {a : Addr} {kvs : List (Key × D)} (f1 : Fr H m H1 m1) (s1 : SR X.K H1 m1 S1) (e : S1[n]? = some (.dK kvs)) (ha : m1[n]? = some a) :
    ∃ ws, H1 a = some (.dK ws) ∧ kvs.map (·.1) = ws.map (·.1) ∧ ∀ od, NFr X.H_0 a → SR X.K (upd H1 a (.frz od (.dK ws))) m1 (S1.set n (.fK kvs)) ∧ Fr H m (upd H1 a (.frz od (.dK ws))) m1 ∧ NFs X H m1 [(n, .fK kvs)] ∧
      ∀ H' m' S', Fr (upd H1 a (.frz od (.dK ws))) m1 H' m' → SR X.K H' m' S' → chk [(n, .fK kvs)] S' → H' a = some (.frz od (.dK ws)) ∧ RepL X.K H' m' (kvs.map (·.2)) (ws.map (·.2)) ∧ ∀ k ∈ kvs.map (·.1), kOk k = true := by
  obtain ⟨ws, h1, h2, h3, h4⟩ := s1.ob n _ a e ha
  have hm : a ∈ m1 := List.mem_of_getElem? ha
  refine ⟨ws, h1, h2, fun od nf => ?_⟩
  have f2 : Fr H1 m1 (upd H1 a (.frz od (.dK ws))) m1 := Fr.put hm (nf_dK h1)
  refine ⟨s1.set ha ⟨od, ws, upd_same, h2, h3.kp (f2.kp s1), h4⟩, f1.trans f2, fun p hp _ => ?_, fun H' m' S' f s c => ?_⟩
  · rw [List.mem_singleton] at hp
    subst hp
    exact ⟨a, ha, nf, fun o u z => by have := f1.frz _ _ _ z; rw [h1] at this; cases this⟩
  · have c1 : S'[n]? = some (.fK kvs) := c (n, .fK kvs) List.mem_cons_self
    obtain ⟨q, hq⟩ := f.pre
    have ha' : m'[n]? = some a := by rw [hq, List.getElem?_append_left (List.getElem?_eq_some_iff.mp ha).1]; exact ha
    obtain ⟨od', ws', g1, g2, g3, g4⟩ := s.ob n _ a c1 ha'
    have g5 := f.frz a _ _ upd_same
    rw [g5] at g1
    cases g1
    exact ⟨g5, g3, g4⟩
theorem lockT {H H1 : Hp} {m m1 : List Addr} {S1 : Store} {n : Nat} {a : Addr} {kvs : List (List Key × D)} (f1 : Fr H m H1 m1) (s1 : SR X.K H1 m1 S1) (e : S1[n]? = some (.dT kvs)) (ha : m1[n]? = some a) :
    ∃ ws, H1 a = some (.dT ws) ∧ kvs.map (·.1) = ws.map (·.1) ∧ ∀ od, NFr X.H_0 a → SR X.K (upd H1 a (.frz od (.dT ws))) m1 (S1.set n (.fT kvs)) ∧ Fr H m (upd H1 a (.frz od (.dT ws))) m1 ∧ NFs X H m1 [(n, .fT kvs)] ∧
      ∀ H' m' S', Fr (upd H1 a (.frz od (.dT ws))) m1 H' m' → SR X.K H' m' S' → chk [(n, .fT kvs)] S' → H' a = some (.frz od (.dT ws)) ∧ RepL X.K H' m' (kvs.map (·.2)) (ws.map (·.2)) ∧ ∀ k ∈ kvs.map (·.1), ∀ q ∈ k, kOk q = true := by
  obtain ⟨ws, h1, h2, h3, h4⟩ := s1.ob n _ a e ha
  have hm : a ∈ m1 := List.mem_of_getElem? ha
  refine ⟨ws, h1, h2, fun od nf => ?_⟩
  have f2 : Fr H1 m1 (upd H1 a (.frz od (.dT ws))) m1 := Fr.put hm (nf_dT h1)
  refine ⟨s1.set ha ⟨od, ws, upd_same, h2, h3.kp (f2.kp s1), h4⟩, f1.trans f2, fun p hp _ => ?_, fun H' m' S' f s c => ?_⟩
  · rw [List.mem_singleton] at hp
    subst hp
    exact ⟨a, ha, nf, fun o u z => by have := f1.frz _ _ _ z; rw [h1] at this; cases this⟩
  · have c1 : S'[n]? = some (.fT kvs) := c (n, .fT kvs) List.mem_cons_self
    obtain ⟨q, hq⟩ := f.pre
    have ha' : m'[n]? = some a := by rw [hq, List.getElem?_append_left (List.getElem?_eq_some_iff.mp ha).1]; exact ha
    obtain ⟨od', ws', g1, g2, g3, g4⟩ := s.ob n _ a c1 ha'
    have g5 := f.frz a _ _ upd_same
    rw [g5] at g1
    cases g1
    exact ⟨g5, g3, g4⟩
theorem rep_keyD {K : PySem.W.Frag} {H : Hp} {m : List Addr} {k : Key} (h : kOk k = true) : Rep K H m (keyD k) (kV k) := by
  cases k with
  | inl i => exact mk_int i
  | inr x => exact mk_str h
theorem repL_keyD {K : PySem.W.Frag} {H : Hp} {m : List Addr} : ∀ {k : List Key}, (∀ q ∈ k, kOk q = true) → RepL K H m (k.map keyD) (k.map kV)
  | [], _ => .nil
  | q :: k, h => .cons (rep_keyD (h q List.mem_cons_self)) (repL_keyD fun p hp => h p (List.mem_cons_of_mem _ hp))
theorem kvs_at {K : PySem.W.Frag} {H : Hp} {m : List Addr} {κ : Type} {kvs : List (κ × D)} {ws : List (κ × V)} {i : Nat} {kv : κ × D} (h2 : kvs.map (·.1) = ws.map (·.1)) (h3 : RepL K H m (kvs.map (·.2)) (ws.map (·.2))) (e : kvs[i]? = some kv) : ∃ v, ws[i]? = some (kv.1, v) ∧ Rep K H m kv.2 v := by
  obtain ⟨v, e1, r⟩ := h3.get (i := i) (d := kv.2) (by rw [List.getElem?_map, e]; rfl)
  rw [List.getElem?_map, Option.map_eq_some_iff] at e1
  obtain ⟨w, e2, rfl⟩ := e1
  have e3 : (kvs.map (·.1))[i]? = (ws.map (·.1))[i]? := by rw [h2]
  rw [List.getElem?_map, List.getElem?_map, e, e2] at e3
  simp only [Option.map_some, Option.some.injEq] at e3
  obtain ⟨k1, w1⟩ := w
  simp only at e3
  exact ⟨w1, by rw [e2, e3], r⟩
theorem keys_len {κ : Type} {kvs : List (κ × D)} {ws : List (κ × V)} (h2 : kvs.map (·.1) = ws.map (·.1)) : kvs.length = ws.length := by
  have := congrArg List.length h2
  rw [List.length_map, List.length_map] at this; exact this
theorem si_keys {a : Ex} {e tg : Expr} (ha : SE X G call a e) : PI X tg e (tIt X (evif G call (.keys a))) := by
  refine pi_imp (pi_keys (pe_lk ha.1)) ?_
  rintro σ H R ⟨ρ, m, S, ds, ch, S', en, s, e, k⟩
  simp only [evif, evIt] at e
  split at e
  · rename_i t S1 e1
    refine then1 en s e1 fun v H1 m1 s1 f1 en1 r1 => ?_
    unfold dictIt at e
    split at e
    · rename_i n
      obtain ⟨a, rfl, ham⟩ := rep_ref (pp_d r1.p)
      split at e
      · rename_i kvs e2
        cases e
        obtain ⟨ws, h1, h2, h3⟩ := lockK (X := X) f1 s1 e2 ham
        refine ⟨a, _, rfl, h1, trivial, fun od nf => ⟨a, od, rfl, .inl ⟨ws, upd_same, ?_⟩⟩⟩
        obtain ⟨g1, g2, g3, g4⟩ := h3 od nf
        refine k _ _ m1 g1 g2 g3 ⟨fun i H' m' S2 f s2 c => ?_⟩
        obtain ⟨q1, q2, q3⟩ := g4 H' m' S2 f s2 c
        refine ⟨fun hl => ⟨q1, by rw [List.length_map] at hl; rw [← keys_len h2]; exact hl⟩, fun d hd => ?_⟩
        rw [List.getElem?_map, Option.map_eq_some_iff] at hd
        obtain ⟨kv, hkv, rfl⟩ := hd
        obtain ⟨v, e3, r3⟩ := kvs_at h2 q2 hkv
        refine ⟨⟨q1, (List.getElem?_eq_some_iff.mp e3).1⟩, fun x H3 hy => ?_⟩
        obtain ⟨rfl, k1, v1, e4, rfl⟩ := hy
        rw [e3] at e4
        cases e4
        exact ⟨rep_keyD (q3 _ (List.mem_map_of_mem (List.mem_of_getElem? hkv))), s2, .refl⟩
      · rename_i kvs e2
        cases e
        obtain ⟨ws, h1, h2, h3⟩ := lockT (X := X) f1 s1 e2 ham
        refine ⟨a, _, rfl, h1, trivial, fun od nf => ⟨a, od, rfl, .inr ⟨ws, upd_same, ?_⟩⟩⟩
        obtain ⟨g1, g2, g3, g4⟩ := h3 od nf
        refine k _ _ m1 g1 g2 g3 ⟨fun i H' m' S2 f s2 c => ?_⟩
        obtain ⟨q1, q2, q3⟩ := g4 H' m' S2 f s2 c
        refine ⟨fun hl => ⟨q1, by rw [List.length_map] at hl; rw [← keys_len h2]; exact hl⟩, fun d hd => ?_⟩
        rw [List.getElem?_map, Option.map_eq_some_iff] at hd
        obtain ⟨kv, hkv, rfl⟩ := hd
        obtain ⟨v, e3, r3⟩ := kvs_at h2 q2 hkv
        refine ⟨⟨q1, (List.getElem?_eq_some_iff.mp e3).1⟩, fun x H3 hy => ?_⟩
        obtain ⟨rfl, k1, v1, q, e4, rfl, e5⟩ := hy
        rw [e3] at e4
        cases e4
        exact ⟨mk_tup e5 (repL_keyD (q3 _ (List.mem_map_of_mem (List.mem_of_getElem? hkv)))), s2, .refl⟩
      · cases e
    · cases e
  · cases e
theorem dict1_inv {g : D → D → D} {S1 S' : Store} {t : T} {ds : List D} {ch : Live} (e : dictIt1 g S1 t = some (ds, ch, S')) : ∃ n kvs, t = .d (.ref n) ∧ S1[n]? = some (.dK kvs) ∧ ds = kvs.map (fun kv => g (keyD kv.1) kv.2) ∧ ch = [(n, .fK kvs)] ∧ S' = S1.set n (.fK kvs) := by
  unfold dictIt1 at e
  split at e
  · split at e
    · cases e
      exact ⟨_, _, rfl, by assumption, rfl, rfl, rfl⟩
    · cases e
  · cases e
theorem line_eq {apos cpos : Pos} (hl : apos.endLine = cpos.line) : (apos.endLine == cpos.line) = true := by rw [hl]; exact beq_self_eq_true _
theorem si_vals {a : Ex} {e tg : Expr} {apos cpos : Pos} (h0 : notCall0 e = true) (hl : apos.endLine = cpos.line) (ha : SE X G call a e) : PI X tg (.Call (.Attribute e "values" apos) [] [] cpos) (tIt X (evif G call (.vals a))) := by
  refine pi_imp (pi_values (pe_lk ha.1) (attrBase_of h0) (line_eq hl)) ?_
  rintro σ H R ⟨ρ, m, S, ds, ch, S', en, s, e, k⟩
  simp only [evif, evIt] at e
  split at e
  · rename_i t S1 e1
    refine then1 en s e1 fun v H1 m1 s1 f1 en1 r1 => ?_
    obtain ⟨n, kvs, rfl, e2, rfl, rfl, rfl⟩ := dict1_inv e
    obtain ⟨a, rfl, ham⟩ := rep_ref (pp_d r1.p)
    obtain ⟨ws, h1, h2, h3⟩ := lockK (X := X) f1 s1 e2 ham
    refine ⟨a, _, rfl, h1, trivial, fun od nf => ⟨a, od, ws, rfl, upd_same, ?_⟩⟩
    obtain ⟨g1, g2, g3, g4⟩ := h3 od nf
    refine k _ _ m1 g1 g2 g3 ⟨fun i H' m' S2 f s2 c => ?_⟩
    obtain ⟨q1, q2, q3⟩ := g4 H' m' S2 f s2 c
    refine ⟨fun hl => ⟨q1, by rw [List.length_map] at hl; rw [← keys_len h2]; exact hl⟩, fun d hd => ?_⟩
    rw [List.getElem?_map, Option.map_eq_some_iff] at hd
    obtain ⟨kv, hkv, rfl⟩ := hd
    obtain ⟨v, e3, r3⟩ := kvs_at h2 q2 hkv
    refine ⟨⟨q1, (List.getElem?_eq_some_iff.mp e3).1⟩, fun x H3 hy => ?_⟩
    obtain ⟨rfl, k1, e4⟩ := hy
    rw [e3] at e4
    cases e4
    exact ⟨r3, s2, .refl⟩
  · cases e
theorem si_items {a : Ex} {e : Expr} {apos cpos : Pos} {elts : List Expr} {kk : Nat} {tpos : Pos} (h0 : notCall0 e = true) (hl : apos.endLine = cpos.line) (ha : SE X G call a e) : PI X (.Tuple elts kk tpos) (.Call (.Attribute e "items" apos) [] [] cpos) (tIt X (evif G call (.items a))) := by
  refine pi_imp (pi_items (pe_lk ha.1) (attrBase_of h0) (line_eq hl)) ?_
  rintro σ H R ⟨ρ, m, S, ds, ch, S', en, s, e, k⟩
  simp only [evif, evIt] at e
  split at e
  · rename_i t S1 e1
    refine then1 en s e1 fun v H1 m1 s1 f1 en1 r1 => ?_
    obtain ⟨n, kvs, rfl, e2, rfl, rfl, rfl⟩ := dict1_inv e
    obtain ⟨a, rfl, ham⟩ := rep_ref (pp_d r1.p)
    obtain ⟨ws, h1, h2, h3⟩ := lockK (X := X) f1 s1 e2 ham
    refine ⟨a, _, rfl, h1, trivial, fun od nf => ⟨a, od, ws, rfl, upd_same, ?_⟩⟩
    obtain ⟨g1, g2, g3, g4⟩ := h3 od nf
    refine k _ _ m1 g1 g2 g3 ⟨fun i H' m' S2 f s2 c => ?_⟩
    obtain ⟨q1, q2, q3⟩ := g4 H' m' S2 f s2 c
    refine ⟨fun hl => ⟨q1, by rw [List.length_map] at hl; rw [← keys_len h2]; exact hl⟩, fun d hd => ?_⟩
    rw [List.getElem?_map, Option.map_eq_some_iff] at hd
    obtain ⟨kv, hkv, rfl⟩ := hd
    obtain ⟨v, e3, r3⟩ := kvs_at h2 q2 hkv
    refine ⟨⟨q1, (List.getElem?_eq_some_iff.mp e3).1⟩, fun x H3 hy => ?_⟩
    obtain ⟨T, k1, v1, e4, rfl, nT, rfl⟩ := hy
    rw [e3] at e4
    cases e4
    exact new2 s2 nT (rep_keyD (q3 _ (List.mem_map_of_mem (List.mem_of_getElem? hkv)))) r3
  · cases e
/-! ### behind a walk: unlocked -/
def UnlQ (X : Cx) (P : Hp → Prop) (H : Hp) : Prop := P H ∨ ∃ d od u, H d = some (.frz od u) ∧ NFr X.H_0 d ∧ P (upd H d u)
theorem pe_unl {e : Expr} {t : TE} (h : PE X e t) : PE X e (fun σ H Q => t σ H fun v H' => UnlQ X (Q v) H') := by
  refine ⟨fun pins s σ H Q I hw => ?_⟩
  refine thn (h.run pins s σ H _ I hw) fun v s1 ⟨x, H1, I1, r, q⟩ => ?_
  rcases q with q | ⟨d, od, u, e, n, q⟩
  · exact ⟨x, H1, I1, r, q⟩
  · exact ⟨x, _, I1.unlock e n, r, q⟩
theorem ps_unl {st : Stmt} {t : TS} (h : PS X st t) : PS X st (fun D σ H => t ⟨fun σ' H' => UnlQ X (D.nx σ') H', fun v H' => UnlQ X (D.rt v) H', fun σ' H' => UnlQ X (D.bk σ') H', fun σ' H' => UnlQ X (D.ct σ') H'⟩ σ H) := by
  refine ⟨fun pins s σ H D I hw => ?_⟩
  refine thn (h.run pins s σ H _ I hw) fun f s1 q => ?_
  cases f with
  | next =>
    obtain ⟨σ', H', I2, q⟩ := q
    rcases q with q | ⟨d, od, u, e, n, q⟩
    · exact ⟨σ', H', I2, q⟩
    · exact ⟨σ', _, I2.unlock e n, q⟩
  | brk =>
    obtain ⟨σ', H', I2, q⟩ := q
    rcases q with q | ⟨d, od, u, e, n, q⟩
    · exact ⟨σ', H', I2, q⟩
    · exact ⟨σ', _, I2.unlock e n, q⟩
  | cont =>
    obtain ⟨σ', H', I2, q⟩ := q
    rcases q with q | ⟨d, od, u, e, n, q⟩
    · exact ⟨σ', H', I2, q⟩
    · exact ⟨σ', _, I2.unlock e n, q⟩
  | ret v =>
    obtain ⟨x, σ', H', I2, r, q⟩ := q
    rcases q with q | ⟨d, od, u, e, n, q⟩
    · exact ⟨x, σ', H', I2, r, q⟩
    · exact ⟨x, σ', _, I2.unlock e n, r, q⟩
/-- what stands behind a walk -/
theorem unl_ok {H H2 : Hp} {m m1 m2 : List Addr} {S2 : Store} {ch : Live} (nf : NFs X H m1 ch) (f : Fr H m H2 m2) (pre : ∃ r, m2 = m1 ++ r) (s2 : SR X.K H2 m2 S2) :
    ∃ H3, (∀ P : Hp → Prop, P H3 → UnlQ X P H2) ∧ SR X.K H3 m2 (unl ch S2) ∧ Fr H m H3 m2 ∧ Kp H2 m2 H3 m2 ∧ ∀ b o, H2 b = some o → b ∉ m2 → H3 b = some o := by
  have triv : ∀ {S3 : Store}, S3 = S2 → ∃ H3, (∀ P : Hp → Prop, P H3 → UnlQ X P H2) ∧ SR X.K H3 m2 S3 ∧ Fr H m H3 m2 ∧ Kp H2 m2 H3 m2 ∧ ∀ b o, H2 b = some o → b ∉ m2 → H3 b = some o := fun e =>
    ⟨H2, fun P p => .inl p, by rw [e]; exact s2, f, Fr.refl.kp s2, fun _ _ h _ => h⟩
  have main : ∀ (n : Nat) (o : O), ch = [(n, o)] → isF o = true → ∃ H3, (∀ P : Hp → Prop, P H3 → UnlQ X P H2) ∧ SR X.K H3 m2 (unlO n S2) ∧ Fr H m H3 m2 ∧ Kp H2 m2 H3 m2 ∧ ∀ b o, H2 b = some o → b ∉ m2 → H3 b = some o := by
    intro n o hch ho
    obtain ⟨a, ha1, x1, x2⟩ := nf (n, o) (by rw [hch]; exact List.mem_cons_self) ho
    obtain ⟨r, hr⟩ := pre
    have ha : m2[n]? = some a := by rw [hr, List.getElem?_append_left (List.getElem?_eq_some_iff.mp ha1).1]; exact ha1
    have hm : a ∈ m2 := List.mem_of_getElem? ha
    have one : ∀ {od : Obj} {u : HO} {o' : O}, H2 a = some (.frz od u) → (∀ H3, Kp H2 m2 H3 m2 → H3 a = some u → RepO X.K H3 m2 o' a) → ∃ H3, (∀ P : Hp → Prop, P H3 → UnlQ X P H2) ∧ SR X.K H3 m2 (S2.set n o') ∧ Fr H m H3 m2 ∧ Kp H2 m2 H3 m2 ∧ ∀ b o, H2 b = some o → b ∉ m2 → H3 b = some o := by
      intro od u o' e ro
      have kp : Kp H2 m2 (upd H2 a u) m2 := Kp.put s2 hm
      refine ⟨upd H2 a u, fun P p => .inr ⟨a, od, u, e, x1, p⟩, s2.set ha (ro _ kp upd_same), ⟨fun b w h1 h2 h5 => ?_, fun b ps h1 h2 => ?_, f.pre, fun b w w' h1 => ?_⟩, kp, fun b w h1 h2 => ?_⟩
      · obtain ⟨h3, h4⟩ := f.keepN b w h1 h2 h5
        exact ⟨by rw [upd_ne (fun z => h4 (by rw [z]; exact hm))]; exact h3, h4⟩
      · obtain ⟨⟨qs, h3⟩, h4⟩ := f.tb b ps h1 h2
        exact ⟨⟨qs, by rw [upd_ne (fun z => h4 (by rw [z]; exact hm))]; exact h3⟩, h4⟩
      · rw [upd_ne (fun z => x2 w w' (by rw [← z]; exact h1))]
        exact f.frz b w w' h1
      · rw [upd_ne (fun z => h2 (by rw [z]; exact hm))]; exact h1
    unfold unlO
    split
    · rename_i kvs e
      obtain ⟨od, ws, h1, h2, h3, h4⟩ := s2.ob n _ a e ha
      exact one h1 fun H3 kp e3 => ⟨ws, e3, h2, h3.kp kp, h4⟩
    · rename_i kvs e
      obtain ⟨od, ws, h1, h2, h3, h4⟩ := s2.ob n _ a e ha
      exact one h1 fun H3 kp e3 => ⟨ws, e3, h2, h3.kp kp, h4⟩
    · exact triv rfl
  unfold unl
  split
  · exact main _ _ rfl rfl
  · exact main _ _ rfl rfl
  · exact triv rfl
/-! ### targets -/
def tG (K : PySem.W.Frag) (f : D → Env → Store → Option (Env × Store)) (sl : List Nat) : TG := fun v σ H Q => ∃ ρ m S d ρ' S', EnvR K H m ρ σ ∧ SR K H m S ∧ Rep K H m d v ∧ f d ρ S = some (ρ', S') ∧
  ∀ σ' H' m', EnvR K H' m' ρ' σ' → SR K H' m' S' → Fr H m H' m' → σ'.length = σ.length → (∀ i, i ∉ sl → σ'[i]? = σ[i]?) → Q σ' H'
def tGs (K : PySem.W.Frag) (f : List D → Env → Store → Option (Env × Store)) (sl : List Nat) : TGs := fun vs σ H Q => ∃ ρ m S ds ρ' S', EnvR K H m ρ σ ∧ SR K H m S ∧ RepL K H m ds vs ∧ f ds ρ S = some (ρ', S') ∧
  ∀ σ' H' m', EnvR K H' m' ρ' σ' → SR K H' m' S' → Fr H m H' m' → σ'.length = σ.length → (∀ i, i ∉ sl → σ'[i]? = σ[i]?) → Q σ' H'
theorem pg_imp {e : Expr} {t t' : TG} (h : PG X e t) (k : ∀ v σ H Q, t' v σ H Q → t v σ H Q) : PG X e t' := ⟨fun pins s σ H v u Q I r q => h.run pins s σ H v u Q I r (k v σ H Q q)⟩
theorem pgs_imp {e : List Expr} {t t' : TGs} (h : PGs X e t) (k : ∀ v σ H Q, t' v σ H Q → t v σ H Q) : PGs X e t' := ⟨fun pins s σ H v u Q I r q => h.run pins s σ H v u Q I r (k v σ H Q q)⟩
noncomputable abbrev agf (G : List D) (call : Call) (t : Tg) : D → Env → Store → Option (Env × Store) := fun d ρ S => asgT G call t d ρ S
noncomputable abbrev agsf (G : List D) (call : Call) (t : Tgs) : List D → Env → Store → Option (Env × Store) := fun d ρ S => asgTs G call t d ρ S
theorem sg_n (c : COk X C G call) {i : Nat} {x : Str} {pos : Pos} (h1 : C.N[i]? = some x) (h2 : locB C x = true) : PG X (.Name x pos) (tG X.K (agf G call (.n i)) [i]) := by
  obtain ⟨l1, l2⟩ := loc_ok c h2
  refine pg_imp (pg_name (i := i) (by rw [c.hN]; exact c.nd) (by rw [c.hN]; exact h1) l1 l2) ?_
  rintro v σ H Q ⟨ρ, m, S, d, ρ', S', en, s, r, e, k⟩
  simp only [agf, asgT] at e
  split at e
  · rename_i hi
    cases e
    refine k _ H m (en.set hi r) s .refl (by rw [List.length_set]) fun j hj => ?_
    rw [List.getElem?_set_ne (fun z => hj (by rw [← z]; exact List.mem_singleton.mpr rfl))]
  · cases e
theorem assignEach_cons {e : Expr} {es : List Expr} {env : PySem.Env} (h : notStar e = true) : assignEach (e :: es) env = (false, assign e env) :: assignEach es env := by
  cases e <;> first | rfl | cases h
theorem assignEach_len {env : PySem.Env} : ∀ {es : List Expr}, es.all notStar = true → (assignEach es env).length = es.length ∧ (assignEach es env).findIdx? (·.1) = none
  | [], _ => ⟨rfl, rfl⟩
  | e :: es, h => by
    rw [List.all_cons, Bool.and_eq_true] at h
    obtain ⟨h1, h2⟩ := assignEach_len (env := env) h.2
    rw [assignEach_cons h.1]
    refine ⟨by rw [List.length_cons, List.length_cons, h1], ?_⟩
    rw [List.findIdx?_cons]
    simp [h2]
theorem sg_tup (c : COk X C G call) {ts : Tgs} {es : List Expr} {j : Nat} {pos : Pos} {sl : List Nat} (hs : es.all notStar = true) (h : PGs X es (tGs X.K (agsf G call ts) sl)) (hl : ∀ ds ρ S r, asgTs G call ts ds ρ S = some r → ds.length = es.length) : PG X (.Tuple es j pos) (tG X.K (agf G call (.tup ts)) sl) := by
  obtain ⟨h1, h2⟩ := assignEach_len (env := X.env) hs
  refine pg_imp (pg_tup c.calm h h1 h2) ?_
  rintro v σ H Q ⟨ρ, m, S, d, ρ', S', en, s, r, e, k⟩
  simp only [agf, asgT] at e
  split at e
  · rename_i xs e1
    obtain ⟨a, vs, rfl, h3, h4⟩ := tupOf_ok (t := .d d) r e1
    exact ⟨a, vs, rfl, h3, by rw [← h4.len]; exact hl _ _ _ _ e, ρ, m, S, xs, ρ', S', en, s, h4, e, k⟩
  · cases e
theorem sgs_nil : PGs X [] (tGs X.K (agsf G call .nil) []) := pgs_imp pgs_nil fun vs σ H Q ⟨ρ, m, S, ds, ρ', S', en, s, r, e, k⟩ => by
  cases ds with
  | nil =>
    simp only [agsf, asgTs] at e
    cases e
    exact ⟨r.nil_inv, k σ H m en s .refl rfl fun _ _ => rfl⟩
  | cons d ds => simp [agsf, asgTs] at e
theorem sgs_cons {t : Tg} {ts : Tgs} {e : Expr} {es : List Expr} {sl sl' : List Nat} (hs : notStar e = true) (h1 : PG X e (tG X.K (agf G call t) sl)) (h2 : PGs X es (tGs X.K (agsf G call ts) sl')) : PGs X (e :: es) (tGs X.K (agsf G call (.cons t ts)) (sl ++ sl')) := by
  refine pgs_imp (pgs_cons h1 h2 (by rw [assignEach_cons hs]; rfl)) ?_
  rintro vs σ H Q ⟨ρ, m, S, ds, ρ', S', en, s, r, e, k⟩
  cases ds with
  | nil => simp [agsf, asgTs] at e
  | cons d ds =>
    obtain ⟨v, ws, rfl, r1, r2⟩ := r.cons_inv
    simp only [agsf, asgTs] at e
    split at e
    · rename_i ρ1 S1 e1
      refine ⟨v, ws, rfl, ρ, m, S, d, ρ1, S1, en, s, r1, e1, fun σ1 H1 m1 en1 s1 f1 l1 u1 => ?_⟩
      refine ⟨ρ1, m1, S1, ds, ρ', S', en1, s1, r2.kp (f1.kp s), e, fun σ2 H2 m2 en2 s2 f2 l2 u2 => ?_⟩
      exact k σ2 H2 m2 en2 s2 (f1.trans f2) (l2.trans l1) fun i hi => (u2 i fun z => hi (List.mem_append_right _ z)).trans (u1 i fun z => hi (List.mem_append_left _ z))
    · cases e
theorem sg_sub (c : COk X C G call) {o i : Ex} {e y : Expr} {pos : Pos} (hi : ∀ a b c p, y ≠ .Slice a b c p) (ho : SE X G call o e) (hy : SE X G call i y) : PG X (.Subscript e y pos) (tG X.K (agf G call (.sub o i)) []) := by
  have hu : X.A.units + 1 < cLine := by have := c.room.un; omega
  refine pg_imp (pg_sub ho.1 hy.1 (o_set hu) fun v => ?_) ?_
  · cases y <;> first | rfl | exact absurd rfl (hi _ _ _ _)
  rintro v σ H Q ⟨ρ, m, S, d, ρ', S', en, s, r, e, k⟩
  simp only [agf, asgT] at e
  split at e
  · rename_i t S1 e1
    split at e
    · rename_i u S2 e2
      split at e
      · rename_i S3 e3
        cases e
        refine then1 en s e1 fun v1 H1 m1 s1 f1 en1 r1 => ?_
        obtain ⟨m1', s1', f1', r1'⟩ := norm_ok s1 f1 r1
        refine then1 (en.fr f1' s) s1' e2 fun v2 H2 m2 s2 f2 en2 r2 => ?_
        obtain ⟨m2', s2', f2', r2'⟩ := norm_ok s2 f2 r2
        have f12 := f1'.trans f2'
        refine ⟨_, _, d, m2', _, _, s2', Rep.kp (f2'.kp s1') r1', r2', Rep.kp (f12.kp s) r, e3, fun H3 s3 f3 => ?_⟩
        exact k σ H3 m2' (en.fr (f12.trans f3) s) s3 (f12.trans f3) rfl fun _ _ => rfl
      · cases e
    · cases e
  · cases e
end
end F

/-! List comprehensions; every checked expression. -/
namespace F
open PySem PySem.Spec PyProof.Rows L2
variable [Tb]

theorem wipe_get (σ : L2.St) (i : Nat) : ∀ vs : List Nat, (L2.wipe σ vs)[i]? = if i ∈ vs then (if i < σ.length then some none else none) else σ[i]?
  | [] => by simp [L2.wipe]
  | v :: vs => by
    unfold L2.wipe
    have ih := wipe_get σ i vs
    by_cases hv : v = i
    · subst hv
      rw [if_pos List.mem_cons_self]
      by_cases hl : v < σ.length
      · rw [if_pos hl, List.getElem?_set_self (by rw [wipe_length]; exact hl)]
      · rw [if_neg hl, List.getElem?_eq_none (by rw [List.length_set, wipe_length]; omega)]
    · rw [List.getElem?_set_ne hv, ih]
      by_cases hm : i ∈ vs
      · rw [if_pos hm, if_pos (List.mem_cons_of_mem _ hm)]
      · rw [if_neg hm, if_neg (by simp only [List.mem_cons, not_or]; exact ⟨fun z => hv z.symm, hm⟩)]
theorem wipe_same {σ σ2 : L2.St} {vs : List Nat} (hl : σ2.length = (L2.wipe σ vs).length) (h : ∀ i, i ∉ vs → σ2[i]? = (L2.wipe σ vs)[i]?) : L2.wipe σ2 vs = L2.wipe σ vs := by
  apply List.ext_getElem?
  intro i
  rw [wipe_length] at hl
  rw [wipe_get, wipe_get, hl]
  by_cases hm : i ∈ vs
  · rw [if_pos hm, if_pos hm]
  · rw [if_neg hm, if_neg hm, h i hm, wipe_get, if_neg hm]
section
variable {K : PySem.W.Frag} {H H' : Hp} {m m' : List Addr} {S : Store}
/-- a list that is no part of the store is written -/
theorem SR.off {a : Addr} {xs ys : List V} (s : SR K H m S) (n : a ∉ m) (h : H a = some (.lst xs)) : SR K (upd H a (.lst ys)) m S := by
  have k : Kp H m (upd H a (.lst ys)) m := ⟨fun b zs e => by rw [upd_ne (fun z => by rw [z, h] at e; cases e)]; exact e, fun b o u e => by rw [upd_ne (fun z => by rw [z, h] at e; cases e)]; exact e, [], (List.append_nil _).symm⟩
  exact ⟨s.len, s.nd, fun i o b e1 e2 => (s.ob i o b e1 e2).kp k (upd_ne fun z => n (by rw [← z]; exact List.mem_of_getElem? e2)), tabs_put s.tab h trivial⟩
theorem Fr.off {H0 : Hp} {m0 : List Addr} {a : Addr} {o : HO} (f : Fr H0 m0 H m) (h : H0 a = none) : Fr H0 m0 (upd H a o) m :=
  ⟨fun b u e n t => ⟨by rw [upd_ne (ne_of_none e h)]; exact (f.keepN b u e n t).1, (f.keepN b u e n t).2⟩, fun b ps e n => ⟨(by obtain ⟨⟨qs, q⟩, _⟩ := f.tb b ps e n; exact ⟨qs, by rw [upd_ne (ne_of_none e h)]; exact q⟩), (f.tb b ps e n).2⟩, f.pre, fun b _ _ e => by rw [upd_ne (ne_of_none e h)]; exact f.frz b _ _ e⟩
theorem kp_off {a : Addr} {xs ys : List V} (h : H a = some (.lst xs)) : Kp H m (upd H a (.lst ys)) m :=
  ⟨fun b zs e => by rw [upd_ne (fun z => by rw [z, h] at e; cases e)]; exact e, fun b o u e => by rw [upd_ne (fun z => by rw [z, h] at e; cases e)]; exact e, [], (List.append_nil _).symm⟩
end
section
variable {X : Cx} {C : Ctx} {G : List D} {call : Call}
theorem lc_ok (c : COk X C G call) {elt tg iter : Expr} {ifs : List Expr} {scope : Scope} {own : List (Str × Nat)} {pos : Pos} {fI : Env → Store → Option (List D × Live × Store)} {fG : D → Env → Store → Option (Env × Store)} {fC : Env → Store → Option (Bool × Store)} {fE : EF} {sl : List Nat}
    (hi : PI X tg iter (tIt X fI)) (ok : BlkOk X.N X.env.scope scope own)
    (hg : ∀ (s : Shared) (H : Hp) (Cc : Addr) (cl : List (Str × Addr)) (fp : List Addr), PG (X.blk s H scope (compEnvC scope cl Cc X.env) fp) tg (tG X.K fG sl))
    (ht : ∀ (s : Shared) (H : Hp) (Cc : Addr) (cl : List (Str × Addr)) (fp : List Addr), PTs (X.blk s H scope (compEnvC scope cl Cc X.env) fp) ifs (tTst X.K fC))
    (he : ∀ (s : Shared) (H : Hp) (Cc : Addr) (cl : List (Str × Addr)) (fp : List Addr), PE (X.blk s H scope (compEnvC scope cl Cc X.env) fp) elt (tE X.K fE))
    (hsub : ∀ i ∈ sl, i ∈ own.map (·.2)) :
    ∀ σ H Q, tE X.K (fun ρ S => match fI ρ S with
      | some (ds, ch, S1) => match lcGo fG fC fE ch (wipeE ρ (own.map (·.2))) (own.map (·.2)) ds [] S1 with
        | some (acc, S2) => some (.tmp acc, unl ch S2)
        | none => none
      | none => none) σ H Q → tLc (tIt X fI) (tG X.K fG sl) (tTst X.K fC) (tE X.K fE) (own.map (·.2)) σ H (fun v H' => UnlQ X (Q v) H') := by
  rintro σ H Q ⟨ρ, m, S, t, S', en, s, e, k⟩
  simp only at e
  split at e
  · rename_i ds ch S1 e1
    split at e
    · rename_i accF S2F e2
      cases e
      refine ⟨ρ, m, S, ds, ch, S1, en, s, e1, fun J H1 m1 s1 f1 nf it L nL => ?_⟩
      have enw := (en.fr f1 s).wipe (own.map (·.2))
      refine ⟨fun i n H2 => ∃ m2 S2 acc vs, i + n = ds.length ∧ SR X.K H2 m2 S2 ∧ Fr H1 m1 H2 m2 ∧ H2 L = some (.lst vs) ∧ L ∉ m2 ∧ RepL X.K H2 m2 acc vs ∧
        lcGo fG fC fE ch (wipeE ρ (own.map (·.2))) (own.map (·.2)) (ds.drop i) acc S2 = some (accF, S2F), ?_, ?_⟩
      · exact ⟨ds.length, m1, S1, [], [], by omega, s1.new nL, Fr.new nL, upd_same, s1.nnone nL, .nil, e2⟩
      · rintro i n H2 ⟨m2, S2, acc, vs, hn, s2, f2, hL, nm, hr, e3⟩
        by_cases hlt : i < ds.length
        · obtain ⟨d, hd⟩ : ∃ d, ds[i]? = some d := ⟨_, List.getElem?_eq_getElem hlt⟩
          have hdrop : ds.drop i = d :: ds.drop (i + 1) := by
            rw [List.drop_eq_getElem_cons hlt]
            rw [List.getElem?_eq_getElem hlt] at hd
            cases hd; rfl
          rw [hdrop] at e3
          unfold lcGo at e3
          split at e3
          · rename_i hch
            obtain ⟨go, turn⟩ := (it.turn i H2 m2 S2 f2 s2 hch).2 d hd
            refine .inr ⟨go, fun H3 => ∃ m3 S3 acc vs, (i + 1) + (n - 1) = ds.length ∧ SR X.K H3 m3 S3 ∧ Fr H1 m1 H3 m3 ∧ H3 L = some (.lst vs) ∧ L ∉ m3 ∧ RepL X.K H3 m3 acc vs ∧
              lcGo fG fC fE ch (wipeE ρ (own.map (·.2))) (own.map (·.2)) (ds.drop (i + 1)) acc S3 = some (accF, S2F), fun H3 h3 => ⟨n - 1, by omega, h3⟩, fun x H3 hy => ?_⟩
            obtain ⟨rx, s3, f3⟩ := turn x H3 hy
            split at e3
            · rename_i ρ1 S4 e4
              have f13 := f2.trans f3
              refine ⟨_, m2, S2, d, ρ1, S4, enw.fr f13 s1, s3, rx, e4, fun σ4 H4 m4 en4 s4 f4 l4 u4 => ⟨wipe_same l4 fun i hi => u4 i fun z => hi (hsub i z), ?_⟩⟩
              obtain ⟨hL3, nm3⟩ := f3.keep L _ hL nm
              obtain ⟨hL4, nm4⟩ := f4.keep L _ hL3 nm3
              split at e3
              · rename_i S5 e5
                refine ⟨ρ1, m4, S4, true, S5, en4, s4, e5, fun H5 m5 s5 f5 => iteT ?_⟩
                obtain ⟨hL5, nm5⟩ := f5.keep L _ hL4 nm4
                split at e3
                · rename_i t6 S6 e6
                  split at e3
                  · rename_i hz
                    refine ⟨ρ1, m5, S5, t6, S6, en4.fr f5 s4, s5, e6, fun y H6 m6 s6 f6 r6 => ?_⟩
                    obtain ⟨m7, s7, f7, r7⟩ := norm_ok s6 f6 r6
                    obtain ⟨hL7, nm7⟩ := f7.keep L _ hL5 nm5
                    have hr7 : RepL X.K H6 m7 acc vs := (((hr.kp (f3.kp s2)).kp (f4.kp s3)).kp (f5.kp s4)).kp (f7.kp s5)
                    refine ⟨vs, hL7, by rw [← hr.len]; exact hz, m7, _, acc ++ [(norm t6 S6).1], vs ++ [y], by omega, s7.off nm7 hL7, ?_, upd_same, nm7, (hr7.app (.cons r7 .nil)).kp (kp_off hL7), e3⟩
                    exact ((((f13.trans f4).trans f5).trans f7)).off nL
                  · cases e3
                · cases e3
              · rename_i S5 e5
                refine ⟨ρ1, m4, S4, false, S5, en4, s4, e5, fun H5 m5 s5 f5 => iteF ?_⟩
                obtain ⟨hL5, nm5⟩ := f5.keep L _ hL4 nm4
                exact ⟨m5, S5, acc, vs, by omega, s5, (f13.trans f4).trans f5, hL5, nm5, ((hr.kp (f3.kp s2)).kp (f4.kp s3)).kp (f5.kp s4), e3⟩
              · cases e3
            · cases e3
          · cases e3
        · have hdrop : ds.drop i = [] := List.drop_of_length_le (by omega)
          rw [hdrop] at e3
          unfold lcGo at e3
          split at e3
          · rename_i hch
            cases e3
            refine .inl ⟨(it.turn i H2 m2 _ f2 s2 hch).1 (by omega), ?_⟩
            obtain ⟨H3, u1, u2, u3, u4, u5⟩ := unl_ok (X := X) (ch := ch) nf (f1.trans f2) f2.pre s2
            exact u1 _ (k _ H3 m2 u2 u3 ⟨L, vs, rfl, f1.untr s s1 nL, u5 L _ hL nm, nm, hr.kp u4⟩)
          · cases e3
    · cases e
  · cases e
theorem blk_cok (c : COk X C G call) {scope : Scope} (hk : scope.kind = .function) {s : Shared} {H : Hp} {Cc : Addr} {cl : List (Str × Addr)} {fp : List Addr} : COk (X.blk s H scope (compEnvC scope cl Cc X.env) fp) (blkX C scope) G call where
  hN := c.hN
  nd := c.nd
  sc := by show relS scope X.env.scope = relS scope C.sc; rw [c.sc]
  kind := hk
  calm := c.calm
  fnh := fun x h => h
  gl := c.gl
  bl := c.bl
  fs := c.fs
  ms := c.ms
  fa := c.fa
  room := c.room
  gd := c.gd
  rk := c.rk
  lm := fun z => nomatch z
theorem pts_conds {as : Exs} {ifs : List Expr} (h : SEs X G call as ifs) (hl : exsLen as ≤ 1) (ht : ifs.all tOk = true) : PTs X ifs (tTst X.K fun ρ S => evC G call as ρ S) := by
  cases h with
  | nil =>
    refine ⟨fun pins s σ H Q I q => pts_nil.run pins s σ H Q I ?_⟩
    obtain ⟨ρ, m, S, b, S', en, s', e, k⟩ := q
    simp only [evC] at e
    cases e
    exact k H m s' .refl
  | cons hs h1 h2 =>
    cases h2 with
    | nil =>
      rw [List.all_cons, Bool.and_eq_true] at ht
      refine ⟨fun pins s σ H Q I q => (pts_one (h1.2 ht.1)).run pins s σ H Q I ?_⟩
      obtain ⟨ρ, m, S, b, S', en, s', e, k⟩ := q
      simp only [evC] at e
      exact ⟨ρ, m, S, b, S', en, s', e, k⟩
    | cons _ _ h3 => simp [exsLen] at hl
theorem folded_of {e : Expr} {env : PySem.Env} (h : notSet e = true) : ∀ x, foldedSetIterable e env x = pure x := fun x => by
  cases e <;> first | rfl | cases h

theorem SEs.cons_inv {a : Ex} {as : Exs} {e : Expr} {es : List Expr} (h : SEs X G call (.cons a as) (e :: es)) : notStar e = true ∧ SE X G call a e ∧ SEs X G call as es := by cases h with | cons a b c => exact ⟨a, b, c⟩
/-- an operation, by its shape -/
theorem se_prim (c : COk X C G call) {p : Prim} {as : Exs} {e : Expr} {es : List Expr} (h : shape C p e = some es) (ha : SEs X G call as es) : SE X G call (.prim p as) e := by
  unfold shape at h
  split at h
  · split at h
    · rename_i hp; cases h
      obtain ⟨a, b, rfl, h1, h2⟩ := ha.two
      exact se_bin hp h1 h2
    · cases h
  · split at h
    · rename_i hp; cases h
      obtain ⟨a, rfl, h1⟩ := ha.one
      obtain ⟨rfl, rfl⟩ := hp
      exact se_neg h1
    · cases h
  · split at h
    · rename_i hp; cases h
      obtain ⟨a, b, rfl, h1, h2⟩ := ha.two
      exact se_cmp c hp.1 hp.2 h1 h2
    · split at h
      · cases h
        obtain ⟨a, rfl, h1⟩ := ha.one
        exact se_isN (neg := false) h1
      · cases h
        obtain ⟨a, rfl, h1⟩ := ha.one
        exact se_isN (neg := true) h1
      · split at h
        · rename_i hk; cases h; subst hk
          obtain ⟨a, rfl, h1⟩ := ha.one
          exact se_isB (neg := false) h1
        · cases h
      · split at h
        · rename_i hk; cases h; subst hk
          obtain ⟨a, rfl, h1⟩ := ha.one
          exact se_isB (neg := true) h1
        · cases h
      · obtain ⟨x, y, q1, q2, q3, q4⟩ := reprSh_inv h
        obtain ⟨f1, p1, p2, rfl, q5, q6⟩ := reprA_inv q1
        obtain ⟨f2, p3, p4, rfl, q7, q8⟩ := reprA_inv q2
        subst q4
        obtain ⟨a, b, rfl, h1, h2⟩ := ha.two
        exact se_reprC c q5 q7 q6 q8 q3 h1 h2
      · cases h
  · split at h
    · rename_i s hs
      split at h
      · rename_i hb; cases h; exact se_cb c hs hb ha
      · cases h
    · split at h
      · rename_i s hs
        split at h
        · rename_i hb; cases h; exact se_ct c hs hb ha
        · cases h
      · split at h
        · split at h
          · rename_i hb; cases h
            have hst := ha.star
            obtain ⟨a, rfl, h1⟩ := ha.one
            rw [List.all_cons, Bool.and_eq_true] at hst
            exact se_inst c hb.1 hb.2 hst.1 h1
          · cases h
        · split at h
          · rename_i hb; cases h
            obtain ⟨a, rfl, h1⟩ := ha.one
            exact se_lenSet c hb.1 hb.2.1 hb.2.2 h1
          · cases h
        · split at h
          · rename_i hb; cases h
            obtain ⟨a, rfl, h1⟩ := ha.one
            exact se_sortedSet c hb.1 hb.2.1 hb.2.2 h1
          · cases h
        · split at h
          · rename_i hb; cases h
            obtain ⟨a, rfl, h1⟩ := ha.one
            exact se_sorted c hb.1 hb.2 h1
          · cases h
        · split at h
          · rename_i hb; cases h
            obtain ⟨a, rfl, h1⟩ := ha.one
            exact se_best c false hb.1 hb.2 h1
          · cases h
        · split at h
          · rename_i hb; cases h
            obtain ⟨a, rfl, h1⟩ := ha.one
            exact se_best c true hb.1 hb.2 h1
          · cases h
        · split at h
          · rename_i hb; cases h
            obtain ⟨a, rfl, h1⟩ := ha.one
            exact se_dictP c hb.1 hb.2 h1
          · cases h
        · split at h
          · rename_i hb; cases h
            obtain ⟨a, rfl, h1⟩ := ha.one
            exact se_tupRev c hb.1 hb.2.1 hb.2.2 h1
          · cases h
        · split at h
          · rename_i hb; cases h
            obtain ⟨a, b, d, rfl, h1, h2, h3⟩ := ha.three
            exact se_tupRange c hb.1 hb.2.1 hb.2.2.1 hb.2.2.2.1 hb.2.2.2.2 h1 h2 h3
          · cases h
        · cases h
  · split at h
    · rename_i hp; cases h
      obtain ⟨rfl, hf, rfl, hs⟩ := hp
      obtain ⟨a, b, rfl, h1, h2⟩ := ha.two
      exact se_minD c hf hs h1 h2
    · split at h
      · rename_i hp; cases h
        obtain ⟨rfl, hf, rfl, hs, hk⟩ := hp
        obtain ⟨a, rfl, h1⟩ := ha.one
        exact se_sortR c hf hs hk h1
      · cases h
  · split at h
    · rename_i hp; cases h
      obtain ⟨rfl, hf, rfl, rfl, hs, hk, hn⟩ := hp
      obtain ⟨a, rfl, h1⟩ := ha.one
      exact se_maxR c hf hs hk hn h1
    · cases h
  · split at h
    · cases h; obtain ⟨a, rfl, h1⟩ := ha.one; exact se_slice00 h1
    · cases h; obtain ⟨a, b, rfl, h1, h2⟩ := ha.two; exact se_slice10 h1 h2
    · cases h; obtain ⟨a, b, rfl, h1, h2⟩ := ha.two; exact se_slice01 h1 h2
    · cases h; obtain ⟨a, b, d, rfl, h1, h2, h3⟩ := ha.three; exact se_slice11 h1 h2 h3
    · cases h
  · split at h
    · rename_i hp; cases h; subst hp; obtain ⟨a, rfl, h1⟩ := ha.one; exact se_rev h1
    · cases h
  · split at h
    · cases h
    · rename_i hn
      split at h
      · rename_i hp; cases h; subst hp
        obtain ⟨a, b, rfl, h1, h2⟩ := ha.two
        exact se_item c hn h1 h2
      · cases h
  · cases h
theorem slotss_len {ds : List D} : ∀ {ts : Tgs} {es : List Expr} {C : Ctx} {ρ : Env} {S : Store} {r : Env × Store}, mtTs C ts es = true → asgTs G call ts ds ρ S = some r → ds.length = es.length := by
  induction ds with
  | nil =>
    intro ts es C ρ S r h e
    cases ts with
    | nil => cases es with
      | nil => rfl
      | cons _ _ => simp [mtTs] at h
    | cons t ts => simp [asgTs] at e
  | cons d ds ih =>
    intro ts es C ρ S r h e
    cases ts with
    | nil => simp [asgTs] at e
    | cons t ts =>
      cases es with
      | nil => simp [mtTs] at h
      | cons x es =>
        simp only [mtTs, Bool.and_eq_true] at h
        simp only [asgTs] at e
        split at e
        · rw [List.length_cons, List.length_cons, ih h.2 e]
        · cases e
theorem mtTs_star : ∀ {ts : Tgs} {es : List Expr} {C : Ctx}, mtTs C ts es = true → es.all notStar = true
  | .nil, [], _, _ => rfl
  | .nil, _ :: _, _, h => by simp [mtTs] at h
  | .cons t ts, [], _, h => by simp [mtTs] at h
  | .cons t ts, e :: es, C, h => by
    simp only [mtTs, Bool.and_eq_true] at h
    rw [List.all_cons, h.1.1, mtTs_star h.2]; rfl
end
mutual
/-- EVERY CHECKED EXPRESSION -/
theorem sE {G : List D} {call : Call} : ∀ (x : Ex) {C : Ctx} {X : Cx} {e : Expr}, COk X C G call → mtE C x e = true → SE X G call x e
  | .c d, C, X, e, c, h => by
    simp only [mtE] at h
    split at h
    · exact se_c h
    · cases h
  | .v i, C, X, e, c, h => by
    simp only [mtE] at h
    split at h
    · rw [Bool.and_eq_true, Bool.and_eq_true] at h
      exact se_v c (of_decide_eq_true h.1.1) h.1.2 h.2
    · cases h
  | .g j, C, X, e, c, h => by
    simp only [mtE] at h
    split at h
    · rw [Bool.and_eq_true, Bool.and_eq_true] at h
      obtain ⟨⟨h1, h2⟩, h3⟩ := h
      split at h1
      · rename_i y d e1
        cases of_decide_eq_true h1
        exact se_g c e1 h2 h3
      · cases h1
    · cases h
  | .prim p as, C, X, e, c, h => by
    simp only [mtE] at h
    split at h
    · rename_i es e1; exact se_prim c e1 (sEs as c h)
    · cases h
  | .meth p o as, C, X, e, c, h => by
    simp only [mtE] at h
    split at h
    · rename_i o' m apos pos
      simp only [Bool.and_eq_true] at h
      obtain ⟨⟨⟨⟨h1, h2⟩, h3⟩, h4⟩, h5⟩ := h
      split at h1
      · rename_i n e1
        cases sEs as c h5
        have hp : p = .popEnd ∧ n = "pop" := by cases p <;> first | (cases e1; done) | (cases e1; exact ⟨rfl, rfl⟩)
        obtain ⟨rfl, rfl⟩ := hp
        cases of_decide_eq_true h1
        exact se_popEnd h2 (of_decide_eq_true h3) (sE o c h4)
      · cases h1
    · rename_i o' m apos a pos
      simp only [Bool.and_eq_true] at h
      obtain ⟨⟨⟨⟨h1, h2⟩, h3⟩, h4⟩, h5⟩ := h
      split at h1
      · rename_i Tn n e1
        have ha := sEs as c h5
        have hst := ha.star
        obtain ⟨b, rfl, hb⟩ := ha.one
        rw [List.all_cons, Bool.and_eq_true] at hst
        exact se_meth e1 (of_decide_eq_true h1) h2 (of_decide_eq_true h3) hst.1 (sE o c h4) hb
      · split at h1
        · rename_i n e1
          have ha := sEs as c h5
          have hst := ha.star
          obtain ⟨b, rfl, hb⟩ := ha.one
          rw [List.all_cons, Bool.and_eq_true] at hst
          have hp : p = .get1 ∧ n = "get" := by cases p <;> first | (cases e1; done) | (cases e1; exact ⟨rfl, rfl⟩)
          obtain ⟨rfl, rfl⟩ := hp
          cases of_decide_eq_true h1
          exact se_get1 c h2 (of_decide_eq_true h3) hst.1 (sE o c h4) hb
        · cases h1
    · rename_i o' m apos a b pos
      simp only [Bool.and_eq_true] at h
      obtain ⟨⟨⟨⟨h1, h2⟩, h3⟩, h4⟩, h5⟩ := h
      split at h1
      · rename_i n e1
        have ha := sEs as c h5
        have hst := ha.star
        obtain ⟨u, v, rfl, hu, hv⟩ := ha.two
        rw [List.all_cons, List.all_cons, Bool.and_eq_true, Bool.and_eq_true] at hst
        have hp : (p = .get2 ∧ n = "get") ∨ (p = .setdef ∧ n = "setdefault") ∨ (p = .insert ∧ n = "insert") := by
          cases p <;> first
            | (cases e1; done)
            | (cases e1; exact .inl ⟨rfl, rfl⟩)
            | (cases e1; exact .inr (.inl ⟨rfl, rfl⟩))
            | (cases e1; exact .inr (.inr ⟨rfl, rfl⟩))
        rcases hp with ⟨rfl, rfl⟩ | ⟨rfl, rfl⟩ | ⟨rfl, rfl⟩
        · cases of_decide_eq_true h1
          exact se_get2 c h2 (of_decide_eq_true h3) hst.1 hst.2.1 (sE o c h4) hu hv
        · cases of_decide_eq_true h1
          exact se_setdef c h2 (of_decide_eq_true h3) hst.1 hst.2.1 (sE o c h4) hu hv
        · cases of_decide_eq_true h1
          exact se_insert c h2 (of_decide_eq_true h3) hst.1 hst.2.1 (sE o c h4) hu hv
      · cases h1
    · cases h
  | .fld cs o f, C, X, e, c, h => by
    simp only [mtE] at h
    split at h
    · simp only [Bool.and_eq_true] at h
      obtain ⟨⟨⟨h1, h2⟩, h3⟩, h4⟩ := h
      cases of_decide_eq_true h1
      exact se_fld c h2 (fun x hx => of_decide_eq_true (List.all_eq_true.mp h4 x hx)) (sE o c h3)
    · cases h
  | .mcall tb o m as, C, X, e, c, h => by
    simp only [mtE] at h
    split at h
    · simp only [Bool.and_eq_true] at h
      obtain ⟨⟨⟨⟨⟨⟨⟨h1, h2⟩, h3⟩, h4⟩, h5⟩, h6⟩, h7⟩, h8⟩ := h
      cases of_decide_eq_true h1
      exact se_mcall c h2 (of_decide_eq_true h3) (of_decide_eq_true h4) (of_decide_eq_true h5) (fun p hp => of_decide_eq_true (List.all_eq_true.mp h8 p hp)) (sE o c h6) (sEs as c h7)
    · cases h
  | .make cn i as, C, X, e, c, h => by
    simp only [mtE] at h
    split at h
    · simp only [Bool.and_eq_true] at h
      obtain ⟨⟨⟨⟨h1, h2⟩, h3⟩, h4⟩, h5⟩ := h
      exact se_make c (of_decide_eq_true h1) (of_decide_eq_true h2) h3 h4 (sEs as c h5)
    · cases h
  | .tup as, C, X, e, c, h => by
    simp only [mtE] at h
    split at h
    · exact se_tup (sEs as c h)
    · cases h
  | .lst as, C, X, e, c, h => by
    simp only [mtE] at h
    split at h
    · exact se_lst (sEs as c h)
    · cases h
  | .dK, C, X, e, c, h => by
    simp only [mtE] at h
    split at h
    · exact se_dK
    · cases h
  | .dT, C, X, e, c, h => by
    simp only [mtE] at h
    split at h
    · exact se_dT
    · cases h
  | .disp u v, C, X, e, c, h => by
    simp only [mtE] at h
    split at h
    · rw [Bool.and_eq_true] at h
      exact se_disp (sE u c h.1) (sE v c h.2)
    · cases h
  | .and as, C, X, e, c, h => by
    simp only [mtE] at h
    split at h
    · rw [Bool.and_eq_true] at h
      obtain ⟨h1, h2⟩ := se_and (sEs as c h.1) h.2
      refine ⟨?_, fun _ => ?_⟩
      · have e1 : tE X.K (evf G call (.and as)) = tE X.K fun ρ S => evB G call true as ρ S := tE_congr fun ρ S => by simp only [ev]
        rw [e1]; exact h1
      · have e1 : (fun ρ S => toB (ev G call (.and as) ρ S)) = fun ρ S => toB (evB G call true as ρ S) := funext fun ρ => funext fun S => by simp only [ev]
        rw [e1]; exact h2.pt
    · cases h
  | .or as, C, X, e, c, h => by
    simp only [mtE] at h
    split at h
    · rw [Bool.and_eq_true] at h
      obtain ⟨h1, h2⟩ := se_or (sEs as c h.1) h.2
      refine ⟨?_, fun _ => ?_⟩
      · have e1 : tE X.K (evf G call (.or as)) = tE X.K fun ρ S => evB G call false as ρ S := tE_congr fun ρ S => by simp only [ev]
        rw [e1]; exact h1
      · have e1 : (fun ρ S => toB (ev G call (.or as) ρ S)) = fun ρ S => toB (evB G call false as ρ S) := funext fun ρ => funext fun S => by simp only [ev]
        rw [e1]; exact h2.pt
    · cases h
  | .not a, C, X, e, c, h => by
    simp only [mtE] at h
    split at h
    · rw [Bool.and_eq_true] at h
      exact se_not h.2 (sE a c h.1)
    · cases h
  | .ite t a b, C, X, e, c, h => by
    simp only [mtE] at h
    split at h
    · simp only [Bool.and_eq_true] at h
      exact se_ite h.2 (sE t c h.1.1.1) (sE a c h.1.1.2) (sE b c h.1.2)
    · cases h
  | .chain p q a b d, C, X, e, c, h => by
    simp only [mtE] at h
    split at h
    · simp only [Bool.and_eq_true] at h
      obtain ⟨⟨⟨⟨⟨⟨h1, h2⟩, h3⟩, h4⟩, h5⟩, h6⟩, h7⟩ := h
      exact se_chain c (of_decide_eq_true h1) (of_decide_eq_true h2) h4 (sE a c h5) (sE b c h6) (sE d c h7)
    · cases h
  | .call f as, C, X, e, c, h => by
    simp only [mtE] at h
    split at h
    · simp only [Bool.and_eq_true] at h
      exact se_call c (of_decide_eq_true h.1.1.1) h.1.1.2 h.1.2 (sEs as c h.2)
    · cases h
  | .lc elt tg it cond own, C, X, e, c, h => by
    simp only [mtE] at h
    split at h
    · rename_i e' t i ifs a scope pos
      simp only [Bool.and_eq_true] at h
      obtain ⟨⟨⟨⟨⟨⟨⟨⟨⟨⟨h1, h2⟩, h3⟩, h4⟩, h5⟩, h6⟩, h7⟩, h8⟩, h9⟩, h10⟩, h11⟩ := h
      cases of_decide_eq_true h1
      have hb : BlkOk X.N X.env.scope scope (ownP C.N own) := by rw [c.hN, c.sc]; exact blkOk_by h4
      have ho : (ownP C.N own).map (·.2) = own := by
        unfold ownP
        rw [List.map_map]
        exact List.map_id _
      refine se_val ?_ fun _ => rfl
      have hlc := lc_ok c (elt := e') (pos := pos) (fG := agf G call tg) (fC := fun ρ S => evC G call cond ρ S) (fE := evf G call elt) (sl := slots tg) (sI it c h2) hb (fun s H Cc cl fp => sT tg (blk_cok c hb.kind) h9)
        (fun s H Cc cl fp => pts_conds (sEs cond (blk_cok c hb.kind) h10) (of_decide_eq_true h7) h8) (fun s H Cc cl fp => (sE elt (blk_cok c hb.kind) h11).1)
        (fun i hi => by rw [ho]; exact of_decide_eq_true (List.all_eq_true.mp h5 i hi))
      have hE : tE X.K (evf G call (.lc elt tg it cond own)) = tE X.K (fun ρ S => match evif G call it ρ S with
        | some (ds, ch, S1) => match lcGo (agf G call tg) (fun ρ S => evC G call cond ρ S) (evf G call elt) ch (wipeE ρ ((ownP C.N own).map (·.2))) ((ownP C.N own).map (·.2)) ds [] S1 with
          | some (acc, S2) => some (.tmp acc, unl ch S2)
          | none => none
        | none => none) := tE_congr fun ρ S => by
          simp only [ev, ho]
          try rfl
      rw [hE]
      exact pe_imp (pe_unl <| pe_lc c.calm (by rw [c.hN]; exact c.nd) (sI it c h2) hb (fun s H Cc cl fp => sT tg (blk_cok c hb.kind) h9)
        (fun s H Cc cl fp => pts_conds (sEs cond (blk_cok c hb.kind) h10) (of_decide_eq_true h7) h8) (fun s H Cc cl fp => (sE elt (blk_cok c hb.kind) h11).1) (folded_of h3)) hlc
    · cases h
theorem sEs {G : List D} {call : Call} : ∀ (x : Exs) {C : Ctx} {X : Cx} {e : List Expr}, COk X C G call → mtEs C x e = true → SEs X G call x e
  | .nil, C, X, e, c, h => by
    simp only [mtEs] at h
    split at h
    · exact .nil
    · cases h
  | .cons a as, C, X, e, c, h => by
    simp only [mtEs] at h
    split at h
    · simp only [Bool.and_eq_true] at h
      exact .cons h.1.1 (sE a c h.1.2) (sEs as c h.2)
    · cases h
theorem sI {G : List D} {call : Call} : ∀ (x : It) {C : Ctx} {X : Cx} {e t : Expr}, COk X C G call → mtI C x e t = true → PI X t e (tIt X (evif G call x))
  | .seq a, C, X, e, t, c, h => by
    simp only [mtI] at h
    exact si_seq (sE a c h)
  | .range1 a, C, X, e, t, c, h => by
    simp only [mtI] at h
    split at h
    · simp only [Bool.and_eq_true] at h
      exact si_range1 c h.1.1 h.1.2 (sE a c h.2)
    · cases h
  | .range2 a b, C, X, e, t, c, h => by
    simp only [mtI] at h
    split at h
    · simp only [Bool.and_eq_true] at h
      exact si_range2 c h.1.1.1.1 h.1.1.1.2 h.1.1.2 (sE a c h.1.2) (sE b c h.2)
    · cases h
  | .zip a b, C, X, e, t, c, h => by
    simp only [mtI] at h
    split at h
    · simp only [Bool.and_eq_true] at h
      obtain ⟨⟨⟨⟨⟨h1, h2⟩, h3⟩, h4⟩, h5⟩, h6⟩ := h
      split at h1
      · exact si_zip c h2 h3 h4 (sE a c h5) (sE b c h6)
      · cases h1
    · cases h
  | .enum a, C, X, e, t, c, h => by
    simp only [mtI] at h
    split at h
    · simp only [Bool.and_eq_true] at h
      obtain ⟨⟨⟨h1, h2⟩, h3⟩, h4⟩ := h
      split at h1
      · exact si_enum c h2 h3 (sE a c h4)
      · cases h1
    · cases h
  | .range3 a b d, C, X, e, t, c, h => by
    simp only [mtI] at h
    split at h
    · simp only [Bool.and_eq_true] at h
      obtain ⟨⟨⟨⟨⟨⟨h1, h2⟩, h3⟩, h4⟩, h5⟩, h6⟩, h7⟩ := h
      exact si_range3 c h1 h2 h3 h4 (sE a c h5) (sE b c h6) (sE d c h7)
    · cases h
  | .revd a, C, X, e, t, c, h => by
    simp only [mtI] at h
    split at h
    · simp only [Bool.and_eq_true] at h
      exact si_revd c h.1.1 h.1.2 (sE a c h.2)
    · cases h
  | .keys a, C, X, e, t, c, h => by
    simp only [mtI] at h
    exact si_keys (sE a c h)
  | .vals a, C, X, e, t, c, h => by
    simp only [mtI] at h
    split at h
    · simp only [Bool.and_eq_true] at h
      obtain ⟨⟨⟨h1, h2⟩, h3⟩, h4⟩ := h
      cases of_decide_eq_true h1
      exact si_vals h2 (of_decide_eq_true h3) (sE a c h4)
    · cases h
  | .items a, C, X, e, t, c, h => by
    simp only [mtI] at h
    split at h
    · simp only [Bool.and_eq_true] at h
      obtain ⟨⟨⟨⟨h0, h1⟩, h2⟩, h3⟩, h4⟩ := h
      split at h0
      · cases of_decide_eq_true h1
        exact si_items h2 (of_decide_eq_true h3) (sE a c h4)
      · cases h0
    · cases h
theorem sT {G : List D} {call : Call} : ∀ (x : Tg) {C : Ctx} {X : Cx} {e : Expr}, COk X C G call → mtT C x e = true → PG X e (tG X.K (agf G call x) (slots x))
  | .n i, C, X, e, c, h => by
    simp only [mtT] at h
    split at h
    · rw [Bool.and_eq_true] at h
      exact sg_n c (of_decide_eq_true h.1) h.2
    · cases h
  | .tup ts, C, X, e, c, h => by
    simp only [mtT] at h
    split at h
    · exact sg_tup c (mtTs_star h) (sTs ts c h) fun ds ρ S r e => slotss_len h e
    · cases h
  | .sub o i, C, X, e, c, h => by
    simp only [mtT] at h
    split at h
    · rename_i o' i' pos
      simp only [Bool.and_eq_true] at h
      refine sg_sub c (fun a b d p z => ?_) (sE o c h.1.1) (sE i c h.1.2)
      subst z
      exact Bool.noConfusion h.2
    · cases h
theorem sTs {G : List D} {call : Call} : ∀ (x : Tgs) {C : Ctx} {X : Cx} {e : List Expr}, COk X C G call → mtTs C x e = true → PGs X e (tGs X.K (agsf G call x) (slotss x))
  | .nil, C, X, e, c, h => by
    simp only [mtTs] at h
    split at h
    · exact sgs_nil
    · cases h
  | .cons a as, C, X, e, c, h => by
    simp only [mtTs] at h
    split at h
    · simp only [Bool.and_eq_true] at h
      exact sgs_cons h.1.1 (sT a c h.1.2) (sTs as c h.2)
    · cases h
end
end F

/-! Statements. -/
namespace F
open PySem PySem.Spec PyProof.Rows L2
variable [Tb]

/-! ### while -/
theorem whileF_mono {c : Env → Store → Option (Bool × Store)} {b : Env → Store → Option (Out × Store)} : ∀ {n : Nat} {ρ : Env} {S : Store} {r : Out × Store}, whileF c b n ρ S = some r → whileF c b (n + 1) ρ S = some r
  | 0, ρ, S, r, h => by cases h
  | n + 1, ρ, S, r, h => by
    unfold whileF at h ⊢
    split at h
    · split at h
      · exact whileF_mono h
      · exact whileF_mono h
      · exact h
      · exact h
      · cases h
    · exact h
    · cases h
theorem whileF_le {c : Env → Store → Option (Bool × Store)} {b : Env → Store → Option (Out × Store)} {n k : Nat} {ρ : Env} {S : Store} {r : Out × Store} (h : whileF c b n ρ S = some r) : whileF c b (n + k) ρ S = some r := by
  induction k with
  | zero => exact h
  | succ k ih => exact whileF_mono ih
theorem whileL_of {c : Env → Store → Option (Bool × Store)} {b : Env → Store → Option (Out × Store)} {n : Nat} {ρ : Env} {S : Store} {r : Out × Store} (h : whileF c b n ρ S = some r) : whileL c b ρ S = some r := by
  unfold whileL
  have he : ∃ n r, whileF c b n ρ S = some r := ⟨n, r, h⟩
  rw [dif_pos he]
  have h2 := he.choose_spec.choose_spec
  have h3 := whileF_le (k := n) h2
  have h4 := whileF_le (k := he.choose) h
  rw [Nat.add_comm] at h4
  rw [h4] at h3
  exact h3.symm
theorem whileL_inv {c : Env → Store → Option (Bool × Store)} {b : Env → Store → Option (Out × Store)} {ρ : Env} {S : Store} {r : Out × Store} (h : whileL c b ρ S = some r) : ∃ n, whileF c b n ρ S = some r := by
  unfold whileL at h
  split at h
  · rename_i he
    have e := Option.some.inj h
    exact ⟨he.choose, by rw [he.choose_spec.choose_spec, e]⟩
  · cases h
/-- one turn -/
theorem whileL_eq (c : Env → Store → Option (Bool × Store)) (b : Env → Store → Option (Out × Store)) (ρ : Env) (S : Store) : whileL c b ρ S = match c ρ S with
    | some (true, S1) => match b ρ S1 with
      | some (.nx ρ2, S2) => whileL c b ρ2 S2
      | some (.ct ρ2, S2) => whileL c b ρ2 S2
      | some (.bk ρ2, S2) => some (.nx ρ2, S2)
      | some (.rt x, S2) => some (.rt x, S2)
      | none => none
    | some (false, S1) => some (.nx ρ, S1)
    | none => none := by
  have key : ∀ r, whileL c b ρ S = some r ↔ (match c ρ S with
    | some (true, S1) => match b ρ S1 with
      | some (.nx ρ2, S2) => whileL c b ρ2 S2
      | some (.ct ρ2, S2) => whileL c b ρ2 S2
      | some (.bk ρ2, S2) => some (.nx ρ2, S2)
      | some (.rt x, S2) => some (.rt x, S2)
      | none => none
    | some (false, S1) => some (.nx ρ, S1)
    | none => none) = some r := by
    intro r
    constructor
    · intro h
      obtain ⟨n, h⟩ := whileL_inv h
      cases n with
      | zero => cases h
      | succ n =>
        unfold whileF at h
        split at h
        · rename_i S1 e1
          try rw [e1]
          try simp only
          split at h
          · rename_i ρ2 S2 e2
            try rw [e2]
            exact whileL_of h
          · rename_i ρ2 S2 e2
            try rw [e2]
            exact whileL_of h
          · rename_i ρ2 S2 e2
            try rw [e2]
            exact h
          · rename_i ρ2 S2 e2
            try rw [e2]
            exact h
          · cases h
        · rename_i S1 e1
          try rw [e1]
          exact h
        · cases h
    · intro h
      have step : ∀ n, (match c ρ S with
        | some (true, S1) => match b ρ S1 with
          | some (.nx ρ2, S2) => whileF c b n ρ2 S2
          | some (.ct ρ2, S2) => whileF c b n ρ2 S2
          | some (.bk ρ2, S2) => some (.nx ρ2, S2)
          | some (.rt x, S2) => some (.rt x, S2)
          | none => none
        | some (false, S1) => some (.nx ρ, S1)
        | none => none) = some r → whileL c b ρ S = some r := fun n h => whileL_of (n := n + 1) (by unfold whileF; exact h)
      split at h
      · rename_i S1 e1
        split at h
        · rename_i ρ2 S2 e2
          obtain ⟨n, h⟩ := whileL_inv h
          exact step n (by rw [e1]; simp only [e2]; exact h)
        · rename_i ρ2 S2 e2
          obtain ⟨n, h⟩ := whileL_inv h
          exact step n (by rw [e1]; simp only [e2]; exact h)
        · rename_i ρ2 S2 e2; exact step 0 (by rw [e1]; simp only [e2]; exact h)
        · rename_i ρ2 S2 e2; exact step 0 (by rw [e1]; simp only [e2]; exact h)
        · cases h
      · rename_i S1 e1; exact step 0 (by rw [e1]; exact h)
      · cases h
  cases e : whileL c b ρ S with
  | some r => exact ((key r).mp e).symm
  | none =>
    cases e2 : (match c ρ S with
      | some (true, S1) => match b ρ S1 with
        | some (.nx ρ2, S2) => whileL c b ρ2 S2
        | some (.ct ρ2, S2) => whileL c b ρ2 S2
        | some (.bk ρ2, S2) => some (.nx ρ2, S2)
        | some (.rt x, S2) => some (.rt x, S2)
        | none => none
      | some (false, S1) => some (.nx ρ, S1)
      | none => none) with
    | none => rfl
    | some r => rw [(key r).mpr e2] at e; cases e

/-! ### the check -/
def isComp : Expr → Bool
  | .ListComp .. => true | .SetComp .. => true | .DictComp .. => true | _ => false
def swNames (sc : Scope) (ts : List Expr) : List Str := ts.filterMap fun
  | .Name id pos => if (sc.names.lookup id == some .local && pos.line == (ts.head?.map (·.pos.line)).getD 0) = true then some id else none
  | _ => none
def swS (sc : Scope) (ts vs : List Expr) : Option (Option (List Str)) :=
  if (!(ts.length == 2 || ts.length == 3) || vs.length != ts.length) = true then some none else
  if (vs.any fun | .Starred .. => true | _ => false) = true then some none else
  if ((swNames sc ts).length != ts.length || (swNames sc ts).eraseDups.length != (swNames sc ts).length) = true then some none else
  if vs.all (foldedForSure 8) = true then some none else
  if vs.all (constantsAlone 8) = true then none else some (some (swNames sc ts))
def swOk (sc : Scope) : Expr → Expr → Bool
  | .Tuple ts _ _, .Tuple vs _ _ => decide (swS sc ts vs = some none)
  | .List _ _, .Tuple _ _ _ => false
  | _, _ => true
/-- the name of a comprehension's list: stored within the comprehension (true), behind it (false) -/
def lcIn (C : Ctx) (tg : Expr) (v : Expr) : Bool := match tg, v with
  | .Name y py, .ListComp _ _ s pos => decide (C.sc.names.lookup y = some .local) && (py.line == pos.line) && !(s.names.any fun (n, k) => n == y && (k == .local || k == .cell))
  | _, _ => false
def lcOut (C : Ctx) (tg : Expr) (v : Expr) : Bool := !isComp v || (match tg with
  | .Name y _ => !decide (C.sc.names.lookup y = some .local)
  | .Tuple .. => true
  | .Subscript .. => true
  | _ => false)
def namesAt (C : Ctx) : List Nat → List Expr → Bool
  | [], es => match es with | [] => true | _ => false
  | j :: js, es => match es with | .Name x _ :: r => decide (C.N[j]? = some x) && decide (C.sc.names.lookup x = some .local) && namesAt C js r | _ => false
mutual
def mtS (C : Ctx) : Stm → Stmt → Bool
  | .asg t e, s => match s with
    | .Assign [tg] v _ => mtT C t tg && mtE C e v && swOk C.sc tg v && (lcOut C tg v || (lcIn C tg v && (match t, e with | .n _, .lc .. => true | _, _ => false)))
    | _ => false
  | .fasg cs o f e, s => match s with
    | .Assign [.Attribute o' f' _] v _ => decide (f' = f) && mtE C o o' && mtE C e v && !isComp v && cs.all (fun c => decide ((c, f) ∈ C.fa))
    | _ => false
  | .par js as, s => match s with
    | .Assign [.Tuple ts _ _] (.Tuple vs _ _) _ => namesAt C js ts && mtEs C as vs && decide (swS C.sc ts vs = some (some (js.filterMap fun j => C.N[j]?))) && decide (js.Nodup)
    | _ => false
  | .expr e, s => match s with | .Expr v _ => mtE C e v && !isComp v | _ => false
  | .ret e, s => match s with | .Return (some v) _ => mtE C e v | _ => false
  | .retN, s => match s with | .Return none _ => true | _ => false
  | .ite c a b, s => match s with | .If t x y _ => mtE C c t && tOk t && mtSs C a x && mtSs C b y | _ => false
  | .for t it b, s => match s with | .For tg iter body [] _ => mtT C t tg && mtI C it iter tg && notSet iter && mtSs C b body | _ => false
  | .while c b, s => match s with | .While t body [] _ => mtE C c t && tOk t && mtSs C b body | _ => false
  | .pass, s => match s with | .Pass _ => true | .Expr (.Constant (.str _) _ _) _ => true | _ => false
  | .brk, s => match s with | .Break _ => true | _ => false
  | .cont, s => match s with | .Continue _ => true | _ => false
def mtSs (C : Ctx) : Stms → List Stmt → Bool
  | .nil, s => match s with | [] => true | _ => false
  | .cons a as, s => match s with | x :: xs => mtS C a x && mtSs C as xs | [] => false
end
/-! ### readings -/
def OutW (K : PySem.W.Frag) (H : Hp) (m : List Addr) (S' : Store) (o : Out) (En : Ends) : Prop := ∀ H' m', SR K H' m' S' → Fr H m H' m' → match o with
  | .nx ρ' => ∀ σ', EnvR K H' m' ρ' σ' → En.nx σ' H'
  | .rt x => ∀ v, Rep K H' m' x v → En.rt v H'
  | .bk ρ' => ∀ σ', EnvR K H' m' ρ' σ' → En.bk σ' H'
  | .ct ρ' => ∀ σ', EnvR K H' m' ρ' σ' → En.ct σ' H'
def tSt (K : PySem.W.Frag) (f : Env → Store → Option (Out × Store)) : TS := fun En σ H => ∃ ρ m S o S', EnvR K H m ρ σ ∧ SR K H m S ∧ f ρ S = some (o, S') ∧ OutW K H m S' o En
theorem OutW.step {K : PySem.W.Frag} {H H1 : Hp} {m m1 : List Addr} {S' : Store} {o : Out} {En : Ends} (k : OutW K H m S' o En) (f : Fr H m H1 m1) : OutW K H1 m1 S' o En := fun H' m' s' f' => k H' m' s' (f.trans f')
section
variable {X : Cx} {C : Ctx} {G : List D} {call : Call}
theorem ps_imp {st : Stmt} {t t' : TS} (h : PS X st t) (k : ∀ En σ H, t' En σ H → t En σ H) : PS X st t' := ⟨fun pins s σ H D I q => h.run pins s σ H D I (k D σ H q)⟩
theorem pss_imp {st : List Stmt} {t t' : TS} (h : PSs X st t) (k : ∀ En σ H, t' En σ H → t En σ H) : PSs X st t' := ⟨fun pins s σ H D I q => h.run pins s σ H D I (k D σ H q)⟩
noncomputable abbrev exf (G : List D) (call : Call) (x : Stm) : Env → Store → Option (Out × Store) := fun ρ S => exS G call x ρ S
noncomputable abbrev exsf (G : List D) (call : Call) (x : Stms) : Env → Store → Option (Out × Store) := fun ρ S => exSs G call x ρ S
theorem swaps_of {v : Expr} {tg : Option Expr} {l : Nat} {env : PySem.Env} (h : isComp v = false) : swapsWith v tg l env = pure false := by
  cases v <;> first | rfl | cases h
theorem swapsOut {C : Ctx} (c : COk X C G call) {tg v : Expr} {l : Nat} (h : lcOut C tg v = true) : swapsWithSole [tg] v l X.env = pure false := by
  show swapsWith v (some tg) l X.env = pure false
  unfold lcOut at h
  rw [Bool.or_eq_true] at h
  rcases h with h | h
  · exact swaps_of (by simpa using h)
  · cases hv : isComp v with
    | false => exact swaps_of hv
    | true =>
      cases tg with
      | Name y py =>
        have hk : X.env.kindOf y ≠ some .local := by
          show X.env.scope.names.lookup y ≠ _
          rw [c.sc]
          simpa using h
        have hk2 : (X.env.kindOf y == some .local) = false := by simpa using hk
        cases v <;> first
          | (cases hv; done)
          | (simp only [swapsWith, hk2, Bool.and_false, Bool.false_and]; done)
      | Tuple _ _ _ => cases v <;> first | (cases hv; done) | rfl
      | Subscript _ _ _ => cases v <;> first | (cases hv; done) | rfl
      | _ => cases h
theorem swapped_of (c : COk X C G call) {ts vs : List Expr} {k k2 : Nat} {p p2 : Pos} {r : Option (List Str)} (h : swS C.sc ts vs = some r) : swappedStores [.Tuple ts k p] (.Tuple vs k2 p2) X.env = pure r := by
  have hb : X.env.blockKind = .function := by
    unfold Env.blockKind
    rw [c.sc, c.kind]; rfl
  have hn : (ts.filterMap fun
    | .Name id pos => if (X.env.kindOf id == some .local && pos.line == (ts.head?.map (·.pos.line)).getD 0) = true then some id else none
    | _ => none) = swNames C.sc ts := by
    unfold swNames Env.kindOf
    rw [c.sc]
  unfold swS at h
  unfold swappedStores
  simp only [hb, bne_self_eq_false, Bool.or_false]
  generalize hg : List.filterMap _ ts = names
  have hg' : names = swNames C.sc ts := by rw [← hg]; exact hn
  subst hg'
  by_cases h1 : (!(ts.length == 2 || ts.length == 3) || vs.length != ts.length) = true
  · rw [if_pos h1] at h ⊢
    cases h; rfl
  · rw [if_neg h1] at h ⊢
    split at h
    · rename_i h2
      cases h
      exact if_pos h2
    · rename_i h2
      refine (if_neg h2).trans ?_
      split at h
      · rename_i h3
        rw [if_pos h3]
        cases h; rfl
      · rename_i h3
        rw [if_neg h3]
        split at h
        · rename_i h4
          rw [if_pos h4]
          cases h; rfl
        · rename_i h4
          rw [if_neg h4]
          split at h
          · cases h
          · rename_i h5
            rw [if_neg h5]
            cases h; rfl
theorem swOk_of (c : COk X C G call) {tg v : Expr} (h : swOk C.sc tg v = true) : swappedStores [tg] v X.env = pure none := by
  unfold swOk at h
  split at h
  · exact swapped_of c (of_decide_eq_true h)
  · cases h
  · rename_i h1 h2
    cases tg <;> first
      | rfl
      | (cases v <;> first | rfl | exact (h1 _ _ _ _ _ _ rfl rfl).elim | exact (h2 _ _ _ _ _ rfl rfl).elim)

/-! ### the statements -/
theorem ps_asgOf (c : COk X C G call) {t : Tg} {x : Ex} {tg v : Expr} {pos : Pos} {sl : List Nat} (hs : swapsWithSole [tg] v pos.line X.env = pure false) (hw : swappedStores [tg] v X.env = pure none) (hn : notStar tg = true) (ht : PG X tg (tG X.K (agf G call t) sl)) (hv : SE X G call x v) :
    PS X (.Assign [tg] v pos) (tSt X.K (exf G call (.asg t x))) := by
  refine ps_imp (ps_asg hv.1 ht hs hw (by rw [assignEach_cons hn]; rfl)) ?_
  rintro En σ H ⟨ρ, m, S, o, S', en, s, e, k⟩
  simp only [exf, exS] at e
  split at e
  · rename_i u S1 e1
    split at e
    · rename_i ρ1 S2 e2
      cases e
      refine then1 en s e1 fun w H1 m1 s1 f1 en1 r1 => ?_
      obtain ⟨m2, s2, f2, r2⟩ := norm_ok s1 f1 r1
      refine ⟨ρ, m2, _, _, ρ1, _, en.fr f2 s, s2, r2, e2, fun σ' H' m' en' s' f' l u => ?_⟩
      exact k H' m' s' (f2.trans f') σ' en'
    · cases e
  · cases e
theorem ps_lcOf (c : COk X C G call) {i : Nat} {y : Str} {py spos pos : Pos} {elt : Ex} {tg : Tg} {it : It} {cond : Exs} {own : List Nat} {v : Expr} {scope : Scope} {e' : Expr} {gs : List Comprehension} (hv : v = .ListComp e' gs scope pos) (h : mtE C (.lc elt tg it cond own) v = true) (hy : C.N[i]? = some y)
    (hl : lcIn C (.Name y py) v = true) : PS X (.Assign [.Name y py] v spos) (tSt X.K (exf G call (.asg (.n i) (.lc elt tg it cond own)))) := by
  subst hv
  have h0 := h
  simp only [mtE] at h
  split at h
  · rename_i z e'' t i' ifs a scope' pos' heq
    cases heq
    simp only [Bool.and_eq_true] at h
    obtain ⟨⟨⟨⟨⟨⟨⟨⟨⟨⟨h1, h2⟩, h3⟩, h4⟩, h5⟩, h6⟩, h7⟩, h8⟩, h9⟩, h10⟩, h11⟩ := h
    cases of_decide_eq_true h1
    have hb : BlkOk X.N X.env.scope scope (ownP C.N own) := by rw [c.hN, c.sc]; exact blkOk_by h4
    have ho : (ownP C.N own).map (·.2) = own := by
      unfold ownP
      rw [List.map_map]
      exact List.map_id _
    unfold lcIn at hl
    simp only [Bool.and_eq_true] at hl
    have hyl : X.env.scope.names.lookup y = some .local := by rw [c.sc]; exact of_decide_eq_true hl.1.1
    have hlc := lc_ok c (elt := e') (pos := pos) (fG := agf G call tg) (fC := fun ρ S => evC G call cond ρ S) (fE := evf G call elt) (sl := slots tg) (sI it c h2) hb (fun s H Cc cl fp => sT tg (blk_cok c hb.kind) h9)
      (fun s H Cc cl fp => pts_conds (sEs cond (blk_cok c hb.kind) h10) (of_decide_eq_true h7) h8) (fun s H Cc cl fp => (sE elt (blk_cok c hb.kind) h11).1)
      (fun i hi => by rw [ho]; exact of_decide_eq_true (List.all_eq_true.mp h5 i hi))
    have hE : tE X.K (evf G call (.lc elt tg it cond own)) = tE X.K (fun ρ S => match evif G call it ρ S with
      | some (ds, ch, S1) => match lcGo (agf G call tg) (fun ρ S => evC G call cond ρ S) (evf G call elt) ch (wipeE ρ ((ownP C.N own).map (·.2))) ((ownP C.N own).map (·.2)) ds [] S1 with
        | some (acc, S2) => some (.tmp acc, unl ch S2)
        | none => none
      | none => none) := tE_congr fun ρ S => by
      simp only [ev, ho]
      try rfl
    have hlc' : ∀ σ H Q, tE X.K (evf G call (.lc elt tg it cond own)) σ H Q → tLc (tIt X (evif G call it)) (tG X.K (agf G call tg) (slots tg)) (tTst X.K fun ρ S => evC G call cond ρ S) (tE X.K (evf G call elt)) ((ownP C.N own).map (·.2)) σ H (fun v H' => UnlQ X (Q v) H') := by rw [hE]; exact hlc
    have hsw : swapsWith (.ListComp e' [⟨t, i', ifs, 0⟩] scope pos) (some (.Name y py)) spos.line X.env = pure true :=
      sw_true (by rw [c.sc]; exact c.kind) hyl hl.1.2 (by simpa using hl.2)
    refine ps_imp (ps_unl <| ps_setLc (wi := tIt X (evif G call it)) (g := tG X.K (agf G call tg) (slots tg)) (tt := tTst X.K fun ρ S => evC G call cond ρ S) (te := tE X.K (evf G call elt)) c.calm (by rw [c.hN]; exact c.nd) (by rw [c.hN]; exact hy) hyl hsw (sI it c h2) hb (fun s H Cc cl fp => sT tg (blk_cok c hb.kind) h9)
      (fun s H Cc cl fp => pts_conds (sEs cond (blk_cok c hb.kind) h10) (of_decide_eq_true h7) h8) (fun s H Cc cl fp => (sE elt (blk_cok c hb.kind) h11).1) (folded_of h3)) ?_
    rintro En σ H ⟨ρ, m, S, o, S', en, s, e, k⟩
    simp only [exf, exS] at e
    split at e
    · rename_i u S1 e1
      split at e
      · rename_i ρ1 S2 e2
        cases e
        simp only [asgT] at e2
        split at e2
        · rename_i hi
          cases e2
          refine hlc' _ _ (fun w H' => En.nx (σ.set i (some w)) H') ?_
          refine then1 en s e1 fun w H1 m1 s1 f1 en1 r1 => ?_
          obtain ⟨m2, s2, f2, r2⟩ := norm_ok s1 f1 r1
          exact k H1 m2 s2 f2 _ ((en.fr f2 s).set hi r2)
        · cases e2
      · cases e
    · cases e
  · cases h
theorem ps_exprOf {x : Ex} {v : Expr} {pos : Pos} (hc : isComp v = false) (hv : SE X G call x v) : PS X (.Expr v pos) (tSt X.K (exf G call (.expr x))) := by
  refine ps_imp (ps_expr hv.1 (swaps_of hc)) ?_
  rintro En σ H ⟨ρ, m, S, o, S', en, s, e, k⟩
  simp only [exf, exS] at e
  split at e
  · rename_i u S1 e1
    cases e
    exact then1 en s e1 fun w H1 m1 s1 f1 en1 r1 => k H1 m1 s1 f1 σ en1
  · cases e
theorem ps_retOf {x : Ex} {v : Expr} {pos : Pos} (hv : SE X G call x v) : PS X (.Return (some v) pos) (tSt X.K (exf G call (.ret x))) := by
  refine ps_imp (ps_ret hv.1) ?_
  rintro En σ H ⟨ρ, m, S, o, S', en, s, e, k⟩
  simp only [exf, exS] at e
  split at e
  · rename_i u S1 e1
    cases e
    refine then1 en s e1 fun w H1 m1 s1 f1 en1 r1 => ?_
    obtain ⟨m2, s2, f2, r2⟩ := norm_ok s1 f1 r1
    exact k H1 m2 s2 f2 w r2
  · cases e
theorem ps_retNOf {pos : Pos} : PS X (.Return none pos) (tSt X.K (exf G call .retN)) := by
  refine ps_imp ps_retN ?_
  rintro En σ H ⟨ρ, m, S, o, S', en, s, e, k⟩
  simp only [exf, exS] at e
  cases e
  exact k H m s .refl .non mk_non
theorem ps_nxOf {st : Stmt} {x : Stm} (hx : ∀ ρ S, exS G call x ρ S = some (.nx ρ, S)) (h : PS X st tNext) : PS X st (tSt X.K (exf G call x)) := by
  refine ps_imp h ?_
  rintro En σ H ⟨ρ, m, S, o, S', en, s, e, k⟩
  rw [show exf G call x ρ S = some (.nx ρ, S) from hx ρ S] at e
  cases e
  exact k H m s .refl σ en
theorem ps_brkOf {pos : Pos} : PS X (.Break pos) (tSt X.K (exf G call .brk)) := by
  refine ps_imp ps_break ?_
  rintro En σ H ⟨ρ, m, S, o, S', en, s, e, k⟩
  simp only [exf, exS] at e
  cases e
  exact k H m s .refl σ en
theorem ps_contOf {pos : Pos} : PS X (.Continue pos) (tSt X.K (exf G call .cont)) := by
  refine ps_imp ps_continue ?_
  rintro En σ H ⟨ρ, m, S, o, S', en, s, e, k⟩
  simp only [exf, exS] at e
  cases e
  exact k H m s .refl σ en
theorem ps_iteOf {c : Ex} {a b : Stms} {t : Expr} {x y : List Stmt} {pos : Pos} (ht : tOk t = true) (hc : SE X G call c t) (ha : PSs X x (tSt X.K (exsf G call a))) (hb : PSs X y (tSt X.K (exsf G call b))) : PS X (.If t x y pos) (tSt X.K (exf G call (.ite c a b))) := by
  refine ps_imp (ps_if (hc.2 ht) ha hb) ?_
  rintro En σ H ⟨ρ, m, S, o, S', en, s, e, k⟩
  simp only [exf, exS] at e
  split at e
  · rename_i S1 e1
    refine ⟨ρ, m, S, true, S1, en, s, (by show toB _ = _; rw [e1]; rfl), fun H1 m1 s1 f1 => iteT ?_⟩
    exact ⟨ρ, m1, S1, o, S', en.fr f1 s, s1, e, k.step f1⟩
  · rename_i S1 e1
    refine ⟨ρ, m, S, false, S1, en, s, (by show toB _ = _; rw [e1]; rfl), fun H1 m1 s1 f1 => iteF ?_⟩
    exact ⟨ρ, m1, S1, o, S', en.fr f1 s, s1, e, k.step f1⟩
  · cases e
theorem pss_nilOf : PSs X [] (tSt X.K (exsf G call .nil)) := by
  refine pss_imp pss_nil ?_
  rintro En σ H ⟨ρ, m, S, o, S', en, s, e, k⟩
  simp only [exsf, exSs] at e
  cases e
  exact k H m s .refl σ en
theorem pss_consOf {a : Stm} {as : Stms} {x : Stmt} {xs : List Stmt} (h1 : PS X x (tSt X.K (exf G call a))) (h2 : PSs X xs (tSt X.K (exsf G call as))) : PSs X (x :: xs) (tSt X.K (exsf G call (.cons a as))) := by
  refine pss_imp (pss_cons h1 h2) ?_
  rintro En σ H ⟨ρ, m, S, o, S', en, s, e, k⟩
  simp only [exsf, exSs] at e
  split at e
  · rename_i ρ1 S1 e1
    refine ⟨ρ, m, S, .nx ρ1, S1, en, s, e1, fun H1 m1 s1 f1 σ1 en1 => ?_⟩
    exact ⟨ρ1, m1, S1, o, S', en1, s1, e, k.step f1⟩
  · rename_i hno
    refine ⟨ρ, m, S, o, S', en, s, e, fun H1 m1 s1 f1 => ?_⟩
    cases o with
    | nx ρ1 => exact absurd e (hno _ _)
    | rt d => exact k H1 m1 s1 f1
    | bk ρ1 => exact k H1 m1 s1 f1
    | ct ρ1 => exact k H1 m1 s1 f1
theorem EnvR.kp {K : PySem.W.Frag} {H H' : Hp} {m m' : List Addr} {ρ : Env} {σ : L2.St} (e : EnvR K H m ρ σ) (k : Kp H m H' m') : EnvR K H' m' ρ σ :=
  ⟨e.1, fun i d h => let ⟨v, h1, h2⟩ := e.2 i d h; ⟨v, h1, h2.kp k⟩⟩
theorem ps_forOf (c : COk X C G call) (hp : PassesOwn (model X.prog X.w) X.A X.env X.xe) {t : Tg} {it : It} {b : Stms} {tg iter : Expr} {body : List Stmt} {pos : Pos} {sl : List Nat} (hs : notSet iter = true) (ht : PG X tg (tG X.K (agf G call t) sl)) (hi : PI X tg iter (tIt X (evif G call it)))
    (hb : PSs X body (tSt X.K (exsf G call b))) : PS X (.For tg iter body [] pos) (tSt X.K (exf G call (.for t it b))) := by
  refine ps_imp (ps_unl <| ps_for hp c.calm hi ht hb (folded_of hs)) ?_
  rintro En σ H ⟨ρ, m, S, o, S', en, s, e, k⟩
  simp only [exf, exS] at e
  split at e
  · rename_i ds ch S1 e1
    split at e
    case h_2 => cases e
    rename_i o' SF e
    cases e
    rename_i e
    refine ⟨ρ, m, S, ds, ch, S1, en, s, e1, fun J H1 m1 s1 f1 nf its => ?_⟩
    refine ⟨fun i n σ2 H2 => ∃ ρ2 m2 S2, i + n = ds.length ∧ EnvR X.K H2 m2 ρ2 σ2 ∧ SR X.K H2 m2 S2 ∧ Fr H1 m1 H2 m2 ∧ forL (agf G call t) (exsf G call b) ch (ds.drop i) ρ2 S2 = some (o, SF),
      ⟨ds.length, ρ, m1, S1, by omega, en.fr f1 s, s1, .refl, e⟩, ?_⟩
    rintro i n σ2 H2 ⟨ρ2, m2, S2, hn, en2, s2, f2, e2⟩
    by_cases hlt : i < ds.length
    · obtain ⟨d, hd⟩ : ∃ d, ds[i]? = some d := ⟨_, List.getElem?_eq_getElem hlt⟩
      have hdrop : ds.drop i = d :: ds.drop (i + 1) := by
        rw [List.drop_eq_getElem_cons hlt]
        rw [List.getElem?_eq_getElem hlt] at hd
        cases hd; rfl
      rw [hdrop] at e2
      unfold forL at e2
      split at e2
      · rename_i hch
        obtain ⟨go, turn⟩ := (its.turn i H2 m2 S2 f2 s2 hch).2 d hd
        refine .inr ⟨go, fun σ3 H3 => ∃ ρ3 m3 S3, (i + 1) + (n - 1) = ds.length ∧ EnvR X.K H3 m3 ρ3 σ3 ∧ SR X.K H3 m3 S3 ∧ Fr H1 m1 H3 m3 ∧ forL (agf G call t) (exsf G call b) ch (ds.drop (i + 1)) ρ3 S3 = some (o, SF), fun σ3 H3 h3 => ⟨n - 1, by omega, h3⟩, fun x H3 hy => ?_⟩
        obtain ⟨rx, s3, f3⟩ := turn x H3 hy
        have f13 := f2.trans f3
        split at e2
        · rename_i ρ4 S4 e4
          refine ⟨ρ2, m2, S2, d, ρ4, S4, en2.fr f3 s2, s3, rx, e4, fun σ4 H4 m4 en4 s4 f4 l4 u4 => ?_⟩
          have f14 := f13.trans f4
          split at e2
          · rename_i ρ5 S5 e5
            exact ⟨ρ4, m4, S4, .nx ρ5, S5, en4, s4, e5, fun H5 m5 s5 f5 σ5 en5 => ⟨ρ5, m5, S5, by omega, en5, s5, f14.trans f5, e2⟩⟩
          · rename_i ρ5 S5 e5
            exact ⟨ρ4, m4, S4, .ct ρ5, S5, en4, s4, e5, fun H5 m5 s5 f5 σ5 en5 => ⟨ρ5, m5, S5, by omega, en5, s5, f14.trans f5, e2⟩⟩
          · rename_i ρ5 S5 e5
            cases e2
            exact ⟨ρ4, m4, S4, .bk ρ5, _, en4, s4, e5, fun H5 m5 s5 f5 σ5 en5 => by
              obtain ⟨H3, u1, u2, u3, u4, u5⟩ := unl_ok (X := X) (ch := ch) nf ((f1.trans f14).trans f5) (f14.trans f5).pre s5
              exact u1 _ (k H3 m5 u2 u3 σ5 (en5.kp u4))⟩
          · rename_i x5 S5 e5
            cases e2
            exact ⟨ρ4, m4, S4, .rt x5, _, en4, s4, e5, fun H5 m5 s5 f5 v r5 => by
              obtain ⟨H3, u1, u2, u3, u4, u5⟩ := unl_ok (X := X) (ch := ch) nf ((f1.trans f14).trans f5) (f14.trans f5).pre s5
              exact u1 _ (k H3 m5 u2 u3 v (r5.kp u4))⟩
          · cases e2
        · cases e2
      · cases e2
    · have hdrop : ds.drop i = [] := List.drop_of_length_le (by omega)
      rw [hdrop] at e2
      unfold forL at e2
      split at e2
      · rename_i hch
        cases e2
        refine .inl ⟨(its.turn i H2 m2 _ f2 s2 hch).1 (by omega), ?_⟩
        obtain ⟨H3, u1, u2, u3, u4, u5⟩ := unl_ok (X := X) (ch := ch) nf (f1.trans f2) f2.pre s2
        exact u1 _ (k H3 m2 u2 u3 σ2 (en2.kp u4))
      · cases e2
  · cases e
theorem ps_fasgOf (c : COk X C G call) {cs : List Str} {o x : Ex} {f : Str} {e v : Expr} {apos pos : Pos} (hv : isComp v = false) (hc : ∀ y ∈ cs, (y, f) ∈ C.fa) (ho : SE X G call o e) (hx : SE X G call x v) : PS X (.Assign [.Attribute e f apos] v pos) (tSt X.K (exf G call (.fasg cs o f x))) := by
  refine ps_imp (ps_fld ho.1 hx.1 (swaps_of hv)) ?_
  rintro En σ H ⟨ρ, m, S, out, S', en, s, e, k⟩
  simp only [exf, exS] at e
  split at e
  · rename_i u S1 e1
    split at e
    · rename_i t S2 e2
      split at e
      · rename_i S3 e3
        cases e
        refine then1 en s e1 fun w H1 m1 s1 f1 en1 r1 => ?_
        obtain ⟨m1', s1', f1', r1'⟩ := norm_ok s1 f1 r1
        refine then1 (en.fr f1' s) s1' e2 fun w2 H2 m2 s2 f2 en2 r2 => ?_
        obtain ⟨m2', s2', f2', r2'⟩ := norm_ok s2 f2 r2
        unfold setFld at e3
        split at e3
        · rename_i n hn
          split at e3
          · rename_i cn fs e4
            split at e3
            · rename_i hcn
              cases e3
              rw [hn] at r2'
              obtain ⟨a, rfl, ham⟩ := rep_ref r2'
              obtain ⟨C1, dx, ws, h1, h2, h3, h4, h5⟩ := s2'.ob n _ a e4 ham
              obtain ⟨C0, g1, g2, g3⟩ := c.fa cn f (hc cn hcn.1)
              have hm : a ∈ m2' := List.mem_of_getElem? ham
              have h2' := h2
              rw [g1] at h2
              cases h2
              have hl : ws.length < 1000 := by
                have := congrArg List.length h3
                rw [List.length_map, List.length_map] at this
                omega
              refine ⟨a, _, dx, ws, rfl, h1, g2, g3, hl, ?_⟩
              have f3 : Fr H2 m2' (upd H2 a (.ins C1 dx (putF f w ws))) m2' := Fr.put hm (nf_ins h1)
              obtain ⟨q1, q2⟩ := putF_ok (f := f) (Rep.kp (f3.kp s2') (Rep.kp (f2'.kp s1') r1')) h3 (h4.kp (f3.kp s2'))
              exact k _ m2' (s2'.set ham ⟨C1, dx, _, upd_same, h2', q1, q2, h5⟩) ((f1'.trans f2').trans f3) σ (en.fr ((f1'.trans f2').trans f3) s)
            · cases e3
          · cases e3
        · cases e3
      · cases e
    · cases e
  · cases e
theorem ps_whileOf (c : COk X C G call) (hp : PassesOwn (model X.prog X.w) X.A X.env X.xe) {cx : Ex} {b : Stms} {t : Expr} {body : List Stmt} {pos : Pos} (ht : tOk t = true) (hc : SE X G call cx t) (hb : PSs X body (tSt X.K (exsf G call b))) : PS X (.While t body [] pos) (tSt X.K (exf G call (.while cx b))) := by
  refine ps_imp (ps_while hp (hc.2 ht) hb) ?_
  rintro En σ H ⟨ρ, m, S, o, S', en, s, e, k⟩
  simp only [exf, exS] at e
  obtain ⟨n, e⟩ := whileL_inv e
  refine ⟨fun n σ2 H2 => ∃ ρ2 m2 S2, EnvR X.K H2 m2 ρ2 σ2 ∧ SR X.K H2 m2 S2 ∧ Fr H m H2 m2 ∧ whileF (fun ρ S => toB (ev G call cx ρ S)) (exsf G call b) n ρ2 S2 = some (o, S'), ⟨n, ρ, m, S, en, s, .refl, e⟩, ?_⟩
  rintro n σ2 H2 ⟨ρ2, m2, S2, en2, s2, f2, e2⟩
  cases n with
  | zero => cases e2
  | succ n =>
    unfold whileF at e2
    split at e2
    · rename_i S3 e3
      refine ⟨ρ2, m2, S2, true, S3, en2, s2, e3, fun H3 m3 s3 f3 => iteT ?_⟩
      refine ⟨fun σ4 H4 => ∃ ρ4 m4 S4, EnvR X.K H4 m4 ρ4 σ4 ∧ SR X.K H4 m4 S4 ∧ Fr H m H4 m4 ∧ whileF (fun ρ S => toB (ev G call cx ρ S)) (exsf G call b) n ρ4 S4 = some (o, S'), fun σ4 H4 h4 => ⟨n, Nat.lt_succ_self n, h4⟩, ?_⟩
      split at e2
      · rename_i ρ5 S5 e5
        exact ⟨ρ2, m3, S3, .nx ρ5, S5, en2.fr f3 s2, s3, e5, fun H5 m5 s5 f5 σ5 en5 => ⟨ρ5, m5, S5, en5, s5, (f2.trans f3).trans f5, e2⟩⟩
      · rename_i ρ5 S5 e5
        exact ⟨ρ2, m3, S3, .ct ρ5, S5, en2.fr f3 s2, s3, e5, fun H5 m5 s5 f5 σ5 en5 => ⟨ρ5, m5, S5, en5, s5, (f2.trans f3).trans f5, e2⟩⟩
      · rename_i ρ5 S5 e5
        cases e2
        exact ⟨ρ2, m3, S3, .bk ρ5, _, en2.fr f3 s2, s3, e5, fun H5 m5 s5 f5 σ5 en5 => k H5 m5 s5 ((f2.trans f3).trans f5) σ5 en5⟩
      · rename_i x5 S5 e5
        cases e2
        exact ⟨ρ2, m3, S3, .rt x5, _, en2.fr f3 s2, s3, e5, fun H5 m5 s5 f5 v r5 => k H5 m5 s5 ((f2.trans f3).trans f5) v r5⟩
      · cases e2
    · rename_i S3 e3
      cases e2
      refine ⟨ρ2, m2, S2, false, _, en2, s2, e3, fun H3 m3 s3 f3 => iteF ?_⟩
      exact k H3 m3 s3 (f2.trans f3) σ2 (en2.fr f3 s2)
    · cases e2
/-- a, b = x, y of plain names -/
theorem namesAt_inv : ∀ {js : List Nat} {es : List Expr}, namesAt C js es = true → js.length = es.length ∧ ∀ (i j : Nat) e, js[i]? = some j → es[i]? = some e → ∃ x p, e = .Name x p ∧ C.N[j]? = some x ∧ C.sc.names.lookup x = some .local
  | [], [], _ => ⟨rfl, fun i j e h => by simp at h⟩
  | [], _ :: _, h => by simp [namesAt] at h
  | j :: js, [], h => by simp [namesAt] at h
  | j :: js, e :: es, h => by
    cases e with
    | Name x p =>
      simp only [namesAt, Bool.and_eq_true] at h
      obtain ⟨h1, h2⟩ := namesAt_inv h.2
      refine ⟨by rw [List.length_cons, List.length_cons, h1], fun i j' e' a b => ?_⟩
      cases i with
      | zero => simp at a b; subst a; subst b; exact ⟨x, p, rfl, of_decide_eq_true h.1.1, of_decide_eq_true h.1.2⟩
      | succ i => exact h2 i j' e' (by simpa using a) (by simpa using b)
    | _ => simp [namesAt] at h
theorem swS_len {ts vs : List Expr} {r : List Str} (h : swS C.sc ts vs = some (some r)) : (ts.length = 2 ∨ ts.length = 3) ∧ vs.length = ts.length := by
  unfold swS at h
  split at h
  · cases h
  · rename_i h1
    simp only [Bool.or_eq_true, Bool.not_eq_true', Bool.or_eq_false_iff, bne_iff_ne, ne_eq, not_or, beq_eq_false_iff_ne, not_and, Decidable.not_not] at h1
    refine ⟨?_, h1.2⟩
    by_cases h2 : ts.length = 2
    · exact .inl h2
    · exact .inr (h1.1 h2)
theorem ps_parOf (c : COk X C G call) {js : List Nat} {as : Exs} {ts vs : List Expr} {k k2 : Nat} {p p2 pos : Pos} (hn : namesAt C js ts = true) (ha : SEs X G call as vs) (hw : swS C.sc ts vs = some (some (js.filterMap fun j => C.N[j]?))) (nd : js.Nodup) :
    PS X (.Assign [.Tuple ts k p] (.Tuple vs k2 p2) pos) (tSt X.K (exf G call (.par js as))) := by
  obtain ⟨hl, hv⟩ := swS_len hw
  obtain ⟨h1, h2⟩ := namesAt_inv hn
  have sw := swapped_of c (k := k) (k2 := k2) (p := p) (p2 := p2) hw
  have fin : ∀ En σ H, tSt X.K (exf G call (.par js as)) En σ H → ∃ ρ m S ds S' ρ1, EnvR X.K H m ρ σ ∧ SR X.K H m S ∧ evDs G call as ρ S = some (ds, S') ∧ setAll ρ js ds = some ρ1 ∧ ∀ H' m', SR X.K H' m' S' → Fr H m H' m' → ∀ σ', EnvR X.K H' m' ρ1 σ' → En.nx σ' H' := by
    rintro En σ H ⟨ρ, m, S, o, S', en, s, e, k⟩
    simp only [exf, exS] at e
    split at e
    · rename_i ds S1 e1
      split at e
      · rename_i ρ1 e2
        cases e
        exact ⟨ρ, m, S, ds, _, ρ1, en, s, e1, e2, fun H' m' s' f' => k H' m' s' f'⟩
      · cases e
    · cases e
  have lcl : ∀ x : Str, C.sc.names.lookup x = some .local → X.env.scope.names.lookup x = some .local := fun x h => by rw [c.sc]; exact h
  rcases hl with hl | hl
  · match ts, vs, js, hl, hv, h1 with
    | [t1, t2], [v1, v2], [i, j], _, _, _ =>
      obtain ⟨x, px, rfl, n1, l1⟩ := h2 0 i t1 rfl rfl
      obtain ⟨y, py, rfl, n2, l2⟩ := h2 1 j t2 rfl rfl
      have hij : i ≠ j := by simp at nd; exact nd
      refine ps_imp (ps_par c.calm (by rw [c.hN]; exact c.nd) (by rw [c.hN]; exact n1) (by rw [c.hN]; exact n2) hij (lcl x l1) (lcl y l2) ha.ds (by rw [sw]; simp [n1, n2])) fun En σ H q => ?_
      obtain ⟨ρ, m, S, ds, S', ρ1, en, s, e1, e2, kk⟩ := fin En σ H q
      refine ⟨ρ, m, S, ds, S', en, s, e1, fun ws H1 m1 s1 f1 r1 => ?_⟩
      match ds, r1 with
      | [d1, d2], r1 =>
        obtain ⟨w1, ws, rfl, q1, r1⟩ := r1.cons_inv
        obtain ⟨w2, ws, rfl, q2, r1⟩ := r1.cons_inv
        cases r1.nil_inv
        simp only [setAll] at e2
        split at e2
        · rename_i g1
          split at e2
          · rename_i g2
            cases e2
            exact ⟨w1, w2, rfl, kk H1 m1 s1 f1 _ (((en.fr f1 s).set g1 q1).set g2 q2)⟩
          · cases e2
        · cases e2
      | [], _ => simp [setAll] at e2
      | [_], _ => simp [setAll] at e2
      | _ :: _ :: _ :: _, _ => simp [setAll] at e2
  · match ts, vs, js, hl, hv, h1 with
    | [t1, t2, t3], [v1, v2, v3], [i, j, l], _, _, _ =>
      obtain ⟨x, px, rfl, n1, l1⟩ := h2 0 i t1 rfl rfl
      obtain ⟨y, py, rfl, n2, l2⟩ := h2 1 j t2 rfl rfl
      obtain ⟨z, pz, rfl, n3, l3⟩ := h2 2 l t3 rfl rfl
      have hij : i ≠ j ∧ i ≠ l ∧ j ≠ l := by simp at nd; exact ⟨nd.1.1, nd.1.2, nd.2⟩
      refine ps_imp (ps_par3 c.calm (by rw [c.hN]; exact c.nd) (by rw [c.hN]; exact n1) (by rw [c.hN]; exact n2) (by rw [c.hN]; exact n3) hij.1 hij.2.1 hij.2.2 (lcl x l1) (lcl y l2) (lcl z l3) ha.ds (by rw [sw]; simp [n1, n2, n3])) fun En σ H q => ?_
      obtain ⟨ρ, m, S, ds, S', ρ1, en, s, e1, e2, kk⟩ := fin En σ H q
      refine ⟨ρ, m, S, ds, S', en, s, e1, fun ws H1 m1 s1 f1 r1 => ?_⟩
      match ds, r1 with
      | [d1, d2, d3], r1 =>
        obtain ⟨w1, ws, rfl, q1, r1⟩ := r1.cons_inv
        obtain ⟨w2, ws, rfl, q2, r1⟩ := r1.cons_inv
        obtain ⟨w3, ws, rfl, q3, r1⟩ := r1.cons_inv
        cases r1.nil_inv
        simp only [setAll] at e2
        split at e2
        · rename_i g1
          split at e2
          · rename_i g2
            split at e2
            · rename_i g3
              cases e2
              exact ⟨w1, w2, w3, rfl, kk H1 m1 s1 f1 _ ((((en.fr f1 s).set g1 q1).set g2 q2).set g3 q3)⟩
            · cases e2
          · cases e2
        · cases e2
      | [], _ => simp [setAll] at e2
      | [_], _ => simp [setAll] at e2
      | [_, _], _ => simp [setAll] at e2
      | _ :: _ :: _ :: _ :: _, _ => simp [setAll] at e2
end
mutual
/-- EVERY CHECKED STATEMENT -/
theorem sS {G : List D} {call : Call} : ∀ (x : Stm) {C : Ctx} {X : Cx} {e : Stmt}, COk X C G call → PassesOwn (model X.prog X.w) X.A X.env X.xe → mtS C x e = true → PS X e (tSt X.K (exf G call x))
  | .asg t x, C, X, e, c, hp, h => by
    simp only [mtS] at h
    split at h
    · rename_i tg v pos
      simp only [Bool.and_eq_true, Bool.or_eq_true] at h
      obtain ⟨⟨⟨h1, h2⟩, h3⟩, h4⟩ := h
      rcases h4 with h4 | h4
      · have hn : notStar tg = true := by
          cases t <;> (simp only [mtT] at h1; split at h1 <;> first | rfl | cases h1)
        exact ps_asgOf c (swapsOut c h4) (swOk_of c h3) hn (sT t c h1) (sE x c h2)
      · obtain ⟨h4, h5⟩ := h4
        split at h5
        · rename_i i elt tg' it cond own
          simp only [mtT] at h1
          split at h1
          · rename_i y py
            rw [Bool.and_eq_true] at h1
            have hv : ∃ e' gs sc p, v = .ListComp e' gs sc p := by
              unfold lcIn at h4
              split at h4
              · rename_i heq1; exact ⟨_, _, _, _, rfl⟩
              · cases h4
            obtain ⟨e', gs, sc, p, hv⟩ := hv
            exact ps_lcOf c hv h2 (of_decide_eq_true h1.1) h4
          · cases h1
        · cases h5
    · cases h
  | .par js as, C, X, e, c, hp, h => by
    simp only [mtS] at h
    split at h
    · simp only [Bool.and_eq_true] at h
      exact ps_parOf c h.1.1.1 (sEs as c h.1.1.2) (of_decide_eq_true h.1.2) (of_decide_eq_true h.2)
    · cases h
  | .expr x, C, X, e, c, hp, h => by
    simp only [mtS] at h
    split at h
    · rw [Bool.and_eq_true] at h
      exact ps_exprOf (by simpa using h.2) (sE x c h.1)
    · cases h
  | .ret x, C, X, e, c, hp, h => by
    simp only [mtS] at h
    split at h
    · exact ps_retOf (sE x c h)
    · cases h
  | .retN, C, X, e, c, hp, h => by
    simp only [mtS] at h
    split at h
    · exact ps_retNOf
    · cases h
  | .ite cx a b, C, X, e, c, hp, h => by
    simp only [mtS] at h
    split at h
    · simp only [Bool.and_eq_true] at h
      exact ps_iteOf h.1.1.2 (sE cx c h.1.1.1) (sSs a c hp h.1.2) (sSs b c hp h.2)
    · cases h
  | .for t it b, C, X, e, c, hp, h => by
    simp only [mtS] at h
    split at h
    · simp only [Bool.and_eq_true] at h
      exact ps_forOf c hp h.1.2 (sT t c h.1.1.1) (sI it c h.1.1.2) (sSs b c hp h.2)
    · cases h
  | .fasg cs o f x, C, X, e, c, hp, h => by
    simp only [mtS] at h
    split at h
    · simp only [Bool.and_eq_true] at h
      obtain ⟨⟨⟨⟨h1, h2⟩, h3⟩, h4⟩, h5⟩ := h
      cases of_decide_eq_true h1
      exact ps_fasgOf c (by simpa using h4) (fun y hy => of_decide_eq_true (List.all_eq_true.mp h5 y hy)) (sE o c h2) (sE x c h3)
    · cases h
  | .while cx b, C, X, e, c, hp, h => by
    simp only [mtS] at h
    split at h
    · simp only [Bool.and_eq_true] at h
      exact ps_whileOf c hp h.1.2 (sE cx c h.1.1) (sSs b c hp h.2)
    · cases h
  | .pass, C, X, e, c, hp, h => by
    simp only [mtS] at h
    split at h
    · exact ps_nxOf (fun _ _ => by simp only [exS]) ps_pass
    · exact ps_nxOf (fun _ _ => by simp only [exS]) ps_doc
    · cases h
  | .brk, C, X, e, c, hp, h => by
    simp only [mtS] at h
    split at h
    · exact ps_brkOf
    · cases h
  | .cont, C, X, e, c, hp, h => by
    simp only [mtS] at h
    split at h
    · exact ps_contOf
    · cases h
theorem sSs {G : List D} {call : Call} : ∀ (x : Stms) {C : Ctx} {X : Cx} {e : List Stmt}, COk X C G call → PassesOwn (model X.prog X.w) X.A X.env X.xe → mtSs C x e = true → PSs X e (tSt X.K (exsf G call x))
  | .nil, C, X, e, c, hp, h => by
    simp only [mtSs] at h
    split at h
    · exact pss_nilOf
    · cases h
  | .cons a as, C, X, e, c, hp, h => by
    simp only [mtSs] at h
    split at h
    · rw [Bool.and_eq_true] at h
      exact pss_consOf (sS a c hp h.1) (sSs as c hp h.2)
    · cases h
end
end F

/-! Defs and the law. -/
namespace F
open PySem PySem.Spec PyProof.Rows L2
variable [Tb]

theorem gc_ok {K : PySem.W.Frag} {H H' : Hp} {m m' : List Addr} {S S' : Store} {x : D} {v : V} (s : SR K H m S) (s' : SR K H' m' S') (f : Fr H m H' m') (r : Rep K H' m' x v) :
    ∃ m2, SR K H' m2 (gc S S' x).2 ∧ Fr H m H' m2 ∧ Rep K H' m2 (gc S S' x).1 v := by
  unfold gc
  split
  · rename_i h
    obtain ⟨hl, h1, h2⟩ := h
    have h1 := h1 s.closedS
    obtain ⟨q, rfl⟩ := f.pre
    refine ⟨m, ⟨by rw [List.length_take, Nat.min_eq_left hl]; exact s.len, s.nd, fun n o a e1 e2 => ?_, s'.tab⟩, ⟨fun b o e n t => ⟨(f.keepN b o e n t).1, n⟩, fun b ps e n => ⟨(f.tb b ps e n).1, n⟩, ⟨[], (List.append_nil _).symm⟩, f.frz⟩, ?_⟩
    · have hn : n < S.length := by rw [← s.len]; exact (List.getElem?_eq_some_iff.mp e2).1
      have e3 : S'[n]? = some o := by rw [List.getElem?_take_of_lt hn] at e1; exact e1
      have e4 : (m ++ q)[n]? = some a := by rw [List.getElem?_append_left (by rw [s.len]; exact hn)]; exact e2
      refine (s'.ob n o a e3 e4).cut ?_
      rw [s.len]
      exact h1 o (List.mem_of_getElem? e1)
    · refine Rep.cut ?_ r
      rw [s.len]; exact h2
  · exact ⟨m', s', f, r⟩
structure Row where
  name : Str
  q : Str -- its qualified name
  top : Bool -- a name of the top; a method is found by its class
  st : Stmt
  N : List Str
  ps : List Str
  df : Def
abbrev MsT := List (Str × Str × Nat)
abbrev FaT := List (Str × Str)
def fsOf (rows : List Row) : List (Str × Nat) := (rows.zipIdx.filter fun p => p.1.top).map fun p => (p.1.name, p.2)
/-- a def that ranks -/
def rankR (r : Row) : Bool := r.top && match r.ps with
  | [x] => rankB x (defBody r.st) && (defScope r.st).names.all (fun y => !decide (y.2 = .cell)) && decide ((defScope r.st).names.lookup x = some .local) && !(x == ("__debug__" : Str))
  | _ => false
def rksOf (rows : List Row) : List Str := (rows.filter rankR).map (·.name)
/-- lm: the defs of the top that make lambdas -/
def ctxOf (gl : List (Str × D)) (bl : List Str) (ms : MsT) (fa : FaT) (lm : List Str) (rows : List Row) (r : Row) : Ctx := ⟨r.N, defScope r.st, none, gl, bl, fsOf rows, ms, fa, rksOf rows, r.top && decide (r.q = r.name) && decide (r.name ∈ lm)⟩
structure RowOk (gl : List (Str × D)) (bl : List Str) (ms : MsT) (fa : FaT) (lm : List Str) (rows : List Row) (r : Row) : Prop where
  S : FnScope r.N r.ps (defScope r.st)
  mt : mtSs (ctxOf gl bl ms fa lm rows r) r.df.body (defBody r.st) = true
  np : r.df.np = r.ps.length
  ns : r.df.ns = r.N.length
/-- a def as the top left it -/
def FnFact (K : PySem.W.Frag) (x q : Str) (st : Stmt) (ps : List Str) (f : Addr) : Prop := ∃ fd : FuncData, Fun K x q st f fd ∧ ∀ us : List Value, us.length = ps.length → bindArgs fd ⟨us, []⟩ = pure (ps.zip us)
/-- the tables of the code objects of some defs: they are not of the written part, and are unlike -/
def tabAt (K : PySem.W.Frag) (f : Addr) : Option Addr := match K.lookup f with
  | some ⟨_, _, .func fd, _⟩ => match fd.code with
    | .ref c => match K.lookup c with
      | some ⟨_, _, .fields vs, _⟩ => match (vs[11]? : Option Value) with
        | some (Value.ref P) => some P
        | _ => none
      | _ => none
    | _ => none
  | _ => none
def tabsOk (K : PySem.W.Frag) (fs : List Addr) : Bool := (fs.map (tabAt K)).all (fun o => match o with | some P => (K.lookup P).isNone | none => false) && decide (fs.map (tabAt K)).Nodup
structure ModOk (K : PySem.W.Frag) (mg : Str → Option Value) (gl : List (Str × D)) (bl : List Str) (ms : MsT) (fa : FaT) (lm : List Str) (rows : List Row) : Prop where
  gl : ∀ (j : Nat) x d, gl[j]? = some (x, d) → ∃ u v, mg x = some u ∧ RelV v u ∧ ∀ H m, Rep K H m d v
  bl : ∀ x, x ∈ bl → mg x = none
  fn : ∀ (i : Nat) r, rows[i]? = some r → r.top = true → ∃ f, FnFact K r.name r.q r.st r.ps f ∧ mg r.name = some (.ref f)
  ms : ∀ c m i, (c, m, i) ∈ ms → ∃ C0 f r, PySem.W.nsIn K mainGlobals c = some (some (.ref C0)) ∧ mg c = some (.ref C0) ∧ Cls K C0 ∧ rows[i]? = some r ∧ FnFact K r.name r.q r.st r.ps f ∧ r.top = false ∧ (m = "__init__" → Mk K C0 f ∧ InsOk K C0) ∧ (m ≠ "__init__" → Meth K C0 m f)
  fa : ∀ c f, (c, f) ∈ fa → ∃ C0, PySem.W.nsIn K mainGlobals c = some (some (.ref C0)) ∧ Cls K C0 ∧ NoAttr K C0 f
  lm : ∃ fs : List Addr, lm.map mg = fs.map (fun f => some (.ref f)) ∧ tabsOk K fs = true
theorem fsOf_mem {rows : List Row} {x : Str} {i : Nat} (h : (x, i) ∈ fsOf rows) : ∃ r, rows[i]? = some r ∧ r.top = true ∧ r.name = x := by
  unfold fsOf at h
  obtain ⟨⟨r, j⟩, h1, h2⟩ := List.mem_map.mp h
  cases h2
  obtain ⟨h1, h3⟩ := List.mem_filter.mp h1
  exact ⟨r, by simpa using (List.mem_zipIdx_iff_getElem?.mp h1), h3, rfl⟩
noncomputable abbrev calls (gl : List (Str × D)) (rows : List Row) (k : Nat) : Call := callN (gl.map (·.2)) (rows.map (·.df)) k
theorem calls_len {gl : List (Str × D)} {rows : List Row} {k i : Nat} {r : Row} {ds : List D} {S : Store} {q : D × Store} (h : rows[i]? = some r) (e : calls gl rows k i ds S = some q) : ds.length = r.df.np := by
  unfold calls at e
  cases k with
  | zero => cases e
  | succ k =>
    unfold callN at e
    rw [List.getElem?_map, h] at e
    simp only [Option.map_some] at e
    split at e
    · assumption
    · cases e
theorem env_start {K : PySem.W.Frag} {H : Hp} {m : List Addr} {ds : List D} {vs : List V} {N : List Str} (h : RepL K H m ds vs) (hl : ds.length ≤ N.length) : EnvR K H m (startE N.length ds) (L2.start N vs) := by
  unfold startE L2.start
  have e := h.len
  refine ⟨by simp; omega, fun i d hi => ?_⟩
  by_cases hlt : i < ds.length
  · rw [List.getElem?_append_left (by simpa using hlt), List.getElem?_map, Option.map_eq_some_iff] at hi
    obtain ⟨d', h1, h2⟩ := hi
    cases h2
    obtain ⟨v, h3, h4⟩ := h.get h1
    refine ⟨v, ?_, h4⟩
    rw [List.getElem?_append_left (by simp; omega), List.getElem?_map, h3]; rfl
  · rw [List.getElem?_append_right (by simpa using hlt), List.getElem?_replicate] at hi
    split at hi <;> cases hi
theorem rks_ok {K : PySem.W.Frag} {mg : Str → Option Value} {gl : List (Str × D)} {bl : List Str} {ms : MsT} {fa : FaT} {lm : List Str} {rows : List Row} (M : ModOk K mg gl bl ms fa lm rows) (R : ∀ r ∈ rows, RowOk gl bl ms fa lm rows r) {x : Str} (h : x ∈ rksOf rows) : ∃ f, mg x = some (.ref f) ∧ PySem.W.keepIn K (.ref f) = true ∧ ∀ h, K.In h → RankF h f := by
  unfold rksOf at h
  obtain ⟨r, h1, rfl⟩ := List.mem_map.mp h
  obtain ⟨h1, h2⟩ := List.mem_filter.mp h1
  obtain ⟨i, hi⟩ := List.getElem?_of_mem h1
  unfold rankR at h2
  rw [Bool.and_eq_true] at h2
  obtain ⟨ht, h2⟩ := h2
  obtain ⟨f, ⟨fd, F, hb⟩, hm⟩ := M.fn i r hi ht
  have S := (R r h1).S
  split at h2
  · rename_i x hps
    simp only [Bool.and_eq_true, Bool.not_eq_true', decide_eq_true_eq] at h2
    obtain ⟨⟨⟨b1, b2⟩, b3⟩, b4⟩ := h2
    obtain ⟨oc, od, kV, doc, pm, an, cdv, ct, osl, rfl, lk, hcd⟩ := F.ex
    refine ⟨f, hm, F.kp, fun h KX => ⟨_, _, x, KX _ _ lk, rfl, PySem.W.codeRec_of KX hcd, fun s u => .of_eq ?_, ?_, b3, S.co, S.gen, S.kind, b4, .inl ⟨_, rfl, b1⟩⟩⟩
    · have := hb [u] (by rw [hps]; rfl)
      rw [hps] at this
      exact this
    · intro y hy
      have := List.all_eq_true.mp b2 y hy
      simpa using this
  · cases h2
section
variable {P : Program} {w : World} {K : PySem.W.Frag} {mg : Str → Option Value} {base : Heap} {gl : List (Str × D)} {bl : List Str} {ms : MsT} {fa : FaT} {lm : List Str} {rows : List Row}
/-- what is known of the tables of the defs that make lambdas -/
def LamOk (K : PySem.W.Frag) (mg : Str → Option Value) (base : Heap) (lm : List Str) : Prop := ∀ x ∈ lm, ∃ f c P, mg x = some (.ref f) ∧ (∀ o fd, K.lookup f = some o → o.data = .func fd → fd.code = .ref c) ∧ LamX.TabB base mg c P ∧ (P, (x ++ ".<locals>.") ++ "<lambda>") ∈ Tb.T ∧ ∀ p ∈ Tb.T, p.1 = P → p.2 = (x ++ ".<locals>.") ++ "<lambda>"
/-- EVERY DEF, at every depth -/
theorem fns_ok (M : ModOk K mg gl bl ms fa lm rows) (R : ∀ r ∈ rows, RowOk gl bl ms fa lm rows r) (L : LamOk K mg base lm) : ∀ (k i : Nat) (r : Row), rows[i]? = some r → ∀ (f : Addr) (fd : FuncData), Fun K r.name r.q r.st f fd → (r.top = true → mg r.name = some (.ref f)) → (∀ us : List Value, us.length = r.ps.length → bindArgs fd ⟨us, []⟩ = pure (r.ps.zip us)) → FnG P w K mg base CX0 (2 * k + 1) f fd r.ps (spC K (calls gl rows k) i)
  | 0, i, r, hi, f, fd, F, hf, hb => by
    refine ⟨fun vs H Q E h => ?_, fun A outer s H args us vs Q E _ _ _ _ _ h => ?_⟩
    · obtain ⟨m, S, ds, d, S', _, _, e, _⟩ := h; cases e
    · obtain ⟨m, S, ds, d, S', _, _, e, _⟩ := h; cases e
  | k + 1, i, r, hi, f, fd, F, hf, hb => by
    have ok := R r (List.mem_of_getElem? hi)
    obtain ⟨oc, od, kV, doc, pm, an, cdv, ct, osl, rfl, lk, hcd⟩ := F.ex
    have body : ∀ (A : Around) (outer : List PySem.Env) (s : Shared) (H : Hp) (vs : List V) (Q : VK) (E : XK), A.guards = some [] → Room (2 * k + 2) (A.deeper (envOfC r.q (defScope r.st) s.heap.objs.size f cdv)) → spC K (calls gl rows (k + 1)) i vs H Q E →
        ∃ t, PSs (cxOf CX0 P w K mg base r.N r.q (defScope r.st) f cdv A outer s H E).nox (defBody r.st) t ∧ t { nx := fun _ H' => Q .non H', rt := Q } (L2.start r.N vs) H := by
      intro A outer s H vs Q E hgd hr h
      obtain ⟨m, S, ds, d, S', hs, hr2, e, kk⟩ := h
      have hlen := calls_len hi e
      have c : COk (cxOf CX0 P w K mg base r.N r.q (defScope r.st) f cdv A outer s H E).nox (ctxOf gl bl ms fa lm rows r) (gl.map (·.2)) (calls gl rows k) :=
        { hN := rfl, nd := ok.S.nd, sc := rfl, kind := ok.S.kind, calm := rfl, fnh := fun _ _ => rfl,
          gl := fun j x d h => ⟨by rw [List.getElem?_map, show gl[j]? = some (x, d) from h]; rfl, M.gl j x d h⟩,
          bl := M.bl,
          fs := fun x j h => by
            obtain ⟨r', h1, ht, rfl⟩ := fsOf_mem h
            obtain ⟨f2, ⟨fd2, F2, hb2⟩, h2⟩ := M.fn j r' h1 ht
            exact ⟨2 * k + 1, f2, fd2, r'.ps, fns_ok M R L k j r' h1 f2 fd2 F2 (fun _ => h2) hb2, hr.mono (by omega), h2, F2.kp, .all hb2, fun ds S q e => by rw [calls_len h1 e, (R r' (List.mem_of_getElem? h1)).np]⟩,
          ms := fun x mn j h => by
            obtain ⟨C0, f2, r', h1, h2, h3, h4, ⟨fd2, F2, hb2⟩, h5, h6, h7⟩ := M.ms x mn j h
            exact ⟨C0, 2 * k + 1, f2, fd2, r'.ps, h1, h2, h3, fns_ok M R L k j r' h4 f2 fd2 F2 (fun z => by rw [h5] at z; cases z) hb2, hr, h6, h7, .all hb2, fun ds S q e => by rw [calls_len h4 e, (R r' (List.mem_of_getElem? h4)).np]⟩,
          fa := M.fa,
          room := hr.mono (by omega),
          gd := by
            first | exact hgd | (show (A.deeper _).guards = some []; rw [show (A.deeper _).guards = A.guards from by cases h : A.guards <;> simp [Around.deeper, h, pushGuards]]; exact hgd)
          rk := fun x hx => rks_ok M R hx
          lm := fun hl => by
            have hl : (r.top && decide (r.q = r.name) && decide (r.name ∈ lm)) = true := hl
            simp only [Bool.and_eq_true, decide_eq_true_eq] at hl
            obtain ⟨⟨l1, l2⟩, l3⟩ := hl
            obtain ⟨f3, c3, P3, g1, g2, g3, g4, g5⟩ := L _ l3
            rw [hf l1] at g1
            cases g1
            refine ⟨c3, P3, g2 _ _ lk rfl, g3, ?_, fun p hp e => ?_⟩
            · show (P3, (r.q ++ ".<locals>.") ++ "<lambda>") ∈ Tb.T
              rw [l2]; exact g4
            · show p.2 = (r.q ++ ".<locals>.") ++ "<lambda>"
              rw [l2]; exact g5 p hp e }
      refine ⟨_, sSs r.df.body c PassesOwn.never ok.mt, ?_⟩
      have hlN : ds.length ≤ r.N.length := by
        rw [hlen, ok.np]
        have := congrArg List.length ok.S.pre
        rw [List.length_take] at this
        omega
      unfold calls at e
      unfold callN at e
      rw [List.getElem?_map, hi] at e
      simp only [Option.map_some] at e
      rw [if_pos hlen] at e
      split at e
      · rename_i x S1 e1
        have e := Option.some.inj e
        refine ⟨startE r.df.ns ds, m, S, _, S1, by rw [ok.ns]; exact env_start hr2 hlN, hs, e1, fun H' m' s' f' v rv => ?_⟩
        obtain ⟨m2, s2, f2, r2⟩ := gc_ok hs s' f' rv
        rw [e] at s2 r2
        exact kk v H' m2 s2 f2 r2
      · rename_i ρ1 S1 e1
        have e := Option.some.inj e
        refine ⟨startE r.df.ns ds, m, S, _, S1, by rw [ok.ns]; exact env_start hr2 hlN, hs, e1, fun H' m' s' f' σ' en' => ?_⟩
        obtain ⟨m2, s2, f2, r2⟩ := gc_ok hs s' f' (show Rep K H' m' .non .non from mk_non)
        rw [e] at s2 r2
        exact kk .non H' m2 s2 f2 r2
      · cases e
    refine ⟨fun vs H Q E h => ?_, fun A outer s H args us vs Q E hgd hr e0 hbt rv hsp => ?_⟩
    · obtain ⟨m, S, ds, d, S', _, h2, e, _⟩ := h
      rw [← h2.len, calls_len hi e, ok.np]
    · have hlv : vs.length = r.ps.length := by
        obtain ⟨m, S, ds, d, S', _, h2, e, _⟩ := hsp
        rw [← h2.len, calls_len hi e, ok.np]
      exact LamX.run_ofS lk hcd ok.S hr e0 hbt rv hlv fun hr' => by
        obtain ⟨t, ht, hq⟩ := body A outer s H vs Q E hgd hr' hsp
        exact ⟨t, ht.nox, hq⟩
end
end F

/-! The law's call, from what the head leaves. -/
namespace F
open PySem PySem.Spec PyProof.Rows L2
def tabO : Obj := { cls := .none, data := .fields #[] }
def lstO (vs : List Value) : Obj := { cls := .type "list", data := .seq vs.toArray }
/-- the tables and the script -/
def startH (K : PySem.W.Frag) (ps : List Addr) (a : Addr) (vs : List Value) (ns : List Int) : Hp := fun b =>
  if b ∈ ps then some (.tbl #[]) else if b = a then (match K.lookup a with | none => some (.frz (lstO vs) (.lst (ns.map V.int))) | some _ => none) else none
section
variable {P : Program} {w : World} {K : PySem.W.Frag} {mg mb : Str → Option Value} {k : Nat} {fa a : Addr} {ps : List Addr} {s₁ : Shared} {vs : List Value} {ns : List Int}
theorem startH_tab {p : Addr} (h : p ∈ ps) : startH K ps a vs ns p = some (.tbl #[]) := if_pos h
theorem startH_inv {b : Addr} {u : HO} (e : startH K ps a vs ns b = some u) : (b ∈ ps ∧ u = .tbl #[]) ∨ (b ∉ ps ∧ b = a ∧ K.lookup a = none ∧ u = .frz (lstO vs) (.lst (ns.map V.int))) := by
  unfold startH at e
  split at e
  · rename_i h; exact .inl ⟨h, (Option.some.inj e).symm⟩
  · rename_i h
    split at e
    · rename_i h2
      split at e
      · rename_i h3; exact .inr ⟨h, h2, h3, (Option.some.inj e).symm⟩
      · cases e
    · cases e
theorem startH_none {h : Heap} {b : Addr} {o : Obj} (hT : ∀ p ∈ ps, h.get? p = some tabO) (ha : h.get? a = some (lstO vs)) (e : h.get? b = some o) (n1 : o ≠ tabO) (n2 : o ≠ lstO vs) : startH K ps a vs ns b = none := by
  cases q : startH K ps a vs ns b with
  | none => rfl
  | some u =>
    rcases startH_inv q with ⟨h1, _⟩ | ⟨_, h1, _⟩
    · rw [hT b h1] at e; exact absurd (Option.some.inj e).symm n1
    · rw [h1, ha] at e; exact absurd (Option.some.inj e).symm n2
theorem start_base {h : Heap} {b : Addr} {o : Obj} (hT : ∀ p ∈ ps, h.get? p = some tabO) (ha : h.get? a = some (lstO vs)) (e : h.get? b = some o) (n1 : o ≠ tabO) (n2 : o ≠ lstO vs) : (hidT h (startH K ps a vs ns)).get? b = some o := hidT_get e (startH_none hT ha e n1 n2)
theorem start_ns {h : Heap} {b : Addr} {m : Str → Option Value} (hT : ∀ p ∈ ps, h.get? p = some tabO) (ha : h.get? a = some (lstO vs)) (e : h.Ns b m) : (hidT h (startH K ps a vs ns)).Ns b m := by
  obtain ⟨o, es, ep, e1, e2, r⟩ := e
  exact ⟨o, es, ep, start_base hT ha e1 (fun z => by rw [z] at e2; cases e2) (fun z => by rw [z] at e2; cases e2), e2, r⟩
theorem start_in {h : Heap} (KX : K.In h) (hT : ∀ p ∈ ps, h.get? p = some tabO) (nT : ∀ p ∈ ps, K.lookup p = none) (ha : h.get? a = some (lstO vs)) : K.In (hidT h (startH K ps a vs ns)) := fun b o e => by
  refine hidT_get (KX b o e) ?_
  cases q : startH K ps a vs ns b with
  | none => rfl
  | some u =>
    rcases startH_inv q with ⟨h1, _⟩ | ⟨_, h1, h2, _⟩
    · rw [nT b h1] at e; cases e
    · rw [h1, h2] at e; cases e
theorem start_tabB {h : Heap} {c p : Addr} (hns : h.Ns mainGlobals mg) (hT : ∀ p ∈ ps, h.get? p = some tabO) (hp : p ∈ ps) (ha : h.get? a = some (lstO vs)) (C : PySem.W.CodeHd h c p)
    (hbm : ∃ (bm : Addr) (ob : Obj), mg "__builtins__" = some (.ref bm) ∧ bm ≠ builtinsNs ∧ h.get? bm = some ob ∧ ob.cls = .type "module" ∧ ob.dict = some builtinsNs ∧ ob.data = .plain) : LamX.TabB (hidT h (startH K ps a vs ns)) mg c p := by
  have hpt := hT p hp
  refine ⟨?_, ?_, fun z => ?_⟩
  · obtain ⟨o, us, file, tf, flags, tg, inF, text, tt, e1, r1, r2, r3, r4⟩ := C
    refine ⟨o, us, file, tf, flags, tg, inF, text, tt, start_base hT ha e1 (fun z => ?_) (fun z => ?_), r1, r2, r3, r4⟩
    · rw [z] at r1; cases r1
    · rw [z] at r2; cases r2
  · obtain ⟨bm, ob, b1, b2, b3, b4, b5, b6⟩ := hbm
    refine ⟨bm, ob, b1, b2, fun q => ?_, fun q => ?_, start_base hT ha b3 (fun z => ?_) (fun z => ?_), b4, b5, b6⟩
    · obtain ⟨o, es, ep, e, hd, _⟩ := hns
      rw [q, e] at b3
      rw [← Option.some.inj b3, hd] at b6
      cases b6
    · rw [q, hpt] at b3
      rw [← Option.some.inj b3] at b6
      cases b6
    · rw [z] at b6; cases b6
    · rw [z] at b6; cases b6
  · obtain ⟨o, es, ep, e, hd, _⟩ := hns
    rw [z, hpt] at e
    rw [← Option.some.inj e] at hd
    cases hd
/-- the law's call -/
theorem law_go {cs : List (Addr × Addr)} {fd : FuncData} {x : Str} {sp : Sp} (KX : K.In s₁.heap) (hns : s₁.heap.Ns mainGlobals mg) (hb : s₁.heap.Ns builtinsNs mb) (hbb : ∀ x : Str, x ≠ "__name__" → mb x = bootBuiltins x) (hlim : s₁.heap.NoLimit) (hg : s₁.gens = #[])
    (hT : ∀ p ∈ cs, s₁.heap.get? p.2 = some tabO) (nT : ∀ p ∈ cs, K.lookup p.2 = none) (C : ∀ p ∈ cs, PySem.W.CodeHd s₁.heap p.1 p.2)
    (hbm : ∃ (bm : Addr) (ob : Obj), mg "__builtins__" = some (.ref bm) ∧ bm ≠ builtinsNs ∧ s₁.heap.get? bm = some ob ∧ ob.cls = .type "module" ∧ ob.dict = some builtinsNs ∧ ob.data = .plain)
    (ha : s₁.heap.get? a = some (lstO vs)) (hi : IntsAre vs ns) (hl : ns.length ≤ sizeLine) (hr : Room k callerA)
    (F : ∀ base : Heap, K.In base → base.Ns mainGlobals mg → (∀ p ∈ cs, LamX.TabB base mg p.1 p.2) → FnG P w K mg base CX0 k fa fd [x] sp) (hbind : ∀ (s : Shared) (u : Value), BindsTo s fd ⟨[u], []⟩ [(x, u)])
    (hsp : ∀ H : Hp, (∀ p ∈ cs, H p.2 = some (.tbl #[])) → RoL K H a (ns.map V.int) → sp [.ref a] H (fun v _ => v = .bl true) fun _ _ _ => False) :
    codeAny (model P w) callerA (.call (.ref fa) ⟨[.ref a], []⟩) (fun r s' => r = .ok (.ret (.bool true)) ∧ OldK s₁.heap s'.heap ∧ s'.os = s₁.os ∧ AllBare s'.gens) s₁ := by
  have rv := vals_ints hi
  have hT' : ∀ p ∈ cs.map (·.2), s₁.heap.get? p = some tabO := fun p hp => by
    obtain ⟨q, h1, h2⟩ := List.mem_map.mp hp
    rw [← h2]; exact hT q h1
  have nT' : ∀ p ∈ cs.map (·.2), K.lookup p = none := fun p hp => by
    obtain ⟨q, h1, h2⟩ := List.mem_map.mp hp
    rw [← h2]; exact nT q h1
  have mem : ∀ p ∈ cs, p.2 ∈ cs.map (·.2) := fun p hp => List.mem_map_of_mem hp
  have aP : a ∉ cs.map (·.2) := fun z => by
    have h1 := hT' a z
    rw [ha] at h1
    have h2 := congrArg Obj.data (Option.some.inj h1)
    cases h2
  have lenV := hi.length
  have KB := start_in (ns := ns) KX hT' nT' ha
  have NB := start_ns (K := K) (ns := ns) hT' ha hns
  have hok : HOk P w (startH K (cs.map (·.2)) a vs ns) s₁.heap := fun b u e => by
    rcases startH_inv e with ⟨h1, rfl⟩ | ⟨_, h1, _, rfl⟩
    · exact hT' b h1
    · rw [h1]
      exact ⟨ha, by rw [List.length_map]; exact hl, vs, _, rv, ha⟩
  have ro : RoL K (startH K (cs.map (·.2)) a vs ns) a (ns.map V.int) := by
    cases hk : K.lookup a with
    | none =>
      refine .inl ⟨lstO vs, ?_⟩
      unfold startH
      rw [if_neg aP, if_pos rfl, hk]
    | some o =>
      have e := KX a o hk
      rw [ha] at e
      exact .inr ⟨_, vs.toArray, _, hk.trans (congrArg some (Option.some.inj e).symm), rfl, rfl, rfl, by rw [List.size_toArray, lenV]; exact hl, by simpa using rv⟩
  have e0 : Env0 P w K mg (hidT s₁.heap (startH K (cs.map (·.2)) a vs ns)) callerA [] s₁ (startH K (cs.map (·.2)) a vs ns) :=
    { frames := rfl
      mod := ⟨KB, NB, ⟨mb, start_ns hT' ha hb, hbb⟩, (by obtain ⟨mc, z1, z2⟩ := hlim; exact ⟨mc, start_ns hT' ha z1, z2⟩)⟩
      bs := fun b o e => of_hidT e
      bsz := Nat.le_of_eq (hidT_size _ _)
      funs := trivial
      frf := fun b hb => by cases hb
      hok := hok
      bare := .of_eq hg }
  have run := (F _ KB NB fun p hp => start_tabB hns hT' (mem p hp) ha (C p hp) hbm).go callerA [] s₁ _ ⟨[.ref a], []⟩ [.ref a] [.ref a] (fun v _ => v = .bl true) (fun _ _ _ => False) rfl hr e0 (hbind s₁ (.ref a)) (.cons rfl .nil) (hsp _ (fun p hp => startH_tab (mem p hp)) ro)
  refine codeAny_mono run fun r s' hq => ?_
  match r, hq with
  | .error e, hq => exact (show False from hq).elim
  | .ok (.ret u), hq =>
    obtain ⟨v, H', os, bare, un, hok', r', q⟩ := hq
    have q' : v = .bl true := q
    subst q'
    obtain rfl : u = Value.bool true := r'
    have kept : ∀ b o, b ∉ cs.map (·.2) → s₁.heap.get? b = some o → s'.heap.get? b = some o := fun b o nb e => by
      cases z : startH K (cs.map (·.2)) a vs ns b with
      | none => exact un.keep b o e z (fun h => nomatch h) (fun h => nomatch h)
      | some u =>
        rcases startH_inv z with ⟨h1, _⟩ | ⟨_, h1, _, rfl⟩
        · exact absurd h1 nb
        · have h2 := (hok' b _ (un.frzs b _ _ z)).1
          rw [h1, ha] at e
          rw [← Option.some.inj e]; exact h2
    have grown : ∀ p ∈ cs, ∃ more : Array Value, s'.heap.get? p.2 = some { cls := .none, data := .fields more } := fun p hp => by
      obtain ⟨more, z⟩ := un.tbls p.2 #[] (startH_tab (mem p hp))
      exact ⟨_, hok' p.2 _ z⟩
    refine ⟨rfl, ⟨fun b o e => ?_, fun b o e => ?_⟩, os, bare⟩
    · by_cases hm : b ∈ cs.map (·.2)
      · obtain ⟨p, hp, ep⟩ := List.mem_map.mp hm
        obtain ⟨more, h2⟩ := grown p hp
        rw [← ep, hT p hp] at e
        rw [← ep, ← Option.some.inj e]
        refine .inr (.inl ⟨((C p hp).tab (hT p hp)).isCodeTable, rfl, #[], more, rfl, ?_⟩)
        rw [Array.empty_append]
        exact h2
      · exact .inl (kept b o hm e)
    · by_cases hm : b ∈ cs.map (·.2)
      · obtain ⟨p, hp, ep⟩ := List.mem_map.mp hm
        obtain ⟨more, h2⟩ := grown p hp
        rw [← ep]
        exact ⟨_, h2⟩
      · exact ⟨o, kept b o hm e⟩
end
def spLaw (K : PySem.W.Frag) (T : List (Addr × Str)) : Sp := fun vs H Q _ => ∃ (a : Addr) (ns : List Int), vs = [.ref a] ∧ RoL K H a (ns.map V.int) ∧ ns.length ≤ 63 ∧ (∀ p ∈ T, H p.1 = some (.tbl #[])) ∧ ∀ H', Q (.bl true) H'
theorem repL_ints2 {K : PySem.W.Frag} {H : Hp} {m : List Addr} : ∀ ns : List Int, RepL K H m (ns.map D.int) (ns.map V.int)
  | [] => .nil
  | n :: ns => .cons (mk_int n) (repL_ints2 ns)
/-- of each of some defs the code object and its table -/
theorem tabs_of {K : PySem.W.Frag} {mg : Str → Option Value} {h : Heap} (KX : K.In h) : ∀ (lm : List Str) (fs : List Addr), lm.map mg = fs.map (fun f => some (.ref f)) → ((fs.map (tabAt K)).all fun o => match o with | some P => (K.lookup P).isNone | none => false) = true →
    (∀ x ∈ lm, ∃ a o fd c P, mg x = some (.ref a) ∧ h.get? a = some o ∧ o.data = .func fd ∧ fd.code = .ref c ∧ h.IsCode c P #[] ∧ h.TableAt c P #[]) →
    ∃ ts : List (Str × Addr × Addr × Addr), ts.map (·.1) = lm ∧ ts.map (fun t => some t.2.2.2) = fs.map (tabAt K) ∧ ∀ t ∈ ts, mg t.1 = some (.ref t.2.1) ∧ (∀ o fd, K.lookup t.2.1 = some o → o.data = .func fd → fd.code = .ref t.2.2.1) ∧ h.get? t.2.2.2 = some tabO ∧ K.lookup t.2.2.2 = none ∧ PySem.W.CodeHd h t.2.2.1 t.2.2.2
  | [], [], _, _, _ => ⟨[], rfl, rfl, fun t ht => nomatch ht⟩
  | [], f :: fs, e, _, _ => by cases e
  | x :: lm, [], e, _, _ => by cases e
  | x :: lm, f :: fs, e, ok, G => by
    rw [List.map_cons, List.map_cons] at e
    obtain ⟨e1, e2⟩ := List.cons.inj e
    rw [List.map_cons, List.all_cons, Bool.and_eq_true] at ok
    obtain ⟨ts, t1, t2, t3⟩ := tabs_of KX lm fs e2 ok.2 fun y hy => G y (List.mem_cons_of_mem _ hy)
    obtain ⟨a, o, fd, c, P, g1, g2, g3, g4, g5, g6⟩ := G x List.mem_cons_self
    rw [e1] at g1
    cases g1
    have ok1 := ok.1
    split at ok1
    · rename_i P' hP
      have hP2 : P' = P ∧ (∀ o fd, K.lookup f = some o → o.data = .func fd → fd.code = .ref c) := by
        unfold tabAt at hP
        split at hP
        · rename_i k1 k2 fd' k3 hl
          have h0 := KX _ _ hl
          rw [g2] at h0
          have h0 := Option.some.inj h0
          rw [h0] at g3
          have g3 := Data.func.inj g3
          subst g3
          refine ⟨?_, fun o2 fd2 z1 z2 => ?_⟩
          · rw [g4] at hP
            simp only at hP
            split at hP
            · rename_i k4 k5 vs' k6 hl2
              have h1 := KX _ _ hl2
              obtain ⟨⟨oc, vc, q1, _, q3, q4⟩, _⟩ := g6
              rw [h1] at q1
              have q1 := Option.some.inj q1
              rw [← q1] at q3
              have q3 := (Data.fields.inj q3)
              split at hP
              · rename_i P2 hv
                rw [q3, q4] at hv
                have hv := Value.ref.inj (Option.some.inj hv)
                rw [← Option.some.inj hP, hv]
              · cases hP
            · cases hP
          · rw [hl] at z1
            rw [← Option.some.inj z1] at z2
            rw [← Data.func.inj z2]
            exact g4
        · cases hP
      obtain ⟨rfl, hc⟩ := hP2
      refine ⟨(x, f, c, P') :: ts, by rw [List.map_cons, t1], by rw [List.map_cons, List.map_cons, t2, hP], fun t ht => ?_⟩
      rcases List.mem_cons.mp ht with rfl | ht
      · refine ⟨e1, hc, ?_, by simpa using ok1, PySem.W.CodeHd.of g5 g6⟩
        exact g6.2
      · exact t3 t ht
    · cases ok1
/-- THE LAW: what the head leaves, from the evaluation of the law alone -/
theorem walk {l : PySem.W.OpenLaw} {q : Program} {loose : List Str} {XP : (Str → Option Value) → Heap → Prop} {YP : World → Heap → Prop} {d : DefRec} {K : Params → PySem.W.Frag} {gl : List (Str × D)} {bl : List Str} {ms : MsT} {fa : FaT} {lm : List Str} {rows : List Row} {li : Nat} {r : Row} {x : Str}
    (hn : l.most = some 63) (hdf : d.params.defaults = []) (hY : ∀ (w : World) (h : Heap), YP w h → (K w.params).In h)
    (hr : rows[li]? = some r) (ht : r.top = true) (hd : r.name = d.name) (hp : r.ps = [x]) (R : ∀ r ∈ rows, RowOk gl bl ms fa lm rows r) (hlm : (lm.all fun x => (recsOf q).any fun e => e.name == x) = true) (hnd : lm.Nodup)
    (M : ∀ (w : World) (mg : Str → Option Value) (h : Heap), (K w.params).In h → h.Ns mainGlobals mg → ModOk (K w.params) mg gl bl ms fa lm rows)
    (hL : ∀ ns : List Int, ns.length ≤ 63 → ∃ S', calls gl rows 115 li [.rol (ns.map D.int)] [] = some (.bl true, S')) :
    PySem.W.WalkO q loose XP YP l.row.toRowW d [] (fun f vs => PySem.call f vs) := by
  refine Att.attach_callB hn hdf fun w s₀ s₁ mg mb fa' o pm cd doc a vs ns G Y ho hod hcd hmg hobj hints hlen hbits hg => ?_
  have KX := hY w _ Y
  have Mo := M w mg s₁.heap KX G.T.g
  obtain ⟨f', ⟨fd, F, hb⟩, hf'⟩ := Mo.fn li r hr ht
  rw [hd, hmg] at hf'; cases hf'
  obtain ⟨fs, m1, m2⟩ := Mo.lm
  unfold tabsOk at m2
  rw [Bool.and_eq_true, decide_eq_true_eq] at m2
  obtain ⟨ts, t1, t2, t3⟩ := tabs_of KX lm fs m1 m2.1 fun y hy => by
    obtain ⟨dL, z1, z2⟩ := List.any_eq_true.mp (List.all_eq_true.mp hlm y hy)
    obtain ⟨a', o', fd', c', P', g⟩ := G.T.tab dL z1
    rw [beq_iff_eq.mp z2] at g
    exact ⟨a', o', fd', c', P', g⟩
  have nd : (ts.map (fun t => t.2.2.2)).Nodup := by
    have z : (ts.map (fun t => some t.2.2.2)).Nodup := by rw [t2]; exact m2.2
    have e : ts.map (fun t => some t.2.2.2) = (ts.map (fun t => t.2.2.2)).map some := by rw [List.map_map]; rfl
    rw [e] at z
    exact List.Pairwise.of_map some (fun a b h e => h (by rw [e])) z
  let T : List (Addr × Str) := ts.map fun t => (t.2.2.2, (t.1 ++ ".<locals>.") ++ "<lambda>")
  letI : Tb := ⟨T⟩
  refine law_go (fd := fd) (cs := ts.map fun t => (t.2.2.1, t.2.2.2)) (k := 231) (x := x) (sp := spLaw (K w.params) T) KX G.T.g G.T.b G.T.builtins G.T.nolimit hg ?_ ?_ ?_ G.T.bmain hobj hints (Nat.le_trans hlen (by decide)) ⟨rfl, by decide, by decide⟩ (fun base KB NB TB => ?_) (fun s u => .of_eq ?_) fun H hH hS => ⟨a, ns, rfl, hS, hlen, ?_, fun _ => rfl⟩
  · intro p hp
    obtain ⟨t, z1, rfl⟩ := List.mem_map.mp hp
    exact (t3 t z1).2.2.1
  · intro p hp
    obtain ⟨t, z1, rfl⟩ := List.mem_map.mp hp
    exact (t3 t z1).2.2.2.1
  · intro p hp
    obtain ⟨t, z1, rfl⟩ := List.mem_map.mp hp
    exact (t3 t z1).2.2.2.2
  · have L : LamOk (K w.params) mg base lm := fun y hy => by
      rw [← t1] at hy
      obtain ⟨t, z1, rfl⟩ := List.mem_map.mp hy
      obtain ⟨g1, g2, _⟩ := t3 t z1
      refine ⟨t.2.1, t.2.2.1, t.2.2.2, g1, g2, TB (t.2.2.1, t.2.2.2) (List.mem_map.mpr ⟨t, z1, rfl⟩), List.mem_map.mpr ⟨t, z1, rfl⟩, fun p hp e => ?_⟩
      obtain ⟨t', z2, rfl⟩ := List.mem_map.mp hp
      have e : t'.2.2.2 = t.2.2.2 := e
      obtain ⟨i, hi, ei⟩ := List.getElem_of_mem z1
      obtain ⟨j, hj, ej⟩ := List.getElem_of_mem z2
      have eij : j = i := (List.getElem_inj (h₀ := by simpa using hj) (h₁ := by simpa using hi) nd).mp (by simp [ei, ej, e])
      subst eij
      rw [ei] at ej
      rw [ej]
    rw [← hp]
    have FN := fns_ok (P := l.prog) (w := w) (base := base) Mo R L 115 li r hr fa' fd F (fun _ => by rw [hd]; exact hmg) hb
    refine ⟨fun vs H Q E h => ?_, fun A outer s H args us vs Q E hgd hro e0 hbt rv hsp => FN.go A outer s H args us vs Q E hgd hro e0 hbt rv ?_⟩
    · obtain ⟨a, ns, rfl, _⟩ := h
      rw [hp]; rfl
    · obtain ⟨a, ns, rfl, ro, hl, hO, hQ⟩ := hsp
      obtain ⟨S', e⟩ := hL ns hl
      refine ⟨[], [], [.rol (ns.map D.int)], .bl true, S', ⟨rfl, List.nodup_nil, fun n o a e => by simp at e, fun p hp => ?_⟩, .cons ?_ .nil, e, fun v H' m' _ _ rv => ?_⟩
      · exact LamX.TabS.nil (hO p hp)
      · unfold Rep
        exact ⟨a, ns.map V.int, rfl, ro, repL_ints2 ns⟩
      · rw [rep_bl rv]; exact hQ H'
  · have := hb [u] (by rw [hp]; rfl)
    rw [hp] at this
    exact this
  · intro p hp
    obtain ⟨t, z1, rfl⟩ := List.mem_map.mp hp
    exact hH (t.2.2.1, t.2.2.2) (List.mem_map.mpr ⟨t, z1, rfl⟩)
end F

/-! Tools for the laws: evaluation by lemmas, loops by invariants. -/
namespace F
open PySem PyProof.Rows L2

def res (o : Option T) (S : Store) : Option (T × Store) := match o with | some t => some (t, S) | none => none
section
variable (S : Store) (a b c : T) (i j : Int)
theorem res_some (t : T) : res (some t) S = some (t, S) := rfl
theorem run_add : Prim.run .add [a, b] S = res (addT S a b) S := rfl
theorem run_sub : Prim.run .sub [.d (.int i), .d (.int j)] S = some (.d (.int (i - j)), S) := rfl
theorem run_mul : Prim.run .mul [a, b] S = res (mulT S a b) S := rfl
theorem run_fdiv : Prim.run .fdiv [.d (.int i), .d (.int j)] S = res (fdivI i j) S := rfl
theorem run_mod : Prim.run .mod [.d (.int i), .d (.int j)] S = res (modI i j) S := rfl
theorem run_pow : Prim.run .pow [.d (.int i), .d (.int j)] S = res (powI i j) S := rfl
theorem run_neg : Prim.run .neg [.d (.int i)] S = some (.d (.int (-i)), S) := rfl
theorem run_lt : Prim.run .lt [.d (.int i), .d (.int j)] S = some (.d (.bl (decide (i < j))), S) := rfl
theorem run_le : Prim.run .le [.d (.int i), .d (.int j)] S = some (.d (.bl (decide (i ≤ j))), S) := rfl
theorem run_gt : Prim.run .gt [.d (.int i), .d (.int j)] S = some (.d (.bl (decide (j < i))), S) := rfl
theorem run_ge : Prim.run .ge [.d (.int i), .d (.int j)] S = some (.d (.bl (decide (j ≤ i))), S) := rfl
theorem run_eq : Prim.run .eq [a, b] S = res (eqT false S a b) S := rfl
theorem run_ne : Prim.run .ne [a, b] S = res (eqT true S a b) S := rfl
theorem run_isN (n : Bool) : Prim.run (.isN n) [a] S = some (.d (.bl (isNon a != n)), S) := rfl
theorem run_isB (n k x : Bool) : Prim.run (.isB n k) [.d (.bl x)] S = some (.d (.bl (decide (x = k) != n)), S) := rfl
theorem run_isin (n : Bool) : Prim.run (.isin n) [a, b] S = res (bT (inT S a b) n) S := rfl
theorem run_len : Prim.run .len [a] S = res (lenR S a) S := rfl
theorem run_abs : Prim.run .abs [.d (.int i)] S = some (.d (.int (if i < 0 then -i else i)), S) := rfl
theorem run_min2 : Prim.run .min2 [.d (.int i), .d (.int j)] S = some (.d (.int (if j < i then j else i)), S) := rfl
theorem run_max2 : Prim.run .max2 [.d (.int i), .d (.int j)] S = some (.d (.int (if j > i then j else i)), S) := rfl
theorem run_int1 (x : Bool) : Prim.run .int1 [.d (.bl x)] S = some (.d (.int (if x then 1 else 0)), S) := rfl
theorem run_item : Prim.run .item [a, b] S = res (itemR S a b) S := rfl
theorem run_slice00 : Prim.run (.slice false false) [a] S = res (sliceT S a none none) S := rfl
theorem run_slice10 : Prim.run (.slice true false) [a, .d (.int i)] S = res (sliceT S a (some i) none) S := rfl
theorem run_slice01 : Prim.run (.slice false true) [a, .d (.int i)] S = res (sliceT S a none (some i)) S := rfl
theorem run_slice11 : Prim.run (.slice true true) [a, .d (.int i), .d (.int j)] S = res (sliceT S a (some i) (some j)) S := rfl
theorem run_all : Prim.run .all [a] S = res (allT (fun bs => bs.all id) S a) S := rfl
theorem run_any : Prim.run .any [a] S = res (allT (fun bs => bs.any id) S a) S := rfl
theorem run_tuple : Prim.run .tuple [a] S = res (tupleT S a) S := rfl
theorem run_list : Prim.run .list [a] S = res (listT S a) S := rfl
theorem run_join : Prim.run .join [a, b] S = res (joinT S a b) S := rfl
theorem run_inst (t : Ty) : Prim.run (.inst t) [a] S = res (instT t S a) S := rfl
theorem run_sindex : Prim.run .sindex [a, b] S = res (sindexT a b) S := rfl
theorem run_tupRange : Prim.run .tupRange [a, b, c] S = res (tupRangeT a b c) S := rfl
theorem run_rev : Prim.run .rev [a] S = res (revT S a) S := rfl
theorem run_append : Prim.run .append [a, b] S = appendT S a b := rfl
theorem run_popAt : Prim.run .popAt [a, b] S = popAtT S a b := rfl
theorem addT_int : addT S (.d (.int i)) (.d (.int j)) = some (.d (.int (i + j))) := rfl
end
/-! ### calls -/
section
variable {gl : List (Str × D)} {rows : List Row}
theorem call_rt {k i : Nat} {r : Row} {ds : List D} {S S' : Store} {x : D} (hr : rows[i]? = some r) (hl : ds.length = r.df.np) (h : exSs (gl.map (·.2)) (calls gl rows k) r.df.body (startE r.df.ns ds) S = some (.rt x, S')) : calls gl rows (k + 1) i ds S = some (gc S S' x) := by
  unfold calls callN
  rw [List.getElem?_map, hr]
  simp only [Option.map_some]
  rw [if_pos hl]
  unfold calls at h
  rw [h]
theorem call_nx {k i : Nat} {r : Row} {ds : List D} {S S' : Store} {ρ : Env} (hr : rows[i]? = some r) (hl : ds.length = r.df.np) (h : exSs (gl.map (·.2)) (calls gl rows k) r.df.body (startE r.df.ns ds) S = some (.nx ρ, S')) : calls gl rows (k + 1) i ds S = some (gc S S' .non) := by
  unfold calls callN
  rw [List.getElem?_map, hr]
  simp only [Option.map_some]
  rw [if_pos hl]
  unfold calls at h
  rw [h]
theorem gc_same {S S' : Store} {x : D} (h : S'.length = S.length) : gc S S' x = (x, S') := by
  unfold gc
  split
  · rw [← h, List.take_length]
  · rfl
theorem gc_self {S : Store} {x : D} : gc S S x = (x, S) := gc_same rfl
theorem gc_drop {S S' J : Store} {x : D} (hl : S'.length = S.length) (hc : closedS S.length S → closedS S.length S') (hx : closed S.length x = true) : gc S (S' ++ J) x = (x, S') := by
  have e : (S' ++ J).take S.length = S' := by rw [← hl, List.take_left]
  have g : gcOk S (S' ++ J) x := ⟨by rw [List.length_append]; omega, fun h => by rw [e]; exact hc h, hx⟩
  unfold gc
  rw [if_pos g, e]
theorem gc_junk {S J : Store} {x : D} (hx : closed S.length x = true) : gc S (S ++ J) x = (x, S) := gc_drop rfl (fun h => h) hx
theorem gc_keep {S S' : Store} {x : D} (h : closed S.length x = false) : gc S S' x = (x, S') := by
  unfold gc
  rw [if_neg]
  rintro ⟨_, _, g⟩
  rw [g] at h
  cases h
end
/-! ### loops -/
section
variable {G : List D} {call : Call}
/-- what a block of a loop may come to -/
def Out.Ok (nx : Env → Store → Prop) (bk : Env → Store → Prop) (rt : D → Store → Prop) : Out → Store → Prop
  | .nx ρ, S => nx ρ S
  | .ct ρ, S => nx ρ S
  | .bk ρ, S => bk ρ S
  | .rt x, S => rt x S
def Out.End (nx : Env → Store → Prop) (rt : D → Store → Prop) : Out → Store → Prop
  | .nx ρ, S => nx ρ S
  | .rt x, S => rt x S
  | _, _ => False
theorem forL_inv {asg : D → Env → Store → Option (Env × Store)} {body : Env → Store → Option (Out × Store)} {ch : Live} {B : Env → Store → Prop} {R : D → Store → Prop} (P : Nat → Env → Store → Prop) :
    ∀ (ds : List D) (n : Nat) (ρ : Env) (S : Store), P n ρ S → (∀ i ρ S, P i ρ S → chk ch S) →
    (∀ i d ρ S, ds[i]? = some d → P (n + i) ρ S → ∃ ρ1 S1, asg d ρ S = some (ρ1, S1) ∧ ∃ o S2, body ρ1 S1 = some (o, S2) ∧ o.Ok (P (n + i + 1)) B R S2) →
    ∃ o S', forL asg body ch ds ρ S = some (o, S') ∧ o.End (fun ρ' S' => P (n + ds.length) ρ' S' ∨ B ρ' S') R S'
  | [], n, ρ, S, h, hc, hs => ⟨.nx ρ, S, by unfold forL; rw [if_pos (hc n ρ S h)], .inl h⟩
  | d :: ds, n, ρ, S, h, hc, hs => by
    obtain ⟨ρ1, S1, e1, o, S2, e2, k⟩ := hs 0 d ρ S rfl h
    unfold forL
    rw [if_pos (hc n ρ S h), e1]
    dsimp only
    rw [e2]
    cases o with
    | nx ρ2 =>
      obtain ⟨o, S', e, q⟩ := forL_inv P ds (n + 1) ρ2 S2 k hc (fun i d ρ S hi hp => by
        have := hs (i + 1) d ρ S hi (by rw [show n + (i + 1) = n + 1 + i by omega]; exact hp)
        rw [show n + (i + 1) = n + 1 + i by omega] at this; exact this)
      exact ⟨o, S', e, by rw [List.length_cons, show n + (ds.length + 1) = n + 1 + ds.length by omega]; exact q⟩
    | ct ρ2 =>
      obtain ⟨o, S', e, q⟩ := forL_inv P ds (n + 1) ρ2 S2 k hc (fun i d ρ S hi hp => by
        have := hs (i + 1) d ρ S hi (by rw [show n + (i + 1) = n + 1 + i by omega]; exact hp)
        rw [show n + (i + 1) = n + 1 + i by omega] at this; exact this)
      exact ⟨o, S', e, by rw [List.length_cons, show n + (ds.length + 1) = n + 1 + ds.length by omega]; exact q⟩
    | bk ρ2 => exact ⟨.nx ρ2, S2, rfl, .inr k⟩
    | rt x => exact ⟨.rt x, S2, rfl, k⟩
/-- a for without break or return -/
theorem forL_nx {asg : D → Env → Store → Option (Env × Store)} {body : Env → Store → Option (Out × Store)} {ch : Live} (P : Nat → Env → Store → Prop)
    (ds : List D) (ρ : Env) (S : Store) (h0 : P 0 ρ S) (hc : ∀ i ρ S, P i ρ S → chk ch S)
    (hs : ∀ i d ρ S, ds[i]? = some d → P i ρ S → ∃ ρ1 S1, asg d ρ S = some (ρ1, S1) ∧ ∃ ρ2 S2, (body ρ1 S1 = some (.nx ρ2, S2) ∨ body ρ1 S1 = some (.ct ρ2, S2)) ∧ P (i + 1) ρ2 S2) :
    ∃ ρ' S', forL asg body ch ds ρ S = some (.nx ρ', S') ∧ P ds.length ρ' S' := by
  obtain ⟨o, S', e, k⟩ := forL_inv (B := fun _ _ => False) (R := fun _ _ => False) (asg := asg) (body := body) (ch := ch) P ds 0 ρ S h0 hc fun i d ρ S hi hp => by
    rw [Nat.zero_add] at hp
    obtain ⟨ρ1, S1, e1, ρ2, S2, e2, k⟩ := hs i d ρ S hi hp
    rw [Nat.zero_add]
    rcases e2 with e2 | e2
    · exact ⟨ρ1, S1, e1, _, S2, e2, k⟩
    · exact ⟨ρ1, S1, e1, _, S2, e2, k⟩
  rw [Nat.zero_add] at k
  cases o with
  | nx ρ' => exact ⟨ρ', S', e, k.resolve_right (fun z => z)⟩
  | rt x => exact k.elim
  | bk _ => exact k.elim
  | ct _ => exact k.elim
theorem while_inv {c : Env → Store → Option (Bool × Store)} {b : Env → Store → Option (Out × Store)} {B : Env → Store → Prop} {R : D → Store → Prop} {E : Env → Store → Prop} (P : Nat → Env → Store → Prop)
    (hs : ∀ n ρ S, P n ρ S → ∃ t S1, c ρ S = some (t, S1) ∧ (t = false → E ρ S1) ∧ (t = true → ∃ o S2, b ρ S1 = some (o, S2) ∧ o.Ok (fun ρ' S' => ∃ m, m < n ∧ P m ρ' S') B R S2)) :
    ∀ (n : Nat) (ρ : Env) (S : Store), P n ρ S → ∃ o S', whileL c b ρ S = some (o, S') ∧ o.End (fun ρ' S' => E ρ' S' ∨ B ρ' S') R S' := by
  intro n
  induction n using Nat.strongRecOn with
  | _ n ih =>
  intro ρ S h
  obtain ⟨t, S1, e1, kf, kt⟩ := hs n ρ S h
  rw [whileL_eq, e1]
  cases t with
  | false => exact ⟨.nx ρ, S1, rfl, .inl (kf rfl)⟩
  | true =>
    obtain ⟨o, S2, e2, k⟩ := kt rfl
    dsimp only
    rw [e2]
    cases o with
    | nx ρ2 =>
      obtain ⟨m, hm, k⟩ := k
      exact ih m hm ρ2 S2 k
    | ct ρ2 =>
      obtain ⟨m, hm, k⟩ := k
      exact ih m hm ρ2 S2 k
    | bk ρ2 => exact ⟨.nx ρ2, S2, rfl, .inr k⟩
    | rt x => exact ⟨.rt x, S2, rfl, k⟩
/-- a comprehension, by an invariant -/
theorem lc_inv {asg : D → Env → Store → Option (Env × Store)} {cond : Env → Store → Option (Bool × Store)} {elt : Env → Store → Option (T × Store)} {ch : Live} {ρ : Env} {own : List Nat} (P : Nat → List D → Store → Prop) :
    ∀ (ds : List D) (n : Nat) (acc : List D) (S : Store), P n acc S → (∀ i acc S, P i acc S → chk ch S) → acc.length + ds.length ≤ 1000 →
    (∀ i d acc S, ds[i]? = some d → P (n + i) acc S → ∃ ρ1 S1, asg d ρ S = some (ρ1, S1) ∧ ∃ t S2, cond ρ1 S1 = some (t, S2) ∧ (t = false → P (n + i + 1) acc S2) ∧ (t = true → ∃ u S3, elt ρ1 S2 = some (u, S3) ∧ P (n + i + 1) (acc ++ [(norm u S3).1]) (norm u S3).2)) →
    ∃ acc' S', lcGo asg cond elt ch ρ own ds acc S = some (acc', S') ∧ P (n + ds.length) acc' S'
  | [], n, acc, S, h, hc, hl, hs => ⟨acc, S, by unfold lcGo; rw [if_pos (hc n acc S h)], h⟩
  | d :: ds, n, acc, S, h, hc, hl, hs => by
    obtain ⟨ρ1, S1, e1, t, S2, e2, kf, kt⟩ := hs 0 d acc S rfl h
    rw [List.length_cons] at hl
    have next : ∀ acc2 S2, acc2.length + ds.length ≤ 1000 → P (n + 0 + 1) acc2 S2 → ∃ acc' S', lcGo asg cond elt ch ρ own ds acc2 S2 = some (acc', S') ∧ P (n + (d :: ds).length) acc' S' := fun acc2 S2 hl2 k => by
      obtain ⟨a, S', e, q⟩ := lc_inv P ds (n + 1) acc2 S2 k hc hl2 (fun i d acc S hi hp => by
        have := hs (i + 1) d acc S hi (by rw [show n + (i + 1) = n + 1 + i by omega]; exact hp)
        rw [show n + (i + 1) = n + 1 + i by omega] at this; exact this)
      exact ⟨a, S', e, by rw [List.length_cons, show n + (ds.length + 1) = n + 1 + ds.length by omega]; exact q⟩
    unfold lcGo
    rw [if_pos (hc n acc S h), e1]
    dsimp only
    rw [e2]
    cases t with
    | false => exact next acc S2 (by omega) (kf rfl)
    | true =>
      obtain ⟨u, S3, e3, k⟩ := kt rfl
      dsimp only
      rw [e3]
      dsimp only
      rw [if_pos (show acc.length < sizeLine by have : 1000 < sizeLine := by decide
                                                omega)]
      exact next _ _ (by rw [List.length_append, List.length_singleton]; omega) k
/-- a comprehension that changes nothing -/
theorem lc_pure {asg : D → Env → Store → Option (Env × Store)} {cond : Env → Store → Option (Bool × Store)} {elt : Env → Store → Option (T × Store)} {ch : Live} {ρ : Env} {own : List Nat} {S : Store} (f : D → Bool) (g : D → D) (hc : chk ch S) :
    ∀ (ds acc : List D), acc.length + ds.length ≤ 1000000 →
    (∀ d ∈ ds, ∃ ρ1, asg d ρ S = some (ρ1, S) ∧ cond ρ1 S = some (f d, S) ∧ (f d = true → elt ρ1 S = some (.d (g d), S))) →
    lcGo asg cond elt ch ρ own ds acc S = some (acc ++ (ds.filter f).map g, S)
  | [], acc, hl, hs => by unfold lcGo; rw [if_pos hc, List.filter_nil, List.map_nil, List.append_nil]
  | d :: ds, acc, hl, hs => by
    obtain ⟨ρ1, e1, e2, e3⟩ := hs d List.mem_cons_self
    rw [List.length_cons] at hl
    have hs2 : ∀ d' ∈ ds, ∃ ρ1, asg d' ρ S = some (ρ1, S) ∧ cond ρ1 S = some (f d', S) ∧ (f d' = true → elt ρ1 S = some (.d (g d'), S)) := fun d' h => hs d' (List.mem_cons_of_mem _ h)
    unfold lcGo
    rw [if_pos hc, e1]
    dsimp only
    rw [e2]
    cases hf : f d with
    | false =>
      dsimp only
      rw [lc_pure f g hc ds acc (by omega) hs2, List.filter_cons_of_neg (by rw [hf]; exact Bool.false_ne_true)]
    | true =>
      dsimp only
      rw [e3 hf]
      dsimp only [norm]
      rw [if_pos (show acc.length < sizeLine by have : 1000000 < sizeLine := by decide
                                                omega),
        lc_pure f g hc ds _ (by rw [List.length_append, List.length_singleton]; omega) hs2, List.filter_cons_of_pos hf, List.map_cons, List.append_assoc]
      rfl
theorem chk_nil {S : Store} : chk [] S := fun p h => by cases h
end
/-! ### lists of values -/
theorem intsOf_map : ∀ ns : List Int, intsOf (ns.map D.int) = some ns
  | [] => rfl
  | n :: ns => by show (intsOf (ns.map D.int)).map (n :: ·) = _; rw [intsOf_map ns]; rfl
theorem boolsOf_map : ∀ ns : List Bool, boolsOf (ns.map D.bl) = some ns
  | [] => rfl
  | n :: ns => by show (boolsOf (ns.map D.bl)).map (n :: ·) = _; rw [boolsOf_map ns]; rfl
theorem strsOf_map : ∀ ns : List Str, strsOf (ns.map D.str) = some ns
  | [] => rfl
  | n :: ns => by show (strsOf (ns.map D.str)).map (n :: ·) = _; rw [strsOf_map ns]; rfl
theorem pdL_map {f : D → Option PyData} {g : D → PyData} : ∀ {ds : List D}, (∀ d ∈ ds, f d = some (g d)) → pdL f ds = some (ds.map g)
  | [], _ => rfl
  | d :: ds, h => by
    unfold pdL
    rw [h d List.mem_cons_self, pdL_map fun d' h' => h d' (List.mem_cons_of_mem _ h')]
    rfl
theorem pdL_ints {S : Store} {n : Nat} (ns : List Int) : pdL (pdD S (n + 1)) (ns.map D.int) = some (ns.map PyData.int) := by
  induction ns with
  | nil => rfl
  | cons a r ih => rw [List.map_cons]; unfold pdL; rw [ih]; rfl
theorem pdL_strs {S : Store} {n : Nat} (ns : List Str) : pdL (pdD S (n + 1)) (ns.map D.str) = some (ns.map PyData.str) := by
  induction ns with
  | nil => rfl
  | cons a r ih => rw [List.map_cons]; unfold pdL; rw [ih]; rfl
theorem atI_ok {α : Type} {xs : List α} {i : Int} (h0 : 0 ≤ i) (h : i < xs.length) : ∃ x, x ∈ xs ∧ xs[i.toNat]? = some x ∧ atI xs i = some x := by
  obtain ⟨n, rfl⟩ := Int.eq_ofNat_of_zero_le h0
  have hn : n < xs.length := by omega
  refine ⟨xs[n], List.getElem_mem hn, ?_, ?_⟩
  · rw [Int.toNat_natCast, List.getElem?_eq_getElem hn]
  · exact atI_nat (List.getElem?_eq_getElem hn)
theorem sIx_pos {n d : Nat} {i : Int} (h : 0 ≤ i) : HT.sIx n d (some i) = min i.toNat n := by
  show (if i < 0 then (i + (n : Int)).toNat else min i.toNat n) = _
  rw [if_neg (by omega)]
theorem sIx_neg {n d : Nat} {i : Int} (h : i < 0) : HT.sIx n d (some i) = (i + (n : Int)).toNat := by
  show (if i < 0 then (i + (n : Int)).toNat else min i.toNat n) = _
  rw [if_pos h]
end F

/-! Evaluation backwards: what is to hold behind an expression or a block, one rule a construct. -/
namespace F
open PySem PyProof.Rows L2

structure We (G : List D) (call : Call) (e : Ex) (ρ : Env) (S : Store) (Q : T → Store → Prop) : Prop where
  h : ∃ t S1, ev G call e ρ S = some (t, S1) ∧ Q t S1
structure Wes (G : List D) (call : Call) (e : Exs) (ρ : Env) (S : Store) (Q : List T → Store → Prop) : Prop where
  h : ∃ t S1, evs G call e ρ S = some (t, S1) ∧ Q t S1
structure Wds (G : List D) (call : Call) (e : Exs) (ρ : Env) (S : Store) (Q : List D → Store → Prop) : Prop where
  h : ∃ t S1, evDs G call e ρ S = some (t, S1) ∧ Q t S1
structure Wp (p : Prim) (ts : List T) (S : Store) (Q : T → Store → Prop) : Prop where
  h : ∃ t S1, p.run ts S = some (t, S1) ∧ Q t S1
structure Wb (G : List D) (call : Call) (k : Bool) (e : Exs) (ρ : Env) (S : Store) (Q : T → Store → Prop) : Prop where
  h : ∃ t S1, evB G call k e ρ S = some (t, S1) ∧ Q t S1
structure Wf (G : List D) (call : Call) (e : Exs) (ρ : Env) (S : Store) (Q : Bool → Store → Prop) : Prop where
  h : ∃ t S1, evC G call e ρ S = some (t, S1) ∧ Q t S1
structure Wi (G : List D) (call : Call) (e : It) (ρ : Env) (S : Store) (Q : List D → Live → Store → Prop) : Prop where
  h : ∃ t c S1, evIt G call e ρ S = some (t, c, S1) ∧ Q t c S1
structure Wa (G : List D) (call : Call) (t : Tg) (x : D) (ρ : Env) (S : Store) (Q : Env → Store → Prop) : Prop where
  h : ∃ ρ1 S1, asgT G call t x ρ S = some (ρ1, S1) ∧ Q ρ1 S1
structure Was (G : List D) (call : Call) (t : Tgs) (x : List D) (ρ : Env) (S : Store) (Q : Env → Store → Prop) : Prop where
  h : ∃ ρ1 S1, asgTs G call t x ρ S = some (ρ1, S1) ∧ Q ρ1 S1
structure Wn (t : T) (S : Store) (Q : D → Store → Prop) : Prop where
  h : Q (norm t S).1 (norm t S).2
structure Wc (t : T) (P N : Prop) : Prop where
  h : ∃ c, t = .d (.bl c) ∧ (c = true → P) ∧ (c = false → N)
structure Wx (G : List D) (call : Call) (s : Stm) (ρ : Env) (S : Store) (Q : Out → Store → Prop) : Prop where
  h : ∃ o S1, exS G call s ρ S = some (o, S1) ∧ Q o S1
structure Wxs (G : List D) (call : Call) (s : Stms) (ρ : Env) (S : Store) (Q : Out → Store → Prop) : Prop where
  h : ∃ o S1, exSs G call s ρ S = some (o, S1) ∧ Q o S1
structure Wk (call : Call) (f : Nat) (ds : List D) (S : Store) (Q : D → Store → Prop) : Prop where
  h : ∃ x S1, call f ds S = some (x, S1) ∧ Q x S1
structure Wl (ds : List D) (P : Prop) : Prop where
  h : ds.length ≤ 1000 ∧ P
structure Wv (b : Bool) (P : Prop) : Prop where
  h : b = true ∧ P
structure Ws (S : Store) (y k x : D) (Q : Store → Prop) : Prop where
  h : ∃ S5, setD S y k x = some S5 ∧ Q S5
structure Wpar (ρ : Env) (js : List Nat) (ds : List D) (Q : Env → Prop) : Prop where
  h : ∃ ρ1, setAll ρ js ds = some ρ1 ∧ Q ρ1
structure Wit (S : Store) (t : T) (Q : List D → Prop) : Prop where
  h : ∃ ds, itemsOf S t = some ds ∧ Q ds
structure Wen (S : Store) (t : T) (Q : List D → Prop) : Prop where
  h : ∃ ds, seqOf S t = some ds ∧ Q ds
/-- the dict that a loop walks -/
structure Wdi (S : Store) (t : T) (Q : Nat → List (Key × D) → Prop) : Prop where
  h : ∃ n kvs, t = .d (.ref n) ∧ S[n]? = some (.dK kvs) ∧ Q n kvs
structure Wdt (S : Store) (t : T) (Q : Nat → List (List Key × D) → Prop) : Prop where
  h : ∃ n kvs, t = .d (.ref n) ∧ S[n]? = some (.dT kvs) ∧ Q n kvs
structure Wone (t : T) (Q : Prop) : Prop where
  h : t = .d (.int (-1)) ∧ Q
/-- an instance's field; its method; a field written -/
structure Wfl (cs : List Str) (S : Store) (f : Str) (t : T) (Q : D → Prop) : Prop where
  h : ∃ x, fldT cs S f t = some x ∧ Q x
structure Wmt (S : Store) (m : Str) (tb : List (Str × Nat)) (t : T) (Q : Nat → Prop) : Prop where
  h : ∃ i, methT S m tb t = some i ∧ Q i
structure Wsf (cs : List Str) (S : Store) (f : Str) (x y : D) (Q : Store → Prop) : Prop where
  h : ∃ S5, setFld cs S f x y = some S5 ∧ Q S5
/-- a maker's answer: None -/
structure Wno (x : D) (Q : Prop) : Prop where
  h : x = .non ∧ Q
def isL : It → Bool
  | .keys _ => false | .vals _ => false | .items _ => false | _ => true
theorem unl_live (t : T) (ds : List D) (S : Store) : unl (liveOf t ds) S = S := by
  cases t with
  | tmp xs => rfl
  | d x => cases x <;> rfl
theorem unl_two (t u : T) (xs ys : List D) (S : Store) : unl (liveOf t xs ++ liveOf u ys) S = S := by
  cases t with
  | tmp xs => exact unl_live u ys S
  | d x =>
    cases x <;> first
      | exact unl_live u ys S
      | (cases u with
        | tmp xs => rfl
        | d y => cases y <;> rfl)
theorem isL_unl {G : List D} {call : Call} {it : It} {ρ : Env} {S S1 : Store} {ds : List D} {ch : Live} (h : isL it = true) (e : evIt G call it ρ S = some (ds, ch, S1)) (S2 : Store) : unl ch S2 = S2 := by
  cases it with
  | seq a =>
    simp only [evIt] at e
    split at e
    · split at e
      · cases e; exact unl_live _ _ _
      · cases e
    · cases e
  | range1 a =>
    simp only [evIt] at e
    split at e
    · split at e
      · cases e; rfl
      · cases e
    · cases e
  | range2 a b =>
    simp only [evIt] at e
    split at e
    · split at e
      · split at e
        · cases e; rfl
        · cases e
      · cases e
    · cases e
  | range3 a b c =>
    simp only [evIt] at e
    split at e
    · split at e
      · split at e
        · split at e
          · cases e; rfl
          · cases e
        · cases e
      · cases e
    · cases e
  | zip a b =>
    simp only [evIt] at e
    split at e
    · split at e
      · unfold zipIt at e
        split at e
        · cases e; exact unl_two _ _ _ _ _
        · split at e
          · cases e; rfl
          · cases e
      · cases e
    · cases e
  | enum a =>
    simp only [evIt] at e
    split at e
    · split at e
      · cases e; exact unl_live _ _ _
      · cases e
    · cases e
  | revd a =>
    simp only [evIt] at e
    split at e
    · split at e
      · cases e; exact unl_live _ _ _
      · cases e
    · cases e
  | keys a => cases h
  | vals a => cases h
  | items a => cases h
structure Wint (t : T) (Q : Int → Prop) : Prop where
  h : ∃ n : Int, t = .d (.int n) ∧ small62 n ∧ Q n
structure Wzip (S : Store) (t u : T) (Q : List D → Live → Store → Prop) : Prop where
  h : ∃ ds ch S3, zipIt S t u = some (ds, ch, S3) ∧ Q ds ch S3
structure Wlc (G : List D) (call : Call) (elt : Ex) (tg : Tg) (cond : Exs) (ch : Live) (ρ : Env) (own : List Nat) (ds : List D) (S : Store) (Q : T → Store → Prop) : Prop where
  h : ∃ acc S2, lcGo (fun d ρ S => asgT G call tg d ρ S) (fun ρ S => evC G call cond ρ S) (fun ρ S => ev G call elt ρ S) ch ρ own ds [] S = some (acc, S2) ∧ Q (.tmp acc) S2
theorem wl {ds : List D} {P : Prop} (h : ds.length ≤ 1000) (q : P) : Wl ds P := ⟨h, q⟩
theorem wv {b : Bool} {P : Prop} (h : b = true) (q : P) : Wv b P := ⟨h, q⟩
theorem ws {S S5 : Store} {y k x : D} {Q : Store → Prop} (h : setD S y k x = some S5) (q : Q S5) : Ws S y k x Q := ⟨S5, h, q⟩
theorem wpar {ρ ρ1 : Env} {js : List Nat} {ds : List D} {Q : Env → Prop} (h : setAll ρ js ds = some ρ1) (q : Q ρ1) : Wpar ρ js ds Q := ⟨ρ1, h, q⟩
theorem wit {S : Store} {t : T} {ds : List D} {Q : List D → Prop} (h : itemsOf S t = some ds) (q : Q ds) : Wit S t Q := ⟨ds, h, q⟩
theorem wen {S : Store} {t : T} {ds : List D} {Q : List D → Prop} (h : lstOf S t = some ds) (q : Q ds) : Wen S t Q := ⟨ds, by unfold seqOf; rw [h], q⟩
theorem wen_tup {S : Store} {ds : List D} {Q : List D → Prop} (q : Q ds) : Wen S (.d (.tup ds)) Q := ⟨ds, rfl, q⟩
theorem wdi {S : Store} {n : Nat} {kvs : List (Key × D)} {Q : Nat → List (Key × D) → Prop} (h : S[n]? = some (.dK kvs)) (q : Q n kvs) : Wdi S (.d (.ref n)) Q := ⟨n, kvs, rfl, h, q⟩
theorem wdt {S : Store} {n : Nat} {kvs : List (List Key × D)} {Q : Nat → List (List Key × D) → Prop} (h : S[n]? = some (.dT kvs)) (q : Q n kvs) : Wdt S (.d (.ref n)) Q := ⟨n, kvs, rfl, h, q⟩
theorem wone {Q : Prop} (q : Q) : Wone (.d (.int (-1))) Q := ⟨rfl, q⟩
theorem wno {Q : Prop} (q : Q) : Wno .non Q := ⟨rfl, q⟩
theorem wfl {cs : List Str} {S : Store} {f c : Str} {n : Nat} {fs : List (Str × D)} {x : D} {Q : D → Prop} (h : S[n]? = some (.obj c fs)) (hc : c ∈ cs) (hf : fs.lookup f = some x) (q : Q x) : Wfl cs S f (.d (.ref n)) Q :=
  ⟨x, by unfold fldT; dsimp only; rw [h]; dsimp only; rw [if_pos hc]; exact hf, q⟩
theorem wmt {S : Store} {m c : Str} {tb : List (Str × Nat)} {n i : Nat} {fs : List (Str × D)} {Q : Nat → Prop} (h : S[n]? = some (.obj c fs)) (hf : fs.lookup m = none) (hi : tb.lookup c = some i) (q : Q i) : Wmt S m tb (.d (.ref n)) Q :=
  ⟨i, by unfold methT; dsimp only; rw [h]; dsimp only; rw [if_pos (show lookF fs m = none from hf)]; exact hi, q⟩
theorem wsf {cs : List Str} {S : Store} {f c : Str} {n : Nat} {fs : List (Str × D)} {x : D} {Q : Store → Prop} (h : S[n]? = some (.obj c fs)) (hc : c ∈ cs) (hl : fs.length < 1000) (q : Q (S.set n (.obj c (putFD f x fs)))) : Wsf cs S f x (.ref n) Q :=
  ⟨_, by unfold setFld; dsimp only; rw [h]; dsimp only; rw [if_pos ⟨hc, hl⟩], q⟩
theorem wint {n : Int} {Q : Int → Prop} (h : -4611686018427387904 ≤ n ∧ n < 4611686018427387904) (q : Q n) : Wint (.d (.int n)) Q := ⟨n, rfl, ⟨by omega, by omega⟩, q⟩
theorem wzip {S S3 : Store} {t u : T} {ds : List D} {ch : Live} {Q : List D → Live → Store → Prop} (h : zipIt S t u = some (ds, ch, S3)) (q : Q ds ch S3) : Wzip S t u Q := ⟨ds, ch, S3, h, q⟩
/-- the outcome of a statement, ahead of the rest of its block -/
structure Wo (G : List D) (call : Call) (o : Out) (ss : Stms) (S : Store) (Q : Out → Store → Prop) : Prop where
  h : match o with | .nx ρ1 => Wxs G call ss ρ1 S Q | .rt x => Q (.rt x) S | .bk ρ1 => Q (.bk ρ1) S | .ct ρ1 => Q (.ct ρ1) S
section
variable {G : List D} {call : Call} {ρ : Env} {S : Store} {Q : T → Store → Prop}
theorem We.mono {e : Ex} {Q' : T → Store → Prop} (h : We G call e ρ S Q) (k : ∀ t S, Q t S → Q' t S) : We G call e ρ S Q' := let ⟨t, S1, e, q⟩ := h.h; ⟨t, S1, e, k t S1 q⟩
theorem Wxs.mono {s : Stms} {Q Q' : Out → Store → Prop} (h : Wxs G call s ρ S Q) (k : ∀ t S, Q t S → Q' t S) : Wxs G call s ρ S Q' := let ⟨t, S1, e, q⟩ := h.h; ⟨t, S1, e, k t S1 q⟩
theorem Wx.mono {s : Stm} {Q Q' : Out → Store → Prop} (h : Wx G call s ρ S Q) (k : ∀ t S, Q t S → Q' t S) : Wx G call s ρ S Q' := let ⟨t, S1, e, q⟩ := h.h; ⟨t, S1, e, k t S1 q⟩
theorem w_c {x : D} (q : Q (.d x) S) : We G call (.c x) ρ S Q := ⟨_, _, by unfold ev; rfl, q⟩
theorem w_v {i : Nat} {x : D} (h : ρ[i]? = some (some x)) (q : Q (.d x) S) : We G call (.v i) ρ S Q := ⟨_, _, by unfold ev; rw [h], q⟩
theorem w_g {i : Nat} {x : D} (h : G[i]? = some x) (q : Q (.d x) S) : We G call (.g i) ρ S Q := ⟨_, _, by unfold ev; rw [h], q⟩
theorem w_prim {p : Prim} {as : Exs} (q : Wes G call as ρ S fun ts S1 => Wp p ts S1 Q) : We G call (.prim p as) ρ S Q :=
  let ⟨ts, S1, e, r⟩ := q.h; let ⟨t, S2, e2, q⟩ := r.h; ⟨t, S2, by unfold ev; rw [e]; exact e2, q⟩
theorem w_meth {p : Prim} {o : Ex} {as : Exs} (q : We G call o ρ S fun t S1 => Wv (recvOk p t S1) (Wes G call as ρ S1 fun ts S2 => Wp p (t :: ts) S2 Q)) : We G call (.meth p o as) ρ S Q :=
  let ⟨t, S1, e, ⟨r1, r⟩⟩ := q.h; let ⟨ts, S2, e2, r2⟩ := r.h; let ⟨u, S3, e3, q⟩ := r2.h; ⟨u, S3, by unfold ev; rw [e]; dsimp only; rw [if_pos r1, e2]; exact e3, q⟩
theorem w_tup {as : Exs} (q : Wds G call as ρ S fun ds S1 => Wl ds (Q (.d (.tup ds)) S1)) : We G call (.tup as) ρ S Q :=
  let ⟨ts, S1, e, ⟨r, q⟩⟩ := q.h; ⟨_, S1, by unfold ev; rw [e]; dsimp only; rw [if_pos r], q⟩
theorem w_lst {as : Exs} (q : Wds G call as ρ S fun ds S1 => Wl ds (Q (.tmp ds) S1)) : We G call (.lst as) ρ S Q :=
  let ⟨ts, S1, e, ⟨r, q⟩⟩ := q.h; ⟨_, S1, by unfold ev; rw [e]; dsimp only; rw [if_pos r], q⟩
theorem w_dK (q : Q (.d (.ref S.length)) (S ++ [.dK []])) : We G call .dK ρ S Q := ⟨_, _, by unfold ev; rfl, q⟩
theorem w_dT (q : Q (.d (.ref S.length)) (S ++ [.dT []])) : We G call .dT ρ S Q := ⟨_, _, by unfold ev; rfl, q⟩
theorem w_and {as : Exs} (q : Wb G call true as ρ S Q) : We G call (.and as) ρ S Q := let ⟨t, S1, e, q⟩ := q.h; ⟨t, S1, by unfold ev; exact e, q⟩
theorem w_or {as : Exs} (q : Wb G call false as ρ S Q) : We G call (.or as) ρ S Q := let ⟨t, S1, e, q⟩ := q.h; ⟨t, S1, by unfold ev; exact e, q⟩
theorem w_not {a : Ex} (q : We G call a ρ S fun t S1 => Wc t (Q (.d (.bl false)) S1) (Q (.d (.bl true)) S1)) : We G call (.not a) ρ S Q := by
  obtain ⟨t, S1, e, ⟨c, rfl, h1, h2⟩⟩ := q.h
  cases c with
  | true => exact ⟨_, S1, by unfold ev; rw [e]; rfl, h1 rfl⟩
  | false => exact ⟨_, S1, by unfold ev; rw [e]; rfl, h2 rfl⟩
theorem w_ite {t a b : Ex} (q : We G call t ρ S fun t S1 => Wc t (We G call a ρ S1 Q) (We G call b ρ S1 Q)) : We G call (.ite t a b) ρ S Q := by
  obtain ⟨t, S1, e, ⟨c, rfl, h1, h2⟩⟩ := q.h
  cases c with
  | true => obtain ⟨u, S2, e2, q⟩ := (h1 rfl).h; exact ⟨u, S2, by unfold ev; rw [e]; exact e2, q⟩
  | false => obtain ⟨u, S2, e2, q⟩ := (h2 rfl).h; exact ⟨u, S2, by unfold ev; rw [e]; exact e2, q⟩
theorem w_call {f : Nat} {as : Exs} (q : Wds G call as ρ S fun ds S1 => Wk call f ds S1 fun x S2 => Q (.d x) S2) : We G call (.call f as) ρ S Q :=
  let ⟨ts, S1, e, r⟩ := q.h; let ⟨x, S2, e2, q⟩ := r.h; ⟨_, S2, by unfold ev; rw [e]; dsimp only; rw [e2], q⟩
theorem wk {f : Nat} {ds : List D} {x : D} {S1 : Store} {Q : D → Store → Prop} (e : call f ds S = some (x, S1)) (q : Q x S1) : Wk call f ds S Q := ⟨x, S1, e, q⟩
def cmpP : Prim → Bool
  | .lt => true | .le => true | .gt => true | .ge => true | .eq => true | .ne => true | _ => false
theorem run_pure {p : Prim} {a b : T} {S S' : Store} {t : T} (hp : cmpP p = true) (h : p.run [a, b] S = some (t, S')) : pureR p [a, b] S = some t ∧ S' = S := by
  have : (match pureR p [a, b] S with | some t => some (t, S) | none => none) = some (t, S') := by
    cases p with
    | lt => exact h
    | le => exact h
    | gt => exact h
    | ge => exact h
    | eq => exact h
    | ne => exact h
    | _ => cases hp
  split at this
  · rename_i u e; cases this; exact ⟨e, rfl⟩
  · cases this
theorem w_chain {p r : Prim} {a b c : Ex} (hp : cmpP p = true) (hr : cmpP r = true) (q : We G call a ρ S fun t S1 => We G call b ρ S1 fun u S2 => Wp p [t, u] S2 fun x S3 => Wc x (We G call c ρ S2 fun v S4 => Wp r [u, v] S4 Q) (Q (.d (.bl false)) S2)) : We G call (.chain p r a b c) ρ S Q := by
  obtain ⟨t, S1, e1, q⟩ := q.h
  obtain ⟨u, S2, e2, q⟩ := q.h
  obtain ⟨x, S3, e3, ⟨k, rfl, h1, h2⟩⟩ := q.h
  obtain ⟨e3, rfl⟩ := run_pure hp e3
  cases k with
  | true =>
    obtain ⟨v, S4, e4, q4⟩ := (h1 rfl).h
    obtain ⟨y, S5, e5, q5⟩ := q4.h
    obtain ⟨e6, rfl⟩ := run_pure hr e5
    exact ⟨y, _, by unfold ev; rw [e1]; dsimp only; rw [e2]; dsimp only; rw [e3]; dsimp only; rw [e4]; dsimp only; rw [e6], q5⟩
  | false => exact ⟨_, _, by unfold ev; rw [e1]; dsimp only; rw [e2]; dsimp only; rw [e3], h2 rfl⟩
theorem w_lc {elt : Ex} {tg : Tg} {it : It} {cond : Exs} {own : List Nat} (q : Wi G call it ρ S fun ds ch S1 => Wlc G call elt tg cond ch (wipeE ρ own) own ds S1 Q) (hl : isL it = true := by with_unfolding_all rfl) : We G call (.lc elt tg it cond own) ρ S Q :=
  let ⟨ds, ch, S1, e, ⟨acc, S2, e2, q⟩⟩ := q.h; ⟨_, S2, by unfold ev; rw [e]; dsimp only; rw [e2]; dsimp only; rw [isL_unl hl e], q⟩
theorem w_lcD {elt : Ex} {tg : Tg} {it : It} {cond : Exs} {own : List Nat} (q : Wi G call it ρ S fun ds ch S1 => Wlc G call elt tg cond ch (wipeE ρ own) own ds S1 fun t S2 => Q t (unl ch S2)) : We G call (.lc elt tg it cond own) ρ S Q :=
  let ⟨ds, ch, S1, e, ⟨acc, S2, e2, q⟩⟩ := q.h; ⟨_, _, by unfold ev; rw [e]; dsimp only; rw [e2], q⟩
theorem w_fld {cs : List Str} {o : Ex} {f : Str} (q : We G call o ρ S fun t S1 => Wfl cs S1 f t fun x => Q (.d x) S1) : We G call (.fld cs o f) ρ S Q :=
  let ⟨t, S1, e, ⟨x, e2, q⟩⟩ := q.h; ⟨_, S1, by unfold ev; rw [e]; dsimp only; rw [e2], q⟩
theorem w_mcall {tb : List (Str × Nat)} {o : Ex} {m : Str} {as : Exs} (q : We G call o ρ S fun t S1 => Wmt S1 m tb t fun i => Wds G call as ρ S1 fun ds S2 => Wk call i ((norm t S1).1 :: ds) S2 fun x S3 => Q (.d x) S3) : We G call (.mcall tb o m as) ρ S Q :=
  let ⟨t, S1, e, ⟨i, e2, q⟩⟩ := q.h; let ⟨ds, S2, e3, q⟩ := q.h; let ⟨x, S3, e4, q⟩ := q.h; ⟨_, S3, by unfold ev; rw [e]; dsimp only; rw [e2]; dsimp only; rw [e3]; dsimp only; rw [e4], q⟩
theorem w_make {c : Str} {i : Nat} {as : Exs} (q : Wds G call as ρ S fun ds S1 => Wk call i (.ref S1.length :: ds) (S1 ++ [.obj c []]) fun x S2 => Wno x (Q (.d (.ref S1.length)) S2)) : We G call (.make c i as) ρ S Q := by
  obtain ⟨ds, S1, e, q⟩ := q.h
  obtain ⟨x, S2, e2, ⟨rfl, q⟩⟩ := q.h
  exact ⟨_, S2, by unfold ev; rw [e]; dsimp only; rw [e2], q⟩
theorem wes_nil {Q : List T → Store → Prop} (q : Q [] S) : Wes G call .nil ρ S Q := ⟨_, _, by unfold evs; rfl, q⟩
theorem wes_cons {a : Ex} {as : Exs} {Q : List T → Store → Prop} (q : We G call a ρ S fun t S1 => Wes G call as ρ S1 fun ts S2 => Q (t :: ts) S2) : Wes G call (.cons a as) ρ S Q :=
  let ⟨t, S1, e, r⟩ := q.h; let ⟨ts, S2, e2, q⟩ := r.h; ⟨_, S2, by unfold evs; rw [e]; dsimp only; rw [e2], q⟩
theorem wds_nil {Q : List D → Store → Prop} (q : Q [] S) : Wds G call .nil ρ S Q := ⟨_, _, by unfold evDs; rfl, q⟩
theorem wds_cons {a : Ex} {as : Exs} {Q : List D → Store → Prop} (q : We G call a ρ S fun t S1 => Wn t S1 fun x S2 => Wds G call as ρ S2 fun ts S3 => Q (x :: ts) S3) : Wds G call (.cons a as) ρ S Q :=
  let ⟨t, S1, e, r⟩ := q.h; let ⟨ts, S2, e2, q⟩ := r.h.h; ⟨_, S2, by unfold evDs; rw [e]; dsimp only; rw [e2], q⟩
theorem wn_d {x : D} {Q : D → Store → Prop} (q : Q x S) : Wn (.d x) S Q := ⟨q⟩
theorem wn_tmp {ds : List D} {Q : D → Store → Prop} (q : Q (.ref S.length) (S ++ [.lst ds])) : Wn (.tmp ds) S Q := ⟨q⟩
theorem wc_mk {c : Bool} {P N : Prop} (h1 : c = true → P) (h2 : c = false → N) : Wc (.d (.bl c)) P N := ⟨c, rfl, h1, h2⟩
theorem wc_t {P N : Prop} (h : P) : Wc (.d (.bl true)) P N := ⟨_, rfl, fun _ => h, fun z => by cases z⟩
theorem wc_f {P N : Prop} (h : N) : Wc (.d (.bl false)) P N := ⟨_, rfl, fun z => (by cases z), fun _ => h⟩
theorem wc_dec {p : Prop} [Decidable p] {P N : Prop} (h1 : p → P) (h2 : ¬p → N) : Wc (.d (.bl (decide p))) P N := ⟨_, rfl, fun h => h1 (of_decide_eq_true h), fun h => h2 (of_decide_eq_false h)⟩
theorem wc_dt {p : Prop} [Decidable p] {P N : Prop} (hp : p) (h1 : P) : Wc (.d (.bl (decide p))) P N := wc_dec (fun _ => h1) fun z => absurd hp z
theorem wc_df {p : Prop} [Decidable p] {P N : Prop} (hp : ¬p) (h1 : N) : Wc (.d (.bl (decide p))) P N := wc_dec (fun z => absurd z hp) fun _ => h1
theorem wb_one {k : Bool} {a : Ex} (q : We G call a ρ S Q) : Wb G call k (.cons a .nil) ρ S Q := let ⟨t, S1, e, q⟩ := q.h; ⟨t, S1, by unfold evB; exact e, q⟩
theorem wb_and {a b : Ex} {as : Exs} (q : We G call a ρ S fun t S1 => Wc t (Wb G call true (.cons b as) ρ S1 Q) (Q (.d (.bl false)) S1)) : Wb G call true (.cons a (.cons b as)) ρ S Q := by
  obtain ⟨t, S1, e, ⟨c, rfl, h1, h2⟩⟩ := q.h
  cases c with
  | true => obtain ⟨u, S2, e2, q⟩ := (h1 rfl).h; exact ⟨u, S2, by unfold evB; rw [e]; exact e2, q⟩
  | false => exact ⟨_, S1, by unfold evB; rw [e]; rfl, h2 rfl⟩
theorem wb_or {a b : Ex} {as : Exs} (q : We G call a ρ S fun t S1 => Wc t (Q (.d (.bl true)) S1) (Wb G call false (.cons b as) ρ S1 Q)) : Wb G call false (.cons a (.cons b as)) ρ S Q := by
  obtain ⟨t, S1, e, ⟨c, rfl, h1, h2⟩⟩ := q.h
  cases c with
  | false => obtain ⟨u, S2, e2, q⟩ := (h2 rfl).h; exact ⟨u, S2, by unfold evB; rw [e]; exact e2, q⟩
  | true => exact ⟨_, S1, by unfold evB; rw [e]; rfl, h1 rfl⟩
theorem wf_nil {Q : Bool → Store → Prop} (q : Q true S) : Wf G call .nil ρ S Q := ⟨_, _, by unfold evC; rfl, q⟩
theorem wf_one {a : Ex} {Q : Bool → Store → Prop} (q : We G call a ρ S fun t S1 => Wc t (Q true S1) (Q false S1)) : Wf G call (.cons a .nil) ρ S Q := by
  obtain ⟨t, S1, e, ⟨c, rfl, h1, h2⟩⟩ := q.h
  refine ⟨c, S1, by unfold evC; rw [e]; rfl, ?_⟩
  cases c with
  | true => exact h1 rfl
  | false => exact h2 rfl
/-- a comprehension that changes nothing -/
theorem wlc_pure {elt : Ex} {tg : Tg} {cond : Exs} {ch : Live} {own : List Nat} {ds : List D} (f : D → Bool) (g : D → D) (hc : chk ch S) (hl : ds.length ≤ 1000000)
    (hs : ∀ d ∈ ds, Wa G call tg d ρ S fun ρ1 S1 => Wf G call cond ρ1 S1 fun b S2 => b = f d ∧ S1 = S ∧ S2 = S ∧ (b = true → We G call elt ρ1 S fun t S3 => t = .d (g d) ∧ S3 = S)) (q : Q (.tmp ((ds.filter f).map g)) S) : Wlc G call elt tg cond ch ρ own ds S Q := by
  refine ⟨_, _, lc_pure f g hc ds [] (by simpa using hl) fun d hd => ?_, q⟩
  obtain ⟨ρ1, S1, e1, q⟩ := (hs d hd).h
  obtain ⟨b, S2, e2, rfl, rfl, rfl, k⟩ := q.h
  refine ⟨ρ1, e1, e2, fun z => ?_⟩
  obtain ⟨t, S3, e3, rfl, rfl⟩ := (k z).h
  exact e3
/-- a comprehension, by an invariant -/
theorem wlc_inv {elt : Ex} {tg : Tg} {cond : Exs} {ch : Live} {own : List Nat} {ds : List D} (P : Nat → List D → Store → Prop) (h0 : P 0 [] S) (hc : ∀ i acc S, P i acc S → chk ch S) (hl : ds.length ≤ 1000)
    (hs : ∀ i d acc S, ds[i]? = some d → P i acc S → Wa G call tg d ρ S fun ρ1 S1 => Wf G call cond ρ1 S1 fun b S2 => (b = false → P (i + 1) acc S2) ∧ (b = true → We G call elt ρ1 S2 fun t S3 => Wn t S3 fun x S4 => P (i + 1) (acc ++ [x]) S4)) (q : ∀ acc S, P ds.length acc S → Q (.tmp acc) S) : Wlc G call elt tg cond ch ρ own ds S Q := by
  obtain ⟨acc, S', e, k⟩ := lc_inv (asg := fun d ρ S => asgT G call tg d ρ S) (cond := fun ρ S => evC G call cond ρ S) (elt := fun ρ S => ev G call elt ρ S) (ch := ch) (ρ := ρ) (own := own) P ds 0 [] S h0 hc (by simpa using hl) fun i d acc S hi hp => by
    rw [Nat.zero_add] at hp
    obtain ⟨ρ1, S1, e1, q⟩ := (hs i d acc S hi hp).h
    obtain ⟨b, S2, e2, kf, kt⟩ := q.h
    rw [Nat.zero_add]
    refine ⟨ρ1, S1, e1, b, S2, e2, kf, fun z => ?_⟩
    obtain ⟨t, S3, e3, ⟨k⟩⟩ := (kt z).h
    exact ⟨t, S3, e3, k⟩
  rw [Nat.zero_add] at k
  exact ⟨acc, S', e, q acc S' k⟩
/-! targets -/
theorem wa_n {i : Nat} {x : D} {Q : Env → Store → Prop} (h : i < ρ.length) (q : Q (ρ.set i (some x)) S) : Wa G call (.n i) x ρ S Q := ⟨_, _, by unfold asgT; rw [if_pos h], q⟩
theorem wa_tup {ts : Tgs} {xs : List D} {Q : Env → Store → Prop} (q : Was G call ts xs ρ S Q) : Wa G call (.tup ts) (.tup xs) ρ S Q := let ⟨_, _, e, q⟩ := q.h; ⟨_, _, by unfold asgT; exact e, q⟩
theorem wa_sub {o i : Ex} {x : D} {Q : Env → Store → Prop} (q : We G call o ρ S fun t S1 => Wn t S1 fun y S2 => We G call i ρ S2 fun u S3 => Wn u S3 fun k S4 => Ws S4 y k x fun S5 => Q ρ S5) : Wa G call (.sub o i) x ρ S Q := by
  obtain ⟨t, S1, e1, ⟨q⟩⟩ := q.h
  obtain ⟨u, S3, e3, ⟨q⟩⟩ := q.h
  obtain ⟨S5, e5, q⟩ := q.h
  exact ⟨ρ, S5, by unfold asgT; rw [e1]; dsimp only; rw [e3]; dsimp only; rw [e5], q⟩
theorem was_nil {Q : Env → Store → Prop} (q : Q ρ S) : Was G call .nil [] ρ S Q := ⟨_, _, by unfold asgTs; rfl, q⟩
theorem was_cons {t : Tg} {ts : Tgs} {x : D} {xs : List D} {Q : Env → Store → Prop} (q : Wa G call t x ρ S fun ρ1 S1 => Was G call ts xs ρ1 S1 Q) : Was G call (.cons t ts) (x :: xs) ρ S Q :=
  let ⟨_, _, e, r⟩ := q.h; let ⟨_, _, e2, q⟩ := r.h; ⟨_, _, by unfold asgTs; rw [e]; exact e2, q⟩
theorem set_lst {S : Store} {n : Nat} {ds : List D} {j : Nat} {x : D} (h : S[n]? = some (.lst ds)) (hj : j < ds.length) : setD S (.ref n) (.int (j : Nat)) x = some (S.set n (.lst (ds.set j x))) := by
  have e : ixN ds.length ((j : Nat) : Int) = some j := by
    unfold ixN
    simp [hj]
  unfold setD
  dsimp only
  rw [h]
  dsimp only
  rw [e]
  rfl
theorem ws_lst {S : Store} {n : Nat} {ds : List D} {i : Int} {x : D} {Q : Store → Prop} (h : S[n]? = some (.lst ds)) (h0 : 0 ≤ i) (hj : i.toNat < ds.length) (q : Q (S.set n (.lst (ds.set i.toNat x)))) : Ws S (.ref n) (.int i) x Q := by
  obtain ⟨j, rfl⟩ := Int.eq_ofNat_of_zero_le h0
  exact ⟨_, set_lst h hj, q⟩
/-! iterables -/
theorem wi_seq {a : Ex} {Q : List D → Live → Store → Prop} (q : We G call a ρ S fun t S1 => Wit S1 t fun ds => Q ds (liveOf t ds) S1) : Wi G call (.seq a) ρ S Q :=
  let ⟨t, S1, e, ⟨ds, e2, q⟩⟩ := q.h; ⟨_, _, _, by unfold evIt; rw [e]; dsimp only; rw [e2], q⟩
theorem wi_range1 {a : Ex} {Q : List D → Live → Store → Prop} (q : We G call a ρ S fun t S1 => Wint t fun n => Q (rngD 0 n.toNat) [] S1) : Wi G call (.range1 a) ρ S Q := by
  obtain ⟨t, S1, e, ⟨n, rfl, hn, q⟩⟩ := q.h
  exact ⟨_, _, _, by unfold evIt; rw [e]; dsimp only; rw [if_pos hn], q⟩
theorem wi_range2 {a b : Ex} {Q : List D → Live → Store → Prop} (q : We G call a ρ S fun t S1 => Wint t fun i => We G call b ρ S1 fun u S2 => Wint u fun j => Q (rngD i (j - i).toNat) [] S2) : Wi G call (.range2 a b) ρ S Q := by
  obtain ⟨t, S1, e, ⟨i, rfl, h1, q⟩⟩ := q.h
  obtain ⟨u, S2, e2, ⟨j, rfl, h2, q⟩⟩ := q.h
  exact ⟨_, _, _, by unfold evIt; rw [e]; dsimp only; rw [e2]; dsimp only; rw [if_pos ⟨h1, h2⟩], q⟩
theorem wi_zip {a b : Ex} {Q : List D → Live → Store → Prop} (q : We G call a ρ S fun t S1 => We G call b ρ S1 fun u S2 => Wzip S2 t u Q) : Wi G call (.zip a b) ρ S Q := by
  obtain ⟨t, S1, e, q⟩ := q.h
  obtain ⟨u, S2, e2, ⟨ds, ch, S3, e3, q⟩⟩ := q.h
  exact ⟨_, _, _, by unfold evIt; rw [e]; dsimp only; rw [e2]; exact e3, q⟩
theorem wi_enum {a : Ex} {Q : List D → Live → Store → Prop} (q : We G call a ρ S fun t S1 => Wen S1 t fun ds => Q (enumD 0 ds) (liveOf t ds) S1) : Wi G call (.enum a) ρ S Q :=
  let ⟨t, S1, e, ⟨ds, e2, q⟩⟩ := q.h; ⟨_, _, _, by unfold evIt; rw [e]; dsimp only; rw [e2], q⟩
theorem wi_revd {a : Ex} {Q : List D → Live → Store → Prop} (q : We G call a ρ S fun t S1 => Wen S1 t fun ds => Q ds.reverse (liveOf t ds) S1) : Wi G call (.revd a) ρ S Q :=
  let ⟨t, S1, e, ⟨ds, e2, q⟩⟩ := q.h; ⟨_, _, _, by unfold evIt; rw [e]; dsimp only; rw [e2], q⟩
theorem wi_range3 {a b c : Ex} {Q : List D → Live → Store → Prop} (q : We G call a ρ S fun t S1 => Wint t fun i => We G call b ρ S1 fun u S2 => Wint u fun j => We G call c ρ S2 fun w S3 => Wone w (Q (rngD (j + 1) (i - j).toNat).reverse [] S3)) : Wi G call (.range3 a b c) ρ S Q := by
  obtain ⟨t, S1, e, ⟨i, rfl, h1, q⟩⟩ := q.h
  obtain ⟨u, S2, e2, ⟨j, rfl, h2, q⟩⟩ := q.h
  obtain ⟨w, S3, e3, ⟨rfl, q⟩⟩ := q.h
  exact ⟨_, _, _, by unfold evIt; rw [e]; dsimp only; rw [e2]; dsimp only; rw [e3]; dsimp only; rw [if_pos ⟨h1, h2, rfl⟩], q⟩
theorem wi_keys {a : Ex} {Q : List D → Live → Store → Prop} (q : We G call a ρ S fun t S1 => Wdi S1 t fun n kvs => Q (kvs.map fun kv => keyD kv.1) [(n, .fK kvs)] (S1.set n (.fK kvs))) : Wi G call (.keys a) ρ S Q := by
  obtain ⟨t, S1, e, ⟨n, kvs, rfl, h, q⟩⟩ := q.h
  exact ⟨_, _, _, by unfold evIt; rw [e]; dsimp only; unfold dictIt; dsimp only; rw [h], q⟩
theorem wi_keysT {a : Ex} {Q : List D → Live → Store → Prop} (q : We G call a ρ S fun t S1 => Wdt S1 t fun n kvs => Q (kvs.map fun kv => .tup (kv.1.map keyD)) [(n, .fT kvs)] (S1.set n (.fT kvs))) : Wi G call (.keys a) ρ S Q := by
  obtain ⟨t, S1, e, ⟨n, kvs, rfl, h, q⟩⟩ := q.h
  exact ⟨_, _, _, by unfold evIt; rw [e]; dsimp only; unfold dictIt; dsimp only; rw [h], q⟩
theorem wi_vals {a : Ex} {Q : List D → Live → Store → Prop} (q : We G call a ρ S fun t S1 => Wdi S1 t fun n kvs => Q (kvs.map fun kv => kv.2) [(n, .fK kvs)] (S1.set n (.fK kvs))) : Wi G call (.vals a) ρ S Q := by
  obtain ⟨t, S1, e, ⟨n, kvs, rfl, h, q⟩⟩ := q.h
  exact ⟨_, _, _, by unfold evIt; rw [e]; dsimp only; unfold dictIt1; dsimp only; rw [h], q⟩
theorem wi_items {a : Ex} {Q : List D → Live → Store → Prop} (q : We G call a ρ S fun t S1 => Wdi S1 t fun n kvs => Q (kvs.map fun kv => .tup [keyD kv.1, kv.2]) [(n, .fK kvs)] (S1.set n (.fK kvs))) : Wi G call (.items a) ρ S Q := by
  obtain ⟨t, S1, e, ⟨n, kvs, rfl, h, q⟩⟩ := q.h
  exact ⟨_, _, _, by unfold evIt; rw [e]; dsimp only; unfold dictIt1; dsimp only; rw [h], q⟩
/-! statements -/
theorem wxs_nil {Q : Out → Store → Prop} (q : Q (.nx ρ) S) : Wxs G call .nil ρ S Q := ⟨_, _, by unfold exSs; rfl, q⟩
theorem wxs_cons {s : Stm} {ss : Stms} {Q : Out → Store → Prop} (q : Wx G call s ρ S fun o S1 => Wo G call o ss S1 Q) : Wxs G call (.cons s ss) ρ S Q := by
  obtain ⟨o, S1, e, ⟨q⟩⟩ := q.h
  cases o with
  | nx ρ1 => obtain ⟨o2, S2, e2, q⟩ := q.h; exact ⟨o2, S2, by unfold exSs; rw [e]; exact e2, q⟩
  | rt x => exact ⟨_, S1, by unfold exSs; rw [e], q⟩
  | bk x => exact ⟨_, S1, by unfold exSs; rw [e], q⟩
  | ct x => exact ⟨_, S1, by unfold exSs; rw [e], q⟩
theorem wo_nx {ss : Stms} {Q : Out → Store → Prop} (q : Wxs G call ss ρ S Q) : Wo G call (.nx ρ) ss S Q := ⟨q⟩
theorem wo_rt {ss : Stms} {x : D} {Q : Out → Store → Prop} (q : Q (.rt x) S) : Wo G call (.rt x) ss S Q := ⟨q⟩
theorem wo_bk {ss : Stms} {Q : Out → Store → Prop} (q : Q (.bk ρ) S) : Wo G call (.bk ρ) ss S Q := ⟨q⟩
theorem wo_ct {ss : Stms} {Q : Out → Store → Prop} (q : Q (.ct ρ) S) : Wo G call (.ct ρ) ss S Q := ⟨q⟩
variable {Q : Out → Store → Prop}
theorem wx_asg {t : Tg} {e : Ex} (q : We G call e ρ S fun u S1 => Wn u S1 fun x S2 => Wa G call t x ρ S2 fun ρ1 S3 => Q (.nx ρ1) S3) : Wx G call (.asg t e) ρ S Q := by
  obtain ⟨u, S1, e1, ⟨q⟩⟩ := q.h
  obtain ⟨ρ1, S3, e3, q⟩ := q.h
  exact ⟨_, S3, by unfold exS; rw [e1]; dsimp only; rw [e3], q⟩
theorem wx_par {js : List Nat} {as : Exs} (q : Wds G call as ρ S fun ds S1 => Wpar ρ js ds fun ρ1 => Q (.nx ρ1) S1) : Wx G call (.par js as) ρ S Q :=
  let ⟨ds, S1, e, ⟨ρ1, e2, q⟩⟩ := q.h; ⟨_, S1, by unfold exS; rw [e]; dsimp only; rw [e2], q⟩
theorem wx_expr {e : Ex} (q : We G call e ρ S fun _ S1 => Q (.nx ρ) S1) : Wx G call (.expr e) ρ S Q := let ⟨_, S1, e1, q⟩ := q.h; ⟨_, S1, by unfold exS; rw [e1], q⟩
theorem wx_ret {e : Ex} (q : We G call e ρ S fun u S1 => Wn u S1 fun x S2 => Q (.rt x) S2) : Wx G call (.ret e) ρ S Q := let ⟨_, _, e1, ⟨q⟩⟩ := q.h; ⟨_, _, by unfold exS; rw [e1], q⟩
theorem wx_retN (q : Q (.rt .non) S) : Wx G call .retN ρ S Q := ⟨_, _, by unfold exS; rfl, q⟩
theorem wx_pass (q : Q (.nx ρ) S) : Wx G call .pass ρ S Q := ⟨_, _, by unfold exS; rfl, q⟩
theorem wx_brk (q : Q (.bk ρ) S) : Wx G call .brk ρ S Q := ⟨_, _, by unfold exS; rfl, q⟩
theorem wx_cont (q : Q (.ct ρ) S) : Wx G call .cont ρ S Q := ⟨_, _, by unfold exS; rfl, q⟩
theorem wx_ite {c : Ex} {a b : Stms} (q : We G call c ρ S fun t S1 => Wc t (Wxs G call a ρ S1 Q) (Wxs G call b ρ S1 Q)) : Wx G call (.ite c a b) ρ S Q := by
  obtain ⟨t, S1, e, ⟨c, rfl, h1, h2⟩⟩ := q.h
  cases c with
  | true => obtain ⟨u, S2, e2, q⟩ := (h1 rfl).h; exact ⟨u, S2, by unfold exS; rw [e]; exact e2, q⟩
  | false => obtain ⟨u, S2, e2, q⟩ := (h2 rfl).h; exact ⟨u, S2, by unfold exS; rw [e]; exact e2, q⟩
/-- a for, by an invariant P -/
theorem wx_for {t : Tg} {it : It} {b : Stms} (P : Nat → Env → Store → Prop) (q : Wi G call it ρ S fun ds ch S1 => P 0 ρ S1 ∧ (∀ i ρ S, P i ρ S → chk ch S) ∧
    (∀ i d ρ S, ds[i]? = some d → P i ρ S → Wa G call t d ρ S fun ρ1 S1 => Wxs G call b ρ1 S1 fun o S2 => o.Ok (P (i + 1)) (fun ρ S => Q (.nx ρ) S) (fun x S => Q (.rt x) S) S2) ∧ ∀ ρ S, P ds.length ρ S → Q (.nx ρ) S) (hl : isL it = true := by with_unfolding_all rfl) : Wx G call (.for t it b) ρ S Q := by
  obtain ⟨ds, ch, S1, e, h0, hc, hs, hq⟩ := q.h
  obtain ⟨o, S2, e2, k⟩ := forL_inv (asg := fun d ρ S => asgT G call t d ρ S) (body := fun ρ S => exSs G call b ρ S) (ch := ch) (B := fun ρ S => Q (.nx ρ) S) (R := fun x S => Q (.rt x) S) P ds 0 ρ S1 h0 hc fun i d ρ S hi hp => by
    rw [Nat.zero_add] at hp
    obtain ⟨ρ1, S1, e1, r⟩ := (hs i d ρ S hi hp).h
    obtain ⟨o, S2, e2, k⟩ := r.h
    rw [Nat.zero_add]
    exact ⟨ρ1, S1, e1, o, S2, e2, k⟩
  refine ⟨o, S2, by unfold exS; rw [e]; dsimp only; rw [e2]; dsimp only; rw [isL_unl hl e], ?_⟩
  rw [Nat.zero_add] at k
  cases o with
  | nx ρ' => exact k.elim (hq _ _) fun z => z
  | rt x => exact k
  | bk _ => exact k.elim
  | ct _ => exact k.elim
/-- a for over a dict -/
theorem wx_forD {t : Tg} {it : It} {b : Stms} (P : Nat → Env → Store → Prop) (q : Wi G call it ρ S fun ds ch S1 => P 0 ρ S1 ∧ (∀ i ρ S, P i ρ S → chk ch S) ∧
    (∀ i d ρ S, ds[i]? = some d → P i ρ S → Wa G call t d ρ S fun ρ1 S1 => Wxs G call b ρ1 S1 fun o S2 => o.Ok (P (i + 1)) (fun ρ S => Q (.nx ρ) (unl ch S)) (fun x S => Q (.rt x) (unl ch S)) S2) ∧ ∀ ρ S, P ds.length ρ S → Q (.nx ρ) (unl ch S)) : Wx G call (.for t it b) ρ S Q := by
  obtain ⟨ds, ch, S1, e, h0, hc, hs, hq⟩ := q.h
  obtain ⟨o, S2, e2, k⟩ := forL_inv (asg := fun d ρ S => asgT G call t d ρ S) (body := fun ρ S => exSs G call b ρ S) (ch := ch) (B := fun ρ S => Q (.nx ρ) (unl ch S)) (R := fun x S => Q (.rt x) (unl ch S)) P ds 0 ρ S1 h0 hc fun i d ρ S hi hp => by
    rw [Nat.zero_add] at hp
    obtain ⟨ρ1, S1, e1, r⟩ := (hs i d ρ S hi hp).h
    obtain ⟨o, S2, e2, k⟩ := r.h
    rw [Nat.zero_add]
    exact ⟨ρ1, S1, e1, o, S2, e2, k⟩
  refine ⟨o, _, by unfold exS; rw [e]; dsimp only; rw [e2], ?_⟩
  rw [Nat.zero_add] at k
  cases o with
  | nx ρ' => exact k.elim (hq _ _) fun z => z
  | rt x => exact k
  | bk _ => exact k.elim
  | ct _ => exact k.elim
theorem wx_fasg {cs : List Str} {o e : Ex} {f : Str} (q : We G call e ρ S fun u S1 => Wn u S1 fun x S2 => We G call o ρ S2 fun t S3 => Wn t S3 fun y S4 => Wsf cs S4 f x y fun S5 => Q (.nx ρ) S5) : Wx G call (.fasg cs o f e) ρ S Q := by
  obtain ⟨u, S1, e1, ⟨q⟩⟩ := q.h
  obtain ⟨t, S3, e3, ⟨q⟩⟩ := q.h
  obtain ⟨S5, e5, q⟩ := q.h
  exact ⟨_, S5, by unfold exS; rw [e1]; dsimp only; rw [e3]; dsimp only; rw [e5], q⟩
/-- a while, by an invariant P and a measure -/
theorem wx_while {c : Ex} {b : Stms} (P : Nat → Env → Store → Prop) (n : Nat) (h0 : P n ρ S)
    (hs : ∀ n ρ S, P n ρ S → We G call c ρ S fun t S1 => Wc t (Wxs G call b ρ S1 fun o S2 => o.Ok (fun ρ' S' => ∃ m, m < n ∧ P m ρ' S') (fun ρ S => Q (.nx ρ) S) (fun x S => Q (.rt x) S) S2) (Q (.nx ρ) S1)) : Wx G call (.while c b) ρ S Q := by
  obtain ⟨o, S2, e2, k⟩ := while_inv (c := fun ρ S => toB (ev G call c ρ S)) (b := fun ρ S => exSs G call b ρ S) (B := fun ρ S => Q (.nx ρ) S) (R := fun x S => Q (.rt x) S) (E := fun ρ S => Q (.nx ρ) S) P (fun n ρ S hp => by
    obtain ⟨t, S1, e, ⟨k, rfl, h1, h2⟩⟩ := (hs n ρ S hp).h
    refine ⟨k, S1, by rw [e]; rfl, h2, fun z => ?_⟩
    obtain ⟨o, S2, e2, q⟩ := (h1 z).h
    exact ⟨o, S2, e2, q⟩) n ρ S h0
  refine ⟨o, S2, by unfold exS; exact e2, ?_⟩
  cases o with
  | nx ρ' => exact k.elim (fun z => z) fun z => z
  | rt x => exact k
  | bk _ => exact k.elim
  | ct _ => exact k.elim
end
/-! ### operations -/
section
variable {S : Store} {Q : T → Store → Prop} {a b c : T} {i j : Int}
theorem r_of {p : Prim} {ts : List T} {t : T} {S1 : Store} (e : p.run ts S = some (t, S1)) (q : Q t S1) : Wp p ts S Q := ⟨t, S1, e, q⟩
theorem r_add (q : Q (.d (.int (i + j))) S) : Wp .add [.d (.int i), .d (.int j)] S Q := r_of rfl q
theorem r_sub (q : Q (.d (.int (i - j))) S) : Wp .sub [.d (.int i), .d (.int j)] S Q := r_of rfl q
theorem r_neg (q : Q (.d (.int (-i))) S) : Wp .neg [.d (.int i)] S Q := r_of rfl q
theorem r_lt (q : Q (.d (.bl (decide (i < j)))) S) : Wp .lt [.d (.int i), .d (.int j)] S Q := r_of rfl q
theorem r_le (q : Q (.d (.bl (decide (i ≤ j)))) S) : Wp .le [.d (.int i), .d (.int j)] S Q := r_of rfl q
theorem r_gt (q : Q (.d (.bl (decide (j < i)))) S) : Wp .gt [.d (.int i), .d (.int j)] S Q := r_of rfl q
theorem r_ge (q : Q (.d (.bl (decide (j ≤ i)))) S) : Wp .ge [.d (.int i), .d (.int j)] S Q := r_of rfl q
theorem r_abs (q : Q (.d (.int (if i < 0 then -i else i))) S) : Wp .abs [.d (.int i)] S Q := r_of rfl q
theorem r_min (q : Q (.d (.int (if j < i then j else i))) S) : Wp .min2 [.d (.int i), .d (.int j)] S Q := r_of rfl q
theorem r_max (q : Q (.d (.int (if j > i then j else i))) S) : Wp .max2 [.d (.int i), .d (.int j)] S Q := r_of rfl q
theorem r_isN {n : Bool} (q : Q (.d (.bl (isNon a != n))) S) : Wp (.isN n) [a] S Q := r_of rfl q
theorem r_isB {n k x : Bool} (q : Q (.d (.bl (decide (x = k) != n))) S) : Wp (.isB n k) [.d (.bl x)] S Q := r_of rfl q
theorem log2_lt200 {n : Nat} (h : n < 1606938044258990275541962092341162602522202993782792835301376) : n.log2 < 200 := by
  by_cases h0 : n = 0
  · subst h0; decide
  · exact (Nat.log2_lt h0).2 (Nat.lt_of_lt_of_le h (by decide))
/-- a product of two ints of at most 200 bits -/
theorem r_mul (h1 : -1606938044258990275541962092341162602522202993782792835301376 < i ∧ i < 1606938044258990275541962092341162602522202993782792835301376) (h2 : -1606938044258990275541962092341162602522202993782792835301376 < j ∧ j < 1606938044258990275541962092341162602522202993782792835301376) (q : Q (.d (.int (i * j))) S) : Wp .mul [.d (.int i), .d (.int j)] S Q := by
  have e1 : i.natAbs.log2 < 200 := log2_lt200 (by omega)
  have e2 : j.natAbs.log2 < 200 := log2_lt200 (by omega)
  exact r_of (by rw [run_mul]; show res (if i.natAbs.log2 + j.natAbs.log2 < 1000000 then tI (i * j) else none) S = _; rw [if_pos (by omega)]; rfl) q
theorem r_mul_big (h : i.natAbs.log2 + j.natAbs.log2 < 1000000) (q : Q (.d (.int (i * j))) S) : Wp .mul [.d (.int i), .d (.int j)] S Q :=
  r_of (by rw [run_mul]; show res (if i.natAbs.log2 + j.natAbs.log2 < 1000000 then tI (i * j) else none) S = _; rw [if_pos h]; rfl) q
theorem r_fdiv (h1 : 0 < j) (h2 : j < 1606938044258990275541962092341162602522202993782792835301376) (q : Q (.d (.int (i / j))) S) : Wp .fdiv [.d (.int i), .d (.int j)] S Q := by
  have e2 : j.natAbs.log2 < 200 := log2_lt200 (by omega)
  exact r_of (by rw [run_fdiv]; unfold fdivI; rw [if_pos ⟨h1, by omega⟩]; rfl) q
theorem r_mod (h1 : 0 < j) (q : Q (.d (.int (i % j))) S) : Wp .mod [.d (.int i), .d (.int j)] S Q :=
  r_of (by rw [run_mod]; unfold modI; rw [if_pos h1]; rfl) q
theorem bits_le {i : Int} {k : Nat} (h : i.natAbs < 2 ^ k) : Builtin.Int.intBits i ≤ k := by
  unfold Builtin.Int.intBits
  split
  · omega
  · rename_i h0
    have : i.natAbs ≠ 0 := by intro z; exact h0 (by rw [show i = 0 by omega]; rfl)
    have := (Nat.log2_lt this).2 h
    omega
theorem r_pow (h : -1606938044258990275541962092341162602522202993782792835301376 < i ∧ i < 1606938044258990275541962092341162602522202993782792835301376) (h0 : 0 ≤ j) (h1 : j ≤ 10000) (q : Q (.d (.int (i ^ j.toNat))) S) : Wp .pow [.d (.int i), .d (.int j)] S Q := by
  have e1 : Builtin.Int.intBits i ≤ 200 := bits_le (Nat.lt_of_lt_of_le (show i.natAbs < 1606938044258990275541962092341162602522202993782792835301376 by omega) (by decide))
  have : ((Builtin.Int.intBits i : Nat) : Int) * j ≤ 200 * j := Int.mul_le_mul_of_nonneg_right (by omega) h0
  exact r_of (by rw [run_pow]; unfold powI; rw [if_pos ⟨h0, by omega⟩]; rfl) q
theorem atI_pos {α : Type} {xs : List α} {x : α} {i : Int} (h0 : 0 ≤ i) (e : xs[i.toNat]? = some x) : atI xs i = some x := by
  obtain ⟨n, rfl⟩ := Int.eq_ofNat_of_zero_le h0
  exact atI_nat e
theorem r_item_ref {n : Nat} {ds : List D} {x : D} (h : S[n]? = some (.lst ds)) (h0 : 0 ≤ i) (e : ds[i.toNat]? = some x) (q : Q (.d x) S) : Wp .item [.d (.ref n), .d (.int i)] S Q := by
  refine r_of (t := .d x) (S1 := S) ?_ q
  have h1 : lstOf S (.d (.ref n)) = some ds := by show (match S[n]? with | some (.lst ds) => some ds | _ => none) = _; rw [h]
  have h2 : itemT S (.d (.ref n)) (.d (.int i)) = some x := by
    unfold itemT seqOf
    dsimp only
    rw [h1]
    exact atI_pos h0 e
  rw [run_item]
  unfold itemR
  rw [h2]
  rfl
theorem r_item_tmp {ds : List D} {x : D} (h0 : 0 ≤ i) (e : ds[i.toNat]? = some x) (q : Q (.d x) S) : Wp .item [.tmp ds, .d (.int i)] S Q := by
  refine r_of (t := .d x) (S1 := S) ?_ q
  rw [run_item]
  show res (match atI ds i with | some x => some (.d x) | none => none) S = _
  rw [atI_pos h0 e]
  rfl
theorem r_item_tup {ds : List D} {x : D} (h0 : 0 ≤ i) (e : ds[i.toNat]? = some x) (q : Q (.d x) S) : Wp .item [.d (.tup ds), .d (.int i)] S Q := by
  refine r_of (t := .d x) (S1 := S) ?_ q
  rw [run_item]
  show res (match atI ds i with | some x => some (.d x) | none => none) S = _
  rw [atI_pos h0 e]
  rfl
theorem r_item_rol {ds : List D} {x : D} (h0 : 0 ≤ i) (e : ds[i.toNat]? = some x) (q : Q (.d x) S) : Wp .item [.d (.rol ds), .d (.int i)] S Q := by
  refine r_of (t := .d x) (S1 := S) ?_ q
  rw [run_item]
  show res (match atI ds i with | some x => some (.d x) | none => none) S = _
  rw [atI_pos h0 e]
  rfl
theorem r_eq {p q : PyData} (h1 : pdT S a = some p) (h2 : pdT S b = some q) {R : T → Store → Prop} (k : R (.d (.bl (PyData.eqv p q != false))) S) : Wp .eq [a, b] S R :=
  r_of (by rw [run_eq]; unfold eqT; rw [h1, h2]; rfl) k
theorem r_ne {p q : PyData} (h1 : pdT S a = some p) (h2 : pdT S b = some q) {R : T → Store → Prop} (k : R (.d (.bl (PyData.eqv p q != true))) S) : Wp .ne [a, b] S R :=
  r_of (by rw [run_ne]; unfold eqT; rw [h1, h2]; rfl) k
theorem eqv_int (i j : Int) : PyData.eqv (.int i) (.int j) = decide (i = j) := by
  unfold PyData.eqv
  rfl
theorem eqv_str (i j : Str) : PyData.eqv (.str i) (.str j) = decide (i = j) := by
  unfold PyData.eqv
  rfl
theorem eqv_bool (i j : Bool) : PyData.eqv (.bool i) (.bool j) = (i == j) := by
  unfold PyData.eqv
  rfl
theorem eqv_nil : ∀ xs : List PyData, PyData.eqv (.list xs) (.list []) = xs.isEmpty
  | [] => by unfold PyData.eqv PyData.eqvAll; rfl
  | x :: xs => by unfold PyData.eqv PyData.eqvAll; rfl
theorem pd_lst {n : Nat} {ds : List D} (h : S[n]? = some (.lst ds)) : pdT S (.d (.ref n)) = (pdL (pdD S 59) ds).map .list := by
  show pdD S 60 (.ref n) = _
  unfold pdD
  rw [h]
/-- xs == [], xs != [] -/
theorem r_eq_nil {n : Nat} {ds : List D} {ps : List PyData} (h : S[n]? = some (.lst ds)) (hp : pdL (pdD S 59) ds = some ps) {R : T → Store → Prop} (k : R (.d (.bl (decide (ds = [])))) S) : Wp .eq [.d (.ref n), .tmp []] S R := by
  refine r_eq (p := .list ps) (q := .list []) (by rw [pd_lst h, hp]; rfl) rfl ?_
  rw [eqv_nil]
  cases ds with
  | nil => cases hp; exact k
  | cons d ds =>
    cases ps with
    | nil => unfold pdL at hp; split at hp <;> cases hp
    | cons p ps => exact k
theorem r_ne_nil {n : Nat} {ds : List D} {ps : List PyData} (h : S[n]? = some (.lst ds)) (hp : pdL (pdD S 59) ds = some ps) {R : T → Store → Prop} (k : R (.d (.bl (decide (ds ≠ [])))) S) : Wp .ne [.d (.ref n), .tmp []] S R := by
  refine r_ne (p := .list ps) (q := .list []) (by rw [pd_lst h, hp]; rfl) rfl ?_
  rw [eqv_nil]
  cases ds with
  | nil => cases hp; exact k
  | cons d ds =>
    cases ps with
    | nil => unfold pdL at hp; split at hp <;> cases hp
    | cons p ps => exact k
theorem r_eq_int {R : T → Store → Prop} (k : R (.d (.bl (decide (i = j)))) S) : Wp .eq [.d (.int i), .d (.int j)] S R := by
  refine r_eq (p := .int i) (q := .int j) rfl rfl ?_
  rw [eqv_int, Bool.bne_false]; exact k
theorem r_ne_int {R : T → Store → Prop} (k : R (.d (.bl (decide (i ≠ j)))) S) : Wp .ne [.d (.int i), .d (.int j)] S R := by
  refine r_ne (p := .int i) (q := .int j) rfl rfl ?_
  rw [eqv_int, Bool.bne_true, ← decide_not]; exact k
theorem r_eq_bl {x y : Bool} {R : T → Store → Prop} (k : R (.d (.bl (x == y))) S) : Wp .eq [.d (.bl x), .d (.bl y)] S R := by
  refine r_eq (p := .bool x) (q := .bool y) rfl rfl ?_
  rw [eqv_bool, Bool.bne_false]; exact k
theorem r_ne_bl {x y : Bool} {R : T → Store → Prop} (k : R (.d (.bl (x != y))) S) : Wp .ne [.d (.bl x), .d (.bl y)] S R := by
  refine r_ne (p := .bool x) (q := .bool y) rfl rfl ?_
  rw [eqv_bool, Bool.bne_true]; exact k
theorem r_popAt {n : Nat} {d : D} {ds : List D} (h : S[n]? = some (.lst (d :: ds))) (q : Q (.d d) (S.set n (.lst ds))) : Wp .popAt [.d (.ref n), .d (.int 0)] S Q := by
  refine r_of (t := .d d) (S1 := S.set n (.lst ds)) ?_ q
  rw [run_popAt]
  unfold popAtT
  dsimp only
  rw [h]
  rfl
theorem r_append {n : Nat} {x : D} {ds : List D} (h : S[n]? = some (.lst ds)) (hl : ds.length < 1000000) (q : Q (.d .non) (S.set n (.lst (ds ++ [x])))) : Wp .append [.d (.ref n), .d x] S Q := by
  refine r_of (t := .d .non) (S1 := S.set n (.lst (ds ++ [x]))) ?_ q
  rw [run_append]
  unfold appendT
  dsimp only
  rw [h]
  dsimp only
  rw [if_pos (show ds.length < sizeLine by have : 1000000 < sizeLine := by decide
                                           omega)]
theorem r_len {t : T} {n : Int} (h : lenT S t = some n) (q : Q (.d (.int n)) S) : Wp .len [t] S Q := r_of (by rw [run_len]; unfold lenR; rw [h]; rfl) q
theorem r_slice01 {t u : T} (h : sliceT S t none (some i) = some u) (q : Q u S) : Wp (.slice false true) [t, .d (.int i)] S Q := r_of (by rw [run_slice01, h]; rfl) q
theorem r_slice10 {t u : T} (h : sliceT S t (some i) none = some u) (q : Q u S) : Wp (.slice true false) [t, .d (.int i)] S Q := r_of (by rw [run_slice10, h]; rfl) q
theorem r_slice11 {t u : T} (h : sliceT S t (some i) (some j) = some u) (q : Q u S) : Wp (.slice true true) [t, .d (.int i), .d (.int j)] S Q := r_of (by rw [run_slice11, h]; rfl) q
theorem r_inst {ty : Ty} {x : D} {b : Bool} (h : isTy ty x S = some b) (q : Q (.d (.bl b)) S) : Wp (.inst ty) [.d x] S Q := r_of (by rw [run_inst]; unfold instT; dsimp only; rw [h]; rfl) q
theorem r_all {t : T} {ds : List D} {bs : List Bool} (h : lstOf S t = some ds) (hb : boolsOf ds = some bs) (q : Q (.d (.bl (bs.all id))) S) : Wp .all [t] S Q := r_of (by rw [run_all]; unfold allT; rw [h]; dsimp only; rw [hb]; rfl) q
theorem r_any {t : T} {ds : List D} {bs : List Bool} (h : lstOf S t = some ds) (hb : boolsOf ds = some bs) (q : Q (.d (.bl (bs.any id))) S) : Wp .any [t] S Q := r_of (by rw [run_any]; unfold allT; rw [h]; dsimp only; rw [hb]; rfl) q
theorem r_tuple {t : T} {ds : List D} (h : lstOf S t = some ds) (q : Q (.d (.tup ds)) S) : Wp .tuple [t] S Q := r_of (by rw [run_tuple]; unfold tupleT; rw [h]; rfl) q
theorem r_isin {n x : Bool} (h : inT S a b = some x) (q : Q (.d (.bl (x != n))) S) : Wp (.isin n) [a, b] S Q := r_of (by rw [run_isin, h]; rfl) q
end
end F

/-! More rules: slices, enumerations, powers, comprehensions over lists of one kind. -/
namespace F
open PySem PyProof.Rows L2

theorem take_sub {α : Type} (xs : List α) (n : Nat) : (xs.drop 0).take (min n xs.length - 0) = xs.take n := by
  rw [List.drop_zero, Nat.sub_zero]
  rcases Nat.le_total n xs.length with h | h
  · rw [Nat.min_eq_left h]
  · rw [Nat.min_eq_right h, List.take_length, List.take_of_length_le h]
theorem drop_sub {α : Type} (xs : List α) (n : Nat) : (xs.drop (min n xs.length)).take (xs.length - min n xs.length) = xs.drop n := by
  rcases Nat.le_total n xs.length with h | h
  · rw [Nat.min_eq_left h, List.take_of_length_le (by rw [List.length_drop]; omega)]
  · rw [Nat.min_eq_right h, List.drop_length, List.take_nil, List.drop_of_length_le h]
section
variable {S : Store} {a : T} {ds : List D} {i j : Int}
theorem slice_lst {lo hi : Option Int} (h : lstOf S a = some ds) (ht : tupOf a = none) : sliceT S a lo hi = some (.tmp ((ds.drop (HT.sIx ds.length 0 lo)).take (HT.sIx ds.length ds.length hi - HT.sIx ds.length 0 lo))) := by
  cases a with
  | tmp xs => cases h; rfl
  | d x =>
    cases x with
    | str z => cases h
    | tup xs => cases ht
    | ktup xs => cases ht
    | rol xs => cases h; rfl
    | ref n =>
      unfold sliceT
      dsimp only
      rw [ht]
      dsimp only
      rw [h]
    | _ => cases h
theorem slice_to (h : lstOf S a = some ds) (ht : tupOf a = none) (h0 : 0 ≤ i) : sliceT S a none (some i) = some (.tmp (ds.take i.toNat)) := by
  rw [slice_lst h ht, HT.sIx_none, sIx_pos h0, take_sub]
theorem slice_from (h : lstOf S a = some ds) (ht : tupOf a = none) (h0 : 0 ≤ i) : sliceT S a (some i) none = some (.tmp (ds.drop i.toNat)) := by
  rw [slice_lst h ht, HT.sIx_none, sIx_pos h0, drop_sub]
theorem slice_from_neg (h : lstOf S a = some ds) (ht : tupOf a = none) (h0 : i < 0) : sliceT S a (some i) none = some (.tmp (ds.drop (i + (ds.length : Int)).toNat)) := by
  rw [slice_lst h ht, HT.sIx_none, sIx_neg h0, List.take_of_length_le (by rw [List.length_drop]; exact Nat.le_refl _)]
theorem slice_tup {lo hi : Option Int} : ∃ t, sliceT S (.d (.tup ds)) lo hi = some (.d (.tup t)) ∧ t = (ds.drop (HT.sIx ds.length 0 lo)).take (HT.sIx ds.length ds.length hi - HT.sIx ds.length 0 lo) := by
  by_cases h : HT.sIx ds.length 0 lo = 0 ∧ HT.sIx ds.length ds.length hi = ds.length
  · refine ⟨ds, if_pos h, ?_⟩
    rw [h.1, h.2, List.drop_zero, Nat.sub_zero, List.take_length]
  · exact ⟨_, if_neg h, rfl⟩
theorem slice_tup_from (h0 : 0 ≤ i) : sliceT S (.d (.tup ds)) (some i) none = some (.d (.tup (ds.drop i.toNat))) := by
  obtain ⟨t, e, rfl⟩ := slice_tup (S := S) (ds := ds) (lo := some i) (hi := none)
  rw [e, HT.sIx_none, sIx_pos h0, drop_sub]
theorem slice_tup_to (h0 : 0 ≤ i) : sliceT S (.d (.tup ds)) none (some i) = some (.d (.tup (ds.take i.toNat))) := by
  obtain ⟨t, e, rfl⟩ := slice_tup (S := S) (ds := ds) (lo := none) (hi := some i)
  rw [e, HT.sIx_none, sIx_pos h0, take_sub]
end
theorem enumD_at : ∀ {ds : List D} {n i : Nat} {d : D}, (enumD n ds)[i]? = some d → ∃ x, ds[i]? = some x ∧ d = .tup [.int ((n + i : Nat) : Int), x]
  | [], n, i, d, h => by simp [enumD] at h
  | x :: xs, n, 0, d, h => ⟨x, rfl, by simp [enumD] at h; rw [← h]; rfl⟩
  | x :: xs, n, i + 1, d, h => by
    unfold enumD at h
    rw [List.getElem?_cons_succ] at h
    obtain ⟨y, h1, h2⟩ := enumD_at h
    exact ⟨y, by rw [List.getElem?_cons_succ]; exact h1, by rw [h2, show n + 1 + i = n + (i + 1) by omega]⟩
theorem enum_len : ∀ (ds : List D) (n : Nat), (enumD n ds).length = ds.length
  | [], n => rfl
  | x :: xs, n => by unfold enumD; rw [List.length_cons, List.length_cons, enum_len xs]
theorem zipD_at : ∀ {xs ys : List D} {i : Nat} {d : D}, (zipD xs ys)[i]? = some d → ∃ x y, xs[i]? = some x ∧ ys[i]? = some y ∧ d = .tup [x, y]
  | [], ys, i, d, h => by cases ys <;> simp [zipD] at h
  | x :: xs, [], i, d, h => by simp [zipD] at h
  | x :: xs, y :: ys, 0, d, h => ⟨x, y, rfl, rfl, by simp [zipD] at h; exact h.symm⟩
  | x :: xs, y :: ys, i + 1, d, h => by
    unfold zipD at h
    rw [List.getElem?_cons_succ] at h
    obtain ⟨u, v, h1, h2, h3⟩ := zipD_at h
    exact ⟨u, v, by rw [List.getElem?_cons_succ]; exact h1, by rw [List.getElem?_cons_succ]; exact h2, h3⟩
theorem zip_len : ∀ (xs ys : List D), (zipD xs ys).length = min xs.length ys.length
  | [], ys => by cases ys <;> simp [zipD]
  | x :: xs, [] => by simp [zipD]
  | x :: xs, y :: ys => by unfold zipD; rw [List.length_cons, List.length_cons, List.length_cons, zip_len xs ys]; omega
theorem rngD_get {lo : Int} {n i : Nat} {d : D} (h : (rngD lo n)[i]? = some d) : i < n ∧ d = .int (lo + (i : Nat)) := by
  unfold rngD at h
  rw [List.getElem?_map, Option.map_eq_some_iff] at h
  obtain ⟨k, h1, h2⟩ := h
  obtain ⟨h3, h4⟩ := List.getElem?_eq_some_iff.mp h1
  rw [List.length_range] at h3
  rw [List.getElem_range] at h4
  subst h4
  exact ⟨h3, h2.symm⟩
theorem rngD_len (lo : Int) (n : Nat) : (rngD lo n).length = n := by unfold rngD; rw [List.length_map, List.length_range]
section
variable {S : Store} {Q : T → Store → Prop} {a b c : T} {i j : Int}
theorem r_pow_lit {v : Int} (hc : CPowW i j) (hv : i ^ j.toNat = v) (q : Q (.d (.int v)) S) : Wp .pow [.d (.int i), .d (.int j)] S Q :=
  r_of (by rw [run_pow]; unfold powI; rw [if_pos hc, hv]; rfl) q
theorem r_pow18 (q : Q (.d (.int 1000000000000000000)) S) : Wp .pow [.d (.int 10), .d (.int 18)] S Q := r_pow_lit (by decide +kernel) (by decide +kernel) q
theorem r_pow30 (q : Q (.d (.int 1000000000000000000000000000000)) S) : Wp .pow [.d (.int 10), .d (.int 30)] S Q := r_pow_lit (by decide +kernel) (by decide +kernel) q
theorem r_pow48 (q : Q (.d (.int 1000000000000000000000000000000000000000000000000)) S) : Wp .pow [.d (.int 10), .d (.int 48)] S Q := r_pow_lit (by decide +kernel) (by decide +kernel) q
theorem r_pow60 (q : Q (.d (.int 1000000000000000000000000000000000000000000000000000000000000)) S) : Wp .pow [.d (.int 10), .d (.int 60)] S Q := r_pow_lit (by decide +kernel) (by decide +kernel) q
def big900 : Int := 1000000000000000000000000000000000000000000000000000000000000 ^ 15
theorem big900_pos : 0 < big900 := by decide +kernel
theorem r_pow900 (q : Q (.d (.int big900)) S) : Wp .pow [.d (.int 1000000000000000000000000000000000000000000000000000000000000), .d (.int 15)] S Q := r_pow_lit (by decide +kernel) rfl q
/-- a cube of an int of less than 64 bits -/
theorem r_item_mem {ds : List D} (h0 : 0 ≤ i) (h1 : i < ds.length) (q : ∀ x, x ∈ ds → Q (.d x) S) : Wp .item [.tmp ds, .d (.int i)] S Q := by
  obtain ⟨x, hx, e, _⟩ := atI_ok h0 h1
  exact r_item_tmp h0 e (q x hx)
theorem r_item_tup_last {ds : List D} {x : D} (e : ds.getLast? = some x) (q : Q (.d x) S) : Wp .item [.d (.tup ds), .d (.int (-1))] S Q := by
  obtain ⟨ys, rfl⟩ := List.getLast?_eq_some_iff.mp e
  refine r_of (t := .d x) (S1 := S) ?_ q
  rw [run_item]
  show res (match atI (ys ++ [x]) (-1) with | some x => some (.d x) | none => none) S = _
  rw [atI_last]
  rfl
theorem eqv_tnil : ∀ xs : List PyData, PyData.eqv (.tuple xs) (.tuple []) = xs.isEmpty
  | [] => by unfold PyData.eqv PyData.eqvAll; rfl
  | x :: xs => by unfold PyData.eqv PyData.eqvAll; rfl
theorem pd_tup {ds : List D} {ps : List PyData} (hp : pdL (pdD S 59) ds = some ps) : pdT S (.d (.tup ds)) = some (.tuple ps) := by
  show pdD S 60 (.tup ds) = _
  unfold pdD
  rw [hp]
  rfl
theorem pdL_emp {f : D → Option PyData} {ds : List D} {ps : List PyData} (hp : pdL f ds = some ps) : ps.isEmpty = decide (ds = []) := by
  cases ds with
  | nil => cases hp; rfl
  | cons d ds =>
    cases ps with
    | nil => unfold pdL at hp; split at hp <;> cases hp
    | cons p ps => rfl
theorem lst_ref {n : Nat} {ds : List D} (h : S[n]? = some (.lst ds)) : lstOf S (.d (.ref n)) = some ds := by
  unfold lstOf
  dsimp only
  rw [h]
theorem rv_append {n : Nat} {ds : List D} (h : S[n]? = some (.lst ds)) : recvOk .append (.d (.ref n)) S = true := by
  unfold recvOk
  dsimp only
  rw [h]
theorem r_len_tmp {ds : List D} (q : Q (.d (.int (ds.length : Int))) S) : Wp .len [.tmp ds] S Q := r_len rfl q
theorem r_len_tup {ds : List D} (q : Q (.d (.int (ds.length : Int))) S) : Wp .len [.d (.tup ds)] S Q := r_len rfl q
theorem r_len_rol {ds : List D} (q : Q (.d (.int (ds.length : Int))) S) : Wp .len [.d (.rol ds)] S Q := r_len rfl q
theorem r_len_ref {n : Nat} {ds : List D} (h : S[n]? = some (.lst ds)) (q : Q (.d (.int (ds.length : Int))) S) : Wp .len [.d (.ref n)] S Q := by
  refine r_len ?_ q
  unfold lenT
  dsimp only
  rw [h]
theorem r_len_str {x : Str} (h : x.length ≤ 1000000) (q : Q (.d (.int (x.length : Int))) S) : Wp .len [.d (.str x)] S Q := by
  refine r_len ?_ q
  show (if x.length ≤ sizeLine then some ((x.length : Nat) : Int) else none) = _
  rw [if_pos (show x.length ≤ sizeLine by have : 1000000 < sizeLine := by decide
                                          omega)]
theorem r_eq_tt (k : Q (.d (.bl true)) S) : Wp .eq [.d (.bl true), .d (.bl true)] S Q := r_eq_bl k
theorem r_eq_ff (k : Q (.d (.bl true)) S) : Wp .eq [.d (.bl false), .d (.bl false)] S Q := r_eq_bl k
theorem r_eq_tf (k : Q (.d (.bl false)) S) : Wp .eq [.d (.bl true), .d (.bl false)] S Q := r_eq_bl k
theorem r_eq_ft (k : Q (.d (.bl false)) S) : Wp .eq [.d (.bl false), .d (.bl true)] S Q := r_eq_bl k
theorem r_eq_tnil {ds : List D} {ps : List PyData} (hp : pdL (pdD S 59) ds = some ps) (k : Q (.d (.bl (decide (ds = [])))) S) : Wp .eq [.d (.tup ds), .d (.tup [])] S Q := by
  refine r_eq (p := .tuple ps) (q := .tuple []) (pd_tup hp) rfl ?_
  rw [eqv_tnil, pdL_emp hp, Bool.bne_false]; exact k
theorem r_eq_tmpnil {ds : List D} {ps : List PyData} (hp : pdL (pdD S 59) ds = some ps) (k : Q (.d (.bl (decide (ds = [])))) S) : Wp .eq [.tmp ds, .tmp []] S Q := by
  refine r_eq (p := .list ps) (q := .list []) (by show (pdL (pdD S 59) ds).map PyData.list = _; rw [hp]; rfl) rfl ?_
  rw [eqv_nil, pdL_emp hp, Bool.bne_false]; exact k
theorem r_ne_tmpnil {ds : List D} {ps : List PyData} (hp : pdL (pdD S 59) ds = some ps) (k : Q (.d (.bl (decide (ds ≠ [])))) S) : Wp .ne [.tmp ds, .tmp []] S Q := by
  refine r_ne (p := .list ps) (q := .list []) (by show (pdL (pdD S 59) ds).map PyData.list = _; rw [hp]; rfl) rfl ?_
  rw [eqv_nil, pdL_emp hp, Bool.bne_true, ← decide_not]; exact k
end
section
variable {G : List D} {call : Call} {ρ : Env} {S : Store} {Q : T → Store → Prop}
/-- a comprehension over values of one kind that changes nothing -/
theorem wlc_map {α : Type} (mk : α → D) (ns : List α) (f : α → Bool) (g : α → D) {elt : Ex} {tg : Tg} {cond : Exs} {ch : Live} {own : List Nat} {ds : List D} (he : ds = ns.map mk) (hc : chk ch S) (hl : ns.length ≤ 1000000)
    (hs : ∀ d ∈ ns, Wa G call tg (mk d) ρ S fun ρ1 S1 => Wf G call cond ρ1 S1 fun b S2 => b = f d ∧ S1 = S ∧ S2 = S ∧ (b = true → We G call elt ρ1 S fun t S3 => t = .d (g d) ∧ S3 = S)) (q : Q (.tmp ((ns.filter f).map g)) S) : Wlc G call elt tg cond ch ρ own ds S Q := by
  subst he
  have key : ∀ (ns : List α) (acc : List D), acc.length + ns.length ≤ 1000000 → (∀ d ∈ ns, Wa G call tg (mk d) ρ S fun ρ1 S1 => Wf G call cond ρ1 S1 fun b S2 => b = f d ∧ S1 = S ∧ S2 = S ∧ (b = true → We G call elt ρ1 S fun t S3 => t = .d (g d) ∧ S3 = S)) →
      lcGo (fun d ρ S => asgT G call tg d ρ S) (fun ρ S => evC G call cond ρ S) (fun ρ S => ev G call elt ρ S) ch ρ own (ns.map mk) acc S = some (acc ++ (ns.filter f).map g, S) := by
    intro ns
    induction ns with
    | nil => intro acc hl hs; rw [List.map_nil]; unfold lcGo; rw [if_pos hc, List.filter_nil, List.map_nil, List.append_nil]
    | cons x xs ih =>
      intro acc hl hs
      rw [List.length_cons] at hl
      obtain ⟨ρ1, S1, e1, q⟩ := (hs x List.mem_cons_self).h
      obtain ⟨b, S2, e2, rfl, rfl, rfl, k⟩ := q.h
      have hs2 := fun d (h : d ∈ xs) => hs d (List.mem_cons_of_mem _ h)
      rw [List.map_cons]
      unfold lcGo
      rw [if_pos hc, e1]
      dsimp only
      rw [e2]
      cases hf : f x with
      | false =>
        dsimp only
        rw [ih acc (by omega) hs2, List.filter_cons_of_neg (by rw [hf]; exact Bool.false_ne_true)]
      | true =>
        obtain ⟨t, S3, e3, rfl, rfl⟩ := (k hf).h
        dsimp only
        rw [e3]
        dsimp only [norm]
        rw [if_pos (show acc.length < sizeLine by have : 1000000 < sizeLine := by decide
                                                  omega), ih _ (by rw [List.length_append, List.length_singleton]; omega) hs2, List.filter_cons_of_pos hf, List.map_cons, List.append_assoc]
        rfl
  exact ⟨_, _, key ns [] (by simpa using hl) hs, q⟩
end
end F

/-! The bag that many laws draw from. -/
namespace F
open PySem PyProof.Rows L2
local macro_rules | `(tactic| walk_at "s0") => `(tactic| with_reducible first
  | refine w_c ?_ | refine w_v (by with_unfolding_all rfl) ?_ | refine w_prim ?_ | refine wes_cons ?_ | refine wes_nil ?_ | refine wds_cons ?_ | refine wds_nil ?_ | refine wn_d ?_ | refine wn_tmp ?_
  | refine w_meth ?_ | refine w_tup ?_ | refine w_lst ?_ | refine w_and ?_ | refine w_or ?_ | refine wb_and ?_ | refine wb_or ?_ | refine wb_one ?_ | refine w_not ?_ | refine w_ite ?_ | refine w_call ?_
  | refine w_chain rfl rfl ?_ | refine w_lc ?_ | refine w_g (by with_unfolding_all rfl) ?_ | refine w_dK ?_
  | refine wxs_cons ?_ | refine wxs_nil ?_ | refine wo_nx ?_ | refine wo_rt ?_ | refine wo_bk ?_ | refine wo_ct ?_ | refine wx_asg ?_ | refine wx_par ?_ | refine wx_expr ?_ | refine wx_ret ?_ | refine wx_retN ?_ | refine wx_pass ?_ | refine wx_brk ?_ | refine wx_cont ?_
  | refine wa_n (Nat.le_of_ble_eq_true (by with_unfolding_all rfl)) ?_ | refine wa_tup ?_ | refine wa_sub ?_ | refine was_cons ?_ | refine was_nil ?_ | refine wf_nil ?_ | refine wf_one ?_
  | refine wi_seq ?_ | refine wi_range1 ?_ | refine wi_range2 ?_ | refine wi_zip ?_ | refine wi_enum ?_
  | refine wl (Nat.le_of_ble_eq_true (by with_unfolding_all rfl)) ?_ | refine wv (by with_unfolding_all rfl) ?_ | refine ws_lst (by with_unfolding_all rfl) (by first | decide | omega) (Nat.le_of_ble_eq_true (by with_unfolding_all rfl)) ?_ | refine wpar (by with_unfolding_all rfl) ?_ | refine wit (by with_unfolding_all rfl) ?_ | refine wen (by with_unfolding_all rfl) ?_ | refine wint (by omega) ?_
  | refine wc_t ?_ | refine wc_f ?_
  | refine r_add ?_ | refine r_sub ?_ | refine r_neg ?_ | refine r_lt ?_ | refine r_le ?_ | refine r_gt ?_ | refine r_ge ?_ | refine r_abs ?_ | refine r_min ?_ | refine r_max ?_ | refine r_isN ?_ | refine r_isB ?_
  | refine r_ne_nil (by with_unfolding_all rfl) (pdL_ints _) ?_ | refine r_eq_nil (by with_unfolding_all rfl) (pdL_ints _) ?_ | refine r_popAt (by with_unfolding_all rfl) ?_
  | refine r_eq_tt ?_ | refine r_eq_ff ?_ | refine r_eq_tf ?_ | refine r_eq_ft ?_
  | refine r_eq_int ?_ | refine r_ne_int ?_ | refine r_eq_bl ?_ | refine r_ne_bl ?_
  | refine r_pow18 ?_ | refine r_pow30 ?_ | refine r_pow48 ?_ | refine r_pow60 ?_ | refine r_pow900 ?_ | refine r_mod big900_pos ?_
  | refine r_mod (by first | decide | omega) ?_ | refine r_fdiv (by first | decide | omega) (by first | decide | omega) ?_ | refine r_mul (by first | decide | omega) (by first | decide | omega) ?_ | refine r_pow (by first | decide | omega) (by first | decide | omega) (by first | decide | omega) ?_
  | refine r_item_ref (by with_unfolding_all rfl) (by first | decide | omega) (by with_unfolding_all rfl) ?_ | refine r_item_tmp (by first | decide | omega) (by with_unfolding_all rfl) ?_ | refine r_item_tup (by first | decide | omega) (by with_unfolding_all rfl) ?_
  | refine r_item_rol (by first | decide | omega) (by with_unfolding_all rfl) ?_ | refine r_len_tmp ?_ | refine r_len_tup ?_ | refine r_len_rol ?_ | refine r_len_ref (by with_unfolding_all rfl) ?_
  | refine r_inst (by with_unfolding_all rfl) ?_)
local macro_rules | `(tactic| walk_at "s") => `(tactic| first | walk_at "s0" | with_reducible refine wx_ite ?_)
local macro_rules | `(tactic| walk_at "A") => `(tactic| repeat walk_at "s0")
local macro_rules | `(tactic| walk_at "S") => `(tactic| repeat walk_at "s")
local macro_rules | `(tactic| walk_at "c") => `(tactic| first | refine wc_dt (by first | decide | omega) ?_ | refine wc_df (by first | decide | omega) ?_)
local macro_rules | `(tactic| walk_at "C") => `(tactic| repeat first | walk_at "s" | walk_at "c")
local macro_rules | `(tactic| walk_at "p") => `(tactic| with_reducible first | refine wn_tmp_p (by assumption) fun _ _ => ?_ | refine wd_dK_p (by assumption) fun _ _ => ?_ | refine r_item_p (by assumption) (by first | assumption | exact set_at (by assumption) | with_unfolding_all rfl) (by omega) (by first | omega | (rw [List.length_set]; omega)) fun _ _ => ?_ | refine ws_p (by assumption) (by first | assumption | exact set_at (by assumption) | with_unfolding_all rfl) (by omega) (by first | omega | (rw [List.length_set]; omega)) fun _ _ => ?_ | refine r_add_lst (by first | (with_unfolding_all rfl) | exact lstM_p (by assumption) (by first | assumption | exact set_at (by assumption) | with_unfolding_all rfl)) (by first | (with_unfolding_all rfl) | exact lstM_p (by assumption) (by first | assumption | exact set_at (by assumption) | with_unfolding_all rfl)) (by first | omega | (simp only [List.length_append, List.length_take, List.length_drop, List.length_cons, List.length_nil]; omega)) ?_ | refine r_tuple (by first | (with_unfolding_all rfl) | exact lst_p (by assumption) (by first | assumption | exact set_at (by assumption) | with_unfolding_all rfl)) ?_ | refine r_slice01 (slice_to (by first | (with_unfolding_all rfl) | exact lst_p (by assumption) (by first | assumption | exact set_at (by assumption) | with_unfolding_all rfl)) (by with_unfolding_all rfl) (by omega)) ?_ | refine r_slice10 (slice_from (by first | (with_unfolding_all rfl) | exact lst_p (by assumption) (by first | assumption | exact set_at (by assumption) | with_unfolding_all rfl)) (by with_unfolding_all rfl) (by omega)) ?_)
local macro_rules | `(tactic| walk_at "P") => `(tactic| repeat first | walk_at "p" | walk_at "d" | walk_at "s")
local macro_rules | `(tactic| walk_at "PA") => `(tactic| repeat first | walk_at "p" | walk_at "d" | walk_at "s0")
def bagB : Stms := (
  .cons (.asg (.tup (.cons (.n 1) (.cons (.n 2) .nil))) (.tup (.cons (.prim .mul (.cons (.prim .mul (.cons (.prim .mul (.cons (.prim .mul (.cons (.prim .pow (.cons (.c (.int 10)) (.cons (.c (.int 60)) .nil))) (.cons (.prim .pow (.cons (.c (.int 10)) (.cons (.c (.int 60)) .nil))) .nil))) (.cons (.prim .pow (.cons (.c (.int 10)) (.cons (.c (.int 60)) .nil))) .nil))) (.cons (.prim .pow (.cons (.c (.int 10)) (.cons (.c (.int 60)) .nil))) .nil))) (.cons (.prim .pow (.cons (.c (.int 10)) (.cons (.c (.int 60)) .nil))) .nil))) (.cons (.c (.int 271828183)) .nil)))) <|
  .cons (.for (.n 3) (.seq (.prim (.slice false true) (.cons (.v 0) (.cons (.c (.int 60)) .nil)))) (
    .cons (.asg (.n 2) (.prim .mod (.cons (.prim .pow (.cons (.prim .add (.cons (.prim .add (.cons (.prim .mul (.cons (.v 2) (.cons (.c (.int 3)) .nil))) (.cons (.prim .mod (.cons (.v 3) (.cons (.c (.int 2305843009213693951)) .nil))) .nil))) (.cons (.c (.int 104729)) .nil))) (.cons (.c (.int 3)) .nil))) (.cons (.c (.int 2305843009213693951)) .nil)))) <| .nil)) <|
  .cons (.ret (.lst (.cons (.c (.int 0)) (.cons (.c (.int 0)) (.cons (.c (.int 0)) (.cons (.v 2) (.cons (.lc (.prim .mod (.cons (.prim .abs (.cons (.v 3) .nil)) (.cons (.v 1) .nil))) (.n 3) (.seq (.prim (.slice false true) (.cons (.v 0) (.cons (.c (.int 60)) .nil)))) .nil [3]) .nil))))))) <| .nil)
def drawB : Stms := (
  .cons (.asg (.sub (.v 0) (.c (.int 2))) (.prim .add (.cons (.prim .item (.cons (.v 0) (.cons (.c (.int 2)) .nil))) (.cons (.c (.int 1)) .nil)))) <|
  .cons (.ite (.and (.cons (.prim .eq (.cons (.prim .item (.cons (.v 0) (.cons (.c (.int 0)) .nil))) (.cons (.c (.int 0)) .nil))) (.cons (.prim .lt (.cons (.prim .item (.cons (.v 0) (.cons (.c (.int 1)) .nil))) (.cons (.prim .len (.cons (.prim .item (.cons (.v 0) (.cons (.c (.int 4)) .nil))) .nil)) .nil))) .nil))) (
    .cons (.asg (.n 2) (.prim .item (.cons (.prim .item (.cons (.v 0) (.cons (.c (.int 4)) .nil))) (.cons (.prim .item (.cons (.v 0) (.cons (.c (.int 1)) .nil))) .nil)))) <|
    .cons (.asg (.sub (.v 0) (.c (.int 1))) (.prim .add (.cons (.prim .item (.cons (.v 0) (.cons (.c (.int 1)) .nil))) (.cons (.c (.int 1)) .nil)))) <|
    .cons (.asg (.sub (.v 0) (.c (.int 3))) (.prim .mod (.cons (.prim .pow (.cons (.prim .add (.cons (.prim .add (.cons (.prim .mul (.cons (.prim .item (.cons (.v 0) (.cons (.c (.int 3)) .nil))) (.cons (.c (.int 7)) .nil))) (.cons (.prim .mod (.cons (.v 2) (.cons (.c (.int 2305843009213693921)) .nil))) .nil))) (.cons (.c (.int 65537)) .nil))) (.cons (.c (.int 3)) .nil))) (.cons (.c (.int 2305843009213693951)) .nil)))) <|
    .cons (.asg (.sub (.v 0) (.c (.int 0))) (.ite (.prim .ge (.cons (.v 2) (.cons (.prim .pow (.cons (.c (.int 10)) (.cons (.c (.int 18)) .nil))) .nil))) (.v 2) (.c (.int 0)))) <| .nil) .nil) <|
  .cons (.ite (.prim .gt (.cons (.prim .item (.cons (.v 0) (.cons (.c (.int 0)) .nil))) (.cons (.c (.int 0)) .nil))) (
    .cons (.asg (.n 3) (.prim .mod (.cons (.prim .item (.cons (.v 0) (.cons (.c (.int 0)) .nil))) (.cons (.v 1) .nil)))) <|
    .cons (.asg (.sub (.v 0) (.c (.int 0))) (.prim .fdiv (.cons (.prim .item (.cons (.v 0) (.cons (.c (.int 0)) .nil))) (.cons (.v 1) .nil)))) <|
    .cons (.ret (.v 3)) <| .nil) .nil) <|
  .cons (.asg (.n 4) (.prim .mod (.cons (.prim .pow (.cons (.prim .add (.cons (.prim .item (.cons (.v 0) (.cons (.c (.int 3)) .nil))) (.cons (.prim .mul (.cons (.c (.int 67867967)) (.cons (.prim .item (.cons (.v 0) (.cons (.c (.int 2)) .nil))) .nil))) .nil))) (.cons (.c (.int 3)) .nil))) (.cons (.c (.int 2305843009213693907)) .nil)))) <|
  .cons (.asg (.n 5) (.prim .mod (.cons (.prim .mul (.cons (.prim .add (.cons (.v 4) (.cons (.prim .mul (.cons (.c (.int 86028121)) (.cons (.prim .item (.cons (.v 0) (.cons (.c (.int 2)) .nil))) .nil))) .nil))) (.cons (.prim .add (.cons (.prim .mod (.cons (.v 4) (.cons (.c (.int 122949823)) .nil))) (.cons (.c (.int 2)) .nil))) .nil))) (.cons (.c (.int 4611686018427387847)) .nil)))) <|
  .cons (.ret (.prim .mod (.cons (.prim .add (.cons (.prim .fdiv (.cons (.v 5) (.cons (.c (.int 1009)) .nil))) (.cons (.prim .fdiv (.cons (.v 5) (.cons (.c (.int 10007)) .nil))) .nil))) (.cons (.v 1) .nil)))) <| .nil)
def anyB (dr : Nat) : Stms := (
  .cons (.ret (.prim .item (.cons (.v 1) (.cons (.call dr (.cons (.v 0) (.cons (.prim .len (.cons (.v 1) .nil)) .nil))) .nil)))) <| .nil)
def bagS (cells : List Int) (left next cnt seed : Int) (R : Store) : Store := .lst (cells.map .int) :: .lst [.int left, .int next, .int cnt, .int seed, .ref 0] :: R
/-- the bag in front of R, at most n draws made -/
def Bag (n : Nat) (R S : Store) : Prop := ∃ cells left next cnt seed, (∀ x ∈ cells, 0 ≤ x) ∧ 0 ≤ left ∧ 0 ≤ next ∧ 0 ≤ cnt ∧ cnt ≤ (n : Int) ∧ 0 ≤ seed ∧ seed < 2305843009213693951 ∧ S = bagS cells left next cnt seed R
theorem Bag.len {n : Nat} {R S : Store} (h : Bag n R S) : S.length = R.length + 2 := by
  obtain ⟨_, _, _, _, _, _, _, _, _, _, _, _, rfl⟩ := h
  rfl
theorem Bag.mono {n m : Nat} {R S : Store} (h : Bag n R S) (hm : n ≤ m) : Bag m R S := by
  obtain ⟨cells, left, next, cnt, seed, h1, h2, h3, h4, h5, h6, h7, rfl⟩ := h
  exact ⟨cells, left, next, cnt, seed, h1, h2, h3, h4, by omega, h6, h7, rfl⟩
theorem Bag.put {n : Nat} {R S J : Store} (h : Bag n R S) : Bag n (R ++ J) (S ++ J) := by
  obtain ⟨cells, left, next, cnt, seed, h1, h2, h3, h4, h5, h6, h7, rfl⟩ := h
  exact ⟨cells, left, next, cnt, seed, h1, h2, h3, h4, h5, h6, h7, rfl⟩
theorem Bag.at {n i : Nat} {R S : Store} (h : Bag n R S) : S[i + 2]? = R[i]? := by
  obtain ⟨cells, left, next, cnt, seed, h1, h2, h3, h4, h5, h6, h7, rfl⟩ := h
  rfl
theorem Bag.set {n i : Nat} {R S : Store} {o : O} (h : Bag n R S) : Bag n (R.set i o) (S.set (i + 2) o) := by
  obtain ⟨cells, left, next, cnt, seed, h1, h2, h3, h4, h5, h6, h7, rfl⟩ := h
  exact ⟨cells, left, next, cnt, seed, h1, h2, h3, h4, h5, h6, h7, rfl⟩
theorem closeds_ints (n : Nat) : ∀ ns : List Int, closeds n (ns.map .int) = true
  | [] => rfl
  | x :: xs => by show (closed n (.int x) && closeds n (xs.map .int)) = true; rw [closeds_ints n xs]; rfl
/-- a def that leaves the bag changed and new things behind R -/
theorem Bag.gc {n m : Nat} {R S S' J : Store} {x : D} (h : Bag n R S) (h' : Bag m (R ++ J) S') (hx : closed S.length x = true) : ∃ S'', gc S S' x = (x, S'') ∧ Bag m R S'' := by
  obtain ⟨cells, left, next, cnt, seed, h1, h2, h3, h4, h5, h6, h7, rfl⟩ := h
  obtain ⟨cells', left', next', cnt', seed', k1, k2, k3, k4, k5, k6, k7, rfl⟩ := h'
  refine ⟨bagS cells' left' next' cnt' seed' R, gc_drop (S' := bagS cells' left' next' cnt' seed' R) (J := J) rfl (fun hc o ho => ?_) hx, ⟨cells', left', next', cnt', seed', k1, k2, k3, k4, k5, k6, k7, rfl⟩⟩
  rcases List.mem_cons.mp ho with rfl | ho
  · exact closeds_ints _ _
  · rcases List.mem_cons.mp ho with rfl | ho
    · show closeds _ _ = true
      simp [closeds, closed, bagS]
    · exact hc o (List.mem_cons_of_mem _ (List.mem_cons_of_mem _ ho))
variable {gl : List (Str × D)} {rows : List Row}
theorem draw_ok {i : Nat} {r : Row} (hr : rows[i]? = some r) (hd : r.df = ⟨2, 6, drawB⟩) (k n : Nat) (many : Int) (R S : Store) (p : Bag n R S) (h : 0 < many) (h2 : many < 18446744073709551616) (hn : n ≤ 1000000000) : ∃ (v : Int) (S' : Store), 0 ≤ v ∧ v < many ∧ Bag (n + 1) R S' ∧ calls gl rows (k + 1) i [.ref 1, .int many] S = some (.int v, S') := by
  have w : Wxs (gl.map (·.2)) (calls gl rows k) drawB [some (.ref 1), some (.int many), none, none, none, none] S fun o S' => ∃ v : Int, 0 ≤ v ∧ v < many ∧ o = .rt (.int v) ∧ Bag (n + 1) R S' := by
    obtain ⟨cells, left, next, cnt, seed, h1, h2', h3, h4, h5, h6, h7, rfl⟩ := p
    unfold drawB
    walk_at "A"
    refine Wx.mono (Q := fun o S => ∃ u left next seed, o = .nx [some (.ref 1), some (.int many), u, none, none, none] ∧ 0 ≤ left ∧ 0 ≤ next ∧ 0 ≤ seed ∧ seed < 2305843009213693951 ∧ S = bagS cells left next (cnt + 1) seed R) ?_ ?_
    · walk_at "S"
      refine wc_dec (fun hx => ?_) fun hx => ?_
      · walk_at "S"
        have hlen : (cells.map D.int).length = cells.length := List.length_map ..
        refine wc_dec (fun hy => ?_) fun hy => ?_
        · rw [hlen] at hy
          have hlt : next.toNat < cells.length := by omega
          have hget : (cells.map D.int)[next.toNat]? = some (.int cells[next.toNat]) := by rw [List.getElem?_map, List.getElem?_eq_getElem hlt]; rfl
          have hc0 : 0 ≤ cells[next.toNat] := h1 _ (List.getElem_mem hlt)
          walk_at "S"
          refine r_item_ref (by with_unfolding_all rfl) h3 hget ?_
          generalize cells[next.toNat] = c at *
          walk_at "S"
          have q0 := Int.emod_nonneg c (show (2305843009213693921 : Int) ≠ 0 by decide)
          have q1 := Int.emod_lt_of_pos c (show (0 : Int) < 2305843009213693921 by decide)
          generalize c % 2305843009213693921 = z at *
          walk_at "S"
          refine wc_dec (fun hz => ?_) fun hz => ?_
          · walk_at "S"
            exact ⟨_, c, next + 1, _, rfl, hc0, by omega, Int.emod_nonneg _ (by decide), Int.emod_lt_of_pos _ (by decide), rfl⟩
          · walk_at "S"
            exact ⟨_, 0, next + 1, _, rfl, by decide, by omega, Int.emod_nonneg _ (by decide), Int.emod_lt_of_pos _ (by decide), rfl⟩
        · walk_at "S"
          exact ⟨_, left, next, seed, rfl, h2', h3, h6, h7, rfl⟩
      · walk_at "S"
        exact ⟨_, left, next, seed, rfl, h2', h3, h6, h7, rfl⟩
    · rintro o S ⟨u, left, next, seed, rfl, g2, g3, g6, g7, rfl⟩
      walk_at "S"
      refine wc_dec (fun hx => ?_) fun hx => ?_
      · walk_at "S"
        exact ⟨_, Int.emod_nonneg _ (by omega), Int.emod_lt_of_pos _ h, rfl, cells, left / many, next, cnt + 1, seed, h1, Int.ediv_nonneg g2 (by omega), g3, by omega, by omega, g6, g7, rfl⟩
      · walk_at "S"
        have q0 := Int.emod_nonneg ((seed + 67867967 * (cnt + 1)) ^ (3 : Int).toNat) (show (2305843009213693907 : Int) ≠ 0 by decide)
        have q1 := Int.emod_lt_of_pos ((seed + 67867967 * (cnt + 1)) ^ (3 : Int).toNat) (show (0 : Int) < 2305843009213693907 by decide)
        generalize (seed + 67867967 * (cnt + 1)) ^ (3 : Int).toNat % 2305843009213693907 = w1 at *
        walk_at "S"
        have e0 := Int.emod_nonneg w1 (show (122949823 : Int) ≠ 0 by decide)
        have e1 := Int.emod_lt_of_pos w1 (show (0 : Int) < 122949823 by decide)
        generalize w1 % 122949823 = w2 at *
        walk_at "S"
        exact ⟨_, Int.emod_nonneg _ (by omega), Int.emod_lt_of_pos _ h, rfl, cells, left, next, cnt + 1, seed, h1, g2, g3, by omega, by omega, g6, g7, rfl⟩
  obtain ⟨o, S', e, v, h1, h2, rfl, h3⟩ := w.h
  exact ⟨v, S', h1, h2, h3, (call_rt hr (by rw [hd]; rfl) (by rw [hd]; exact e)).trans (congrArg some (gc_same (by rw [h3.len, p.len])))⟩
theorem bag_ok {i : Nat} {r : Row} (hr : rows[i]? = some r) (hd : r.df = ⟨1, 4, bagB⟩) (k : Nat) (ns : List Int) (hl : ns.length ≤ 63) : ∃ S, calls gl rows (k + 1) i [.rol (ns.map .int)] [] = some (.ref 1, S) ∧ Bag 0 [] S := by
  have w : Wxs (gl.map (·.2)) (calls gl rows k) bagB [some (.rol (ns.map .int)), none, none, none] [] fun o S' => o = .rt (.ref 1) ∧ Bag 0 [] S' := by
    unfold bagB
    walk_at "S"
    refine r_mul_big (by decide +kernel) ?_
    walk_at "S"
    refine r_mul_big (by decide +kernel) ?_
    walk_at "S"
    refine r_mul_big (by decide +kernel) ?_
    walk_at "S"
    have htop : (0 : Int) < 1000000000000000000000000000000000000000000000000000000000000 * 1000000000000000000000000000000000000000000000000000000000000 * 1000000000000000000000000000000000000000000000000000000000000 * 1000000000000000000000000000000000000000000000000000000000000 * 1000000000000000000000000000000000000000000000000000000000000 := by decide +kernel
    generalize (1000000000000000000000000000000000000000000000000000000000000 : Int) * 1000000000000000000000000000000000000000000000000000000000000 * 1000000000000000000000000000000000000000000000000000000000000 * 1000000000000000000000000000000000000000000000000000000000000 * 1000000000000000000000000000000000000000000000000000000000000 = top at *
    refine wx_for (fun i ρ S => S = [] ∧ ∃ (seed : Int) (u : Option D), 0 ≤ seed ∧ seed < 2305843009213693951 ∧ ρ = [some (.rol (ns.map .int)), some (.int top), some (.int seed), u]) ?_
    walk_at "S"
    refine r_slice01 (slice_to rfl rfl (by decide)) ?_
    walk_at "S"
    refine ⟨⟨rfl, _, _, by decide, by decide, rfl⟩, fun i ρ S h => chk_nil, ?_, ?_⟩
    · rintro i d ρ S hi ⟨rfl, seed, u, s0, s1, rfl⟩
      obtain ⟨y, _, rfl⟩ : ∃ y, y ∈ ns ∧ D.int y = d := List.mem_map.mp (List.mem_of_mem_take (List.mem_of_getElem? hi))
      walk_at "S"
      have q0 := Int.emod_nonneg y (show (2305843009213693951 : Int) ≠ 0 by decide)
      have q1 := Int.emod_lt_of_pos y (show (0 : Int) < 2305843009213693951 by decide)
      generalize y % 2305843009213693951 = z at *
      walk_at "S"
      exact ⟨rfl, _, _, Int.emod_nonneg _ (by decide), Int.emod_lt_of_pos _ (by decide), rfl⟩
    · rintro ρ S ⟨rfl, seed, u, s0, s1, rfl⟩
      walk_at "S"
      refine r_slice01 (slice_to rfl rfl (by decide)) ?_
      walk_at "S"
      refine wlc_map D.int (ns.take 60) (fun _ => true) (fun y => .int ((if y < 0 then -y else y) % top)) (List.map_take ..).symm chk_nil (by rw [List.length_take]; omega) ?_ ?_
      · intro y _
        walk_at "S"
        refine ⟨rfl, rfl, rfl, fun _ => ?_⟩
        walk_at "S"
        exact ⟨rfl, rfl⟩
      · walk_at "S"
        refine ⟨rfl, ((ns.take 60).filter fun _ => true).map (fun y => (if y < 0 then -y else y) % top), 0, 0, 0, seed, ?_, by decide, by decide, by decide, by decide, s0, s1, ?_⟩
        · intro x hx
          obtain ⟨y, _, rfl⟩ := List.mem_map.mp hx
          exact Int.emod_nonneg _ (by omega)
        · unfold bagS
          rw [List.map_map]
          rfl
  obtain ⟨o, S, e, rfl, h⟩ := w.h
  exact ⟨S, (call_rt hr (by rw [hd]; rfl) (by rw [hd]; exact e)).trans (congrArg some (gc_keep rfl)), h⟩
end F

/-! Things of any kind, and a bag in front of more. -/
namespace F
open PySem PyProof.Rows L2
mutual
/-- a value that may be looked at: refs below n, short texts, no list or tuple of the top -/
def okv (n : Nat) : D → Bool
  | .tup ds => okvs n ds
  | .ktup _ => false
  | .rol _ => false
  | .ref k => decide (k < n)
  | .str z => decide (z.length ≤ 1000)
  | _ => true
def okvs (n : Nat) : List D → Bool
  | [] => true
  | d :: ds => okv n d && okvs n ds
end
theorem okvs_all {n : Nat} : ∀ (ds : List D), okvs n ds = true ↔ ∀ d ∈ ds, okv n d = true
  | [] => ⟨fun _ d h => (nomatch h), fun _ => by unfold okvs; rfl⟩
  | d :: ds => by
    unfold okvs
    rw [Bool.and_eq_true, okvs_all ds]
    refine ⟨fun ⟨h1, h2⟩ e he => ?_, fun h => ⟨h d List.mem_cons_self, fun e he => h e (List.mem_cons_of_mem _ he)⟩⟩
    rcases List.mem_cons.mp he with rfl | he
    · exact h1
    · exact h2 e he
mutual
theorem okv_mono {n m : Nat} (hm : n ≤ m) : ∀ (d : D), okv n d = true → okv m d = true
  | .tup ds, h => by unfold okv at *; exact okvs_mono hm ds h
  | .ktup _, h => by unfold okv at h; cases h
  | .rol _, h => by unfold okv at h; cases h
  | .ref k, h => by unfold okv at *; have := of_decide_eq_true h; exact decide_eq_true (by omega)
  | .str z, h => by unfold okv at *; exact h
  | .non, _ => by unfold okv; rfl
  | .bl _, _ => by unfold okv; rfl
  | .int _, _ => by unfold okv; rfl
theorem okvs_mono {n m : Nat} (hm : n ≤ m) : ∀ (ds : List D), okvs n ds = true → okvs m ds = true
  | [], _ => by unfold okvs; rfl
  | d :: ds, h => by
    unfold okvs at *
    rw [Bool.and_eq_true] at *
    exact ⟨okv_mono hm d h.1, okvs_mono hm ds h.2⟩
end
mutual
theorem okv_cut {n m : Nat} : ∀ (d : D), okv n d = true → closed m d = true → okv m d = true
  | .tup ds, h, k => by unfold okv at *; unfold closed at k; exact okvs_cut ds h k
  | .ktup _, h, _ => by unfold okv at h; cases h
  | .rol _, h, _ => by unfold okv at h; cases h
  | .ref j, h, k => by unfold closed at k; unfold okv; exact k
  | .str z, h, _ => by unfold okv at *; exact h
  | .non, _, _ => by unfold okv; rfl
  | .bl _, _, _ => by unfold okv; rfl
  | .int _, _, _ => by unfold okv; rfl
theorem okvs_cut {n m : Nat} : ∀ (ds : List D), okvs n ds = true → closeds m ds = true → okvs m ds = true
  | [], _, _ => by unfold okvs; rfl
  | d :: ds, h, k => by
    unfold okvs at *
    unfold closeds at k
    rw [Bool.and_eq_true] at *
    exact ⟨okv_cut d h.1 k.1, okvs_cut ds h.2 k.2⟩
end
/-- a thing told by a def: the bag, more behind R -/
theorem Bag.gcv {n m : Nat} {R S S' J : Store} {x : D} (h : Bag n R S) (h' : Bag m (R ++ J) S') (hx : okv S'.length x = true) : ∃ J' S'', F.gc S S' x = (x, S'') ∧ Bag m (R ++ J') S'' ∧ okv S''.length x = true := by
  unfold F.gc
  split
  · rename_i g
    obtain ⟨cells, left, next, cnt, seed, h1, h2, h3, h4, h5, h6, h7, rfl⟩ := h
    obtain ⟨cells', left', next', cnt', seed', k1, k2, k3, k4, k5, k6, k7, rfl⟩ := h'
    have e : (bagS cells' left' next' cnt' seed' (R ++ J)).take (bagS cells left next cnt seed R).length = bagS cells' left' next' cnt' seed' R := List.take_left (l₁ := bagS cells' left' next' cnt' seed' R)
    refine ⟨[], _, rfl, ?_, ?_⟩
    · rw [e, List.append_nil]
      exact ⟨cells', left', next', cnt', seed', k1, k2, k3, k4, k5, k6, k7, rfl⟩
    · rw [e]
      exact okv_cut x hx g.2.2
  · exact ⟨J, S', rfl, h', hx⟩
theorem okv_ref {n k : Nat} (h : okv n (.ref k) = true) : k < n := by unfold okv at h; exact of_decide_eq_true h
theorem okv_str {n : Nat} {z : Str} (h : okv n (.str z) = true) : z.length ≤ 1000 := by unfold okv at h; exact of_decide_eq_true h
theorem okv_tup {n : Nat} {ds : List D} (h : okv n (.tup ds) = true) : ∀ d ∈ ds, okv n d = true := by unfold okv at h; exact (okvs_all ds).mp h
section
variable {S : Store} {Q : T → Store → Prop} {a b : T} {i j : Int}
theorem r_inst_ref {ty : Ty} {k : Nat} (h : k < S.length) (hty : ty ≠ .list) (q : Q (.d (.bl false)) S) : Wp (.inst ty) [.d (.ref k)] S Q := by
  refine r_inst ?_ q
  obtain ⟨o, ho⟩ : ∃ o, S[k]? = some o := ⟨_, List.getElem?_eq_getElem h⟩
  unfold isTy
  cases ty with
  | list => exact absurd rfl hty
  | _ => dsimp only; rw [ho]
theorem r_add_lst {xs ys : List D} (h1 : lstM S a = some xs) (h2 : lstM S b = some ys) (hl : xs.length + ys.length ≤ 1000000) (q : Q (.tmp (xs ++ ys)) S) : Wp .add [a, b] S Q := by
  refine r_of (t := .tmp (xs ++ ys)) (S1 := S) ?_ q
  rw [run_add]
  have key : (match lstM S a, lstM S b with | some xs, some ys => if xs.length + ys.length ≤ sizeLine then some (T.tmp (xs ++ ys)) else none | _, _ => none) = some (T.tmp (xs ++ ys)) := by
    rw [h1, h2]
    dsimp only
    rw [if_pos (show xs.length + ys.length ≤ sizeLine by have : 1000000 < sizeLine := by decide
                                                         omega)]
  unfold addT
  split
  · cases h1
  · cases h1
  · cases h1
  · exact (congrArg (res · S) key).trans rfl
theorem lstM_ref {n : Nat} {ds : List D} (h : S[n]? = some (.lst ds)) : lstM S (.d (.ref n)) = some ds := by
  unfold lstM
  dsimp only
  rw [h]
theorem inL_strs (z : Str) (ys : List Str) : inL S (.str z) (ys.map .str) = some (ys.any fun y => decide (y = z)) := by
  unfold inL
  rw [pdL_strs]
  show some ((ys.map PyData.str).any fun q => PyData.eqv q (.str z)) = _
  rw [List.any_map]
  exact congrArg some (congrArg (List.any ys) (funext fun y => eqv_str y z))
end
/-! the store as the bag, R, J -/
section
variable {n : Nat} {R J S : Store} {Q : T → Store → Prop}
theorem bag_len (p : Bag n (R ++ J) S) : S.length = R.length + 2 + J.length := by rw [p.len, List.length_append]; omega
theorem bag_at (p : Bag n (R ++ J) S) (i : Nat) : S[R.length + 2 + i]? = J[i]? := by
  rw [show R.length + 2 + i = R.length + i + 2 by omega, p.at, List.getElem?_append_right (by omega), Nat.add_sub_cancel_left]
theorem wn_tmp_p {ds : List D} {Q : D → Store → Prop} (p : Bag n (R ++ J) S) (q : ∀ S', Bag n (R ++ (J ++ [.lst ds])) S' → Q (.ref (R.length + 2 + J.length)) S') : Wn (.tmp ds) S Q := by
  refine wn_tmp ?_
  rw [bag_len p]
  exact q _ (by rw [← List.append_assoc]; exact p.put)
theorem wd_dK_p {G : List D} {call : Call} {ρ : Env} (p : Bag n (R ++ J) S) (q : ∀ S', Bag n (R ++ (J ++ [.dK []])) S' → Q (.d (.ref (R.length + 2 + J.length))) S') : We G call .dK ρ S Q := by
  refine w_dK ?_
  rw [bag_len p]
  exact q _ (by rw [← List.append_assoc]; exact p.put)
theorem ws_p {i : Nat} {j : Int} {ds : List D} {x : D} {Q : Store → Prop} (p : Bag n (R ++ J) S) (h : J[i]? = some (.lst ds)) (h0 : 0 ≤ j) (hj : j.toNat < ds.length) (q : ∀ S', Bag n (R ++ J.set i (.lst (ds.set j.toNat x))) S' → Q S') : Ws S (.ref (R.length + 2 + i)) (.int j) x Q := by
  refine ws_lst ((bag_at p i).trans h) h0 hj (q _ ?_)
  have := p.set (i := R.length + i) (o := .lst (ds.set j.toNat x))
  rw [show R.length + i + 2 = R.length + 2 + i by omega, List.set_append_right _ _ (by omega), Nat.add_sub_cancel_left] at this
  exact this
theorem r_item_p {i : Nat} {j : Int} {ds : List D} (p : Bag n (R ++ J) S) (h : J[i]? = some (.lst ds)) (h0 : 0 ≤ j) (hj : j.toNat < ds.length) (q : ∀ x, x ∈ ds → Q (.d x) S) : Wp .item [.d (.ref (R.length + 2 + i)), .d (.int j)] S Q :=
  r_item_ref ((bag_at p i).trans h) h0 (List.getElem?_eq_getElem hj) (q _ (List.getElem_mem hj))
theorem lst_p {i : Nat} {ds : List D} (p : Bag n (R ++ J) S) (h : J[i]? = some (.lst ds)) : lstOf S (.d (.ref (R.length + 2 + i))) = some ds := lst_ref ((bag_at p i).trans h)
theorem lstM_p {i : Nat} {ds : List D} (p : Bag n (R ++ J) S) (h : J[i]? = some (.lst ds)) : lstM S (.d (.ref (R.length + 2 + i))) = some ds := lstM_ref ((bag_at p i).trans h)
theorem Bag.re (p : Bag n (R ++ J) S) : Bag n ((R ++ J) ++ []) S := by rw [List.append_nil]; exact p
theorem Bag.re0 (p : Bag n R S) : Bag n (R ++ []) S := by rw [List.append_nil]; exact p
variable {gl : List (Str × D)} {rows : List Row}
theorem any_ok {i dr : Nat} {r r' : Row} (hr : rows[i]? = some r) (hd : r.df = ⟨2, 2, anyB dr⟩) (hr' : rows[dr]? = some r') (hd' : r'.df = ⟨2, 6, drawB⟩) (k : Nat) {j : Nat} {ds : List D} (p : Bag n (R ++ J) S) (h : J[j]? = some (.lst ds)) (h0 : ds ≠ []) (h1 : ds.length ≤ 1000000) (hn : n ≤ 1000000000) : ∃ (x : D) (S' : Store), x ∈ ds ∧ Bag (n + 1) (R ++ J) S' ∧ calls gl rows (k + 2) i [.ref 1, .ref (R.length + 2 + j)] S = some (x, S') := by
  have hl : 0 < ds.length := List.length_pos_iff.mpr h0
  have w : Wxs (gl.map (·.2)) (calls gl rows (k + 1)) (anyB dr) [some (.ref 1), some (.ref (R.length + 2 + j))] S fun o S' => ∃ x, x ∈ ds ∧ o = .rt x ∧ Bag (n + 1) (R ++ J) S' := by
    unfold anyB
    refine wxs_cons (wx_ret (w_prim (wes_cons (w_v rfl (wes_cons (w_call (wds_cons (w_v rfl (wn_d (wds_cons (w_prim (wes_cons (w_v rfl (wes_nil (r_len_ref ((bag_at p j).trans h) (wn_d (wds_nil ?_)))))))))))))))))
    obtain ⟨v, S', h2, h3, p', e⟩ := draw_ok hr' hd' k n (ds.length : Int) (R ++ J) S p (by omega) (by omega) hn
    refine wk e (wes_nil ?_)
    refine r_item_p p' h h2 (by omega) fun x hx => ?_
    exact wn_d (wo_rt ⟨x, hx, rfl, p'⟩)
  obtain ⟨o, S', e, x, hx, rfl, h3⟩ := w.h
  exact ⟨x, S', hx, h3, (call_rt hr (by rw [hd]; rfl) (by rw [hd]; exact e)).trans (congrArg some (gc_same (by rw [h3.len, p.len])))⟩
end
theorem fold_size (x : Str) : ∀ (ys : List Str) (acc : Array Nat), (ys.foldl (fun acc p => acc ++ x.cps ++ p.cps) acc).size = acc.size + (ys.map fun y => y.length + x.length).sum
  | [], acc => by simp
  | y :: ys, acc => by
    rw [List.foldl_cons, fold_size x ys, Array.size_append, Array.size_append, List.map_cons, List.sum_cons]
    have h1 : y.length = y.cps.size := rfl
    have h2 : x.length = x.cps.size := rfl
    omega
theorem join_len {ys : List Str} {n : Nat} (h : ∀ y ∈ ys, y.length ≤ n) : (Txt.join ("" : Str) ys).length ≤ ys.length * n := by
  show ((ys.drop 1).foldl (fun acc p => acc ++ ("" : Str).cps ++ p.cps) (ys.headD Str.empty).cps).size ≤ _
  rw [fold_size]
  have h0 : ("" : Str).length = 0 := rfl
  have key : ∀ zs : List Str, (∀ y ∈ zs, y.length ≤ n) → (zs.map fun y => y.length + ("" : Str).length).sum ≤ zs.length * n := by
    intro zs
    induction zs with
    | nil => intro _; simp
    | cons z zs ih =>
      intro h
      have a1 := h z List.mem_cons_self
      have a2 := ih fun y hy => h y (List.mem_cons_of_mem _ hy)
      rw [List.map_cons, List.sum_cons, List.length_cons, Nat.succ_mul]
      omega
  cases ys with
  | nil => exact Nat.zero_le _
  | cons y ys =>
    have a1 := h y List.mem_cons_self
    have a2 := key ys fun z hz => h z (List.mem_cons_of_mem _ hz)
    show y.length + ((ys.map fun y => y.length + ("" : Str).length)).sum ≤ _
    rw [List.length_cons, Nat.succ_mul]
    omega
section
variable {S : Store} {Q : T → Store → Prop}
theorem r_join {x : Str} {b : T} {ys : List Str} (h : seqOf S b = some (ys.map .str)) (hs : (ys.map (·.length)).sum + ys.length * x.length ≤ 16777216) (q : Q (.d (.str (Txt.join x ys))) S) : Wp .join [.d (.str x), b] S Q := by
  refine r_of (t := .d (.str (Txt.join x ys))) (S1 := S) ?_ q
  rw [run_join]
  unfold joinT
  dsimp only
  rw [h]
  dsimp only
  rw [strsOf_map]
  dsimp only
  rw [if_pos hs]
  rfl
theorem r_item_str {z : Str} {i : Int} (hz : z.length ≤ 1000) (h0 : 0 ≤ i) (h1 : i < z.length) (q : ∀ c, c ∈ z.cps.toList → Q (.d (.str ⟨#[c]⟩)) S) : Wp .item [.d (.str z), .d (.int i)] S Q := by
  have h1' : i < z.cps.toList.length := h1
  obtain ⟨c, hc, _, e⟩ := atI_ok h0 h1'
  refine r_of (t := .d (.str ⟨#[c]⟩)) (S1 := S) ?_ (q c hc)
  rw [run_item]
  show res (match (if z.length ≤ sizeLine then (atI z.cps.toList i).map fun c => D.str ⟨#[c]⟩ else none) with | some x => some (T.d x) | none => none) S = _
  rw [if_pos (show z.length ≤ sizeLine by have : 1000 < sizeLine := by decide
                                          omega), e]
  rfl
theorem sum_le {n : Nat} : ∀ {ns : List Nat}, (∀ x ∈ ns, x ≤ n) → ns.sum ≤ ns.length * n
  | [], _ => by simp
  | x :: xs, h => by
    have a1 := h x List.mem_cons_self
    have a2 := sum_le fun y hy => h y (List.mem_cons_of_mem _ hy)
    rw [List.sum_cons, List.length_cons, Nat.succ_mul]
    omega
end
section
variable {G : List D} {call : Call} {ρ : Env} {S : Store} {n : Nat} {R J : Store}
theorem wx_cut {s : Stm} {Q : Out → Store → Prop} (P : Store → Prop) (h : Wx G call s ρ S fun o S' => o = .nx ρ ∧ P S') (k : ∀ S', P S' → Q (.nx ρ) S') : Wx G call s ρ S Q := h.mono fun o S' ⟨e, q⟩ => by rw [e]; exact k S' q
theorem r_mul_str {x : Str} {j : Int} {Q : T → Store → Prop} (h0 : 0 ≤ j) (h1 : j ≤ 10000) (hx : x.length ≤ 1000) (q : Q (.d (.str (Txt.mul x j))) S) : Wp .mul [.d (.str x), .d (.int j)] S Q :=
  r_of (by rw [run_mul]; show res (if 0 ≤ j ∧ j ≤ 10000 ∧ x.length ≤ 1000 then some (T.d (.str (Txt.mul x j))) else none) S = _; rw [if_pos ⟨h0, h1, hx⟩]; rfl) q
theorem r_mul_tup {ds : List D} {j : Int} {Q : T → Store → Prop} (he : ds.isEmpty = false) (h0 : 2 ≤ j) (h1 : j ≤ 1000) (hx : ds.length ≤ 1000) (q : Q (.d (.tup (List.replicate j.toNat ds).flatten)) S) : Wp .mul [.d (.tup ds), .d (.int j)] S Q :=
  r_of (by rw [run_mul]; show res (if ds.isEmpty = false ∧ 2 ≤ j ∧ j ≤ 1000 ∧ ds.length ≤ 1000 then some (T.d (.tup (List.replicate j.toNat ds).flatten)) else none) S = _; rw [if_pos ⟨he, h0, h1, hx⟩]; rfl) q
theorem set_at {α : Type} {J : List α} {i : Nat} {a b : α} (h : J[i]? = some a) : (J.set i b)[i]? = some b := by
  have := (List.getElem?_eq_some_iff.mp h).1
  rw [List.getElem?_set_self this]
theorem mem_set {α : Type} {ds : List α} {i : Nat} {x : α} {P : α → Prop} (h : ∀ d ∈ ds, P d) (hx : P x) : ∀ d ∈ ds.set i x, P d := fun d hd => by
  rcases List.mem_or_eq_of_mem_set hd with h1 | h1
  · exact h d h1
  · rw [h1]; exact hx
theorem okv_of_tup {n : Nat} {ds : List D} (h : ∀ d ∈ ds, okv n d = true) : okv n (.tup ds) = true := by unfold okv; exact (okvs_all ds).mpr h
end
end F

/-! Names and hills, drawn. -/
namespace F
open PySem PyProof.Rows L2
local macro_rules | `(tactic| walk_at "s0") => `(tactic| with_reducible first
  | refine w_c ?_ | refine w_v (by with_unfolding_all rfl) ?_ | refine w_prim ?_ | refine wes_cons ?_ | refine wes_nil ?_ | refine wds_cons ?_ | refine wds_nil ?_ | refine wn_d ?_ | refine wn_tmp ?_
  | refine w_meth ?_ | refine w_tup ?_ | refine w_lst ?_ | refine w_and ?_ | refine w_or ?_ | refine wb_and ?_ | refine wb_or ?_ | refine wb_one ?_ | refine w_not ?_ | refine w_ite ?_ | refine w_call ?_
  | refine w_chain rfl rfl ?_ | refine w_lc ?_ | refine w_g (by with_unfolding_all rfl) ?_ | refine w_dK ?_
  | refine wxs_cons ?_ | refine wxs_nil ?_ | refine wo_nx ?_ | refine wo_rt ?_ | refine wo_bk ?_ | refine wo_ct ?_ | refine wx_asg ?_ | refine wx_par ?_ | refine wx_expr ?_ | refine wx_ret ?_ | refine wx_retN ?_ | refine wx_pass ?_ | refine wx_brk ?_ | refine wx_cont ?_
  | refine wa_n (Nat.le_of_ble_eq_true (by with_unfolding_all rfl)) ?_ | refine wa_tup ?_ | refine wa_sub ?_ | refine was_cons ?_ | refine was_nil ?_ | refine wf_nil ?_ | refine wf_one ?_
  | refine wi_seq ?_ | refine wi_range1 ?_ | refine wi_range2 ?_ | refine wi_zip ?_ | refine wi_enum ?_
  | refine wl (Nat.le_of_ble_eq_true (by with_unfolding_all rfl)) ?_ | refine wv (by with_unfolding_all rfl) ?_ | refine ws_lst (by with_unfolding_all rfl) (by first | decide | omega) (Nat.le_of_ble_eq_true (by with_unfolding_all rfl)) ?_ | refine wpar (by with_unfolding_all rfl) ?_ | refine wit (by with_unfolding_all rfl) ?_ | refine wen (by with_unfolding_all rfl) ?_ | refine wint (by omega) ?_
  | refine wc_t ?_ | refine wc_f ?_
  | refine r_add ?_ | refine r_sub ?_ | refine r_neg ?_ | refine r_lt ?_ | refine r_le ?_ | refine r_gt ?_ | refine r_ge ?_ | refine r_abs ?_ | refine r_min ?_ | refine r_max ?_ | refine r_isN ?_ | refine r_isB ?_
  | refine r_ne_nil (by with_unfolding_all rfl) (pdL_ints _) ?_ | refine r_eq_nil (by with_unfolding_all rfl) (pdL_ints _) ?_ | refine r_popAt (by with_unfolding_all rfl) ?_
  | refine r_eq_tt ?_ | refine r_eq_ff ?_ | refine r_eq_tf ?_ | refine r_eq_ft ?_
  | refine r_eq_int ?_ | refine r_ne_int ?_ | refine r_eq_bl ?_ | refine r_ne_bl ?_
  | refine r_pow18 ?_ | refine r_pow30 ?_ | refine r_pow48 ?_ | refine r_pow60 ?_ | refine r_pow900 ?_ | refine r_mod big900_pos ?_
  | refine r_mod (by first | decide | omega) ?_ | refine r_fdiv (by first | decide | omega) (by first | decide | omega) ?_ | refine r_mul (by first | decide | omega) (by first | decide | omega) ?_ | refine r_pow (by first | decide | omega) (by first | decide | omega) (by first | decide | omega) ?_
  | refine r_item_ref (by with_unfolding_all rfl) (by first | decide | omega) (by with_unfolding_all rfl) ?_ | refine r_item_tmp (by first | decide | omega) (by with_unfolding_all rfl) ?_ | refine r_item_tup (by first | decide | omega) (by with_unfolding_all rfl) ?_
  | refine r_item_rol (by first | decide | omega) (by with_unfolding_all rfl) ?_ | refine r_len_tmp ?_ | refine r_len_tup ?_ | refine r_len_rol ?_ | refine r_len_ref (by with_unfolding_all rfl) ?_
  | refine r_inst (by with_unfolding_all rfl) ?_)
local macro_rules | `(tactic| walk_at "s") => `(tactic| first | walk_at "s0" | with_reducible refine wx_ite ?_)
local macro_rules | `(tactic| walk_at "A") => `(tactic| repeat walk_at "s0")
local macro_rules | `(tactic| walk_at "S") => `(tactic| repeat walk_at "s")
local macro_rules | `(tactic| walk_at "c") => `(tactic| first | refine wc_dt (by first | decide | omega) ?_ | refine wc_df (by first | decide | omega) ?_)
local macro_rules | `(tactic| walk_at "C") => `(tactic| repeat first | walk_at "s" | walk_at "c")
local macro_rules | `(tactic| walk_at "p") => `(tactic| with_reducible first | refine wn_tmp_p (by assumption) fun _ _ => ?_ | refine wd_dK_p (by assumption) fun _ _ => ?_ | refine r_item_p (by assumption) (by first | assumption | exact set_at (by assumption) | with_unfolding_all rfl) (by omega) (by first | omega | (rw [List.length_set]; omega)) fun _ _ => ?_ | refine ws_p (by assumption) (by first | assumption | exact set_at (by assumption) | with_unfolding_all rfl) (by omega) (by first | omega | (rw [List.length_set]; omega)) fun _ _ => ?_ | refine r_add_lst (by first | (with_unfolding_all rfl) | exact lstM_p (by assumption) (by first | assumption | exact set_at (by assumption) | with_unfolding_all rfl)) (by first | (with_unfolding_all rfl) | exact lstM_p (by assumption) (by first | assumption | exact set_at (by assumption) | with_unfolding_all rfl)) (by first | omega | (simp only [List.length_append, List.length_take, List.length_drop, List.length_cons, List.length_nil]; omega)) ?_ | refine r_tuple (by first | (with_unfolding_all rfl) | exact lst_p (by assumption) (by first | assumption | exact set_at (by assumption) | with_unfolding_all rfl)) ?_ | refine r_slice01 (slice_to (by first | (with_unfolding_all rfl) | exact lst_p (by assumption) (by first | assumption | exact set_at (by assumption) | with_unfolding_all rfl)) (by with_unfolding_all rfl) (by omega)) ?_ | refine r_slice10 (slice_from (by first | (with_unfolding_all rfl) | exact lst_p (by assumption) (by first | assumption | exact set_at (by assumption) | with_unfolding_all rfl)) (by with_unfolding_all rfl) (by omega)) ?_)
local macro_rules | `(tactic| walk_at "P") => `(tactic| repeat first | walk_at "p" | walk_at "d" | walk_at "s")
local macro_rules | `(tactic| walk_at "PA") => `(tactic| repeat first | walk_at "p" | walk_at "d" | walk_at "s0")
def labelB (dr : Nat) : Stms := (
  .cons (.asg (.n 1) (.prim .item (.cons (.lst (.cons (.c (.int 2)) (.cons (.c (.int 1)) (.cons (.c (.int 3)) (.cons (.c (.int 8)) (.cons (.c (.int 4)) (.cons (.c (.int 1)) (.cons (.c (.int 5)) (.cons (.c (.int 2)) .nil))))))))) (.cons (.call dr (.cons (.v 0) (.cons (.c (.int 8)) .nil))) .nil)))) <|
  .cons (.ret (.meth .join (.c (.str "")) (.cons (.lc (.prim .item (.cons (.c (.str "abcdefghijklmnopqrstuvwxyz")) (.cons (.call dr (.cons (.v 0) (.cons (.c (.int 26)) .nil))) .nil))) (.n 2) (.range1 (.v 1)) .nil [2]) .nil))) <| .nil)
def labelsB (dr la : Nat) : Stms := (
  .cons (.par [2, 3] (.cons (.c (.str "abcdefghijklmnopqrstuvwxyz")) (.cons (.lst .nil) .nil))) <|
  .cons (.asg (.n 4) (.ite (.prim .eq (.cons (.call dr (.cons (.v 0) (.cons (.c (.int 2)) .nil))) (.cons (.c (.int 0)) .nil))) (.prim (.slice false true) (.cons (.call la (.cons (.v 0) .nil)) (.cons (.c (.int 5)) .nil))) (.c (.str "")))) <|
  .cons (.for (.n 5) (.range1 (.v 1)) (
    .cons (.asg (.n 6) (.prim (.slice false true) (.cons (.prim .add (.cons (.v 4) (.cons (.call la (.cons (.v 0) .nil)) .nil))) (.cons (.c (.int 8)) .nil)))) <|
    .cons (.for (.n 7) (.range1 (.c (.int 26))) (
      .cons (.ite (.prim (.isin false) (.cons (.v 6) (.cons (.v 3) .nil))) (
        .cons (.asg (.n 6) (.prim .add (.cons (.prim (.slice false true) (.cons (.v 6) (.cons (.prim .neg (.cons (.c (.int 1)) .nil)) .nil))) (.cons (.prim .item (.cons (.v 2) (.cons (.prim .mod (.cons (.prim .add (.cons (.meth .sindex (.v 2) (.cons (.prim .item (.cons (.v 6) (.cons (.prim .neg (.cons (.c (.int 1)) .nil)) .nil))) .nil)) (.cons (.c (.int 1)) .nil))) (.cons (.c (.int 26)) .nil))) .nil))) .nil)))) <| .nil) .nil) <| .nil)) <|
    .cons (.expr (.meth .append (.v 3) (.cons (.v 6) .nil))) <| .nil)) <|
  .cons (.ret (.v 3)) <| .nil)
def paceB (dr : Nat) : Stms := (
  .cons (.ret (.prim .item (.cons (.lst (.cons (.c (.int 0)) (.cons (.c (.int 1000000)) (.cons (.v 1) (.cons (.c (.int 1)) (.cons (.prim .mul (.cons (.c (.int 2)) (.cons (.v 1) .nil))) (.cons (.prim .mul (.cons (.c (.int 3)) (.cons (.v 1) .nil))) (.cons (.prim .mul (.cons (.c (.int 5)) (.cons (.v 1) .nil))) (.cons (.prim .add (.cons (.v 1) (.cons (.c (.int 1)) .nil))) .nil))))))))) (.cons (.call dr (.cons (.v 0) (.cons (.c (.int 8)) .nil))) .nil)))) <| .nil)
def hillB (dr an ls pa : Nat) : Stms := (
  .cons (.asg (.n 1) (.ite (.prim .eq (.cons (.call dr (.cons (.v 0) (.cons (.c (.int 8)) .nil))) (.cons (.c (.int 7)) .nil))) (.c (.int 12)) (.prim .add (.cons (.c (.int 1)) (.cons (.call dr (.cons (.v 0) (.cons (.c (.int 6)) .nil))) .nil))))) <|
  .cons (.par [2, 3] (.cons (.prim .item (.cons (.lst (.cons (.c (.int 1)) (.cons (.c (.int 7)) (.cons (.c (.int 33333)) .nil)))) (.cons (.call dr (.cons (.v 0) (.cons (.c (.int 3)) .nil))) .nil))) (.cons (.call ls (.cons (.v 0) (.cons (.prim .add (.cons (.c (.int 1)) (.cons (.call dr (.cons (.v 0) (.cons (.c (.int 5)) .nil))) .nil))) .nil))) .nil))) <|
  .cons (.asg (.n 4) (.lst .nil)) <|
  .cons (.for (.n 5) (.seq (.call ls (.cons (.v 0) (.cons (.v 1) .nil)))) (
    .cons (.par [6, 7, 8] (.cons (.call dr (.cons (.v 0) (.cons (.c (.int 4)) .nil))) (.cons (.call an (.cons (.v 0) (.cons (.v 3) .nil))) (.cons (.call an (.cons (.v 0) (.cons (.v 3) .nil))) .nil)))) <|
    .cons (.asg (.n 9) (.tup (.cons (.call pa (.cons (.v 0) (.cons (.v 2) .nil))) (.cons (.call pa (.cons (.v 0) (.cons (.v 2) .nil))) .nil)))) <|
    .cons (.expr (.meth .append (.v 4) (.cons (.prim .add (.cons (.tup (.cons (.v 5) (.cons (.prim .item (.cons (.lst (.cons (.c (.str "slope")) (.cons (.c (.str "lift")) (.cons (.c (.str "path")) (.cons (.c (.str "slope")) .nil))))) (.cons (.v 6) .nil))) (.cons (.v 7) (.cons (.v 8) .nil))))) (.cons (.v 9) .nil))) .nil))) <| .nil)) <|
  .cons (.asg (.n 10) (.prim .item (.cons (.lst (.cons (.c (.int 1000000)) (.cons (.c (.int 1)) (.cons (.prim .mul (.cons (.v 2) (.cons (.prim .add (.cons (.c (.int 1)) (.cons (.call dr (.cons (.v 0) (.cons (.c (.int 30)) .nil))) .nil))) .nil))) (.cons (.prim .mul (.cons (.v 2) (.cons (.prim .add (.cons (.c (.int 5)) (.cons (.call dr (.cons (.v 0) (.cons (.c (.int 9)) .nil))) .nil))) .nil))) .nil))))) (.cons (.call dr (.cons (.v 0) (.cons (.c (.int 4)) .nil))) .nil)))) <|
  .cons (.ret (.tup (.cons (.prim .tuple (.cons (.v 4) .nil)) (.cons (.call an (.cons (.v 0) (.cons (.v 3) .nil))) (.cons (.v 10) .nil))))) <| .nil)
abbrev abc : Str := "abcdefghijklmnopqrstuvwxyz"
def Abc (l : List Nat) : Prop := ∀ c ∈ l, c ∈ abc.cps.toList
structure Name (z : Str) : Prop where
  lo : 1 ≤ z.length
  hi : z.length ≤ 8
  ab : Abc z.cps.toList
theorem join_fold : ∀ (cs : List Nat) (acc : Array Nat), ((cs.map fun c => (⟨#[c]⟩ : Str)).foldl (fun acc p => acc ++ ("" : Str).cps ++ p.cps) acc).toList = acc.toList ++ cs
  | [], acc => by simp
  | c :: cs, acc => by
    have e0 : ("" : Str).cps = #[] := rfl
    rw [List.map_cons, List.foldl_cons, join_fold cs, Array.toList_append, Array.toList_append, e0]
    simp
theorem join_one (cs : List Nat) : (Txt.join ("" : Str) (cs.map fun c => (⟨#[c]⟩ : Str))).cps.toList = cs := by
  show (((cs.map fun c => (⟨#[c]⟩ : Str)).drop 1).foldl (fun acc p => acc ++ ("" : Str).cps ++ p.cps) ((cs.map fun c => (⟨#[c]⟩ : Str)).headD Str.empty).cps).toList = cs
  cases cs with
  | nil => rfl
  | cons c cs =>
    rw [List.map_cons, List.drop_one, List.tail_cons, join_fold]
    rfl
theorem cut_to {z : Str} {i : Int} (h : 0 ≤ i) : (cutS z none (some i)).cps.toList = z.cps.toList.take i.toNat := by
  show ((z.cps.toList.drop (HT.sIx z.length 0 none)).take (HT.sIx z.length z.length (some i) - HT.sIx z.length 0 none)) = _
  rw [HT.sIx_none, sIx_pos h]
  exact take_sub _ _
theorem cut_last {z : Str} : (cutS z none (some (-1))).cps.toList = z.cps.toList.take (z.length - 1) := by
  show ((z.cps.toList.drop (HT.sIx z.length 0 none)).take (HT.sIx z.length z.length (some (-1)) - HT.sIx z.length 0 none)) = _
  rw [HT.sIx_none, sIx_neg (by decide), List.drop_zero]
  congr 1
  omega
theorem len_to (z : Str) : z.cps.toList.length = z.length := rfl
theorem app_to (x y : Str) : (x ++ y).cps.toList = x.cps.toList ++ y.cps.toList := by
  show (x.cps ++ y.cps).toList = _
  rw [Array.toList_append]
theorem idx_abc {c : Nat} (h : c ∈ abc.cps.toList) : ∃ i r, Builtin.Str.occurrences abc ⟨#[c]⟩ 0 abc.length 1 = i :: r := by
  have : (abc.cps.toList.all fun c => !(Builtin.Str.occurrences abc ⟨#[c]⟩ 0 abc.length 1).isEmpty) = true := by decide +kernel
  have := List.all_eq_true.mp this c h
  cases e : Builtin.Str.occurrences abc ⟨#[c]⟩ 0 abc.length 1 with
  | nil => rw [e] at this; cases this
  | cons i r => exact ⟨i, r, rfl⟩
section
variable {S : Store} {Q : T → Store → Prop}
theorem szl {n : Nat} (h : n ≤ 1000000) : n ≤ sizeLine := Nat.le_trans h (by decide)
theorem emp_len : ("" : Str).length = 0 := rfl
theorem r_add_str {x y : Str} (h : x.length + y.length ≤ 1000000) (q : Q (.d (.str (x ++ y))) S) : Wp .add [.d (.str x), .d (.str y)] S Q :=
  r_of (by rw [run_add]; show res (if x.length + y.length ≤ sizeLine then some (T.d (.str (x ++ y))) else none) S = _; rw [if_pos (szl h)]; rfl) q
theorem r_add_tup {x y : List D} (h : x.length + y.length ≤ 1000000) (q : Q (.d (.tup (x ++ y))) S) : Wp .add [.d (.tup x), .d (.tup y)] S Q :=
  r_of (by rw [run_add]; show res (if x.length + y.length ≤ sizeLine then some (T.d (.tup (x ++ y))) else none) S = _; rw [if_pos (szl h)]; rfl) q
theorem slice_str {z : Str} {lo hi : Option Int} (h : z.length ≤ 1000000) : sliceT S (.d (.str z)) lo hi = some (.d (.str (cutS z lo hi))) := by
  show (if z.length ≤ sizeLine then some (T.d (.str (cutS z lo hi))) else none) = _
  rw [if_pos (show z.length ≤ sizeLine by have : 1000000 < sizeLine := by decide
                                          omega)]
theorem r_item_str_last {z : Str} (hz : z.length ≤ 1000) (h1 : 1 ≤ z.length) (q : ∀ c, c ∈ z.cps.toList → Q (.d (.str ⟨#[c]⟩)) S) : Wp .item [.d (.str z), .d (.int (-1))] S Q := by
  have hne : z.cps.toList ≠ [] := fun e => by have := len_to z; rw [e] at this; simp at this; omega
  have e : atI z.cps.toList (-1) = some (z.cps.toList.getLast hne) := by
    have := atI_last z.cps.toList.dropLast (z.cps.toList.getLast hne)
    rw [List.dropLast_concat_getLast] at this
    exact this
  refine r_of (t := .d (.str ⟨#[z.cps.toList.getLast hne]⟩)) (S1 := S) ?_ (q _ (List.getLast_mem hne))
  rw [run_item]
  show res (match (if z.length ≤ sizeLine then (atI z.cps.toList (-1)).map fun c => D.str ⟨#[c]⟩ else none) with | some x => some (T.d x) | none => none) S = _
  rw [if_pos (show z.length ≤ sizeLine by have : 1000 < sizeLine := by decide
                                          omega), e]
  rfl
theorem r_sindex {a b : Str} {i : Nat} {r : List Nat} (h : Builtin.Str.occurrences a b 0 a.length 1 = i :: r) (q : Q (.d (.int (i : Nat))) S) : Wp .sindex [.d (.str a), .d (.str b)] S Q := by
  refine r_of (t := .d (.int (i : Nat))) (S1 := S) ?_ q
  rw [run_sindex]
  unfold sindexT
  dsimp only
  rw [h]
  rfl
end
section
variable {gl : List (Str × D)} {rows : List Row}
theorem wk_drawG {i : Nat} {r : Row} (hr : rows[i]? = some r) (hd : r.df = ⟨2, 6, drawB⟩) {k n : Nat} {many : Int} {X S : Store} {Q : D → Store → Prop} (p : Bag n X S) (h : 0 < many) (h2 : many < 18446744073709551616) (hn : n ≤ 1000000000) (q : ∀ (v : Int) (S' : Store), 0 ≤ v → v < many → Bag (n + 1) X S' → Q (.int v) S') : Wk (calls gl rows (k + 1)) i [.ref 1, .int many] S Q := by
  obtain ⟨v, S', h0, h1, p', e⟩ := draw_ok (gl := gl) (rows := rows) hr hd k n many X S p h h2 hn
  exact wk e (q v S' h0 h1 p')
theorem wk_anyG {i dr : Nat} {r r' : Row} (hr : rows[i]? = some r) (hd : r.df = ⟨2, 2, anyB dr⟩) (hr' : rows[dr]? = some r') (hd' : r'.df = ⟨2, 6, drawB⟩) {k n j : Nat} {ds : List D} {R J S : Store} {Q : D → Store → Prop} (p : Bag n (R ++ J) S) (h : J[j]? = some (.lst ds)) (h0 : ds.isEmpty = false) (h1 : ds.length ≤ 1000000) (hn : n ≤ 1000000000) (q : ∀ (x : D) (S' : Store), x ∈ ds → Bag (n + 1) (R ++ J) S' → Q x S') : Wk (calls gl rows (k + 2)) i [.ref 1, .ref (R.length + 2 + j)] S Q := by
  obtain ⟨x, S', hx, p', e⟩ := any_ok (gl := gl) hr hd hr' hd' k p h (by intro z; rw [z] at h0; cases h0) h1 hn
  exact wk e (q x S' hx p')
theorem labelG {dr la : Nat} {r r' : Row} (hr : rows[dr]? = some r) (hd : r.df = ⟨2, 6, drawB⟩) (hr' : rows[la]? = some r') (hd' : r'.df = ⟨1, 3, labelB dr⟩) {n : Nat} {X S : Store} (k : Nat) (p : Bag n X S) (hn : n ≤ 100000000) : ∃ (z : Str) (S' : Store), Name z ∧ Bag (n + 9) X S' ∧ calls gl rows (k + 2) la [.ref 1] S = some (.str z, S') := by
  have w : Wxs (gl.map (·.2)) (calls gl rows (k + 1)) (labelB dr) [some (.ref 1), none, none] S fun o S' => ∃ z : Str, Name z ∧ o = .rt (.str z) ∧ Bag (n + 9) X S' := by
    unfold labelB
    walk_at "P"
    refine wk_drawG hr hd p (by decide) (by decide) (by omega) fun v S1 h1 h2 p1 => ?_
    walk_at "P"
    refine r_item_mem h1 (by simpa using h2) fun y hy => ?_
    obtain ⟨m, rfl, hm⟩ : ∃ m : Int, y = .int m ∧ 1 ≤ m ∧ m ≤ 8 := by
      simp only [List.mem_cons, List.not_mem_nil, or_false] at hy
      rcases hy with rfl | rfl | rfl | rfl | rfl | rfl | rfl | rfl <;> exact ⟨_, rfl, by decide, by decide⟩
    walk_at "P"
    refine wlc_inv (fun i acc S => i ≤ 8 ∧ Bag (n + 1 + i) X S ∧ ∃ cs : List Nat, acc = cs.map (fun c => D.str ⟨#[c]⟩) ∧ Abc cs ∧ cs.length = i) ⟨by omega, p1, [], rfl, (fun y hy => by cases hy), rfl⟩ (fun _ _ _ _ => chk_nil) (by rw [rngD_len]; omega) ?_ ?_
    · rintro i d acc S hi ⟨hi8, p, cs, rfl, hcs, hcl⟩
      obtain ⟨hi2, rfl⟩ := rngD_get hi
      walk_at "P"
      refine ⟨(fun z => by cases z), fun _ => ?_⟩
      walk_at "P"
      refine wk_drawG hr hd p (by decide) (by decide) (by omega) fun v S1 h1 h2 p1 => ?_
      walk_at "P"
      refine r_item_str (by decide) h1 h2 fun c hc => ?_
      walk_at "S"
      refine ⟨by omega, p1, cs ++ [c], by rw [List.map_append]; rfl, fun y hy => ?_, by rw [List.length_append, hcl]; rfl⟩
      rcases List.mem_append.mp hy with hy | hy
      · exact hcs y hy
      · rw [List.mem_singleton.mp hy]; exact hc
    · rintro acc S ⟨hi8, p, cs, rfl, hcs, hcl⟩
      rw [rngD_len] at *
      walk_at "S"
      have hsum : (((cs.map fun c => (⟨#[c]⟩ : Str))).map (·.length)).sum ≤ cs.length * 1 := by
        have := sum_le (n := 1) (ns := ((cs.map fun c => (⟨#[c]⟩ : Str))).map (·.length)) fun x hx => by
          obtain ⟨y, hy, rfl⟩ := List.mem_map.mp hx
          obtain ⟨c, _, rfl⟩ := List.mem_map.mp hy
          exact Nat.le_refl _
        rw [List.length_map, List.length_map] at this
        exact this
      refine r_join (ys := cs.map fun c => (⟨#[c]⟩ : Str)) (by rw [List.map_map]; rfl) (by rw [emp_len, List.length_map]; omega) ?_
      walk_at "S"
      have hj := join_one cs
      refine ⟨_, ⟨?_, ?_, ?_⟩, rfl, p.mono (by omega)⟩
      · rw [← len_to, hj]; omega
      · rw [← len_to, hj]; omega
      · rw [hj]; exact hcs
  obtain ⟨o, S', e, z, h1, rfl, h3⟩ := w.h
  exact ⟨z, S', h1, h3, (call_rt hr' (by rw [hd']; rfl) (by rw [hd']; exact e)).trans (congrArg some (gc_same (by rw [h3.len, p.len])))⟩
end
end F

/-! Lists of names, hills, drawn. -/
namespace F
open PySem PyProof.Rows L2
local macro_rules | `(tactic| walk_at "s0") => `(tactic| with_reducible first
  | refine w_c ?_ | refine w_v (by with_unfolding_all rfl) ?_ | refine w_prim ?_ | refine wes_cons ?_ | refine wes_nil ?_ | refine wds_cons ?_ | refine wds_nil ?_ | refine wn_d ?_ | refine wn_tmp ?_
  | refine w_meth ?_ | refine w_tup ?_ | refine w_lst ?_ | refine w_and ?_ | refine w_or ?_ | refine wb_and ?_ | refine wb_or ?_ | refine wb_one ?_ | refine w_not ?_ | refine w_ite ?_ | refine w_call ?_
  | refine w_chain rfl rfl ?_ | refine w_lc ?_ | refine w_g (by with_unfolding_all rfl) ?_ | refine w_dK ?_
  | refine wxs_cons ?_ | refine wxs_nil ?_ | refine wo_nx ?_ | refine wo_rt ?_ | refine wo_bk ?_ | refine wo_ct ?_ | refine wx_asg ?_ | refine wx_par ?_ | refine wx_expr ?_ | refine wx_ret ?_ | refine wx_retN ?_ | refine wx_pass ?_ | refine wx_brk ?_ | refine wx_cont ?_
  | refine wa_n (Nat.le_of_ble_eq_true (by with_unfolding_all rfl)) ?_ | refine wa_tup ?_ | refine wa_sub ?_ | refine was_cons ?_ | refine was_nil ?_ | refine wf_nil ?_ | refine wf_one ?_
  | refine wi_seq ?_ | refine wi_range1 ?_ | refine wi_range2 ?_ | refine wi_zip ?_ | refine wi_enum ?_
  | refine wl (Nat.le_of_ble_eq_true (by with_unfolding_all rfl)) ?_ | refine wv (by with_unfolding_all rfl) ?_ | refine ws_lst (by with_unfolding_all rfl) (by first | decide | omega) (Nat.le_of_ble_eq_true (by with_unfolding_all rfl)) ?_ | refine wpar (by with_unfolding_all rfl) ?_ | refine wit (by with_unfolding_all rfl) ?_ | refine wen (by with_unfolding_all rfl) ?_ | refine wint (by omega) ?_
  | refine wc_t ?_ | refine wc_f ?_
  | refine r_add ?_ | refine r_sub ?_ | refine r_neg ?_ | refine r_lt ?_ | refine r_le ?_ | refine r_gt ?_ | refine r_ge ?_ | refine r_abs ?_ | refine r_min ?_ | refine r_max ?_ | refine r_isN ?_ | refine r_isB ?_
  | refine r_ne_nil (by with_unfolding_all rfl) (pdL_ints _) ?_ | refine r_eq_nil (by with_unfolding_all rfl) (pdL_ints _) ?_ | refine r_popAt (by with_unfolding_all rfl) ?_
  | refine r_eq_tt ?_ | refine r_eq_ff ?_ | refine r_eq_tf ?_ | refine r_eq_ft ?_
  | refine r_eq_int ?_ | refine r_ne_int ?_ | refine r_eq_bl ?_ | refine r_ne_bl ?_
  | refine r_pow18 ?_ | refine r_pow30 ?_ | refine r_pow48 ?_ | refine r_pow60 ?_ | refine r_pow900 ?_ | refine r_mod big900_pos ?_
  | refine r_mod (by first | decide | omega) ?_ | refine r_fdiv (by first | decide | omega) (by first | decide | omega) ?_ | refine r_mul (by first | decide | omega) (by first | decide | omega) ?_ | refine r_pow (by first | decide | omega) (by first | decide | omega) (by first | decide | omega) ?_
  | refine r_item_ref (by with_unfolding_all rfl) (by first | decide | omega) (by with_unfolding_all rfl) ?_ | refine r_item_tmp (by first | decide | omega) (by with_unfolding_all rfl) ?_ | refine r_item_tup (by first | decide | omega) (by with_unfolding_all rfl) ?_
  | refine r_item_rol (by first | decide | omega) (by with_unfolding_all rfl) ?_ | refine r_len_tmp ?_ | refine r_len_tup ?_ | refine r_len_rol ?_ | refine r_len_ref (by with_unfolding_all rfl) ?_
  | refine r_inst (by with_unfolding_all rfl) ?_)
local macro_rules | `(tactic| walk_at "s") => `(tactic| first | walk_at "s0" | with_reducible refine wx_ite ?_)
local macro_rules | `(tactic| walk_at "A") => `(tactic| repeat walk_at "s0")
local macro_rules | `(tactic| walk_at "S") => `(tactic| repeat walk_at "s")
local macro_rules | `(tactic| walk_at "c") => `(tactic| first | refine wc_dt (by first | decide | omega) ?_ | refine wc_df (by first | decide | omega) ?_)
local macro_rules | `(tactic| walk_at "C") => `(tactic| repeat first | walk_at "s" | walk_at "c")
local macro_rules | `(tactic| walk_at "p") => `(tactic| with_reducible first | refine wn_tmp_p (by assumption) fun _ _ => ?_ | refine wd_dK_p (by assumption) fun _ _ => ?_ | refine r_item_p (by assumption) (by first | assumption | exact set_at (by assumption) | with_unfolding_all rfl) (by omega) (by first | omega | (rw [List.length_set]; omega)) fun _ _ => ?_ | refine ws_p (by assumption) (by first | assumption | exact set_at (by assumption) | with_unfolding_all rfl) (by omega) (by first | omega | (rw [List.length_set]; omega)) fun _ _ => ?_ | refine r_add_lst (by first | (with_unfolding_all rfl) | exact lstM_p (by assumption) (by first | assumption | exact set_at (by assumption) | with_unfolding_all rfl)) (by first | (with_unfolding_all rfl) | exact lstM_p (by assumption) (by first | assumption | exact set_at (by assumption) | with_unfolding_all rfl)) (by first | omega | (simp only [List.length_append, List.length_take, List.length_drop, List.length_cons, List.length_nil]; omega)) ?_ | refine r_tuple (by first | (with_unfolding_all rfl) | exact lst_p (by assumption) (by first | assumption | exact set_at (by assumption) | with_unfolding_all rfl)) ?_ | refine r_slice01 (slice_to (by first | (with_unfolding_all rfl) | exact lst_p (by assumption) (by first | assumption | exact set_at (by assumption) | with_unfolding_all rfl)) (by with_unfolding_all rfl) (by omega)) ?_ | refine r_slice10 (slice_from (by first | (with_unfolding_all rfl) | exact lst_p (by assumption) (by first | assumption | exact set_at (by assumption) | with_unfolding_all rfl)) (by with_unfolding_all rfl) (by omega)) ?_)
local macro_rules | `(tactic| walk_at "P") => `(tactic| repeat first | walk_at "p" | walk_at "d" | walk_at "s")
local macro_rules | `(tactic| walk_at "PA") => `(tactic| repeat first | walk_at "p" | walk_at "d" | walk_at "s0")
local macro_rules | `(tactic| walk_at "d") => `(tactic| with_reducible refine wk_drawG (by assumption) (by assumption) (by assumption) (by omega) (by omega) (by omega) fun _ _ _ _ _ => ?_)
theorem str_ext {x y : Str} (h : x.cps.toList = y.cps.toList) : x = y := by
  cases x with
  | mk a => cases y with
    | mk b => cases a; cases b; cases h; rfl
def let26 (k : Nat) : Nat := abc.cps.toList.getD k 0
theorem let26_idx {k : Nat} (h : k < 26) : ∃ r, Builtin.Str.occurrences abc ⟨#[let26 k]⟩ 0 abc.length 1 = k :: r := by
  have q : ((List.range 26).all fun k => match Builtin.Str.occurrences abc ⟨#[let26 k]⟩ 0 abc.length 1 with | i :: _ => i == k | [] => false) = true := by decide +kernel
  have q := List.all_eq_true.mp q k (List.mem_range.mpr h)
  cases e : Builtin.Str.occurrences abc ⟨#[let26 k]⟩ 0 abc.length 1 with
  | nil => rw [e] at q; cases q
  | cons i r =>
    rw [e] at q
    have q2 : i = k := by simpa using q
    exact ⟨r, by rw [q2]⟩
theorem let26_inj {i j : Nat} (hi : i < 26) (hj : j < 26) (e : let26 i = let26 j) : i = j := by
  obtain ⟨r, h1⟩ := let26_idx hi
  obtain ⟨r2, h2⟩ := let26_idx hj
  rw [e, h2] at h1
  exact ((List.cons.inj h1).1).symm
theorem let26_at {k : Nat} (h : k < 26) : abc.cps.toList[k]? = some (let26 k) := by
  have q : k < abc.cps.toList.length := h
  unfold let26
  rw [List.getElem?_eq_getElem q, List.getD_eq_getElem?_getD, List.getElem?_eq_getElem q]
  rfl
theorem mem_let26 {c : Nat} (h : c ∈ abc.cps.toList) : ∃ k, k < 26 ∧ c = let26 k := by
  obtain ⟨k, hk, e⟩ := List.getElem_of_mem h
  have hk2 : k < 26 := hk
  refine ⟨k, hk2, ?_⟩
  have := let26_at hk2
  rw [List.getElem?_eq_getElem hk, e] at this
  exact Option.some.inj this
/-- as many unlike things as are in a list are no more than it has -/
theorem pigeon {α : Type} [DecidableEq α] : ∀ (xs ys : List α), xs.Nodup → (∀ x ∈ xs, x ∈ ys) → xs.length ≤ ys.length
  | [], ys, _, _ => Nat.zero_le _
  | x :: xs, ys, hn, hs => by
    have hx : x ∈ ys := hs x List.mem_cons_self
    have ih := pigeon xs (ys.erase x) (List.nodup_cons.mp hn).2 fun y hy =>
      (List.mem_erase_of_ne fun e => (List.nodup_cons.mp hn).1 (by rw [← e]; exact hy)).mpr (hs y (List.mem_cons_of_mem _ hy))
    have l1 := List.length_erase_of_mem hx
    have l2 := List.length_pos_of_mem hx
    rw [List.length_cons]
    omega
def ofL (l : List Nat) : Str := ⟨l.toArray⟩
theorem ofL_cps (l : List Nat) : (ofL l).cps.toList = l := rfl
theorem round_names {pre : List Nat} {a0 : Nat} {ys : List Str} (hl : ys.length < 26) (h : ∀ i, i < 26 → ofL (pre ++ [let26 ((a0 + i) % 26)]) ∈ ys) : False := by
  have q := pigeon ((List.range 26).map fun i => ofL (pre ++ [let26 ((a0 + i) % 26)])) ys ?_ ?_
  · rw [List.length_map, List.length_range] at q; omega
  · refine List.pairwise_map.mpr ?_
    refine List.Pairwise.imp_of_mem (fun {i j} hi hj hij e => ?_) (List.nodup_range (n := 26))
    have hi := List.mem_range.mp hi
    have hj := List.mem_range.mp hj
    have e2 := congrArg (fun z : Str => z.cps.toList) e
    simp only [ofL_cps] at e2
    have e3 := List.append_cancel_left e2
    have e4 := let26_inj (Nat.mod_lt _ (by decide)) (Nat.mod_lt _ (by decide)) (List.cons.inj e3).1
    apply hij
    omega
  · intro x hx
    obtain ⟨i, hi, rfl⟩ := List.mem_map.mp hx
    exact h i (List.mem_range.mp hi)
theorem r_item_str_at {S : Store} {Q : T → Store → Prop} {z : Str} {i : Int} {c : Nat} (hz : z.length ≤ 1000) (h0 : 0 ≤ i) (e : z.cps.toList[i.toNat]? = some c) (q : Q (.d (.str ⟨#[c]⟩)) S) : Wp .item [.d (.str z), .d (.int i)] S Q := by
  refine r_of (t := .d (.str ⟨#[c]⟩)) (S1 := S) ?_ q
  rw [run_item]
  show res (match (if z.length ≤ sizeLine then (atI z.cps.toList i).map fun c => D.str ⟨#[c]⟩ else none) with | some x => some (T.d x) | none => none) S = _
  rw [if_pos (szl (Nat.le_trans hz (by decide))), atI_pos h0 e]
  rfl
theorem r_item_str_lastC {S : Store} {Q : T → Store → Prop} {z : Str} {pre : List Nat} {c : Nat} (hz : z.length ≤ 1000) (e : z.cps.toList = pre ++ [c]) (q : Q (.d (.str ⟨#[c]⟩)) S) : Wp .item [.d (.str z), .d (.int (-1))] S Q := by
  refine r_of (t := .d (.str ⟨#[c]⟩)) (S1 := S) ?_ q
  rw [run_item]
  show res (match (if z.length ≤ sizeLine then (atI z.cps.toList (-1)).map fun c => D.str ⟨#[c]⟩ else none) with | some x => some (T.d x) | none => none) S = _
  rw [if_pos (szl (Nat.le_trans hz (by decide))), e, atI_last]
  rfl
section
variable {n : Nat} {R J S : Store} {Q : T → Store → Prop}
theorem r_append_p {i : Nat} {ds : List D} {x : D} (p : Bag n (R ++ J) S) (h : J[i]? = some (.lst ds)) (hl : ds.length < 1000000) (q : ∀ S', Bag n (R ++ J.set i (.lst (ds ++ [x]))) S' → Q (.d .non) S') : Wp .append [.d (.ref (R.length + 2 + i)), .d x] S Q := by
  refine r_append ((bag_at p i).trans h) hl (q _ ?_)
  have := p.set (i := R.length + i) (o := .lst (ds ++ [x]))
  rw [show R.length + i + 2 = R.length + 2 + i by omega, List.set_append_right _ _ (by omega), Nat.add_sub_cancel_left] at this
  exact this
theorem inT_ref_strs {k : Nat} {z : Str} {ys : List Str} (h : S[k]? = some (.lst (ys.map .str))) : inT S (.d (.str z)) (.d (.ref k)) = some (ys.any fun y => decide (y = z)) := by
  unfold inT
  dsimp only
  rw [h]
  exact inL_strs z ys
end
section
variable {gl : List (Str × D)} {rows : List Row}
theorem labelsG {dr la ls : Nat} {r r' r'' : Row} (hr : rows[dr]? = some r) (hd : r.df = ⟨2, 6, drawB⟩) (hr' : rows[la]? = some r') (hd' : r'.df = ⟨1, 3, labelB dr⟩) (hr'' : rows[ls]? = some r'') (hd'' : r''.df = ⟨2, 8, labelsB dr la⟩)
    {n : Nat} {X S : Store} {many : Nat} (k : Nat) (p : Bag n X S) (hm : many ≤ 12) (hn : n ≤ 10000000) : ∃ (ys : List Str) (S' : Store), ys.length = many ∧ (∀ y ∈ ys, Name y) ∧ ys.Nodup ∧ Bag (n + 10 + 9 * many) (X ++ [.lst (ys.map .str)]) S' ∧ calls gl rows (k + 3) ls [.ref 1, .int (many : Nat)] S = some (.ref (X.length + 2), S') := by
  have w : Wxs (gl.map (·.2)) (calls gl rows (k + 2)) (labelsB dr la) [some (.ref 1), some (.int (many : Nat)), none, none, none, none, none, none] S fun o S' => o = .rt (.ref (X.length + 2)) ∧ ∃ (ys : List Str), ys.length = many ∧ (∀ y ∈ ys, Name y) ∧ ys.Nodup ∧ Bag (n + 10 + 9 * many) (X ++ [.lst (ys.map .str)]) S' := by
    unfold labelsB
    have p0 := p.re0
    walk_at "PA"
    rename_i S1 p1 v S2 hv0 hv1 p2
    have key : ∀ (z : Str) (S3 : Store), z.length ≤ 8 → Abc z.cps.toList → Bag (n + 10) (X ++ [.lst []]) S3 → Wx (gl.map (·.2)) (calls gl rows (k + 2)) (.for (.n 5) (.range1 (.v 1)) (
    .cons (.asg (.n 6) (.prim (.slice false true) (.cons (.prim .add (.cons (.v 4) (.cons (.call la (.cons (.v 0) .nil)) .nil))) (.cons (.c (.int 8)) .nil)))) <|
    .cons (.for (.n 7) (.range1 (.c (.int 26))) (
      .cons (.ite (.prim (.isin false) (.cons (.v 6) (.cons (.v 3) .nil))) (
        .cons (.asg (.n 6) (.prim .add (.cons (.prim (.slice false true) (.cons (.v 6) (.cons (.prim .neg (.cons (.c (.int 1)) .nil)) .nil))) (.cons (.prim .item (.cons (.v 2) (.cons (.prim .mod (.cons (.prim .add (.cons (.meth .sindex (.v 2) (.cons (.prim .item (.cons (.v 6) (.cons (.prim .neg (.cons (.c (.int 1)) .nil)) .nil))) .nil)) (.cons (.c (.int 1)) .nil))) (.cons (.c (.int 26)) .nil))) .nil))) .nil)))) <| .nil) .nil) <| .nil)) <|
    .cons (.expr (.meth .append (.v 3) (.cons (.v 6) .nil))) <| .nil)) [some (.ref 1), some (.int (many : Nat)), some (.str abc), some (.ref (X.length + 2)), some (.str z), none, none, none] S3 fun o S1 => Wo (gl.map (·.2)) (calls gl rows (k + 2)) o (.cons (.ret (.v 3)) .nil) S1 fun o S' => o = .rt (.ref (X.length + 2)) ∧ ∃ (ys : List Str), ys.length = many ∧ (∀ y ∈ ys, Name y) ∧ ys.Nodup ∧ Bag (n + 10 + 9 * many) (X ++ [.lst (ys.map .str)]) S' := by
      intro z S3 hz hza p3
      refine wx_for (fun i ρ S => ∃ (ys : List Str) (u v w : Option D), Bag (n + 10 + 9 * i) (X ++ [.lst (ys.map .str)]) S ∧ ys.length = i ∧ (∀ y ∈ ys, Name y) ∧ ys.Nodup ∧ ρ = [some (.ref 1), some (.int (many : Nat)), some (.str abc), some (.ref (X.length + 2)), some (.str z), u, v, w]) ?_
      walk_at "S"
      refine ⟨⟨[], none, none, none, p3, rfl, (fun y hy => by cases hy), .nil, rfl⟩, fun _ _ _ _ => chk_nil, ?_, ?_⟩
      · rintro i d ρ S hi ⟨ys, u, v, w, p, hyl, hyn, hnd, rfl⟩
        obtain ⟨hi2, rfl⟩ := rngD_get hi
        have hi3 : i < many := by simpa using hi2
        walk_at "S"
        obtain ⟨nm0, S4, hnm0, p4, e4⟩ := labelG (gl := gl) hr hd hr' hd' k p (by omega)
        refine wk e4 ?_
        have h1 := hnm0.lo
        have h2 := hnm0.hi
        walk_at "S"
        refine r_add_str (by omega) ?_
        walk_at "S"
        have hl0 : (z ++ nm0).length = z.length + nm0.length := by rw [← len_to, app_to, List.length_append]; rfl
        refine r_slice01 (slice_str (by omega)) ?_
        have hN : Name (cutS (z ++ nm0) none (some 8)) := by
          have e := cut_to (z := z ++ nm0) (i := 8) (by decide)
          refine ⟨?_, ?_, ?_⟩
          · rw [← len_to, e, List.length_take, len_to, hl0]; omega
          · rw [← len_to, e, List.length_take]; omega
          · rw [e]
            intro c hc
            have hc := List.mem_of_mem_take hc
            rw [app_to] at hc
            rcases List.mem_append.mp hc with hc | hc
            · exact hza c hc
            · exact hnm0.ab c hc
        generalize cutS (z ++ nm0) none (some 8) = nm at *
        walk_at "A"
        obtain ⟨pre, c0, hpre⟩ : ∃ pre c0, nm.cps.toList = pre ++ [c0] := by
          have hne : nm.cps.toList ≠ [] := fun e => by have := len_to nm; rw [e] at this; have := hN.lo; simp at *; omega
          exact ⟨_, _, (List.dropLast_concat_getLast hne).symm⟩
        obtain ⟨a0, ha0, rfl⟩ := mem_let26 (hN.ab c0 (by rw [hpre]; exact List.mem_append_right _ List.mem_cons_self))
        refine Wx.mono (Q := fun o S => S = S4 ∧ ∃ (nm : Str) (w : Option D), Name nm ∧ nm ∉ ys ∧ o = .nx [some (.ref 1), some (.int (many : Nat)), some (.str abc), some (.ref (X.length + 2)), some (.str z), some (.int (0 + (i : Nat))), some (.str nm), w])
          (wx_for (fun j ρ S => S = S4 ∧ ∃ (nm : Str) (w : Option D), Name nm ∧ (nm ∉ ys ∨ nm.cps.toList = pre ++ [let26 ((a0 + j) % 26)] ∧ ∀ i, i < j → ofL (pre ++ [let26 ((a0 + i) % 26)]) ∈ ys) ∧ ρ = [some (.ref 1), some (.int (many : Nat)), some (.str abc), some (.ref (X.length + 2)), some (.str z), some (.int (0 + (i : Nat))), some (.str nm), w]) ?_) ?_
        · walk_at "S"
          refine ⟨⟨rfl, nm, _, hN, .inr ⟨by rw [hpre, show (a0 + 0) % 26 = a0 by omega], fun i hi => absurd hi (by omega)⟩, rfl⟩, fun _ _ _ _ => chk_nil, ?_, ?_⟩
          · rintro j d ρ S hj ⟨rfl, nm, w, hN, hb, rfl⟩
            obtain ⟨_, rfl⟩ := rngD_get hj
            have g1 := hN.lo
            have g2 := hN.hi
            walk_at "S"
            refine r_isin (inT_ref_strs (ys := ys) ((bag_at p4 0).trans rfl)) ?_
            rw [Bool.bne_false]
            refine wc_mk (fun hin => ?_) fun hin => ?_
            · have hin2 : nm ∈ ys := by
                obtain ⟨y, hy, e⟩ := List.any_eq_true.mp hin
                rw [← of_decide_eq_true e]; exact hy
              obtain ⟨hc, hall⟩ := hb.resolve_left (fun h => h hin2)
              walk_at "S"
              refine r_slice01 (slice_str (by omega)) ?_
              walk_at "S"
              refine r_item_str_lastC (by omega) hc ?_
              walk_at "S"
              obtain ⟨r0, hi'⟩ := let26_idx (Nat.mod_lt (a0 + j) (show 0 < 26 by decide))
              refine r_sindex hi' ?_
              walk_at "S"
              have en : ((((a0 + j) % 26 : Nat) : Int) + 1) % 26 = (((a0 + (j + 1)) % 26 : Nat) : Int) := by omega
              rw [en]
              refine r_item_str_at (by decide) (Int.natCast_nonneg _) (by rw [Int.toNat_natCast]; exact let26_at (Nat.mod_lt _ (by decide))) ?_
              walk_at "S"
              have e := cut_last (z := nm)
              have hlp : nm.length = pre.length + 1 := by rw [← len_to, hc, List.length_append]; rfl
              have e1 : (cutS nm none (some (-1))).cps.toList = pre := by rw [e, hc, hlp, Nat.add_sub_cancel, List.take_left]
              have hl1 : (cutS nm none (some (-1))).length = pre.length := by rw [← len_to, e1]
              have hl2 : (⟨#[let26 ((a0 + (j + 1)) % 26)]⟩ : Str).length = 1 := rfl
              refine r_add_str (by omega) ?_
              walk_at "S"
              have e2 : (cutS nm none (some (-1)) ++ (⟨#[let26 ((a0 + (j + 1)) % 26)]⟩ : Str)).cps.toList = pre ++ [let26 ((a0 + (j + 1)) % 26)] := by rw [app_to, e1]
              have hl3 : (cutS nm none (some (-1)) ++ (⟨#[let26 ((a0 + (j + 1)) % 26)]⟩ : Str)).length = nm.length := by
                rw [← len_to, e2, List.length_append, hlp]; rfl
              refine ⟨rfl, _, _, ⟨by rw [hl3]; exact g1, by rw [hl3]; exact g2, ?_⟩, .inr ⟨e2, fun i hi => ?_⟩, rfl⟩
              · rw [e2]
                intro x hx
                rcases List.mem_append.mp hx with hx | hx
                · exact hN.ab x (by rw [hc]; exact List.mem_append_left _ hx)
                · rw [List.mem_singleton.mp hx]
                  exact List.mem_of_getElem? (let26_at (Nat.mod_lt _ (by decide)))
              · rcases Nat.lt_or_ge i j with h | h
                · exact hall i h
                · rw [show i = j by omega]
                  rw [show ofL (pre ++ [let26 ((a0 + j) % 26)]) = nm from str_ext (by rw [ofL_cps, hc])]
                  exact hin2
            · walk_at "S"
              refine ⟨rfl, _, _, hN, .inl fun h => ?_, rfl⟩
              rw [List.any_eq_true.mpr ⟨nm, h, decide_eq_true rfl⟩] at hin
              cases hin
          · rintro ρ S ⟨rfl, nm, w, hN, hb, rfl⟩
            refine ⟨rfl, nm, w, hN, hb.elim (fun h => h) fun h => ?_, rfl⟩
            exact (round_names (by omega) fun i hi => h.2 i (by rw [rngD_len]; exact hi)).elim
        · rintro o S ⟨rfl, nm, w, hN, hni, rfl⟩
          walk_at "S"
          refine wv (rv_append ((bag_at p4 0).trans rfl)) ?_
          walk_at "S"
          refine r_append_p (i := 0) (R := X) p4 rfl (by rw [List.length_map]; omega) fun S5 p5 => ?_
          walk_at "S"
          refine ⟨ys ++ [nm], _, _, _, ?_, by rw [List.length_append, hyl]; rfl, fun y hy => ?_, ?_, rfl⟩
          · rw [List.map_append]
            exact p5.mono (by omega)
          · rcases List.mem_append.mp hy with hy | hy
            · exact hyn y hy
            · rw [List.mem_singleton.mp hy]; exact hN
          · refine List.nodup_append.mpr ⟨hnd, by simp, fun a ha b hb e => ?_⟩
            rw [List.mem_singleton] at hb
            rw [e, hb] at ha
            exact hni ha
      · rintro ρ S ⟨ys, u, v, w, p, hyl, hyn, hnd, rfl⟩
        rw [rngD_len] at p hyl
        walk_at "S"
        have hm2 : ((many : Nat) : Int).toNat = many := Int.toNat_natCast _
        rw [hm2] at p hyl
        exact ⟨rfl, ys, hyl, hyn, hnd, p⟩
    refine wc_dec (fun _ => ?_) fun _ => ?_
    · walk_at "PA"
      obtain ⟨nm0, S4, hnm0, p4, e4⟩ := labelG (gl := gl) hr hd hr' hd' k p2 (by omega)
      refine wk e4 ?_
      have g2 := hnm0.hi
      walk_at "PA"
      refine r_slice01 (slice_str (by omega)) ?_
      walk_at "PA"
      have e := cut_to (z := nm0) (i := 5) (by decide)
      refine key _ _ ?_ ?_ (p4.mono (by omega))
      · rw [← len_to, e, List.length_take, len_to]; omega
      · rw [e]; exact fun c hc => hnm0.ab c (List.mem_of_mem_take hc)
    · walk_at "PA"
      exact key _ _ (by decide) (fun c hc => by cases hc) (p2.mono (by omega))
  obtain ⟨o, S', e, rfl, ys, h1, h2, hnd, h3⟩ := w.h
  exact ⟨ys, S', h1, h2, hnd, h3, (call_rt hr'' (by rw [hd'']; rfl) (by rw [hd'']; exact e)).trans (congrArg some (gc_keep (by rw [p.len]; exact decide_eq_false (Nat.lt_irrefl _))))⟩
end
end F

/-! Hills, drawn. -/
namespace F
open PySem PyProof.Rows L2
local macro_rules | `(tactic| walk_at "s0") => `(tactic| with_reducible first
  | refine w_c ?_ | refine w_v (by with_unfolding_all rfl) ?_ | refine w_prim ?_ | refine wes_cons ?_ | refine wes_nil ?_ | refine wds_cons ?_ | refine wds_nil ?_ | refine wn_d ?_ | refine wn_tmp ?_
  | refine w_meth ?_ | refine w_tup ?_ | refine w_lst ?_ | refine w_and ?_ | refine w_or ?_ | refine wb_and ?_ | refine wb_or ?_ | refine wb_one ?_ | refine w_not ?_ | refine w_ite ?_ | refine w_call ?_
  | refine w_chain rfl rfl ?_ | refine w_lc ?_ | refine w_g (by with_unfolding_all rfl) ?_ | refine w_dK ?_
  | refine wxs_cons ?_ | refine wxs_nil ?_ | refine wo_nx ?_ | refine wo_rt ?_ | refine wo_bk ?_ | refine wo_ct ?_ | refine wx_asg ?_ | refine wx_par ?_ | refine wx_expr ?_ | refine wx_ret ?_ | refine wx_retN ?_ | refine wx_pass ?_ | refine wx_brk ?_ | refine wx_cont ?_
  | refine wa_n (Nat.le_of_ble_eq_true (by with_unfolding_all rfl)) ?_ | refine wa_tup ?_ | refine wa_sub ?_ | refine was_cons ?_ | refine was_nil ?_ | refine wf_nil ?_ | refine wf_one ?_
  | refine wi_seq ?_ | refine wi_range1 ?_ | refine wi_range2 ?_ | refine wi_zip ?_ | refine wi_enum ?_
  | refine wl (Nat.le_of_ble_eq_true (by with_unfolding_all rfl)) ?_ | refine wv (by with_unfolding_all rfl) ?_ | refine ws_lst (by with_unfolding_all rfl) (by first | decide | omega) (Nat.le_of_ble_eq_true (by with_unfolding_all rfl)) ?_ | refine wpar (by with_unfolding_all rfl) ?_ | refine wit (by with_unfolding_all rfl) ?_ | refine wen (by with_unfolding_all rfl) ?_ | refine wint (by omega) ?_
  | refine wc_t ?_ | refine wc_f ?_
  | refine r_add ?_ | refine r_sub ?_ | refine r_neg ?_ | refine r_lt ?_ | refine r_le ?_ | refine r_gt ?_ | refine r_ge ?_ | refine r_abs ?_ | refine r_min ?_ | refine r_max ?_ | refine r_isN ?_ | refine r_isB ?_
  | refine r_ne_nil (by with_unfolding_all rfl) (pdL_ints _) ?_ | refine r_eq_nil (by with_unfolding_all rfl) (pdL_ints _) ?_ | refine r_popAt (by with_unfolding_all rfl) ?_
  | refine r_eq_tt ?_ | refine r_eq_ff ?_ | refine r_eq_tf ?_ | refine r_eq_ft ?_
  | refine r_eq_int ?_ | refine r_ne_int ?_ | refine r_eq_bl ?_ | refine r_ne_bl ?_
  | refine r_pow18 ?_ | refine r_pow30 ?_ | refine r_pow48 ?_ | refine r_pow60 ?_ | refine r_pow900 ?_ | refine r_mod big900_pos ?_
  | refine r_mod (by first | decide | omega) ?_ | refine r_fdiv (by first | decide | omega) (by first | decide | omega) ?_ | refine r_mul (by first | decide | omega) (by first | decide | omega) ?_ | refine r_pow (by first | decide | omega) (by first | decide | omega) (by first | decide | omega) ?_
  | refine r_item_ref (by with_unfolding_all rfl) (by first | decide | omega) (by with_unfolding_all rfl) ?_ | refine r_item_tmp (by first | decide | omega) (by with_unfolding_all rfl) ?_ | refine r_item_tup (by first | decide | omega) (by with_unfolding_all rfl) ?_
  | refine r_item_rol (by first | decide | omega) (by with_unfolding_all rfl) ?_ | refine r_len_tmp ?_ | refine r_len_tup ?_ | refine r_len_rol ?_ | refine r_len_ref (by with_unfolding_all rfl) ?_
  | refine r_inst (by with_unfolding_all rfl) ?_)
local macro_rules | `(tactic| walk_at "s") => `(tactic| first | walk_at "s0" | with_reducible refine wx_ite ?_)
local macro_rules | `(tactic| walk_at "A") => `(tactic| repeat walk_at "s0")
local macro_rules | `(tactic| walk_at "S") => `(tactic| repeat walk_at "s")
local macro_rules | `(tactic| walk_at "c") => `(tactic| first | refine wc_dt (by first | decide | omega) ?_ | refine wc_df (by first | decide | omega) ?_)
local macro_rules | `(tactic| walk_at "C") => `(tactic| repeat first | walk_at "s" | walk_at "c")
local macro_rules | `(tactic| walk_at "p") => `(tactic| with_reducible first | refine wn_tmp_p (by assumption) fun _ _ => ?_ | refine wd_dK_p (by assumption) fun _ _ => ?_ | refine r_item_p (by assumption) (by first | assumption | exact set_at (by assumption) | with_unfolding_all rfl) (by omega) (by first | omega | (rw [List.length_set]; omega)) fun _ _ => ?_ | refine ws_p (by assumption) (by first | assumption | exact set_at (by assumption) | with_unfolding_all rfl) (by omega) (by first | omega | (rw [List.length_set]; omega)) fun _ _ => ?_ | refine r_add_lst (by first | (with_unfolding_all rfl) | exact lstM_p (by assumption) (by first | assumption | exact set_at (by assumption) | with_unfolding_all rfl)) (by first | (with_unfolding_all rfl) | exact lstM_p (by assumption) (by first | assumption | exact set_at (by assumption) | with_unfolding_all rfl)) (by first | omega | (simp only [List.length_append, List.length_take, List.length_drop, List.length_cons, List.length_nil]; omega)) ?_ | refine r_tuple (by first | (with_unfolding_all rfl) | exact lst_p (by assumption) (by first | assumption | exact set_at (by assumption) | with_unfolding_all rfl)) ?_ | refine r_slice01 (slice_to (by first | (with_unfolding_all rfl) | exact lst_p (by assumption) (by first | assumption | exact set_at (by assumption) | with_unfolding_all rfl)) (by with_unfolding_all rfl) (by omega)) ?_ | refine r_slice10 (slice_from (by first | (with_unfolding_all rfl) | exact lst_p (by assumption) (by first | assumption | exact set_at (by assumption) | with_unfolding_all rfl)) (by with_unfolding_all rfl) (by omega)) ?_)
local macro_rules | `(tactic| walk_at "P") => `(tactic| repeat first | walk_at "p" | walk_at "d" | walk_at "s")
local macro_rules | `(tactic| walk_at "PA") => `(tactic| repeat first | walk_at "p" | walk_at "d" | walk_at "s0")
local macro_rules | `(tactic| walk_at "d") => `(tactic| with_reducible refine wk_drawG (by assumption) (by assumption) (by assumption) (by omega) (by omega) (by omega) fun _ _ _ _ _ => ?_)
section
variable {G : List D} {call : Call} {ρ : Env} {S : Store} {Q : Out → Store → Prop}
/-- a for, by an invariant that is told when its list is known -/
theorem wx_for2 {t : Tg} {it : It} {b : Stms} (q : Wi G call it ρ S fun ds ch S1 => ∃ P : Nat → Env → Store → Prop, P 0 ρ S1 ∧ (∀ i ρ S, P i ρ S → chk ch S) ∧
    (∀ i d ρ S, ds[i]? = some d → P i ρ S → Wa G call t d ρ S fun ρ1 S1 => Wxs G call b ρ1 S1 fun o S2 => o.Ok (P (i + 1)) (fun ρ S => Q (.nx ρ) S) (fun x S => Q (.rt x) S) S2) ∧ ∀ ρ S, P ds.length ρ S → Q (.nx ρ) S) (hl : isL it = true := by with_unfolding_all rfl) : Wx G call (.for t it b) ρ S Q := by
  obtain ⟨ds, ch, S1, e, P, h⟩ := q.h
  exact wx_for P ⟨ds, ch, S1, e, h⟩ hl
end
structure WayV where
  nm : Str
  kind : Str
  st : Str
  en : Str
  p : Int
  q : Int
def WayV.d (w : WayV) : D := .tup [.str w.nm, .str w.kind, .str w.st, .str w.en, .int w.p, .int w.q]
structure WayV.Ok (w : WayV) : Prop where
  nm : Name w.nm
  kind : w.kind = "slope" ∨ w.kind = "lift" ∨ w.kind = "path"
  st : Name w.st
  en : Name w.en
  p0 : 0 ≤ w.p
  p1 : w.p ≤ 1000000
  q0 : 0 ≤ w.q
  q1 : w.q ≤ 1000000
structure HillV where
  ws : List WayV
  home : Str
  dark : Int
def HillV.d (h : HillV) : D := .tup [.tup (h.ws.map WayV.d), .str h.home, .int h.dark]
structure HillV.Ok (h : HillV) : Prop where
  l0 : 1 ≤ h.ws.length
  l1 : h.ws.length ≤ 12
  ws : ∀ w ∈ h.ws, w.Ok
  home : Name h.home
  nd : (h.ws.map WayV.nm).Nodup
  d0 : 1 ≤ h.dark
  d1 : h.dark ≤ 1000000
theorem closed_ways (n : Nat) : ∀ ws : List WayV, closeds n (ws.map WayV.d) = true
  | [] => by unfold List.map closeds; rfl
  | w :: ws => by rw [List.map_cons]; unfold closeds; rw [closed_ways n ws]; simp [WayV.d, closed, closeds]
theorem closed_hill (n : Nat) (h : HillV) : closed n h.d = true := by
  unfold HillV.d closed
  simp [closeds, closed, closed_ways]
variable {gl : List (Str × D)} {rows : List Row}
theorem paceG {dr pa : Nat} {r r' : Row} (hr : rows[dr]? = some r) (hd : r.df = ⟨2, 6, drawB⟩) (hr' : rows[pa]? = some r') (hd' : r'.df = ⟨2, 2, paceB dr⟩) {n : Nat} {X S : Store} {sc : Int} (k : Nat) (p : Bag n X S) (h0 : 1 ≤ sc) (h1 : sc ≤ 33333) (hn : n ≤ 100000000) : ∃ (v : Int) (S' : Store), 0 ≤ v ∧ v ≤ 1000000 ∧ Bag (n + 1) X S' ∧ calls gl rows (k + 2) pa [.ref 1, .int sc] S = some (.int v, S') := by
  have w : Wxs (gl.map (·.2)) (calls gl rows (k + 1)) (paceB dr) [some (.ref 1), some (.int sc)] S fun o S' => ∃ v : Int, o = .rt (.int v) ∧ 0 ≤ v ∧ v ≤ 1000000 ∧ Bag (n + 1) X S' := by
    unfold paceB
    walk_at "P"
    rename_i v S1 g1 g2 p1
    refine r_item_mem g1 (by simpa using g2) fun y hy => ?_
    walk_at "S"
    simp only [List.mem_cons, List.not_mem_nil, or_false] at hy
    rcases hy with rfl | rfl | rfl | rfl | rfl | rfl | rfl | rfl <;> exact ⟨_, rfl, by omega, by omega, p1⟩
  obtain ⟨o, S', e, v, rfl, h2, h3, h4⟩ := w.h
  exact ⟨v, S', h2, h3, h4, (call_rt hr' (by rw [hd']; rfl) (by rw [hd']; exact e)).trans (congrArg some (gc_same (by rw [h4.len, p.len])))⟩
theorem mem_strs {x : D} {ys : List Str} (h : x ∈ ys.map D.str) : ∃ y, y ∈ ys ∧ x = .str y := by
  obtain ⟨y, h1, h2⟩ := List.mem_map.mp h
  exact ⟨y, h1, h2.symm⟩
theorem hillG {dr an la ls pa hi : Nat} {r ra rl rs rp rh : Row} (hr : rows[dr]? = some r) (hd : r.df = ⟨2, 6, drawB⟩) (hra : rows[an]? = some ra) (hda : ra.df = ⟨2, 2, anyB dr⟩) (hrl : rows[la]? = some rl) (hdl : rl.df = ⟨1, 3, labelB dr⟩) (hrs : rows[ls]? = some rs) (hds : rs.df = ⟨2, 8, labelsB dr la⟩)
    (hrp : rows[pa]? = some rp) (hdp : rp.df = ⟨2, 2, paceB dr⟩) (hrh : rows[hi]? = some rh) (hdh : rh.df = ⟨1, 11, hillB dr an ls pa⟩) {n : Nat} {X S : Store} (k : Nat) (p : Bag n X S) (hn : n ≤ 1000000) : ∃ (h : HillV) (S' : Store), h.Ok ∧ Bag (n + 300) X S' ∧ calls gl rows (k + 4) hi [.ref 1] S = some (h.d, S') := by
  have w : Wxs (gl.map (·.2)) (calls gl rows (k + 3)) (hillB dr an ls pa) [some (.ref 1), none, none, none, none, none, none, none, none, none, none] S fun o S' => ∃ (h : HillV) (J : Store), o = .rt h.d ∧ h.Ok ∧ Bag (n + 300) (X ++ J) S' := by
    unfold hillB
    refine wxs_cons (wx_asg (We.mono (Q := fun t S' => ∃ mi : Int, t = .d (.int mi) ∧ 1 ≤ mi ∧ mi ≤ 12 ∧ Bag (n + 2) X S') ?_ ?_))
    · walk_at "P"
      refine wc_dec (fun _ => ?_) fun _ => ?_
      · walk_at "P"
        rename_i v S1 g1 g2 p1 _
        exact ⟨_, rfl, by decide, by decide, p1.mono (by omega)⟩
      · walk_at "P"
        rename_i v S1 g1 g2 p1 _ v2 S2 g3 g4 p2
        exact ⟨_, rfl, by omega, by omega, p2⟩
    · rintro t S1 ⟨mi, rfl, hm0, hm1, p1⟩
      obtain ⟨many, rfl⟩ := Int.eq_ofNat_of_zero_le (show 0 ≤ mi by omega)
      walk_at "PA"
      rename_i v S2 g1 g2 p2
      refine r_item_mem g1 (by simpa using g2) fun y hy => ?_
      obtain ⟨sc, rfl, hs0, hs1⟩ : ∃ sc : Int, y = .int sc ∧ 1 ≤ sc ∧ sc ≤ 33333 := by
        simp only [List.mem_cons, List.not_mem_nil, or_false] at hy
        rcases hy with rfl | rfl | rfl <;> exact ⟨_, rfl, by decide, by decide⟩
      walk_at "PA"
      rename_i v2 S3 g3 g4 p3
      obtain ⟨m, hm⟩ : ∃ m : Nat, 1 + v2 = (m : Int) := ⟨(1 + v2).toNat, by omega⟩
      rw [hm]
      obtain ⟨spots, S4, hl4, hs4, _, p4, e4⟩ := labelsG (gl := gl) (many := m) hr hd hrl hdl hrs hds k p3 (by omega) (by omega)
      refine wk e4 ?_
      walk_at "PA"
      rename_i S5 p5
      refine wx_for2 ?_
      walk_at "S"
      obtain ⟨names, S6, hl6, hs6, hnd6, p6, e6⟩ := labelsG (gl := gl) (many := many) hr hd hrl hdl hrs hds k p5 (by omega) (by omega)
      refine wk e6 ?_
      have p7 : Bag (n + 200) (X ++ [.lst (spots.map .str), .lst [], .lst (names.map .str)]) S6 := by
        rw [show X ++ [.lst (spots.map .str), .lst [], .lst (names.map .str)] = (X ++ ([.lst (spots.map .str)] ++ [.lst []])) ++ [.lst (names.map .str)] by simp]
        exact p6.mono (by omega)
      have hlx : (X ++ ([O.lst (spots.map D.str)] ++ [O.lst []])).length + 2 = X.length + 2 + 2 := by rw [List.length_append]; rfl
      rw [hlx]
      refine wit (show itemsOf S6 (.d (.ref (X.length + 2 + 2))) = some (names.map .str) from ?_) ?_
      · show seqOf S6 (.d (.ref (X.length + 2 + 2))) = _
        unfold seqOf
        rw [lst_p p7 rfl]
      refine ⟨fun i ρ S => ∃ (ws : List WayV) (a b c d e f : Option D), Bag (n + 200 + 5 * i) (X ++ [.lst (spots.map .str), .lst (ws.map WayV.d), .lst (names.map .str)]) S ∧ ws.map WayV.nm = names.take i ∧ (∀ w ∈ ws, w.Ok) ∧
        ρ = [some (.ref 1), some (.int (many : Nat)), some (.int sc), some (.ref (X.length + 2)), some (.ref (X.length + 2 + 1)), a, b, c, d, e, f], ⟨[], none, none, none, none, none, none, p7, rfl, (fun y hy => by cases hy), rfl⟩, ?_, ?_, ?_⟩
      · rintro i ρ S ⟨ws, a, b, c, d, e, f, p, _⟩ q hq
        rw [List.mem_singleton.mp hq]
        exact (bag_at p 2).trans rfl
      · rintro i x ρ S hx ⟨ws, a, b, c, d, e, f, p, hwl, hwo, rfl⟩
        obtain ⟨nm, hnm, rfl⟩ := mem_strs (List.mem_of_getElem? hx)
        have hi : i < names.length := by
          have := (List.getElem?_eq_some_iff.mp hx).1
          rwa [List.length_map] at this
        have hnm2 : names[i]? = some nm := by
          rw [List.getElem?_map, Option.map_eq_some_iff] at hx
          obtain ⟨y, hy, e⟩ := hx
          cases e
          exact hy
        have hwn := hwl
        have hwl : ws.length = i := by
          have := congrArg List.length hwn
          rw [List.length_map, List.length_take] at this
          omega
        have hsp : (spots.map D.str).isEmpty = false := by
          cases spots with
          | nil => exfalso; rw [List.length_nil] at hl4; omega
          | cons _ _ => rfl
        walk_at "PA"
        rename_i kd S7 g5 g6 p8
        refine wk_anyG (j := 0) (R := X) hra hda hr hd p8 rfl hsp (by rw [List.length_map]; omega) (by omega) fun st S8 hst p9 => ?_
        walk_at "PA"
        refine wk_anyG (j := 0) (R := X) hra hda hr hd p9 rfl hsp (by rw [List.length_map]; omega) (by omega) fun en S9 hen p10 => ?_
        obtain ⟨st, hst2, rfl⟩ := mem_strs hst
        obtain ⟨en, hen2, rfl⟩ := mem_strs hen
        walk_at "PA"
        obtain ⟨pp, S10, g7, g8, p11, e11⟩ := paceG (gl := gl) hr hd hrp hdp (k + 1) p10 hs0 hs1 (by omega)
        refine wk e11 ?_
        walk_at "PA"
        obtain ⟨qq, S11, g9, g10, p12, e12⟩ := paceG (gl := gl) hr hd hrp hdp (k + 1) p11 hs0 hs1 (by omega)
        refine wk e12 ?_
        walk_at "PA"
        refine wv (rv_append ((bag_at p12 1).trans rfl)) ?_
        walk_at "PA"
        refine r_item_mem g5 (by simpa using g6) fun kk hkk => ?_
        obtain ⟨kk, rfl, hk⟩ : ∃ z : Str, kk = .str z ∧ (z = "slope" ∨ z = "lift" ∨ z = "path") := by
          simp only [List.mem_cons, List.not_mem_nil, or_false] at hkk
          rcases hkk with rfl | rfl | rfl | rfl
          · exact ⟨_, rfl, .inl rfl⟩
          · exact ⟨_, rfl, .inr (.inl rfl)⟩
          · exact ⟨_, rfl, .inr (.inr rfl)⟩
          · exact ⟨_, rfl, .inl rfl⟩
        walk_at "PA"
        refine r_add_tup (Nat.le_of_ble_eq_true rfl) ?_
        walk_at "PA"
        refine r_append_p (i := 1) (R := X) p12 rfl (by rw [List.length_map]; omega) fun S12 p13 => ?_
        walk_at "S"
        refine ⟨ws ++ [⟨nm, kk, st, en, pp, qq⟩], _, _, _, _, _, _, ?_, by rw [List.map_append, hwn, List.take_succ, hnm2]; rfl, fun w hw => ?_, rfl⟩
        · rw [List.map_append]
          exact p13.mono (by omega)
        · rcases List.mem_append.mp hw with hw | hw
          · exact hwo w hw
          · rw [List.mem_singleton.mp hw]
            exact ⟨hs6 nm hnm, hk, hs4 st hst2, hs4 en hen2, g7, g8, g9, g10⟩
      · rintro ρ S ⟨ws, a, b, c, d, e, f, p, hwl, hwo, rfl⟩
        rw [List.length_map, hl6] at p hwl
        have hwn := hwl
        rw [← hl6, List.take_length] at hwn
        have hwl : ws.length = many := by
          have := congrArg List.length hwn
          rw [List.length_map] at this
          omega
        walk_at "PA"
        rename_i w1 T1 k1 k2 q1 w2 T2 k3 k4 q2 w3 T3 k5 k6 q3
        have m1 := Int.mul_pos (show 0 < sc by omega) (show 0 < 1 + w1 by omega)
        have m2 := Int.mul_pos (show 0 < sc by omega) (show 0 < 5 + w2 by omega)
        have m3 : sc * (1 + w1) ≤ 33333 * 30 := Int.mul_le_mul hs1 (by omega) (by omega) (by decide)
        have m4 : sc * (5 + w2) ≤ 33333 * 13 := Int.mul_le_mul hs1 (by omega) (by omega) (by decide)
        refine r_item_mem k5 (by simpa using k6) fun y hy => ?_
        obtain ⟨dk, rfl, hd0, hd1⟩ : ∃ dk : Int, y = .int dk ∧ 1 ≤ dk ∧ dk ≤ 1000000 := by
          simp only [List.mem_cons, List.not_mem_nil, or_false] at hy
          rcases hy with rfl | rfl | rfl | rfl <;> exact ⟨_, rfl, by omega, by omega⟩
        walk_at "PA"
        have hsp : (spots.map D.str).isEmpty = false := by
          cases spots with
          | nil => exfalso; rw [List.length_nil] at hl4; omega
          | cons _ _ => rfl
        refine wk_anyG (j := 0) (R := X) hra hda hr hd q3 rfl hsp (by rw [List.length_map]; omega) (by omega) fun hm' T4 hh q4 => ?_
        obtain ⟨home, hh2, rfl⟩ := mem_strs hh
        walk_at "PA"
        exact ⟨⟨ws, home, dk⟩, _, rfl, ⟨by show 1 ≤ ws.length; omega, by show ws.length ≤ 12; omega, hwo, hs4 home hh2, by show (ws.map WayV.nm).Nodup; rw [hwn]; exact hnd6, hd0, hd1⟩, q4.mono (by omega)⟩
  obtain ⟨o, S', e, h, J, rfl, ho, h3⟩ := w.h
  obtain ⟨S'', e2, h4⟩ := p.gc h3 (closed_hill _ h)
  exact ⟨h, S'', ho, h4, (call_rt hrh (by rw [hdh]; rfl) (by rw [hdh]; exact e)).trans (congrArg some e2)⟩
end F

/-! What the laws' and the program's small readers tell of any value. -/
namespace F
open PySem PyProof.Rows L2
local macro_rules | `(tactic| walk_at "s0") => `(tactic| with_reducible first
  | refine w_c ?_ | refine w_v (by with_unfolding_all rfl) ?_ | refine w_prim ?_ | refine wes_cons ?_ | refine wes_nil ?_ | refine wds_cons ?_ | refine wds_nil ?_ | refine wn_d ?_ | refine wn_tmp ?_
  | refine w_meth ?_ | refine w_tup ?_ | refine w_lst ?_ | refine w_and ?_ | refine w_or ?_ | refine wb_and ?_ | refine wb_or ?_ | refine wb_one ?_ | refine w_not ?_ | refine w_ite ?_ | refine w_call ?_
  | refine w_chain rfl rfl ?_ | refine w_lc ?_ | refine w_g (by with_unfolding_all rfl) ?_ | refine w_dK ?_
  | refine wxs_cons ?_ | refine wxs_nil ?_ | refine wo_nx ?_ | refine wo_rt ?_ | refine wo_bk ?_ | refine wo_ct ?_ | refine wx_asg ?_ | refine wx_par ?_ | refine wx_expr ?_ | refine wx_ret ?_ | refine wx_retN ?_ | refine wx_pass ?_ | refine wx_brk ?_ | refine wx_cont ?_
  | refine wa_n (Nat.le_of_ble_eq_true (by with_unfolding_all rfl)) ?_ | refine wa_tup ?_ | refine wa_sub ?_ | refine was_cons ?_ | refine was_nil ?_ | refine wf_nil ?_ | refine wf_one ?_
  | refine wi_seq ?_ | refine wi_range1 ?_ | refine wi_range2 ?_ | refine wi_zip ?_ | refine wi_enum ?_
  | refine wl (Nat.le_of_ble_eq_true (by with_unfolding_all rfl)) ?_ | refine wv (by with_unfolding_all rfl) ?_ | refine ws_lst (by with_unfolding_all rfl) (by first | decide | omega) (Nat.le_of_ble_eq_true (by with_unfolding_all rfl)) ?_ | refine wpar (by with_unfolding_all rfl) ?_ | refine wit (by with_unfolding_all rfl) ?_ | refine wen (by with_unfolding_all rfl) ?_ | refine wint (by omega) ?_
  | refine wc_t ?_ | refine wc_f ?_
  | refine r_add ?_ | refine r_sub ?_ | refine r_neg ?_ | refine r_lt ?_ | refine r_le ?_ | refine r_gt ?_ | refine r_ge ?_ | refine r_abs ?_ | refine r_min ?_ | refine r_max ?_ | refine r_isN ?_ | refine r_isB ?_
  | refine r_ne_nil (by with_unfolding_all rfl) (pdL_ints _) ?_ | refine r_eq_nil (by with_unfolding_all rfl) (pdL_ints _) ?_ | refine r_popAt (by with_unfolding_all rfl) ?_
  | refine r_eq_tt ?_ | refine r_eq_ff ?_ | refine r_eq_tf ?_ | refine r_eq_ft ?_
  | refine r_eq_int ?_ | refine r_ne_int ?_ | refine r_eq_bl ?_ | refine r_ne_bl ?_
  | refine r_pow18 ?_ | refine r_pow30 ?_ | refine r_pow48 ?_ | refine r_pow60 ?_ | refine r_pow900 ?_ | refine r_mod big900_pos ?_
  | refine r_mod (by first | decide | omega) ?_ | refine r_fdiv (by first | decide | omega) (by first | decide | omega) ?_ | refine r_mul (by first | decide | omega) (by first | decide | omega) ?_ | refine r_pow (by first | decide | omega) (by first | decide | omega) (by first | decide | omega) ?_
  | refine r_item_ref (by with_unfolding_all rfl) (by first | decide | omega) (by with_unfolding_all rfl) ?_ | refine r_item_tmp (by first | decide | omega) (by with_unfolding_all rfl) ?_ | refine r_item_tup (by first | decide | omega) (by with_unfolding_all rfl) ?_
  | refine r_item_rol (by first | decide | omega) (by with_unfolding_all rfl) ?_ | refine r_len_tmp ?_ | refine r_len_tup ?_ | refine r_len_rol ?_ | refine r_len_ref (by with_unfolding_all rfl) ?_
  | refine r_inst (by with_unfolding_all rfl) ?_)
local macro_rules | `(tactic| walk_at "s") => `(tactic| first | walk_at "s0" | with_reducible refine wx_ite ?_)
local macro_rules | `(tactic| walk_at "A") => `(tactic| repeat walk_at "s0")
local macro_rules | `(tactic| walk_at "S") => `(tactic| repeat walk_at "s")
local macro_rules | `(tactic| walk_at "c") => `(tactic| first | refine wc_dt (by first | decide | omega) ?_ | refine wc_df (by first | decide | omega) ?_)
local macro_rules | `(tactic| walk_at "C") => `(tactic| repeat first | walk_at "s" | walk_at "c")
local macro_rules | `(tactic| walk_at "p") => `(tactic| with_reducible first | refine wn_tmp_p (by assumption) fun _ _ => ?_ | refine wd_dK_p (by assumption) fun _ _ => ?_ | refine r_item_p (by assumption) (by first | assumption | exact set_at (by assumption) | with_unfolding_all rfl) (by omega) (by first | omega | (rw [List.length_set]; omega)) fun _ _ => ?_ | refine ws_p (by assumption) (by first | assumption | exact set_at (by assumption) | with_unfolding_all rfl) (by omega) (by first | omega | (rw [List.length_set]; omega)) fun _ _ => ?_ | refine r_add_lst (by first | (with_unfolding_all rfl) | exact lstM_p (by assumption) (by first | assumption | exact set_at (by assumption) | with_unfolding_all rfl)) (by first | (with_unfolding_all rfl) | exact lstM_p (by assumption) (by first | assumption | exact set_at (by assumption) | with_unfolding_all rfl)) (by first | omega | (simp only [List.length_append, List.length_take, List.length_drop, List.length_cons, List.length_nil]; omega)) ?_ | refine r_tuple (by first | (with_unfolding_all rfl) | exact lst_p (by assumption) (by first | assumption | exact set_at (by assumption) | with_unfolding_all rfl)) ?_ | refine r_slice01 (slice_to (by first | (with_unfolding_all rfl) | exact lst_p (by assumption) (by first | assumption | exact set_at (by assumption) | with_unfolding_all rfl)) (by with_unfolding_all rfl) (by omega)) ?_ | refine r_slice10 (slice_from (by first | (with_unfolding_all rfl) | exact lst_p (by assumption) (by first | assumption | exact set_at (by assumption) | with_unfolding_all rfl)) (by with_unfolding_all rfl) (by omega)) ?_)
local macro_rules | `(tactic| walk_at "P") => `(tactic| repeat first | walk_at "p" | walk_at "d" | walk_at "s")
local macro_rules | `(tactic| walk_at "PA") => `(tactic| repeat first | walk_at "p" | walk_at "d" | walk_at "s0")
def wholeB : Stms := (
  .cons (.ret (.and (.cons (.prim (.inst .int) (.cons (.v 0) .nil)) (.cons (.not (.prim (.inst .bool) (.cons (.v 0) .nil))) .nil)))) <| .nil)
def numBd (wh : Nat) : Stms := (
  .cons (.ret (.and (.cons (.call wh (.cons (.v 0) .nil)) (.cons (.chain .le .le (.v 1) (.v 0) (.v 2)) .nil)))) <| .nil)
def nameBd : Stms := (
  .cons (.ite (.or (.cons (.not (.prim (.inst .str) (.cons (.v 0) .nil))) (.cons (.not (.chain .le .le (.c (.int 1)) (.prim .len (.cons (.v 0) .nil)) (.g 1))) .nil))) (
    .cons (.ret (.c (.bl false))) <| .nil) .nil) <|
  .cons (.ret (.prim .all (.cons (.lc (.prim (.isin false) (.cons (.v 1) (.cons (.g 0) .nil))) (.n 1) (.seq (.v 0)) .nil [1]) .nil))) <| .nil)
def lnameBd : Stms := (
  .cons (.ite (.or (.cons (.not (.prim (.inst .str) (.cons (.v 0) .nil))) (.cons (.prim .eq (.cons (.prim .len (.cons (.v 0) .nil)) (.cons (.c (.int 0)) .nil))) (.cons (.prim .gt (.cons (.prim .len (.cons (.v 0) .nil)) (.cons (.c (.int 8)) .nil))) .nil)))) (
    .cons (.ret (.c (.bl false))) <| .nil) .nil) <|
  .cons (.ret (.prim .eq (.cons (.lc (.v 1) (.n 1) (.seq (.v 0)) (.cons (.prim (.isin true) (.cons (.v 1) (.cons (.c (.str "abcdefghijklmnopqrstuvwxyz")) .nil))) .nil) [1]) (.cons (.lst .nil) .nil)))) <| .nil)
def lwholeBd : Stms := (
  .cons (.ret (.and (.cons (.prim (.inst .int) (.cons (.v 0) .nil)) (.cons (.not (.prim (.inst .bool) (.cons (.v 0) .nil))) (.cons (.chain .le .le (.v 1) (.v 0) (.v 2)) .nil))))) <| .nil)
variable {S : Store} {gl : List (Str × D)} {rows : List Row}
theorem callG {i : Nat} {r : Row} {k : Nat} {ds : List D} {x : D} (hr : rows[i]? = some r) (hl : ds.length = r.df.np) (w : Wxs (gl.map (·.2)) (calls gl rows k) r.df.body (startE r.df.ns ds) S fun o S' => o = .rt x ∧ S' = S) : calls gl rows (k + 1) i ds S = some (x, S) := by
  obtain ⟨o, S', e, rfl, rfl⟩ := w.h
  exact (call_rt hr hl e).trans (congrArg some gc_self)
def isInt : D → Bool
  | .int _ => true
  | _ => false
def isStr : D → Bool
  | .str _ => true
  | _ => false
theorem wholeG {i : Nat} {r : Row} (hr : rows[i]? = some r) (hd : r.df = ⟨1, 1, wholeB⟩) (k : Nat) (x : D) (h : okv S.length x = true) : calls gl rows (k + 1) i [x] S = some (.bl (isInt x), S) := by
  refine callG hr (by rw [hd]; rfl) ?_
  rw [hd]
  show Wxs _ _ (wholeB) [some x] S _
  unfold wholeB
  cases x with
  | ref j =>
    have hj := okv_ref h
    walk_at "S"
    refine r_inst_ref hj (by decide) ?_
    walk_at "S"
    exact ⟨rfl, rfl⟩
  | ktup _ => unfold okv at h; cases h
  | rol _ => unfold okv at h; cases h
  | _ =>
    walk_at "S"
    exact ⟨rfl, rfl⟩
def numB (lo hi : Int) : D → Bool
  | .int i => decide (lo ≤ i) && decide (i ≤ hi)
  | _ => false
theorem numB_int (lo hi i : Int) : numB lo hi (.int i) = (decide (lo ≤ i) && decide (i ≤ hi)) := rfl
theorem numG {wh : Nat} {r' : Row} (hw : rows[wh]? = some r') (hw' : r'.df = ⟨1, 1, wholeB⟩) {i : Nat} {r : Row} (hr : rows[i]? = some r) (hd : r.df = ⟨3, 3, numBd wh⟩) (k : Nat) (x : D) (lo hi : Int) (h : okv S.length x = true) : calls gl rows (k + 2) i [x, .int lo, .int hi] S = some (.bl (numB lo hi x), S) := by
  refine callG hr (by rw [hd]; rfl) ?_
  rw [hd]
  show Wxs _ _ (numBd wh) [some x, some (.int lo), some (.int hi)] S _
  unfold numBd
  walk_at "S"
  refine wk (wholeG hw hw' k x h) ?_
  cases x with
  | int i0 =>
    refine wc_t ?_
    walk_at "S"
    refine wc_dec (fun h1 => ?_) fun h1 => ?_
    · walk_at "S"
      exact ⟨by rw [numB_int, decide_eq_true h1, Bool.true_and], rfl⟩
    · walk_at "S"
      exact ⟨by rw [numB_int, decide_eq_false h1, Bool.false_and], rfl⟩
  | _ =>
    refine wc_f ?_
    walk_at "S"
    exact ⟨rfl, rfl⟩
theorem cps_len (z : Str) : z.cps.toList.length = z.length := rfl
def letters : Str := "abcdefghijklmnopqrstuvwxyz"
def letB (c : Nat) : Bool := !(Builtin.Str.occurrences letters ⟨#[c]⟩ 0 letters.length 1).isEmpty
def nameB : D → Bool
  | .str z => decide (1 ≤ z.length) && decide (z.length ≤ 8) && z.cps.toList.all letB
  | _ => false
theorem nameB_str (z : Str) : nameB (.str z) = (decide (1 ≤ z.length) && decide (z.length ≤ 8) && z.cps.toList.all letB) := rfl
theorem in_letters (c : Nat) : inT S (.d (.str ⟨#[c]⟩)) (.d (.str letters)) = some (letB c) := rfl
theorem nameG {i : Nat} {r : Row} (hr : rows[i]? = some r) (hd : r.df = ⟨1, 2, nameBd⟩) (hg0 : (gl.map (·.2))[0]? = some (.str letters)) (hg1 : (gl.map (·.2))[1]? = some (.int 8)) (k : Nat) (x : D) (h : okv S.length x = true) : calls gl rows (k + 1) i [x] S = some (.bl (nameB x), S) := by
  refine callG hr (by rw [hd]; rfl) ?_
  rw [hd]
  show Wxs _ _ (nameBd) [some x, none] S _
  unfold nameBd
  cases x with
  | ref j =>
    have hj := okv_ref h
    walk_at "S"
    refine r_inst_ref hj (by decide) ?_
    walk_at "S"
    exact ⟨rfl, rfl⟩
  | ktup _ => unfold okv at h; cases h
  | rol _ => unfold okv at h; cases h
  | str z =>
    have hz := okv_str h
    walk_at "S"
    refine r_len_str (by omega) ?_
    walk_at "S"
    refine wc_dec (fun h1 => ?_) fun h1 => ?_
    · walk_at "S"
      refine w_g hg1 ?_
      walk_at "S"
      refine wc_dec (fun h2 => ?_) fun h2 => ?_
      · walk_at "S"
        refine wlc_map (fun c => D.str ⟨#[c]⟩) z.cps.toList (fun _ => true) (fun c => .bl (letB c)) rfl chk_nil (by rw [cps_len]; omega) (fun c _ => ?_) ?_
        · walk_at "S"
          refine ⟨rfl, rfl, rfl, fun _ => ?_⟩
          walk_at "S"
          refine w_g hg0 ?_
          walk_at "S"
          refine r_isin (in_letters c) ?_
          exact ⟨by rw [Bool.bne_false], rfl⟩
        · walk_at "S"
          refine r_all (bs := z.cps.toList.map letB) rfl (by rw [List.filter_eq_self.mpr (fun _ _ => rfl), show (z.cps.toList.map fun c => D.bl (letB c)) = (z.cps.toList.map letB).map D.bl by rw [List.map_map]; rfl, boolsOf_map]) ?_
          walk_at "S"
          refine ⟨?_, rfl⟩
          rw [List.all_map]
          rw [nameB_str, decide_eq_true (show 1 ≤ z.length by omega), decide_eq_true (show z.length ≤ 8 by omega)]
          rfl
      · walk_at "S"
        exact ⟨by rw [nameB_str, decide_eq_false (show ¬ z.length ≤ 8 by omega), Bool.and_false, Bool.false_and], rfl⟩
    · walk_at "S"
      exact ⟨by rw [nameB_str, decide_eq_false (show ¬ 1 ≤ z.length by omega), Bool.false_and, Bool.false_and], rfl⟩
  | _ =>
    walk_at "S"
    exact ⟨rfl, rfl⟩
theorem filt_nil (l : List Nat) : decide (((l.filter fun c => !letB c).map fun c => D.str ⟨#[c]⟩) = []) = l.all letB := by
  rw [Bool.eq_iff_iff, decide_eq_true_iff, List.map_eq_nil_iff, List.filter_eq_nil_iff, List.all_eq_true]
  exact ⟨fun h c hc => by simpa using h c hc, fun h c hc => by simpa using h c hc⟩
theorem lnameG {i : Nat} {r : Row} (hr : rows[i]? = some r) (hd : r.df = ⟨1, 2, lnameBd⟩) (k : Nat) (x : D) (h : okv S.length x = true) : calls gl rows (k + 1) i [x] S = some (.bl (nameB x), S) := by
  refine callG hr (by rw [hd]; rfl) ?_
  rw [hd]
  show Wxs _ _ (lnameBd) [some x, none] S _
  unfold lnameBd
  cases x with
  | ref j =>
    have hj := okv_ref h
    walk_at "S"
    refine r_inst_ref hj (by decide) ?_
    walk_at "S"
    exact ⟨rfl, rfl⟩
  | ktup _ => unfold okv at h; cases h
  | rol _ => unfold okv at h; cases h
  | str z =>
    have hz := okv_str h
    walk_at "S"
    refine r_len_str (by omega) ?_
    walk_at "S"
    refine wc_dec (fun h1 => ?_) fun h1 => ?_
    · walk_at "S"
      exact ⟨by rw [nameB_str, decide_eq_false (show ¬ 1 ≤ z.length by omega), Bool.false_and, Bool.false_and], rfl⟩
    · walk_at "S"
      refine r_len_str (by omega) ?_
      walk_at "S"
      refine wc_dec (fun h2 => ?_) fun h2 => ?_
      · walk_at "S"
        exact ⟨by rw [nameB_str, decide_eq_false (show ¬ z.length ≤ 8 by omega), Bool.and_false, Bool.false_and], rfl⟩
      · walk_at "S"
        refine wlc_map (fun c => D.str ⟨#[c]⟩) z.cps.toList (fun c => !letB c) (fun c => .str ⟨#[c]⟩) rfl chk_nil (by rw [cps_len]; omega) (fun c _ => ?_) ?_
        · walk_at "S"
          refine r_isin (in_letters c) ?_
          rw [Bool.bne_true]
          refine wc_mk (fun hb => ?_) fun hb => ?_
          · refine ⟨hb.symm, rfl, rfl, fun _ => ?_⟩
            walk_at "S"
            exact ⟨rfl, rfl⟩
          · exact ⟨hb.symm, rfl, rfl, fun z => by cases z⟩
        · walk_at "S"
          refine r_eq_tmpnil (ps := ((z.cps.toList.filter fun c => !letB c).map fun c => (⟨#[c]⟩ : Str)).map PyData.str) (by rw [show ((z.cps.toList.filter fun c => !letB c).map fun c => D.str ⟨#[c]⟩) = ((z.cps.toList.filter fun c => !letB c).map fun c => (⟨#[c]⟩ : Str)).map D.str by rw [List.map_map]; rfl]; exact pdL_strs _) ?_
          walk_at "S"
          refine ⟨?_, rfl⟩
          rw [nameB_str, decide_eq_true (show 1 ≤ z.length by omega), decide_eq_true (show z.length ≤ 8 by omega), Bool.true_and, Bool.true_and]
          rw [filt_nil]
  | _ =>
    walk_at "S"
    exact ⟨rfl, rfl⟩
theorem lwholeG {i : Nat} {r : Row} (hr : rows[i]? = some r) (hd : r.df = ⟨3, 3, lwholeBd⟩) (k : Nat) (x : D) (lo hi : Int) (h : okv S.length x = true) : calls gl rows (k + 1) i [x, .int lo, .int hi] S = some (.bl (numB lo hi x), S) := by
  refine callG hr (by rw [hd]; rfl) ?_
  rw [hd]
  show Wxs _ _ (lwholeBd) [some x, some (.int lo), some (.int hi)] S _
  unfold lwholeBd
  cases x with
  | ref j =>
    have hj := okv_ref h
    walk_at "S"
    refine r_inst_ref hj (by decide) ?_
    walk_at "S"
    exact ⟨rfl, rfl⟩
  | ktup _ => unfold okv at h; cases h
  | rol _ => unfold okv at h; cases h
  | int i0 =>
    walk_at "S"
    refine wc_dec (fun h1 => ?_) fun h1 => ?_
    · walk_at "S"
      exact ⟨by rw [numB_int, decide_eq_true h1, Bool.true_and], rfl⟩
    · walk_at "S"
      exact ⟨by rw [numB_int, decide_eq_false h1, Bool.false_and], rfl⟩
  | _ =>
    walk_at "S"
    exact ⟨rfl, rfl⟩
end F

/-! Rules and pages as values. -/
namespace F
open PySem PyProof.Rows L2

inductive RuleV where
  | hours (a b : Int) | least (p : Str) (n : Int) | most (p : Str) (n : Int) | looked (n : Int) | along (w : Str) | never
def RuleV.d : RuleV → D
  | .hours a b => .tup [.str "hours", .int a, .int b]
  | .least p n => .tup [.str "least", .str p, .int n]
  | .most p n => .tup [.str "most", .str p, .int n]
  | .looked n => .tup [.str "looked", .int n]
  | .along w => .tup [.str "with", .str w]
  | .never => .tup [.str "never"]
/-- at most sixty figures -/
def Sixty (n : Int) : Prop := -1000000000000000000000000000000000000000000000000000000000000 < n ∧ n < 1000000000000000000000000000000000000000000000000000000000000
def RuleV.Ok (h : HillV) : RuleV → Prop
  | .hours a b => 0 ≤ a ∧ a < b ∧ b ≤ 1000001
  | .least p n => Name p ∧ Sixty n
  | .most p n => Name p ∧ Sixty n
  | .looked n => 1 ≤ n ∧ n ≤ 1000000
  | .along w => ∃ v ∈ h.ws, v.nm = w
  | .never => True
theorem RuleV.parts (h : HillV) (ho : h.Ok) : ∀ (r : RuleV), r.Ok h → ∃ (w : Str) (es : List D), r.d = .tup (.str w :: es) ∧ w.length ≤ 8 ∧ es.length ≤ 2 ∧ ∀ e ∈ es, okv 0 e = true ∧ flat e = true := by
  have fi : ∀ i : Int, okv 0 (.int i) = true ∧ flat (.int i) = true := fun i => ⟨by unfold okv; rfl, rfl⟩
  have fs : ∀ z : Str, z.length ≤ 8 → okv 0 (.str z) = true ∧ flat (.str z) = true := fun z hz => ⟨by unfold okv; exact decide_eq_true (by omega), rfl⟩
  intro r hr
  cases r with
  | hours a b =>
    refine ⟨"hours", _, rfl, by decide, Nat.le_refl _, fun e he => ?_⟩
    simp only [List.mem_cons, List.not_mem_nil, or_false] at he
    rcases he with rfl | rfl <;> exact fi _
  | least p n =>
    refine ⟨"least", _, rfl, by decide, Nat.le_refl _, fun e he => ?_⟩
    simp only [List.mem_cons, List.not_mem_nil, or_false] at he
    rcases he with rfl | rfl
    · exact fs _ hr.1.hi
    · exact fi _
  | most p n =>
    refine ⟨"most", _, rfl, by decide, Nat.le_refl _, fun e he => ?_⟩
    simp only [List.mem_cons, List.not_mem_nil, or_false] at he
    rcases he with rfl | rfl
    · exact fs _ hr.1.hi
    · exact fi _
  | looked n =>
    refine ⟨"looked", _, rfl, by decide, Nat.le_of_ble_eq_true rfl, fun e he => ?_⟩
    rw [List.mem_singleton.mp he]; exact fi _
  | along w =>
    refine ⟨"with", _, rfl, by decide, Nat.le_of_ble_eq_true rfl, fun e he => ?_⟩
    obtain ⟨v, hv, e2⟩ := hr
    rw [List.mem_singleton.mp he]; exact fs _ (e2 ▸ (ho.ws v hv).nm.hi)
  | never => exact ⟨"never", _, rfl, by decide, Nat.zero_le _, fun e he => by cases he⟩
inductive PageV where
  | read (n m : Int) (p : Str) (v : Int) | look (n m : Int) (s : Str) | rule (n m : Int) (w : Str) (rs : List RuleV)
def PageV.num : PageV → Int
  | .read n _ _ _ => n | .look n _ _ => n | .rule n _ _ _ => n
def PageV.mom : PageV → Int
  | .read _ m _ _ => m | .look _ m _ => m | .rule _ m _ _ => m
def PageV.d : PageV → D
  | .read n m p v => .tup [.str "read", .int n, .int m, .str p, .int v]
  | .look n m s => .tup [.str "look", .int n, .int m, .str s]
  | .rule n m w rs => .tup [.str "rule", .int n, .int m, .str w, .tup (rs.map RuleV.d)]
structure PageV.Ok (h : HillV) (p : PageV) : Prop where
  n0 : 0 ≤ p.num
  n1 : p.num ≤ 999999
  m0 : 0 ≤ p.mom
  m1 : p.mom ≤ h.dark
  kind : match p with
    | .read _ _ q v => Name q ∧ Sixty v
    | .look _ _ s => ∃ w ∈ h.ws, w.nm = s ∧ w.kind = "slope"
    | .rule _ _ x rs => (∃ w ∈ h.ws, w.nm = x) ∧ rs.length ≤ 6 ∧ ∀ r ∈ rs, r.Ok h
end F

/-! Sets in len and sorted: the rules, and when a row has no member twice. -/
namespace F
open PySem PyProof.Rows L2
local macro_rules | `(tactic| walk_at "s0") => `(tactic| with_reducible first
  | refine w_c ?_ | refine w_v (by with_unfolding_all rfl) ?_ | refine w_prim ?_ | refine wes_cons ?_ | refine wes_nil ?_ | refine wds_cons ?_ | refine wds_nil ?_ | refine wn_d ?_ | refine wn_tmp ?_
  | refine w_meth ?_ | refine w_tup ?_ | refine w_lst ?_ | refine w_and ?_ | refine w_or ?_ | refine wb_and ?_ | refine wb_or ?_ | refine wb_one ?_ | refine w_not ?_ | refine w_ite ?_ | refine w_call ?_
  | refine w_chain rfl rfl ?_ | refine w_lc ?_ | refine w_g (by with_unfolding_all rfl) ?_ | refine w_dK ?_
  | refine wxs_cons ?_ | refine wxs_nil ?_ | refine wo_nx ?_ | refine wo_rt ?_ | refine wo_bk ?_ | refine wo_ct ?_ | refine wx_asg ?_ | refine wx_par ?_ | refine wx_expr ?_ | refine wx_ret ?_ | refine wx_retN ?_ | refine wx_pass ?_ | refine wx_brk ?_ | refine wx_cont ?_
  | refine wa_n (Nat.le_of_ble_eq_true (by with_unfolding_all rfl)) ?_ | refine wa_tup ?_ | refine wa_sub ?_ | refine was_cons ?_ | refine was_nil ?_ | refine wf_nil ?_ | refine wf_one ?_
  | refine wi_seq ?_ | refine wi_range1 ?_ | refine wi_range2 ?_ | refine wi_zip ?_ | refine wi_enum ?_
  | refine wl (Nat.le_of_ble_eq_true (by with_unfolding_all rfl)) ?_ | refine wv (by with_unfolding_all rfl) ?_ | refine ws_lst (by with_unfolding_all rfl) (by first | decide | omega) (Nat.le_of_ble_eq_true (by with_unfolding_all rfl)) ?_ | refine wpar (by with_unfolding_all rfl) ?_ | refine wit (by with_unfolding_all rfl) ?_ | refine wen (by with_unfolding_all rfl) ?_ | refine wint (by omega) ?_
  | refine wc_t ?_ | refine wc_f ?_
  | refine r_add ?_ | refine r_sub ?_ | refine r_neg ?_ | refine r_lt ?_ | refine r_le ?_ | refine r_gt ?_ | refine r_ge ?_ | refine r_abs ?_ | refine r_min ?_ | refine r_max ?_ | refine r_isN ?_ | refine r_isB ?_
  | refine r_ne_nil (by with_unfolding_all rfl) (pdL_ints _) ?_ | refine r_eq_nil (by with_unfolding_all rfl) (pdL_ints _) ?_ | refine r_popAt (by with_unfolding_all rfl) ?_
  | refine r_eq_tt ?_ | refine r_eq_ff ?_ | refine r_eq_tf ?_ | refine r_eq_ft ?_
  | refine r_eq_int ?_ | refine r_ne_int ?_ | refine r_eq_bl ?_ | refine r_ne_bl ?_
  | refine r_pow18 ?_ | refine r_pow30 ?_ | refine r_pow48 ?_ | refine r_pow60 ?_ | refine r_pow900 ?_ | refine r_mod big900_pos ?_
  | refine r_mod (by first | decide | omega) ?_ | refine r_fdiv (by first | decide | omega) (by first | decide | omega) ?_ | refine r_mul (by first | decide | omega) (by first | decide | omega) ?_ | refine r_pow (by first | decide | omega) (by first | decide | omega) (by first | decide | omega) ?_
  | refine r_item_ref (by with_unfolding_all rfl) (by first | decide | omega) (by with_unfolding_all rfl) ?_ | refine r_item_tmp (by first | decide | omega) (by with_unfolding_all rfl) ?_ | refine r_item_tup (by first | decide | omega) (by with_unfolding_all rfl) ?_
  | refine r_item_rol (by first | decide | omega) (by with_unfolding_all rfl) ?_ | refine r_len_tmp ?_ | refine r_len_tup ?_ | refine r_len_rol ?_ | refine r_len_ref (by with_unfolding_all rfl) ?_
  | refine r_inst (by with_unfolding_all rfl) ?_)
local macro_rules | `(tactic| walk_at "s") => `(tactic| first | walk_at "s0" | with_reducible refine wx_ite ?_)
local macro_rules | `(tactic| walk_at "A") => `(tactic| repeat walk_at "s0")
local macro_rules | `(tactic| walk_at "S") => `(tactic| repeat walk_at "s")
local macro_rules | `(tactic| walk_at "c") => `(tactic| first | refine wc_dt (by first | decide | omega) ?_ | refine wc_df (by first | decide | omega) ?_)
local macro_rules | `(tactic| walk_at "C") => `(tactic| repeat first | walk_at "s" | walk_at "c")
local macro_rules | `(tactic| walk_at "p") => `(tactic| with_reducible first | refine wn_tmp_p (by assumption) fun _ _ => ?_ | refine wd_dK_p (by assumption) fun _ _ => ?_ | refine r_item_p (by assumption) (by first | assumption | exact set_at (by assumption) | with_unfolding_all rfl) (by omega) (by first | omega | (rw [List.length_set]; omega)) fun _ _ => ?_ | refine ws_p (by assumption) (by first | assumption | exact set_at (by assumption) | with_unfolding_all rfl) (by omega) (by first | omega | (rw [List.length_set]; omega)) fun _ _ => ?_ | refine r_add_lst (by first | (with_unfolding_all rfl) | exact lstM_p (by assumption) (by first | assumption | exact set_at (by assumption) | with_unfolding_all rfl)) (by first | (with_unfolding_all rfl) | exact lstM_p (by assumption) (by first | assumption | exact set_at (by assumption) | with_unfolding_all rfl)) (by first | omega | (simp only [List.length_append, List.length_take, List.length_drop, List.length_cons, List.length_nil]; omega)) ?_ | refine r_tuple (by first | (with_unfolding_all rfl) | exact lst_p (by assumption) (by first | assumption | exact set_at (by assumption) | with_unfolding_all rfl)) ?_ | refine r_slice01 (slice_to (by first | (with_unfolding_all rfl) | exact lst_p (by assumption) (by first | assumption | exact set_at (by assumption) | with_unfolding_all rfl)) (by with_unfolding_all rfl) (by omega)) ?_ | refine r_slice10 (slice_from (by first | (with_unfolding_all rfl) | exact lst_p (by assumption) (by first | assumption | exact set_at (by assumption) | with_unfolding_all rfl)) (by with_unfolding_all rfl) (by omega)) ?_)
local macro_rules | `(tactic| walk_at "P") => `(tactic| repeat first | walk_at "p" | walk_at "d" | walk_at "s")
local macro_rules | `(tactic| walk_at "PA") => `(tactic| repeat first | walk_at "p" | walk_at "d" | walk_at "s0")
theorem keysOf_strs : ∀ xs : List Str, keysOf (xs.map .str) = some (xs.map Sum.inr)
  | [] => rfl
  | x :: xs => by
    show (match keyOf (.str x), keysOf (xs.map .str) with | some k, some ks => some (k :: ks) | _, _ => none) = _
    rw [keysOf_strs xs]; rfl
theorem keysOf_ints : ∀ xs : List Int, keysOf (xs.map .int) = some (xs.map Sum.inl)
  | [] => rfl
  | x :: xs => by
    show (match keyOf (.int x), keysOf (xs.map .int) with | some k, some ks => some (k :: ks) | _, _ => none) = _
    rw [keysOf_ints xs]; rfl
theorem met_strs (xs : List Str) : met (xs.map (Sum.inr : Str → Key)) = (met xs).map Sum.inr := met_map (f := (Sum.inr : Str → Key)) (fun a b e => by cases e; rfl) xs []
theorem met_ints (xs : List Int) : met (xs.map (Sum.inl : Int → Key)) = (met xs).map Sum.inl := met_map (f := (Sum.inl : Int → Key)) (fun a b e => by cases e; rfl) xs []
theorem fold_dd {κ : Type} [DecidableEq κ] : ∀ (xs σ : List κ), (xs.foldl dd σ).length ≤ σ.length + xs.length ∧ ((xs.foldl dd σ).length = σ.length + xs.length ↔ xs.Nodup ∧ ∀ x ∈ xs, x ∉ σ)
  | [], σ => ⟨by simp, by simp⟩
  | x :: xs, σ => by
    obtain ⟨h1, h2⟩ := fold_dd xs (dd σ x)
    rw [List.foldl_cons]
    by_cases hx : x ∈ σ
    · have e : dd σ x = σ := if_pos hx
      rw [e] at h1 h2 ⊢
      rw [List.length_cons]
      refine ⟨by omega, fun z => by omega, fun z => absurd hx (z.2 x List.mem_cons_self)⟩
    · have e : dd σ x = σ ++ [x] := if_neg hx
      rw [e, List.length_append, List.length_singleton] at h1 h2
      rw [e, List.length_cons, List.nodup_cons]
      refine ⟨by omega, ?_⟩
      rw [show σ.length + (xs.length + 1) = σ.length + 1 + xs.length by omega, h2]
      refine ⟨fun ⟨a, b⟩ => ⟨⟨fun z => b x z (List.mem_append_right _ (List.mem_singleton.mpr rfl)), a⟩, fun y hy => ?_⟩, fun ⟨⟨a, b⟩, c⟩ => ⟨b, fun y hy z => ?_⟩⟩
      · rcases List.mem_cons.mp hy with rfl | hy
        · exact hx
        · exact fun z => b y hy (List.mem_append_left _ z)
      · rcases List.mem_append.mp z with z | z
        · exact c y (List.mem_cons_of_mem _ hy) z
        · rw [List.mem_singleton.mp z] at hy; exact a hy
theorem met_le {κ : Type} [DecidableEq κ] (xs : List κ) : (met xs).length ≤ xs.length := by have := (fold_dd xs []).1; simpa [met] using this
theorem met_full {κ : Type} [DecidableEq κ] (xs : List κ) : (met xs).length = xs.length ↔ xs.Nodup := by have := (fold_dd xs []).2; simpa [met] using this
theorem nodup_dd {κ : Type} [DecidableEq κ] {σ : List κ} {x : κ} (h : σ.Nodup) : (dd σ x).Nodup := by
  unfold dd
  split
  · exact h
  · rename_i hx
    refine List.nodup_append.mpr ⟨h, by simp, fun a ha b hb e => ?_⟩
    rw [List.mem_singleton] at hb
    rw [e, hb] at ha
    exact hx ha
theorem nodup_fold {κ : Type} [DecidableEq κ] : ∀ (xs σ : List κ), σ.Nodup → (xs.foldl dd σ).Nodup
  | [], _, h => h
  | _ :: xs, _, h => nodup_fold xs _ (nodup_dd h)
theorem nodup_met {κ : Type} [DecidableEq κ] (xs : List κ) : (met xs).Nodup := nodup_fold xs [] List.nodup_nil
/-- one that is there already, by each place -/
theorem any_before (xs : List Str) : ((List.range xs.length).any fun k => (xs.take k).any fun y => decide (y = xs.getD k "")) = !decide xs.Nodup := by
  rw [← decide_not, Bool.eq_iff_iff, decide_eq_true_iff, List.any_eq_true, List.nodup_iff_pairwise_ne, List.pairwise_iff_getElem]
  constructor
  · rintro ⟨k, hk, h⟩ z
    obtain ⟨y, hy, e⟩ := List.any_eq_true.mp h
    rw [List.mem_range] at hk
    obtain ⟨i, hi, ei⟩ := List.getElem_of_mem hy
    rw [List.length_take] at hi
    rw [List.getElem_take] at ei
    refine z i k (by omega) hk (by omega) ?_
    rw [ei, of_decide_eq_true e, List.getD_eq_getElem?_getD, List.getElem?_eq_getElem hk]
    rfl
  · intro z
    simp only [Classical.not_forall, Decidable.not_not] at z
    obtain ⟨i, j, hi, hj, hij, e⟩ := z
    refine ⟨j, List.mem_range.mpr hj, List.any_eq_true.mpr ⟨xs[i], ?_, ?_⟩⟩
    · exact List.mem_of_getElem? (i := i) (by rw [List.getElem?_take, if_pos hij, List.getElem?_eq_getElem hi])
    · rw [e, List.getD_eq_getElem?_getD, List.getElem?_eq_getElem hj]
      exact decide_eq_true rfl
section
variable {S : Store} {Q : T → Store → Prop} {t : T}
theorem run_lenSet : Prim.run .lenSet [t] S = res (lenSetT S t) S := rfl
theorem run_sortedSet : Prim.run .sortedSet [t] S = res (sortedSetT S t) S := rfl
theorem r_lenSet_strs {xs : List Str} (h : lstOf S t = some (xs.map .str)) (hl : xs.length ≤ 4000) (q : Q (.d (.int ((met xs).length : Nat))) S) : Wp .lenSet [t] S Q := by
  refine r_of (t := .d (.int ((met xs).length : Nat))) (S1 := S) ?_ q
  rw [run_lenSet]
  unfold lenSetT
  rw [h]
  dsimp only
  rw [keysOf_strs]
  dsimp only
  rw [if_pos (by rw [List.length_map]; exact hl), met_strs, List.length_map]
  rfl
theorem r_lenSet_ints {xs : List Int} (h : lstOf S t = some (xs.map .int)) (hl : xs.length ≤ 4000) (q : Q (.d (.int ((met xs).length : Nat))) S) : Wp .lenSet [t] S Q := by
  refine r_of (t := .d (.int ((met xs).length : Nat))) (S1 := S) ?_ q
  rw [run_lenSet]
  unfold lenSetT
  rw [h]
  dsimp only
  rw [keysOf_ints]
  dsimp only
  rw [if_pos (by rw [List.length_map]; exact hl), met_ints, List.length_map]
  rfl
theorem strsOf_strs : ∀ xs : List Str, strsOf (xs.map .str) = some xs
  | [] => rfl
  | x :: xs => by show (strsOf (xs.map .str)).map (x :: ·) = _; rw [strsOf_strs xs]; rfl
theorem r_sortedSet_strs {xs : List Str} (h : lstOf S t = some (xs.map .str)) (hl : xs.length ≤ 4000) (q : Q (.tmp ((sortS (met xs)).map .str)) S) : Wp .sortedSet [t] S Q := by
  refine r_of (t := .tmp ((sortS (met xs)).map .str)) (S1 := S) ?_ q
  rw [run_sortedSet]
  unfold sortedSetT
  rw [h]
  dsimp only
  rw [strsOf_strs]
  dsimp only
  rw [if_pos hl]
  rfl
theorem run_sorted : Prim.run .sorted [t] S = res (sortedT S t) S := rfl
theorem r_sorted_strs {xs : List Str} (h : lstOf S t = some (xs.map .str)) (q : Q (.tmp ((sortS xs).map .str)) S) : Wp .sorted [t] S Q := by
  refine r_of (t := .tmp ((sortS xs).map .str)) (S1 := S) ?_ q
  rw [run_sorted]
  unfold sortedT
  rw [h]
  dsimp only
  rw [strsOf_strs]
  rfl
theorem r_list_tup {ds : List D} (q : Q (.tmp ds) S) : Wp .list [.d (.tup ds)] S Q := r_of (t := .tmp ds) (S1 := S) (by rw [run_list]; rfl) q
theorem r_rev_tup {ds : List D} (q : Q (.d (.tup ds.reverse)) S) : Wp .rev [.d (.tup ds)] S Q := r_of (t := .d (.tup ds.reverse)) (S1 := S) (by rw [run_rev]; rfl) q
theorem r_item_tup_mem {ds : List D} {i : Int} (h0 : 0 ≤ i) (h1 : i < (ds.length : Int)) (q : ∀ x, x ∈ ds → Q (.d x) S) : Wp .item [.d (.tup ds), .d (.int i)] S Q :=
  r_item_tup h0 (List.getElem?_eq_getElem (show i.toNat < ds.length by omega)) (q _ (List.getElem_mem _))
theorem r_eq_str2 {x y : Str} (k : Q (.d (.bl (decide (x = y)))) S) : Wp .eq [.d (.str x), .d (.str y)] S Q := by
  refine r_eq (p := .str x) (q := .str y) rfl rfl ?_
  rw [eqv_str, Bool.bne_false]; exact k
theorem r_ne_str2 {x y : Str} (k : Q (.d (.bl (decide (x ≠ y)))) S) : Wp .ne [.d (.str x), .d (.str y)] S Q := by
  refine r_ne (p := .str x) (q := .str y) rfl rfl ?_
  rw [eqv_str, Bool.bne_true, ← decide_not]; exact k
end
/-! == of a thing and itself -/
theorem pdL_refl {f : D → Option PyData} (hf : ∀ d p, f d = some p → PyData.eqv p p = true) : ∀ {ds : List D} {ps : List PyData}, pdL f ds = some ps → PyData.eqvAll ps ps = true
  | [], ps, h => by cases h; unfold PyData.eqvAll; rfl
  | d :: ds, ps, h => by
    unfold pdL at h
    split at h
    · rename_i x xs h1 h2
      cases h
      unfold PyData.eqvAll
      rw [hf d x h1, pdL_refl hf h2]
      rfl
    · cases h
theorem pd_refl {S : Store} : ∀ (n : Nat) (d : D) (p : PyData), pdD S n d = some p → PyData.eqv p p = true
  | 0, d, p, h => by cases d <;> (unfold pdD at h; cases h)
  | n + 1, d, p, h => by
    cases d with
    | non => cases h; unfold PyData.eqv; rfl
    | bl b => cases h; unfold PyData.eqv; cases b <;> rfl
    | int i => cases h; unfold PyData.eqv; simp
    | str x => cases h; unfold PyData.eqv; simp
    | tup ds =>
      unfold pdD at h
      rw [Option.map_eq_some_iff] at h
      obtain ⟨ps, h1, rfl⟩ := h
      unfold PyData.eqv
      exact pdL_refl (fun d p => pd_refl n d p) h1
    | ktup ds =>
      unfold pdD at h
      rw [Option.map_eq_some_iff] at h
      obtain ⟨ps, h1, rfl⟩ := h
      unfold PyData.eqv
      exact pdL_refl (fun d p => pd_refl n d p) h1
    | rol ds =>
      unfold pdD at h
      rw [Option.map_eq_some_iff] at h
      obtain ⟨ps, h1, rfl⟩ := h
      unfold PyData.eqv
      exact pdL_refl (fun d p => pd_refl n d p) h1
    | ref k =>
      unfold pdD at h
      split at h
      · rw [Option.map_eq_some_iff] at h
        obtain ⟨ps, h1, rfl⟩ := h
        unfold PyData.eqv
        exact pdL_refl (fun d p => pd_refl n d p) h1
      · cases h
theorem r_ne_self {S : Store} {Q : T → Store → Prop} {x : D} {p : PyData} (h : pdT S (.d x) = some p) (q : Q (.d (.bl false)) S) : Wp .ne [.d x, .d x] S Q := by
  refine r_ne h h ?_
  rw [pd_refl 60 x p h]
  exact q
theorem r_eq_self {S : Store} {Q : T → Store → Prop} {x : D} {p : PyData} (h : pdT S (.d x) = some p) (q : Q (.d (.bl true)) S) : Wp .eq [.d x, .d x] S Q := by
  refine r_eq h h ?_
  rw [pd_refl 60 x p h]
  exact q
def WayV.pd (w : WayV) : PyData := .tuple [.str w.nm, .str w.kind, .str w.st, .str w.en, .int w.p, .int w.q]
theorem pdL_ways {S : Store} {n : Nat} : ∀ ws : List WayV, pdL (pdD S (n + 2)) (ws.map WayV.d) = some (ws.map WayV.pd)
  | [] => rfl
  | w :: ws => by rw [List.map_cons]; unfold pdL; rw [pdL_ways ws]; rfl
/-! {k: v} -/
structure Wkey (t : T) (P : Key → Prop) : Prop where
  h : ∃ k q, t = .d k ∧ keyOf k = some q ∧ P q
structure Wob (o : O) (S : Store) (Q : D → Store → Prop) : Prop where
  h : Q (.ref S.length) (S ++ [o])
theorem wkey_str {x : Str} {P : Key → Prop} (q : P (.inr x)) : Wkey (.d (.str x)) P := ⟨_, _, rfl, rfl, q⟩
theorem wkey_int {x : Int} {P : Key → Prop} (q : P (.inl x)) : Wkey (.d (.int x)) P := ⟨_, _, rfl, rfl, q⟩
theorem wob {o : O} {S : Store} {Q : D → Store → Prop} (q : Q (.ref S.length) (S ++ [o])) : Wob o S Q := ⟨q⟩
theorem wob_p {n : Nat} {R J S : Store} {o : O} {Q : D → Store → Prop} (p : Bag n (R ++ J) S) (q : ∀ S', Bag n (R ++ (J ++ [o])) S' → Q (.ref (R.length + 2 + J.length)) S') : Wob o S Q := by
  refine ⟨?_⟩
  rw [bag_len p]
  exact q _ (by rw [← List.append_assoc]; exact p.put)
theorem w_disp {G : List D} {call : Call} {ρ : Env} {S : Store} {Q : T → Store → Prop} {a b : Ex} (q : We G call a ρ S fun t S1 => Wkey t fun key => We G call b ρ S1 fun u S2 => Wn u S2 fun x S3 => Wob (.dK [(key, x)]) S3 fun r S4 => Q (.d r) S4) : We G call (.disp a b) ρ S Q := by
  obtain ⟨t, S1, e1, ⟨k, key, rfl, ek, q⟩⟩ := q.h
  obtain ⟨u, S2, e2, ⟨⟨q⟩⟩⟩ := q.h
  exact ⟨_, _, by unfold ev; rw [e1]; dsimp only; rw [e2]; dsimp only; rw [ek], q⟩
section
variable {S : Store} {Q : T → Store → Prop}
theorem r_list_str {x : Str} (h : x.length ≤ 1000000) (q : Q (.tmp (x.cps.toList.map fun c => D.str ⟨#[c]⟩)) S) : Wp .list [.d (.str x)] S Q := by
  refine r_of (t := .tmp (x.cps.toList.map fun c => D.str ⟨#[c]⟩)) (S1 := S) ?_ q
  rw [run_list]
  show res (if x.length ≤ sizeLine then some (T.tmp (x.cps.toList.map fun c => D.str ⟨#[c]⟩)) else none) S = _
  rw [if_pos (szl h)]
  rfl
end
section
variable {n : Nat} {R J S : Store}
theorem wit_ref {k : Nat} {ds : List D} {Q : List D → Prop} (h : S[k]? = some (.lst ds)) (q : Q ds) : Wit S (.d (.ref k)) Q := by
  refine wit (show itemsOf S (.d (.ref k)) = some ds from ?_) q
  show seqOf S (.d (.ref k)) = _
  unfold seqOf
  rw [lst_ref h]
theorem wit_p {i : Nat} {ds : List D} {Q : List D → Prop} (p : Bag n (R ++ J) S) (h : J[i]? = some (.lst ds)) (q : Q ds) : Wit S (.d (.ref (R.length + 2 + i))) Q := wit_ref ((bag_at p i).trans h) q
theorem chk_p {i : Nat} {ds : List D} (p : Bag n (R ++ J) S) (h : J[i]? = some (.lst ds)) : chk (liveOf (.d (.ref (R.length + 2 + i))) ds) S := fun q hq => by rw [List.mem_singleton.mp hq]; exact (bag_at p i).trans h
end
theorem okv_strL {z : Str} (h : z.length ≤ 1000) (n : Nat) : okv n (.str z) = true := by unfold okv; exact decide_eq_true h
theorem okv_int (i : Int) (n : Nat) : okv n (.int i) = true := by unfold okv; rfl
theorem okv_bag {n m : Nat} {R J S : Store} (p : Bag n (R ++ J) S) (h : m < J.length) : okv S.length (.ref (R.length + 2 + m)) = true := by
  unfold okv
  refine decide_eq_true ?_
  rw [bag_len p]
  omega
/-- a value of any depth, without refs and long texts, stays so -/
theorem okv_way {w : WayV} (h : w.Ok) (n : Nat) : okv n w.d = true := by
  have a := h.nm.hi
  have b := h.st.hi
  have c := h.en.hi
  have d : w.kind.length ≤ 1000 := by rcases h.kind with e | e | e <;> rw [e] <;> decide
  unfold WayV.d
  refine okv_of_tup fun e he => ?_
  simp only [List.mem_cons, List.not_mem_nil, or_false] at he
  rcases he with rfl | rfl | rfl | rfl | rfl | rfl <;> first | (unfold okv; rfl) | (unfold okv; exact decide_eq_true (by omega))
theorem mem_replicate_flatten {α : Type} {n : Nat} {ds : List α} {x : α} (h : x ∈ (List.replicate n ds).flatten) : x ∈ ds := by
  obtain ⟨l, hl, hx⟩ := List.mem_flatten.mp h
  rw [List.eq_of_mem_replicate hl] at hx
  exact hx
end F

/-! Ranks of pages, orders, books. -/
namespace F
open PySem PyProof.Rows L2
section
variable {S : Store} {t u : T} {Q : T → Store → Prop}
theorem run_ltA (a b : T) : Prim.run .lt [a, b] S = res (ltT S a b) S := rfl
theorem run_gtA (a b : T) : Prim.run .gt [a, b] S = res (cmpT (fun i j => decide (j < i)) (fun p q => PySem.W.dataLt q p) S a b) S := rfl
theorem run_sortR : Prim.run .sortR [t] S = res (sortRkT S t) S := rfl
theorem run_maxR : Prim.run .maxR [t] S = res (maxRkT S t) S := rfl
theorem run_reprC (n : Bool) : Prim.run (.reprC n) [t, u] S = res (reprCT n S t u) S := rfl
theorem pair_pd (a b : Int) : pdL (pdD S 59) [.int a, .int b] = some [.int a, .int b] := rfl
theorem pair_alike (a b c d : Int) : PySem.W.alike (.tuple [.int a, .int b]) (.tuple [.int c, .int d]) = true := by simp [PySem.W.alike, PySem.W.alikeAll]
theorem dcmp_pair (f : PyData → PyData → Bool) (a b c d : Int) : dcmpT f S [.int a, .int b] [.int c, .int d] = tBl (f (.tuple [.int a, .int b]) (.tuple [.int c, .int d])) := by
  unfold dcmpT
  rw [pair_pd, pair_pd]
  show (if PySem.W.alike (.tuple [.int a, .int b]) (.tuple [.int c, .int d]) = true then _ else _) = _
  rw [if_pos (pair_alike a b c d)]
theorem r_lt_pair {a b c d : Int} (q : Q (.d (.bl (decide (a < c ∨ (a = c ∧ b < d))))) S) : Wp .lt [.d (.tup [.int a, .int b]), .d (.tup [.int c, .int d])] S Q :=
  r_of (t := .d (.bl (decide (a < c ∨ (a = c ∧ b < d))))) (S1 := S) (by
    rw [run_ltA]
    show res (dcmpT PySem.W.dataLt S [.int a, .int b] [.int c, .int d]) S = _
    rw [dcmp_pair, PySem.W.dataLt_ii]
    rfl) q
theorem r_gt_pair {a b c d : Int} (q : Q (.d (.bl (decide (c < a ∨ (c = a ∧ d < b))))) S) : Wp .gt [.d (.tup [.int a, .int b]), .d (.tup [.int c, .int d])] S Q :=
  r_of (t := .d (.bl (decide (c < a ∨ (c = a ∧ d < b))))) (S1 := S) (by
    rw [run_gtA]
    show res (dcmpT (fun p q => PySem.W.dataLt q p) S [.int a, .int b] [.int c, .int d]) S = _
    rw [dcmp_pair, PySem.W.dataLt_ii]
    rfl) q
theorem r_sortR {ds : List D} (h : seqOf S t = some ds) (hr : ranked ds = true) (hl : ds.length ≤ 1000000) (q : Q (.tmp (sortRk ds)) S) : Wp .sortR [t] S Q :=
  r_of (t := .tmp (sortRk ds)) (S1 := S) (by
    rw [run_sortR]
    unfold sortRkT
    rw [h]
    show res (if ranked ds = true ∧ ds.length ≤ sizeLine then some (.tmp (sortRk ds)) else none) S = _
    rw [if_pos ⟨hr, by rw [sizeLine_eq]; omega⟩]
    rfl) q
theorem r_maxR_nil (h : lstOf S t = some []) (q : Q (.d .non) S) : Wp .maxR [t] S Q := r_of (t := .d .non) (S1 := S) (by rw [run_maxR]; unfold maxRkT; rw [h]; rfl) q
theorem r_maxR {d : D} {ds : List D} (h : lstOf S t = some (d :: ds)) (hr : ranked (d :: ds) = true) (q : Q (.d (maxRk d ds)) S) : Wp .maxR [t] S Q :=
  r_of (t := .d (maxRk d ds)) (S1 := S) (by
    rw [run_maxR]
    unfold maxRkT
    rw [h]
    show res (if ranked (d :: ds) = true then some (.d (maxRk d ds)) else none) S = _
    rw [if_pos hr]
    rfl) q
theorem r_reprC {n : Bool} {p : PyData} (h1 : pdT [] t = some p) (h2 : pdT S u = some p) (h3 : p.showable = true) (h4 : p.hasDict = false) (h5 : p.shown.length ≤ sizeLine) (q : Q (.d (.bl (!n))) S) : Wp (.reprC n) [t, u] S Q :=
  r_of (t := .d (.bl (!n))) (S1 := S) (by
    rw [run_reprC]
    unfold reprCT
    rw [h1, h2]
    show res (open Classical in if p = p ∧ p.showable = true ∧ p.hasDict = false ∧ p.shown.length ≤ sizeLine then some (T.d (.bl (!n))) else none) S = _
    rw [if_pos ⟨rfl, h3, h4, h5⟩]
    rfl) q
end
/-! ### ranks -/
theorem rk_page (p : PageV) : rankD p.d = some (p.mom, p.num) := by cases p <;> rfl
theorem rkOf_page (p : PageV) : rkOf p.d = (p.mom, p.num) := by unfold rkOf; rw [rk_page]; rfl
theorem ranked_pages (ps : List PageV) : ranked (ps.map PageV.d) = true := List.all_eq_true.mpr fun d hd => by
  obtain ⟨p, _, rfl⟩ := List.mem_map.mp hd
  rw [rk_page]; rfl
theorem ranked_sub {ds es : List D} (h : ranked ds = true) (hs : ∀ d ∈ es, d ∈ ds) : ranked es = true := List.all_eq_true.mpr fun d hd => List.all_eq_true.mp h d (hs d hd)
theorem rkLe_iff {x y : D} : rkLe x y = true ↔ (rkOf x).1 < (rkOf y).1 ∨ ((rkOf x).1 = (rkOf y).1 ∧ (rkOf x).2 ≤ (rkOf y).2) := by unfold rkLe; exact decide_eq_true_iff
theorem rkLt_iff {x y : D} : rkLt x y = true ↔ (rkOf x).1 < (rkOf y).1 ∨ ((rkOf x).1 = (rkOf y).1 ∧ (rkOf x).2 < (rkOf y).2) := by unfold rkLt; exact decide_eq_true_iff
theorem rkLe_trans {x y z : D} (h1 : rkLe x y = true) (h2 : rkLe y z = true) : rkLe x z = true := by
  rw [rkLe_iff] at *
  omega
theorem rkLe_total (x y : D) : (rkLe x y || rkLe y x) = true := by
  rw [Bool.or_eq_true, rkLe_iff, rkLe_iff]
  omega
theorem rkLt_trans {x y z : D} (h1 : rkLt x y = true) (h2 : rkLt y z = true) : rkLt x z = true := by
  rw [rkLt_iff] at *
  omega
theorem sortRk_perm (ds : List D) : (sortRk ds).Perm ds := List.mergeSort_perm ds _
theorem sortRk_ord (ds : List D) : (sortRk ds).Pairwise fun a b => rkLe a b = true := List.pairwise_mergeSort (le := rkLe) (fun _ _ _ h1 h2 => rkLe_trans h1 h2) rkLe_total ds
/-- of unlike numbers one order alone -/
theorem order_one : ∀ {xs ys : List D}, xs.Perm ys → (xs.Pairwise fun a b => rkLe a b = true) → (ys.Pairwise fun a b => rkLe a b = true) → (xs.map fun d => (rkOf d).2).Nodup → xs = ys
  | [], ys, p, _, _, _ => (List.Perm.nil_eq p)
  | x :: xs, [], p, _, _, _ => by have := p.length_eq; simp at this
  | x :: xs, y :: ys, p, hx, hy, hn => by
    have hxy : x = y := by
      rcases List.mem_cons.mp (p.mem_iff.mp List.mem_cons_self) with e | hxm
      · exact e
      · rcases List.mem_cons.mp (p.mem_iff.mpr (List.mem_cons_self (a := y) (l := ys))) with e | hym
        · exact e.symm
        · have h1 := List.rel_of_pairwise_cons hx hym
          have h2 := List.rel_of_pairwise_cons hy hxm
          rw [rkLe_iff] at h1 h2
          rw [List.map_cons, List.nodup_cons] at hn
          exact absurd (List.mem_map.mpr ⟨y, hym, by omega⟩) hn.1
    subst hxy
    rw [List.map_cons, List.nodup_cons] at hn
    rw [order_one (List.Perm.cons_inv p) (List.Pairwise.of_cons hx) (List.Pairwise.of_cons hy) hn.2]
/-- a book: numbers unlike, ranks rising -/
def Rising (ds : List D) : Prop := ds.Pairwise fun a b => (rkOf a).2 ≠ (rkOf b).2 ∧ rkLt a b = true
instance (ds : List D) : Decidable (Rising ds) := by unfold Rising; exact inferInstance
theorem rising_iff (ds : List D) : Rising ds ↔ (ds.map fun d => (rkOf d).2).Nodup ∧ ds.Pairwise fun a b => rkLt a b = true := by
  unfold Rising
  rw [List.pairwise_and_iff]
  refine and_congr_left fun _ => ?_
  rw [List.Nodup, List.pairwise_map]
/-- each less than the next one: so rising altogether -/
theorem chain_iff : ∀ ds : List D, ((ds.zip (ds.drop 1)).all fun p => rkLt p.1 p.2) = true ↔ ds.Pairwise fun a b => rkLt a b = true
  | [] => by simp
  | [x] => by simp
  | x :: y :: r => by
    have ih := chain_iff (y :: r)
    have e : ((x :: y :: r).zip ((x :: y :: r).drop 1)) = (x, y) :: ((y :: r).zip ((y :: r).drop 1)) := by simp
    rw [e, List.all_cons, Bool.and_eq_true, ih, List.pairwise_cons (a := x)]
    constructor
    · rintro ⟨h1, h2⟩
      refine ⟨fun z hz => ?_, h2⟩
      rcases List.mem_cons.mp hz with rfl | hz
      · exact h1
      · exact rkLt_trans h1 (List.rel_of_pairwise_cons h2 hz)
    · rintro ⟨h1, h2⟩
      exact ⟨h1 y List.mem_cons_self, h2⟩
/-- each against all ahead of it -/
theorem ahead_iff (ds : List D) : (∀ k, k < ds.length → ∀ d ∈ ds.take k, (rkOf d).2 ≠ (rkOf (ds.getD k .non)).2 ∧ rkLt (ds.getD k .non) d = false) ↔ Rising ds := by
  unfold Rising
  rw [List.pairwise_iff_getElem]
  have lt_of : ∀ {a b : D}, (rkOf a).2 ≠ (rkOf b).2 → (rkLt b a = false ↔ rkLt a b = true) := fun {a b} hn => by
    rw [← Bool.not_eq_true, rkLt_iff, rkLt_iff]
    omega
  have gd : ∀ k (hk : k < ds.length), ds.getD k .non = ds[k] := fun k hk => by rw [List.getD_eq_getElem?_getD, List.getElem?_eq_getElem hk]; rfl
  constructor
  · intro h i j hi hj hij
    obtain ⟨h1, h2⟩ := h j hj ds[i] (List.mem_of_getElem? (i := i) (by rw [List.getElem?_take_of_lt hij, List.getElem?_eq_getElem hi]))
    rw [gd j hj] at h1 h2
    exact ⟨h1, (lt_of h1).mp h2⟩
  · intro h k hk d hd
    obtain ⟨i, hi, e⟩ := List.getElem_of_mem hd
    rw [List.length_take] at hi
    rw [List.getElem_take] at e
    have := h i k (by omega) hk (by omega)
    rw [e] at this
    rw [gd k hk]
    exact ⟨this.1, (lt_of this.1).mpr this.2⟩
end F

/-! What repr writes of pages: never too long. -/
namespace F
open PySem PyProof.Rows L2
/-- data that is written in at most b signs -/
structure Sh (p : PyData) (b : Nat) : Prop where
  s : p.showable = true
  d : p.hasDict = false
  l : p.shown.length ≤ b
theorem Sh.mono {p : PyData} {b c : Nat} (h : Sh p b) (hb : b ≤ c) : Sh p c := ⟨h.s, h.d, Nat.le_trans h.l hb⟩
theorem sh_none : Sh .none 4 := ⟨rfl, rfl, Nat.le_of_ble_eq_true rfl⟩
theorem log2_small {n k : Nat} (h : n < 2 ^ k) (hk : 0 < k) : n.log2 < k := by
  by_cases h0 : n = 0
  · rw [h0]; simpa using hk
  · exact (Nat.log2_lt h0).mpr h
theorem sh_int {i : Int} (h : i.natAbs < 10 ^ 62) : Sh (.int i) 63 := by
  refine ⟨decide_eq_true (Nat.lt_of_lt_of_le (log2_small (k := 300) (Nat.lt_of_lt_of_le h (by decide +kernel)) (by decide)) (by decide)), rfl, ?_⟩
  show (Str.ofString (toString i)).length ≤ 63
  rw [PySem.ofString_length]
  exact int_text_length_le10 (by decide) h
theorem sh_str {x : Str} (h : x.length ≤ 20) (hc : ∀ c ∈ x.cps.toList, c < 16 ^ 8) : Sh (.str x) 202 := by
  refine ⟨rfl, rfl, ?_⟩
  have := PySem.StrLaws.reprText_len x hc
  show (reprText x).length ≤ 202
  omega
theorem pile_le {b : Nat} : ∀ {ts : List Str}, (∀ t ∈ ts, t.length ≤ b) → piled ts ≤ ts.length * (b + 2)
  | [], _ => Nat.zero_le _
  | t :: ts, h => by
    rw [piled_cons, List.length_cons, Nat.succ_mul]
    have h1 := h t List.mem_cons_self
    have h2 := pile_le (ts := ts) fun u hu => h u (List.mem_cons_of_mem _ hu)
    omega
theorem shownAll_map : ∀ xs : List PyData, PyData.shownAll xs = xs.map PyData.shown
  | [] => rfl
  | x :: xs => by
    show x.shown :: PyData.shownAll xs = _
    rw [shownAll_map xs]; rfl
theorem showAll {xs : List PyData} (h : ∀ x ∈ xs, x.showable = true) : PyData.showableAll xs = true := by
  induction xs with
  | nil => rfl
  | cons x xs ih =>
    show (x.showable && PyData.showableAll xs) = true
    rw [h x List.mem_cons_self, ih fun y hy => h y (List.mem_cons_of_mem _ hy)]; rfl
theorem dictAll {xs : List PyData} (h : ∀ x ∈ xs, x.hasDict = false) : PyData.hasDictAll xs = false := by
  induction xs with
  | nil => rfl
  | cons x xs ih =>
    show (x.hasDict || PyData.hasDictAll xs) = false
    rw [h x List.mem_cons_self, ih fun y hy => h y (List.mem_cons_of_mem _ hy)]; rfl
theorem sh_tup {xs : List PyData} {b : Nat} (h : ∀ x ∈ xs, Sh x b) : Sh (.tuple xs) (xs.length * (b + 2) + 3) := by
  refine ⟨showAll fun x hx => (h x hx).s, dictAll fun x hx => (h x hx).d, ?_⟩
  show (tupleText (PyData.shownAll xs)).length ≤ _
  rw [shownAll_map]
  have e1 : ((("(" : String) : Str)).length = 1 := rfl
  have e3 : (((if (xs.map PyData.shown).length == 1 then ",)" else ")" : String) : Str)).length ≤ 2 := by split <;> decide
  unfold tupleText
  rw [strLen_append, strLen_append, e1]
  cases xs with
  | nil =>
    have e4 : (Str.join ", " ([].map PyData.shown)).length = 0 := rfl
    rw [e4]
    omega
  | cons x xs =>
    have e4 := join_length_add ((x :: xs).map PyData.shown) (fun z => by cases z)
    have e5 := pile_le (b := b) (ts := (x :: xs).map PyData.shown) fun t ht => by
      obtain ⟨y, hy, rfl⟩ := List.mem_map.mp ht
      exact (h y hy).l
    rw [List.length_map] at e5
    omega
theorem sh_kw {x : Str} (h : (decide (x.length ≤ 20) && x.cps.toList.all fun c => decide (c < 16 ^ 8)) = true) : Sh (.str x) 202 := by
  rw [Bool.and_eq_true, decide_eq_true_eq, List.all_eq_true] at h
  exact sh_str h.1 fun c hc => of_decide_eq_true (h.2 c hc)
theorem sh_name {x : Str} (h : Name x) : Sh (.str x) 202 := sh_str (by have := h.hi; omega) fun c hc => by
  have h1 := h.ab c hc
  have h2 : (abc.cps.toList.all fun c => decide (c < 16 ^ 8)) = true := by decide +kernel
  exact of_decide_eq_true (List.all_eq_true.mp h2 c h1)
theorem sixty_abs {n : Int} (h : Sixty n) : n.natAbs < 10 ^ 62 := by
  obtain ⟨h1, h2⟩ := h
  have : (10 : Nat) ^ 62 = 100000000000000000000000000000000000000000000000000000000000000 := by decide +kernel
  omega
theorem small_abs {n : Int} (h : -1000000000000 ≤ n ∧ n ≤ 1000000000000) : n.natAbs < 10 ^ 62 := sixty_abs ⟨by omega, by omega⟩
def RuleV.pd : RuleV → PyData
  | .hours a b => .tuple [.str "hours", .int a, .int b]
  | .least p n => .tuple [.str "least", .str p, .int n]
  | .most p n => .tuple [.str "most", .str p, .int n]
  | .looked n => .tuple [.str "looked", .int n]
  | .along w => .tuple [.str "with", .str w]
  | .never => .tuple [.str "never"]
def PageV.pd : PageV → PyData
  | .read n m p v => .tuple [.str "read", .int n, .int m, .str p, .int v]
  | .look n m s => .tuple [.str "look", .int n, .int m, .str s]
  | .rule n m w rs => .tuple [.str "rule", .int n, .int m, .str w, .tuple (rs.map RuleV.pd)]
section
variable {S : Store}
theorem rule_pd (r : RuleV) (n : Nat) : pdD S (n + 2) r.d = some r.pd := by cases r <;> rfl
theorem pdL_mapg {α : Type} {f : D → Option PyData} {g : α → D} {q : α → PyData} (h : ∀ a, f (g a) = some (q a)) : ∀ as : List α, pdL f (as.map g) = some (as.map q)
  | [] => rfl
  | a :: as => by
    rw [List.map_cons]
    unfold pdL
    rw [h a, pdL_mapg h as]; rfl
theorem page_pd (p : PageV) (n : Nat) : pdD S (n + 4) p.d = some p.pd := by
  cases p with
  | read _ _ _ _ => rfl
  | look _ _ _ => rfl
  | rule nu m w rs =>
    show (pdL (pdD S (n + 3)) [.str "rule", .int nu, .int m, .str w, .tup (rs.map RuleV.d)]).map PyData.tuple = _
    have e : pdD S (n + 3) (.tup (rs.map RuleV.d)) = some (.tuple (rs.map RuleV.pd)) := by
      show (pdL (pdD S (n + 2)) (rs.map RuleV.d)).map PyData.tuple = _
      rw [pdL_mapg (fun r => rule_pd r n)]; rfl
    have e2 : pdL (pdD S (n + 3)) [.str "rule", .int nu, .int m, .str w, .tup (rs.map RuleV.d)] = some [.str "rule", .int nu, .int m, .str w, .tuple (rs.map RuleV.pd)] := by
      simp only [pdL, e]
      rfl
    rw [e2]; rfl
theorem pages_pdL (ps : List PageV) (n : Nat) : pdL (pdD S (n + 4)) (ps.map PageV.d) = some (ps.map PageV.pd) := pdL_mapg (fun p => page_pd p n) ps
theorem book_pd (ps : List PageV) : pdT S (.d (.tup (ps.map PageV.d))) = some (.tuple (ps.map PageV.pd)) := by
  show (pdL (pdD S 59) (ps.map PageV.d)).map PyData.tuple = _
  rw [pages_pdL ps 55]; rfl
end
theorem rule_sh {h : HillV} (ho : h.Ok) {r : RuleV} (hr : r.Ok h) : Sh r.pd 700 := by
  have mk : ∀ xs : List PyData, xs.length ≤ 3 → (∀ x ∈ xs, Sh x 202) → Sh (.tuple xs) 700 := fun xs hl h => (sh_tup h).mono (by omega)
  have si : ∀ {i : Int}, i.natAbs < 10 ^ 62 → Sh (.int i) 202 := fun h => (sh_int h).mono (by decide)
  cases r with
  | hours a b =>
    obtain ⟨h1, h2, h3⟩ := hr
    refine mk _ (Nat.le_of_ble_eq_true rfl) fun x hx => ?_
    simp only [List.mem_cons, List.not_mem_nil, or_false] at hx
    rcases hx with rfl | rfl | rfl
    · exact sh_kw (by decide +kernel)
    · exact si (small_abs (by omega))
    · exact si (small_abs (by omega))
  | least p n =>
    refine mk _ (Nat.le_of_ble_eq_true rfl) fun x hx => ?_
    simp only [List.mem_cons, List.not_mem_nil, or_false] at hx
    rcases hx with rfl | rfl | rfl
    · exact sh_kw (by decide +kernel)
    · exact sh_name hr.1
    · exact si (sixty_abs hr.2)
  | most p n =>
    refine mk _ (Nat.le_of_ble_eq_true rfl) fun x hx => ?_
    simp only [List.mem_cons, List.not_mem_nil, or_false] at hx
    rcases hx with rfl | rfl | rfl
    · exact sh_kw (by decide +kernel)
    · exact sh_name hr.1
    · exact si (sixty_abs hr.2)
  | looked n =>
    obtain ⟨h1, h2⟩ := hr
    refine mk _ (Nat.le_of_ble_eq_true rfl) fun x hx => ?_
    simp only [List.mem_cons, List.not_mem_nil, or_false] at hx
    rcases hx with rfl | rfl
    · exact sh_kw (by decide +kernel)
    · exact si (small_abs (by omega))
  | along w =>
    obtain ⟨v, hv, e⟩ := hr
    refine mk _ (Nat.le_of_ble_eq_true rfl) fun x hx => ?_
    simp only [List.mem_cons, List.not_mem_nil, or_false] at hx
    rcases hx with rfl | rfl
    · exact sh_kw (by decide +kernel)
    · exact sh_name (e ▸ (ho.ws v hv).nm)
  | never =>
    refine mk _ (Nat.le_of_ble_eq_true rfl) fun x hx => ?_
    rw [List.mem_singleton.mp hx]
    exact sh_kw (by decide +kernel)
theorem rules_sh {h : HillV} (ho : h.Ok) {rs : List RuleV} (hl : rs.length ≤ 6) (hr : ∀ r ∈ rs, r.Ok h) : Sh (.tuple (rs.map RuleV.pd)) 4300 :=
  (sh_tup (b := 700) fun x hx => by
    obtain ⟨r, h1, rfl⟩ := List.mem_map.mp hx
    exact rule_sh ho (hr r h1)).mono (by rw [List.length_map]; omega)
theorem page_sh {h : HillV} (ho : h.Ok) (hd : h.dark ≤ 1000000) {p : PageV} (hp : p.Ok h) : Sh p.pd 22000 := by
  have si : ∀ {i : Int}, i.natAbs < 10 ^ 62 → Sh (.int i) 4300 := fun h => (sh_int h).mono (by decide)
  have mk : ∀ xs : List PyData, xs.length ≤ 5 → (∀ x ∈ xs, Sh x 4300) → Sh (.tuple xs) 22000 := fun xs hl h => (sh_tup h).mono (by omega)
  have n0 := hp.n0
  have n1 := hp.n1
  have m0 := hp.m0
  have m1 := hp.m1
  cases p with
  | read nu m q v =>
    refine mk _ (Nat.le_of_ble_eq_true rfl) fun x hx => ?_
    simp only [List.mem_cons, List.not_mem_nil, or_false] at hx
    rcases hx with rfl | rfl | rfl | rfl | rfl
    · exact (sh_kw (by decide +kernel)).mono (by decide)
    · exact si (small_abs (by simp only [PageV.num] at n0 n1; omega))
    · exact si (small_abs (by simp only [PageV.mom] at m0 m1; omega))
    · exact (sh_name hp.kind.1).mono (by decide)
    · exact si (sixty_abs hp.kind.2)
  | look nu m s =>
    obtain ⟨w, hw, e, _⟩ := hp.kind
    refine mk _ (Nat.le_of_ble_eq_true rfl) fun x hx => ?_
    simp only [List.mem_cons, List.not_mem_nil, or_false] at hx
    rcases hx with rfl | rfl | rfl | rfl
    · exact (sh_kw (by decide +kernel)).mono (by decide)
    · exact si (small_abs (by simp only [PageV.num] at n0 n1; omega))
    · exact si (small_abs (by simp only [PageV.mom] at m0 m1; omega))
    · exact (sh_name (e ▸ (ho.ws w hw).nm)).mono (by decide)
  | rule nu m x rs =>
    obtain ⟨⟨w, hw, e⟩, hl, hr⟩ := hp.kind
    refine mk _ (Nat.le_of_ble_eq_true rfl) fun x hx => ?_
    simp only [List.mem_cons, List.not_mem_nil, or_false] at hx
    rcases hx with rfl | rfl | rfl | rfl | rfl
    · exact (sh_kw (by decide +kernel)).mono (by decide)
    · exact si (small_abs (by simp only [PageV.num] at n0 n1; omega))
    · exact si (small_abs (by simp only [PageV.mom] at m0 m1; omega))
    · exact (sh_name (e ▸ (ho.ws w hw).nm)).mono (by decide)
    · exact rules_sh ho hl hr
theorem book_sh {h : HillV} (ho : h.Ok) (hd : h.dark ≤ 1000000) {ps : List PageV} (hl : ps.length ≤ 60) (hp : ∀ p ∈ ps, p.Ok h) : Sh (.tuple (ps.map PageV.pd)) 1400000 :=
  (sh_tup (b := 22000) fun x hx => by
    obtain ⟨p, h1, rfl⟩ := List.mem_map.mp hx
    exact page_sh ho hd (hp p h1)).mono (by rw [List.length_map]; omega)
theorem r_reprS {S : Store} {Q : T → Store → Prop} {t u : T} {n : Bool} {p : PyData} {b : Nat} (h1 : pdT [] t = some p) (h2 : pdT S u = some p) (h3 : Sh p b) (hb : b ≤ 16000000) (q : Q (.d (.bl (!n))) S) : Wp (.reprC n) [t, u] S Q :=
  r_reprC h1 h2 h3.s h3.d (by have := h3.l; rw [sizeLine_eq]; omega) q
/-! ### laid in order, one by one -/
theorem laid_ord (pg : D) : ∀ fs : List D, (fs.Pairwise fun a b => rkLe a b = true) → ((fs.take (fs.filter fun d => rkLt d pg).length ++ pg :: fs.drop (fs.filter fun d => rkLt d pg).length).Pairwise fun a b => rkLe a b = true)
  | [], _ => by simp
  | x :: xs, h => by
    obtain ⟨h1, h2⟩ := List.pairwise_cons.mp h
    by_cases hx : rkLt x pg = true
    · have ih := laid_ord pg xs h2
      have e : ((x :: xs).filter fun d => rkLt d pg) = x :: xs.filter fun d => rkLt d pg := by rw [List.filter_cons, if_pos hx]
      rw [e, List.length_cons, List.take_succ_cons, List.drop_succ_cons, List.cons_append]
      refine List.pairwise_cons.mpr ⟨fun y hy => ?_, ih⟩
      rcases List.mem_append.mp hy with hy | hy
      · exact h1 y (List.mem_of_mem_take hy)
      · rcases List.mem_cons.mp hy with rfl | hy
        · rw [rkLt_iff] at hx
          rw [rkLe_iff]
          omega
        · exact h1 y (List.mem_of_mem_drop hy)
    · have hge : ∀ y ∈ x :: xs, rkLt y pg = false := fun y hy => by
        rcases List.mem_cons.mp hy with rfl | hy
        · simpa using hx
        · have h3 := h1 y hy
          rw [← Bool.not_eq_true]
          rw [rkLt_iff] at hx ⊢
          rw [rkLe_iff] at h3
          omega
      have e : ((x :: xs).filter fun d => rkLt d pg) = [] := List.filter_eq_nil_iff.mpr fun y hy => by rw [hge y hy]; exact Bool.false_ne_true
      rw [e]
      show (pg :: x :: xs).Pairwise _
      refine List.pairwise_cons.mpr ⟨fun y hy => ?_, h⟩
      have h3 := hge y hy
      rw [← Bool.not_eq_true, rkLt_iff] at h3
      rw [rkLe_iff]
      omega
theorem laid_perm (pg : D) (fs : List D) (n : Nat) : (fs.take n ++ pg :: fs.drop n).Perm (fs ++ [pg]) := by
  have h1 : (fs.take n ++ pg :: fs.drop n).Perm (pg :: (fs.take n ++ fs.drop n)) := List.perm_middle
  rw [List.take_append_drop] at h1
  exact h1.trans (List.perm_append_comm (l₁ := [pg]) (l₂ := fs))
end F

/-! The state that later laws draw from: three numbers in a list, more behind. -/
namespace F
open PySem PyProof.Rows L2
def stS (dg sd ct : Int) (R : Store) : Store := .lst [.int dg, .int sd, .int ct] :: R
/-- the state, at most n draws counted -/
def St (n : Nat) (R S : Store) : Prop := ∃ dg sd ct, 0 ≤ dg ∧ 0 ≤ sd ∧ sd < 2305843009213693951 ∧ 0 ≤ ct ∧ ct ≤ (n : Int) ∧ S = stS dg sd ct R
theorem St.len {n : Nat} {R S : Store} (h : St n R S) : S.length = R.length + 1 := by
  obtain ⟨_, _, _, _, _, _, _, _, rfl⟩ := h
  rfl
theorem St.mono {n m : Nat} {R S : Store} (h : St n R S) (hm : n ≤ m) : St m R S := by
  obtain ⟨dg, sd, ct, h1, h2, h3, h4, h5, rfl⟩ := h
  exact ⟨dg, sd, ct, h1, h2, h3, h4, by omega, rfl⟩
theorem St.put {n : Nat} {R S J : Store} (h : St n R S) : St n (R ++ J) (S ++ J) := by
  obtain ⟨dg, sd, ct, h1, h2, h3, h4, h5, rfl⟩ := h
  exact ⟨dg, sd, ct, h1, h2, h3, h4, h5, rfl⟩
theorem St.at {n i : Nat} {R S : Store} (h : St n R S) : S[i + 1]? = R[i]? := by
  obtain ⟨dg, sd, ct, h1, h2, h3, h4, h5, rfl⟩ := h
  rfl
theorem St.set {n i : Nat} {R S : Store} {o : O} (h : St n R S) : St n (R.set i o) (S.set (i + 1) o) := by
  obtain ⟨dg, sd, ct, h1, h2, h3, h4, h5, rfl⟩ := h
  exact ⟨dg, sd, ct, h1, h2, h3, h4, h5, rfl⟩
theorem closed_st (m : Nat) (dg sd ct : Int) : closedO m (.lst [.int dg, .int sd, .int ct]) = true := by
  show closeds _ _ = true
  simp [closeds, closed]
/-- a def that leaves the state changed and new things behind R -/
theorem St.gc {n m : Nat} {R S S' J : Store} {x : D} (h : St n R S) (h' : St m (R ++ J) S') (hx : closed S.length x = true) : ∃ S'', F.gc S S' x = (x, S'') ∧ St m R S'' := by
  obtain ⟨dg, sd, ct, h1, h2, h3, h4, h5, rfl⟩ := h
  obtain ⟨dg', sd', ct', k1, k2, k3, k4, k5, rfl⟩ := h'
  refine ⟨stS dg' sd' ct' R, gc_drop (S' := stS dg' sd' ct' R) (J := J) rfl (fun hc o ho => ?_) hx, ⟨dg', sd', ct', k1, k2, k3, k4, k5, rfl⟩⟩
  rcases List.mem_cons.mp ho with rfl | ho
  · exact closed_st _ _ _ _
  · exact hc o (List.mem_cons_of_mem _ ho)
/-- what a def tells may stand behind R -/
theorem St.gcv {n m : Nat} {R S S' J : Store} {x : D} (h : St n R S) (h' : St m (R ++ J) S') : ∃ J' S'', F.gc S S' x = (x, S'') ∧ St m (R ++ J') S'' := by
  unfold F.gc
  split
  · rename_i g
    obtain ⟨dg, sd, ct, h1, h2, h3, h4, h5, rfl⟩ := h
    obtain ⟨dg', sd', ct', k1, k2, k3, k4, k5, rfl⟩ := h'
    have e : (stS dg' sd' ct' (R ++ J)).take (stS dg sd ct R).length = stS dg' sd' ct' R := List.take_left (l₁ := stS dg' sd' ct' R)
    refine ⟨[], _, rfl, ?_⟩
    rw [e, List.append_nil]
    exact ⟨dg', sd', ct', k1, k2, k3, k4, k5, rfl⟩
  · exact ⟨J, S', rfl, h'⟩
theorem St.re0 {n : Nat} {R S : Store} (p : St n R S) : St n (R ++ []) S := by rw [List.append_nil]; exact p
section
variable {n : Nat} {R J S : Store} {Q : T → Store → Prop}
theorem St.re (p : St n (R ++ J) S) : St n ((R ++ J) ++ []) S := by rw [List.append_nil]; exact p
theorem st_len (p : St n (R ++ J) S) : S.length = R.length + 1 + J.length := by rw [p.len, List.length_append]; omega
theorem st_at (p : St n (R ++ J) S) (i : Nat) : S[R.length + 1 + i]? = J[i]? := by
  rw [show R.length + 1 + i = R.length + i + 1 by omega, p.at, List.getElem?_append_right (by omega), Nat.add_sub_cancel_left]
theorem wn_tmp_s {ds : List D} {Q : D → Store → Prop} (p : St n (R ++ J) S) (q : ∀ S', St n (R ++ (J ++ [.lst ds])) S' → Q (.ref (R.length + 1 + J.length)) S') : Wn (.tmp ds) S Q := by
  refine wn_tmp ?_
  rw [st_len p]
  exact q _ (by rw [← List.append_assoc]; exact p.put)
theorem lst_s {i : Nat} {ds : List D} (p : St n (R ++ J) S) (h : J[i]? = some (.lst ds)) : lstOf S (.d (.ref (R.length + 1 + i))) = some ds := lst_ref ((st_at p i).trans h)
theorem lstM_s {i : Nat} {ds : List D} (p : St n (R ++ J) S) (h : J[i]? = some (.lst ds)) : lstM S (.d (.ref (R.length + 1 + i))) = some ds := lstM_ref ((st_at p i).trans h)
theorem r_item_s {i : Nat} {j : Int} {ds : List D} (p : St n (R ++ J) S) (h : J[i]? = some (.lst ds)) (h0 : 0 ≤ j) (hj : j.toNat < ds.length) (q : ∀ x, x ∈ ds → Q (.d x) S) : Wp .item [.d (.ref (R.length + 1 + i)), .d (.int j)] S Q :=
  r_item_ref ((st_at p i).trans h) h0 (List.getElem?_eq_getElem hj) (q _ (List.getElem_mem hj))
theorem wit_s {i : Nat} {ds : List D} {Q : List D → Prop} (p : St n (R ++ J) S) (h : J[i]? = some (.lst ds)) (q : Q ds) : Wit S (.d (.ref (R.length + 1 + i))) Q := wit_ref ((st_at p i).trans h) q
theorem chk_s {i : Nat} {ds : List D} (p : St n (R ++ J) S) (h : J[i]? = some (.lst ds)) : chk (liveOf (.d (.ref (R.length + 1 + i))) ds) S := fun q hq => by rw [List.mem_singleton.mp hq]; exact (st_at p i).trans h
theorem r_append_s {i : Nat} {ds : List D} {x : D} (p : St n (R ++ J) S) (h : J[i]? = some (.lst ds)) (hl : ds.length < 1000000) (q : ∀ S', St n (R ++ J.set i (.lst (ds ++ [x]))) S' → Q (.d .non) S') : Wp .append [.d (.ref (R.length + 1 + i)), .d x] S Q := by
  refine r_append ((st_at p i).trans h) hl (q _ ?_)
  have := p.set (i := R.length + i) (o := .lst (ds ++ [x]))
  rw [show R.length + i + 1 = R.length + 1 + i by omega, List.set_append_right _ _ (by omega), Nat.add_sub_cancel_left] at this
  exact this
theorem at_sn {α : Type} {J : List α} {o : α} : (J ++ [o])[J.length]? = some o := by rw [List.getElem?_append_right (Nat.le_refl _), Nat.sub_self]; rfl
end
section
variable {S : Store} {Q : T → Store → Prop}
theorem log2_pow {d : Int} {k : Nat} (h0 : 0 ≤ d) (h : d < 2 ^ k) : d.natAbs.log2 ≤ k := by
  by_cases z : d.natAbs = 0
  · rw [z]; simp
  · have : d.natAbs < 2 ^ k := by
      have e : ((d.natAbs : Nat) : Int) = d := Int.natAbs_of_nonneg h0
      rw [← e] at h
      exact_mod_cast h
    exact Nat.le_of_lt ((Nat.log2_lt z).mpr this)
theorem digits_up {d x : Int} {k : Nat} (h0 : 0 ≤ d) (h : d < 2 ^ k) (x0 : 0 ≤ x) (x1 : x < 1000000000000000000000000000000000000000000000000000000000000) : 0 ≤ d * 1000000000000000000000000000000000000000000000000000000000000 + x ∧ d * 1000000000000000000000000000000000000000000000000000000000000 + x < 2 ^ (k + 200) := by
  refine ⟨by omega, ?_⟩
  have e : (2 : Int) ^ (k + 200) = 2 ^ k * 1606938044258990275541962092341162602522202993782792835301376 := by rw [Int.pow_add]; congr 1
  rw [e]
  generalize (2 : Int) ^ k = p at h ⊢
  omega
end
/-! letters -/
def law26 : Str := "etaoinshrdlcumwfgypbvkjxqz"
theorem law26_abc {c : Nat} (h : c ∈ law26.cps.toList) : c ∈ abc.cps.toList := by
  have : (law26.cps.toList.all fun c => abc.cps.toList.contains c) = true := by decide +kernel
  have := List.all_eq_true.mp this c h
  rw [List.contains_iff_mem] at this
  exact this
theorem law26_nd : law26.cps.toList.Nodup := by decide +kernel
theorem law26_len : law26.cps.toList.length = 26 := by decide +kernel
theorem join_ofLs (cs : List Nat) : Txt.join ("" : Str) (cs.map fun c => (⟨#[c]⟩ : Str)) = ofL cs := str_ext (by rw [join_one, ofL_cps])
/-- the candidates of a name: it, or seven of its letters and one -/
def cands (z : Str) : List Str := z :: law26.cps.toList.map fun c => ofL (z.cps.toList.take 7 ++ [c])
theorem cands_name {z : Str} (h : Name z) : ∀ y ∈ cands z, Name y := fun y hy => by
  rcases List.mem_cons.mp hy with rfl | hy
  · exact h
  · obtain ⟨c, hc, rfl⟩ := List.mem_map.mp hy
    refine ⟨?_, ?_, fun x hx => ?_⟩
    · rw [← len_to, ofL_cps, List.length_append, List.length_singleton]; omega
    · rw [← len_to, ofL_cps, List.length_append, List.length_singleton, List.length_take]; omega
    · rw [ofL_cps] at hx
      rcases List.mem_append.mp hx with hx | hx
      · exact h.ab x (List.mem_of_mem_take hx)
      · rw [List.mem_singleton.mp hx]; exact law26_abc hc
theorem ofL_inj {a b : List Nat} (h : ofL a = ofL b) : a = b := by
  have := congrArg (fun z : Str => z.cps.toList) h
  exact this
theorem cands_free {z : Str} {ys : List Str} (h : ys.length ≤ 25) : ∃ y, y ∈ cands z ∧ y ∉ ys := by
  by_cases q : ∃ y, y ∈ cands z ∧ y ∉ ys
  · exact q
  · exfalso
    have hall : ∀ y ∈ cands z, y ∈ ys := fun y hy => by
      by_cases hh : y ∈ ys
      · exact hh
      · exact absurd ⟨y, hy, hh⟩ q
    have := pigeon (law26.cps.toList.map fun c => ofL (z.cps.toList.take 7 ++ [c])) ys ?_ (fun x hx => hall x (List.mem_cons_of_mem _ hx))
    · rw [List.length_map, law26_len] at this
      omega
    · refine List.pairwise_map.mpr (List.Pairwise.imp (fun {a b} hab e => hab ?_) law26_nd)
      have := ofL_inj e
      have := List.append_cancel_left this
      simpa using this
/-- seventy numbers, one of them free -/
def seventy (v : Int) : List Int := (List.range 70).map fun k : Nat => (v + (k : Int)) % 1000000
theorem seventy_free {v : Int} {ns : List Int} (h : ns.length ≤ 69) : ∃ y, y ∈ seventy v ∧ y ∉ ns := by
  by_cases q : ∃ y, y ∈ seventy v ∧ y ∉ ns
  · exact q
  · exfalso
    have := pigeon (seventy v) ns ?_ (fun x hx => by
      by_cases hh : x ∈ ns
      · exact hh
      · exact absurd ⟨x, hx, hh⟩ q)
    · unfold seventy at this
      rw [List.length_map, List.length_range] at this
      omega
    · refine List.pairwise_map.mpr (List.Pairwise.imp_of_mem (fun {a b} ha hb hab e => hab ?_) (List.nodup_range (n := 70)))
      have h1 := List.mem_range.mp ha
      have h2 := List.mem_range.mp hb
      omega
theorem seventy_bd {v y : Int} (h : y ∈ seventy v) : 0 ≤ y ∧ y ≤ 999999 := by
  obtain ⟨k, _, rfl⟩ := List.mem_map.mp h
  omega
section
variable {S : Store} {Q : T → Store → Prop}
theorem r_int1S {x : Bool} (q : Q (.d (.int (if x then 1 else 0))) S) : Wp .int1 [.d (.bl x)] S Q := r_of rfl q
theorem r_pow50 (q : Q (.d (.int 100000000000000000000000000000000000000000000000000)) S) : Wp .pow [.d (.int 10), .d (.int 50)] S Q := r_pow_lit (by decide +kernel) (by decide +kernel) q
/-- a list times a number -/
theorem r_mul_lst {a : T} {ds : List D} {k : Int} (h : lstM S a = some ds) (hs : ∀ x, a ≠ .d x) (h0 : 0 ≤ k) (h1 : k ≤ 1000) (hl : ds.length ≤ 1000) (q : Q (.tmp (List.replicate k.toNat ds).flatten) S) : Wp .mul [a, .d (.int k)] S Q := by
  refine r_of (t := .tmp (List.replicate k.toNat ds).flatten) (S1 := S) ?_ q
  rw [run_mul]
  cases a with
  | d x => exact absurd rfl (hs x)
  | tmp es =>
    cases h
    show res (match lstM S (.tmp ds) with | some ds => if -(2 ^ 63) ≤ k ∧ k < 2 ^ 63 ∧ ds.length * k.toNat ≤ sizeLine then some (T.tmp (List.replicate k.toNat ds).flatten) else none | none => none) S = _
    show res (if -(2 ^ 63) ≤ k ∧ k < 2 ^ 63 ∧ ds.length * k.toNat ≤ sizeLine then some (T.tmp (List.replicate k.toNat ds).flatten) else none) S = _
    have hm : ds.length * k.toNat ≤ 1000 * 1000 := Nat.mul_le_mul hl (by omega)
    rw [if_pos ⟨by omega, by omega, by rw [sizeLine_eq]; omega⟩]
    rfl
theorem r_item_ref_last {n : Nat} {ds : List D} {x : D} (h : S[n]? = some (.lst (ds ++ [x]))) (q : Q (.d x) S) : Wp .item [.d (.ref n), .d (.int (-1))] S Q := by
  refine r_of (t := .d x) (S1 := S) ?_ q
  have h1 : lstOf S (.d (.ref n)) = some (ds ++ [x]) := lst_ref h
  have h2 : itemT S (.d (.ref n)) (.d (.int (-1))) = some x := by
    unfold itemT seqOf
    dsimp only
    rw [h1]
    exact atI_last _ _
  rw [run_item]
  unfold itemR
  rw [h2]
  rfl
theorem inT_ints_at {k : Nat} {z : Int} {ys : List Int} (h : S[k]? = some (.lst (ys.map .int))) : inT S (.d (.int z)) (.d (.ref k)) = some (ys.any fun y => decide (y = z)) := by
  unfold inT
  dsimp only
  rw [h]
  dsimp only
  unfold inL
  rw [pdL_ints]
  show some ((ys.map PyData.int).any fun q => PyData.eqv q (.int z)) = _
  rw [List.any_map]
  exact congrArg some (congrArg (List.any ys) (funext fun y => eqv_int y z))
end
end F

/-! Books sorted, the page that counts, shelves. -/
namespace F
open PySem PyProof.Rows L2
def PageV.kd : PageV → Str
  | .read _ _ _ _ => "read" | .look _ _ _ => "look" | .rule _ _ _ _ => "rule"
def PageV.nm : PageV → Str
  | .read _ _ p _ => p | .look _ _ s => s | .rule _ _ w _ => w
theorem page_head (p : PageV) : ∃ r : List D, p.d = .tup (.str p.kd :: .int p.num :: .int p.mom :: .str p.nm :: r) := by cases p <;> exact ⟨_, rfl⟩
theorem closed_rules (n : Nat) : ∀ rs : List RuleV, closeds n (rs.map RuleV.d) = true
  | [] => by unfold List.map closeds; rfl
  | r :: rs => by
    rw [List.map_cons]
    unfold closeds
    rw [closed_rules n rs]
    cases r <;> simp [RuleV.d, closed, closeds]
theorem closed_page (n : Nat) (p : PageV) : closed n p.d = true := by
  cases p with
  | read _ _ _ _ => simp [PageV.d, closed, closeds]
  | look _ _ _ => simp [PageV.d, closed, closeds]
  | rule _ _ _ rs => simp [PageV.d, closed, closeds, closed_rules]
theorem closed_pages (n : Nat) : ∀ ps : List PageV, closeds n (ps.map PageV.d) = true
  | [] => by unfold List.map closeds; rfl
  | p :: ps => by
    rw [List.map_cons]
    unfold closeds
    rw [closed_pages n ps, closed_page]
    rfl
/-! ### sorted -/
def lePg (a b : PageV) : Bool := rkLe a.d b.d
def sortP (ps : List PageV) : List PageV := ps.mergeSort lePg
theorem sortP_d (ps : List PageV) : sortRk (ps.map PageV.d) = (sortP ps).map PageV.d := (List.map_mergeSort (r := lePg) (s := rkLe) (f := PageV.d) (l := ps) fun _ _ _ _ => rfl).symm
theorem sortP_perm (ps : List PageV) : (sortP ps).Perm ps := List.mergeSort_perm ps _
theorem sortP_ord (ps : List PageV) : (sortP ps).Pairwise fun a b => lePg a b = true := List.pairwise_mergeSort (le := lePg) (fun _ _ _ h1 h2 => rkLe_trans h1 h2) (fun a b => rkLe_total a.d b.d) ps
theorem lePg_iff {a b : PageV} : lePg a b = true ↔ a.mom < b.mom ∨ (a.mom = b.mom ∧ a.num ≤ b.num) := by
  unfold lePg
  rw [rkLe_iff, rkOf_page, rkOf_page]
/-! ### the page that counts -/
def isKN (k : Str × Str) (p : PageV) : Bool := decide (p.kd = k.1) && decide (p.nm = k.2)
def byT (t : Int) (p : PageV) : Bool := decide (p.mom ≤ t)
def lastP (bk : List PageV) (kd nm : Str) (t : Int) : Option PageV := ((bk.filter (isKN (kd, nm))).filter (byT t)).getLast?
def optD : Option PageV → D
  | some p => p.d | none => .non
theorem closed_opt (n : Nat) (o : Option PageV) : closed n (optD o) = true := by
  cases o with
  | none => unfold optD closed; rfl
  | some p => exact closed_page n p
theorem maxRk_ok : ∀ (ds : List D) (d : D), maxRk d ds ∈ d :: ds ∧ ∀ y ∈ d :: ds, rkLe y (maxRk d ds) = true
  | [], d => ⟨List.mem_cons_self, fun y hy => by rw [List.mem_singleton.mp hy]; show rkLe d d = true; rw [rkLe_iff]; omega⟩
  | e :: ds, d => by
    have ih := maxRk_ok ds (if rkLt d e then e else d)
    have e1 : maxRk d (e :: ds) = maxRk (if rkLt d e then e else d) ds := rfl
    rw [e1]
    cases hb : rkLt d e with
    | true =>
      rw [hb, if_pos rfl] at ih
      rw [if_pos rfl]
      refine ⟨List.mem_cons_of_mem _ ih.1, fun y hy => ?_⟩
      rcases List.mem_cons.mp hy with rfl | hy
      · refine rkLe_trans (y := e) ?_ (ih.2 e List.mem_cons_self)
        rw [rkLt_iff] at hb
        rw [rkLe_iff]; omega
      · exact ih.2 y hy
    | false =>
      rw [hb, if_neg Bool.false_ne_true] at ih
      rw [if_neg Bool.false_ne_true]
      refine ⟨?_, fun y hy => ?_⟩
      · rcases List.mem_cons.mp ih.1 with h | h
        · rw [h]; exact List.mem_cons_self
        · exact List.mem_cons_of_mem _ (List.mem_cons_of_mem _ h)
      · rcases List.mem_cons.mp hy with rfl | hy
        · exact ih.2 y List.mem_cons_self
        · rcases List.mem_cons.mp hy with rfl | hy
          · refine rkLe_trans (y := d) ?_ (ih.2 d List.mem_cons_self)
            rw [← Bool.not_eq_true, rkLt_iff] at hb
            rw [rkLe_iff]; omega
          · exact ih.2 y (List.mem_cons_of_mem _ hy)
theorem last_max {M : List PageV} {m : PageV} (ho : M.Pairwise fun a b => lePg a b = true) (h : M.getLast? = some m) : m ∈ M ∧ ∀ y ∈ M, lePg y m = true := by
  obtain ⟨ys, rfl⟩ := List.getLast?_eq_some_iff.mp h
  refine ⟨by simp, fun y hy => ?_⟩
  rcases List.mem_append.mp hy with hy | hy
  · exact (List.pairwise_append.mp ho).2.2 y hy m (by simp)
  · rw [List.mem_singleton.mp hy, lePg_iff]; omega
theorem num_inj {ps : List PageV} (hnd : (ps.map PageV.num).Nodup) {a b : PageV} (ha : a ∈ ps) (hb : b ∈ ps) (e : a.num = b.num) : a = b := by
  obtain ⟨i, hi, rfl⟩ := List.getElem_of_mem ha
  obtain ⟨j, hj, rfl⟩ := List.getElem_of_mem hb
  have hp := List.pairwise_iff_getElem.mp (List.pairwise_map.mp hnd)
  rcases Nat.lt_trichotomy i j with h | h | h
  · exact absurd e (hp i j hi hj h)
  · subst h; rfl
  · exact absurd e.symm (hp j i hj hi h)
/-- the greatest of those that fit is the last of those that fit in the sorted book -/
theorem max_last {ps : List PageV} (hnd : (ps.map PageV.num).Nodup) (f : PageV → Bool) : (match (ps.filter f).map PageV.d with | [] => D.non | x :: xs => maxRk x xs) = optD ((sortP ps).filter f).getLast? := by
  have hp : ((sortP ps).filter f).Perm (ps.filter f) := (sortP_perm ps).filter f
  have ho : ((sortP ps).filter f).Pairwise fun a b => lePg a b = true := (sortP_ord ps).filter f
  cases hl : ps.filter f with
  | nil =>
    rw [hl] at hp
    rw [List.perm_nil.mp hp]
    rfl
  | cons x xs =>
    rw [hl] at hp
    obtain ⟨m, hm⟩ : ∃ m, ((sortP ps).filter f).getLast? = some m := by
      cases h : ((sortP ps).filter f).getLast? with
      | some m => exact ⟨m, rfl⟩
      | none => rw [List.getLast?_eq_none_iff] at h; rw [h] at hp; have := hp.length_eq; simp at this
    obtain ⟨h1, h2⟩ := last_max ho hm
    obtain ⟨h3, h4⟩ := maxRk_ok (xs.map PageV.d) x.d
    rw [hm]
    show maxRk x.d (xs.map PageV.d) = m.d
    have h3' : maxRk x.d (xs.map PageV.d) ∈ (x :: xs).map PageV.d := h3
    obtain ⟨q, hq, e⟩ := List.mem_map.mp h3'
    have hq2 : q ∈ ps := (List.mem_filter.mp (hl ▸ hq)).1
    have hm2 : m ∈ x :: xs := hp.mem_iff.mp h1
    have hm3 : m ∈ ps := (List.mem_filter.mp (hl ▸ hm2)).1
    have a1 := h2 q (hp.mem_iff.mpr hq)
    have a2 := h4 m.d (List.mem_map.mpr ⟨m, hm2, rfl⟩)
    rw [← e] at a2
    have a2' : lePg m q = true := a2
    rw [lePg_iff] at a1 a2'
    rw [← e, num_inj hnd hq2 hm3 (by omega)]
def readV (bk : List PageV) (nm : Str) (t : Int) : Option Int := match lastP bk "read" nm t with | some (.read _ _ _ v) => some v | _ => none
def rulesV (bk : List PageV) (nm : Str) (t : Int) : List RuleV := match lastP bk "rule" nm t with | some (.rule _ _ _ rs) => rs | _ => []
def lookV (bk : List PageV) (nm : Str) (t : Int) : Option Int := (lastP bk "look" nm t).map PageV.mom
theorem last_mem {bk : List PageV} {kd nm : Str} {t : Int} {p : PageV} (h : lastP bk kd nm t = some p) : p ∈ bk ∧ p.kd = kd ∧ p.nm = nm ∧ p.mom ≤ t := by
  obtain ⟨ys, e⟩ := List.getLast?_eq_some_iff.mp h
  have hm : p ∈ (bk.filter (isKN (kd, nm))).filter (byT t) := by rw [e]; simp
  obtain ⟨h1, h2⟩ := List.mem_filter.mp hm
  obtain ⟨h3, h4⟩ := List.mem_filter.mp h1
  unfold isKN at h4
  rw [Bool.and_eq_true, decide_eq_true_eq, decide_eq_true_eq] at h4
  exact ⟨h3, h4.1, h4.2, of_decide_eq_true h2⟩
theorem read_case {bk : List PageV} {nm : Str} {t : Int} : (lastP bk "read" nm t = none ∧ readV bk nm t = none) ∨ ∃ n m q v, lastP bk "read" nm t = some (.read n m q v) ∧ readV bk nm t = some v := by
  unfold readV
  cases h : lastP bk "read" nm t with
  | none => exact .inl ⟨rfl, rfl⟩
  | some p =>
    have hk := (last_mem h).2.1
    cases p with
    | read n m q v => exact .inr ⟨n, m, q, v, rfl, rfl⟩
    | look _ _ _ => exact absurd hk (show ¬ ("look" : Str) = "read" by decide)
    | rule _ _ _ _ => exact absurd hk (show ¬ ("rule" : Str) = "read" by decide)
theorem rules_case {bk : List PageV} {nm : Str} {t : Int} : (lastP bk "rule" nm t = none ∧ rulesV bk nm t = []) ∨ ∃ n m q rs, lastP bk "rule" nm t = some (.rule n m q rs) ∧ rulesV bk nm t = rs := by
  unfold rulesV
  cases h : lastP bk "rule" nm t with
  | none => exact .inl ⟨rfl, rfl⟩
  | some p =>
    have hk := (last_mem h).2.1
    cases p with
    | rule n m q v => exact .inr ⟨n, m, q, v, rfl, rfl⟩
    | look _ _ _ => exact absurd hk (show ¬ ("look" : Str) = "rule" by decide)
    | read _ _ _ _ => exact absurd hk (show ¬ ("read" : Str) = "rule" by decide)
theorem look_case {bk : List PageV} {nm : Str} {t : Int} : (lastP bk "look" nm t = none ∧ lookV bk nm t = none) ∨ ∃ n m q, lastP bk "look" nm t = some (.look n m q) ∧ lookV bk nm t = some m := by
  unfold lookV
  cases h : lastP bk "look" nm t with
  | none => exact .inl ⟨rfl, rfl⟩
  | some p =>
    have hk := (last_mem h).2.1
    cases p with
    | look n m q => exact .inr ⟨n, m, q, rfl, rfl⟩
    | rule _ _ _ _ => exact absurd hk (show ¬ ("rule" : Str) = "look" by decide)
    | read _ _ _ _ => exact absurd hk (show ¬ ("read" : Str) = "look" by decide)
/-! ### shelves -/
def keyS (k : Str × Str) : List Key := [.inr k.1, .inr k.2]
theorem keyS_inj {a b : Str × Str} (h : keyS a = keyS b) : a = b := by
  unfold keyS at h
  simp only [List.cons.injEq, Sum.inr.injEq, and_true] at h
  exact Prod.ext h.1 h.2
def shKV : Nat → List (Str × Str) → List (List Key × D)
  | _, [] => []
  | b, k :: ks => (keyS k, .ref b) :: shKV (b + 1) ks
theorem shKV_len : ∀ (b : Nat) (ks : List (Str × Str)), (shKV b ks).length = ks.length
  | _, [] => rfl
  | b, k :: ks => by unfold shKV; rw [List.length_cons, List.length_cons, shKV_len]
theorem shKV_app : ∀ (b : Nat) (ks : List (Str × Str)) (k : Str × Str), shKV b (ks ++ [k]) = shKV b ks ++ [(keyS k, .ref (b + ks.length))]
  | _, [], _ => rfl
  | b, x :: ks, k => by
    rw [List.cons_append]
    unfold shKV
    rw [shKV_app, List.length_cons, show b + 1 + ks.length = b + (ks.length + 1) by omega]
    rfl
theorem shKV_look : ∀ (ks : List (Str × Str)) (b : Nat) (a : Str × Str), (a ∉ ks ∧ lookK (shKV b ks) (keyS a) = none ∧ ((shKV b ks).any fun kv => decide (kv.1 = keyS a)) = false) ∨ ∃ j, ks[j]? = some a ∧ lookK (shKV b ks) (keyS a) = some (.ref (b + j))
  | [], b, a => .inl ⟨by simp, rfl, rfl⟩
  | k :: ks, b, a => by
    by_cases e : k = a
    · subst e
      refine .inr ⟨0, rfl, ?_⟩
      unfold lookK shKV
      rw [List.find?_cons_of_pos (by exact decide_eq_true rfl)]
      rfl
    · have e2 : ¬ keyS k = keyS a := fun z => e (keyS_inj z)
      rcases shKV_look ks (b + 1) a with ⟨h1, h2, h3⟩ | ⟨j, h1, h2⟩
      · refine .inl ⟨fun hm => ?_, ?_, ?_⟩
        · rcases List.mem_cons.mp hm with hm | hm
          · exact e hm.symm
          · exact h1 hm
        · unfold lookK at h2 ⊢
          unfold shKV
          rw [List.find?_cons_of_neg (by exact fun z => e2 (of_decide_eq_true z))]
          exact h2
        · unfold shKV
          rw [List.any_cons, h3, Bool.or_false]
          exact decide_eq_false e2
      · refine .inr ⟨j + 1, h1, ?_⟩
        unfold lookK at h2 ⊢
        unfold shKV
        rw [List.find?_cons_of_neg (by exact fun z => e2 (of_decide_eq_true z))]
        rw [show b + (j + 1) = b + 1 + j by omega]
        exact h2
def shJ (ks : List (Str × Str)) (ps : List PageV) : Store := ks.map fun k => O.lst ((ps.filter (isKN k)).map PageV.d)
/-- shelves of a book stand at n; all of it below L -/
def Shelved (L : Nat) (S : Store) (n : Nat) (bk : List PageV) : Prop := ∃ ks b, n < L ∧ b + ks.length ≤ L ∧ S[n]? = some (.dT (shKV b ks)) ∧ (∀ j k, ks[j]? = some k → S[b + j]? = some (.lst ((bk.filter (isKN k)).map PageV.d))) ∧ ∀ p ∈ bk, (p.kd, p.nm) ∈ ks
theorem Shelved.frame {L n : Nat} {S S' : Store} {bk : List PageV} (h : Shelved L S n bk) (hf : ∀ i, i < L → S'[i]? = S[i]?) : Shelved L S' n bk := by
  obtain ⟨ks, b, h1, h2, h3, h4, h5⟩ := h
  refine ⟨ks, b, h1, h2, by rw [hf n h1]; exact h3, fun j k hj => ?_, h5⟩
  have := (List.getElem?_eq_some_iff.mp hj).1
  rw [hf _ (by omega)]
  exact h4 j k hj
section
variable {S : Store} {Q : T → Store → Prop} {n : Nat}
theorem run_setdef (a b c : T) : Prim.run .setdef [a, b, c] S = setdefT S a b c := rfl
theorem run_get2S (a b c : T) : Prim.run .get2 [a, b, c] S = res (get2T S a b c) S := rfl
theorem keysOf_two (a b : Str) : keysOf [.str a, .str b] = some (keyS (a, b)) := rfl
theorem r_setdef_old {kvs : List (List Key × D)} {a b : Str} {d : D} {t : T} (h : S[n]? = some (.dT kvs)) (hl : kvs.length < 1000000) (hk : lookK kvs (keyS (a, b)) = some d) (q : Q (.d d) S) : Wp .setdef [.d (.ref n), .d (.tup [.str a, .str b]), t] S Q := by
  refine r_of (t := .d d) (S1 := S) ?_ q
  rw [run_setdef]
  unfold setdefT
  dsimp only
  rw [h]
  dsimp only
  rw [keysOf_two]
  dsimp only
  rw [if_pos (show kvs.length < sizeLine by rw [sizeLine_eq]; omega), hk]
theorem r_setdef_new {kvs : List (List Key × D)} {a b : Str} {t : T} (h : S[n]? = some (.dT kvs)) (hl : kvs.length < 1000000) (hk : lookK kvs (keyS (a, b)) = none) (q : Q (.d (norm t S).1) ((norm t S).2.set n (.dT (storeK kvs (keyS (a, b)) (norm t S).1)))) : Wp .setdef [.d (.ref n), .d (.tup [.str a, .str b]), t] S Q := by
  refine r_of (t := .d (norm t S).1) (S1 := (norm t S).2.set n (.dT (storeK kvs (keyS (a, b)) (norm t S).1))) ?_ q
  rw [run_setdef]
  unfold setdefT
  dsimp only
  rw [h]
  dsimp only
  rw [keysOf_two]
  dsimp only
  rw [if_pos (show kvs.length < sizeLine by rw [sizeLine_eq]; omega), hk]
theorem rv_setdefT {kvs : List (List Key × D)} (h : S[n]? = some (.dT kvs)) : recvOk .setdef (.d (.ref n)) S = true := by
  unfold recvOk
  dsimp only
  rw [h]
theorem rv_get2T {kvs : List (List Key × D)} (h : S[n]? = some (.dT kvs)) : recvOk .get2 (.d (.ref n)) S = true := by
  unfold recvOk
  dsimp only
  rw [h]
theorem r_get2_dT {kvs : List (List Key × D)} {a b : Str} {t : T} (h : S[n]? = some (.dT kvs)) (q : Q (match lookK kvs (keyS (a, b)) with | some d => .d d | none => t) S) : Wp .get2 [.d (.ref n), .d (.tup [.str a, .str b]), t] S Q := by
  refine r_of (t := match lookK kvs (keyS (a, b)) with | some d => .d d | none => t) (S1 := S) ?_ q
  rw [run_get2S]
  unfold get2T
  dsimp only
  have e : dLook S n (.tup [.str a, .str b]) = some (lookK kvs (keyS (a, b))) := by
    unfold dLook
    rw [h]
    dsimp only
    rw [keysOf_two]
    rfl
  rw [e]
  cases lookK kvs (keyS (a, b)) <;> rfl
end
theorem r_get2_tv {S : Store} {Q : T → Store → Prop} {n : Nat} {kvs : List (List Key × D)} {a b : Str} {t tv : T} (h : S[n]? = some (.dT kvs)) (hv : (lookK kvs (keyS (a, b)) = none ∧ tv = t) ∨ ∃ d, lookK kvs (keyS (a, b)) = some d ∧ tv = .d d) (q : Q tv S) : Wp .get2 [.d (.ref n), .d (.tup [.str a, .str b]), t] S Q := by
  refine r_get2_dT h ?_
  rcases hv with ⟨e, rfl⟩ | ⟨d, e, rfl⟩
  · rw [e]; exact q
  · rw [e]; exact q
/-! ### more behind a store -/
section
variable {S J : Store} {o b : O}
theorem ap_at0 : (S ++ (o :: J))[S.length]? = some o := by rw [List.getElem?_append_right (Nat.le_refl _), Nat.sub_self]; rfl
theorem ap_at1 (j : Nat) : (S ++ (o :: J))[S.length + 1 + j]? = J[j]? := by
  rw [List.getElem?_append_right (by omega), show S.length + 1 + j - S.length = j + 1 by omega]; rfl
theorem ap_set0 : (S ++ (o :: J)).set S.length b = S ++ (b :: J) := by
  rw [List.set_append_right _ _ (Nat.le_refl _), Nat.sub_self]; rfl
theorem ap_set1 (j : Nat) : (S ++ (o :: J)).set (S.length + 1 + j) b = S ++ (o :: J.set j b) := by
  rw [List.set_append_right _ _ (by omega), show S.length + 1 + j - S.length = j + 1 by omega]; rfl
end
theorem isKN_iff {k : Str × Str} {p : PageV} : isKN k p = true ↔ (p.kd, p.nm) = k := by
  unfold isKN
  rw [Bool.and_eq_true, decide_eq_true_eq, decide_eq_true_eq]
  exact ⟨fun h => Prod.ext h.1 h.2, fun h => by subst h; exact ⟨rfl, rfl⟩⟩
theorem shJ_at {ks : List (Str × Str)} {ps : List PageV} {j : Nat} {k : Str × Str} (h : ks[j]? = some k) : (shJ ks ps)[j]? = some (.lst ((ps.filter (isKN k)).map PageV.d)) := by
  unfold shJ
  rw [List.getElem?_map, h]; rfl
theorem shJ_old {ks : List (Str × Str)} {ps : List PageV} {p : PageV} {j : Nat} (hnd : ks.Nodup) (h : ks[j]? = some (p.kd, p.nm)) : (shJ ks ps).set j (.lst ((ps.filter (isKN (p.kd, p.nm))).map PageV.d ++ [p.d])) = shJ ks (ps ++ [p]) := by
  refine List.ext_getElem? fun i => ?_
  by_cases e : j = i
  · subst e
    rw [shJ_at h, List.getElem?_set_self (by unfold shJ; rw [List.length_map]; exact (List.getElem?_eq_some_iff.mp h).1), List.filter_append, List.filter_cons_of_pos (isKN_iff.mpr rfl), List.filter_nil, List.map_append]
    rfl
  · rw [List.getElem?_set_ne e]
    cases hi : ks[i]? with
    | none =>
      have : ks.length ≤ i := List.getElem?_eq_none_iff.mp hi
      rw [List.getElem?_eq_none_iff.mpr (by unfold shJ; rw [List.length_map]; exact this), List.getElem?_eq_none_iff.mpr (by unfold shJ; rw [List.length_map]; exact this)]
    | some k =>
      rw [shJ_at hi, shJ_at hi, List.filter_append, List.filter_cons_of_neg (fun z => ?_), List.filter_nil, List.append_nil]
      have e2 := isKN_iff.mp z
      obtain ⟨h1, h2⟩ := List.getElem?_eq_some_iff.mp h
      obtain ⟨h3, h4⟩ := List.getElem?_eq_some_iff.mp hi
      have hp := List.pairwise_iff_getElem.mp hnd
      rcases Nat.lt_trichotomy i j with l | l | l
      · exact hp i j h3 h1 l (by rw [h4, h2, e2])
      · exact e l.symm
      · exact hp j i h1 h3 l (by rw [h4, h2, e2])
theorem shJ_new {ks : List (Str × Str)} {ps : List PageV} {p : PageV} (h : (p.kd, p.nm) ∉ ks) (ha : ∀ q ∈ ps, (q.kd, q.nm) ∈ ks) : shJ ks ps ++ [.lst [p.d]] = shJ (ks ++ [(p.kd, p.nm)]) (ps ++ [p]) := by
  unfold shJ
  rw [List.map_append]
  congr 1
  · refine List.map_congr_left fun k hk => ?_
    rw [List.filter_append, List.filter_cons_of_neg (fun z => h (isKN_iff.mp z ▸ hk)), List.filter_nil, List.append_nil]
  · have e : ps.filter (isKN (p.kd, p.nm)) = [] := List.filter_eq_nil_iff.mpr fun q hq z => h (isKN_iff.mp z ▸ ha q hq)
    rw [List.map_cons, List.filter_append, e, List.filter_cons_of_pos (isKN_iff.mpr rfl)]
    rfl
def optI : Option Int → D
  | some v => .int v | none => .non
theorem closed_optI (n : Nat) (o : Option Int) : closed n (optI o) = true := by cases o <;> (unfold optI closed; rfl)
end F

namespace LK09
open PySem PyProof.Rows L2 F
def top (i : Nat) : Stmt := PySem.Challenge.pw_homeslopes_k09_what_pages_tell.main.body.getD i (.Pass ⟨0, 0, 0, 0⟩)
def gl : List (Str × D) := []
def bl : List Str := ["reversed", "abs", "enumerate", "range", "len", "tuple", "min", "max", "int", "sorted", "repr", "set"]
def ms : MsT := []
def fa : FaT := []
def lm : List Str := ["_law_book", "_law_page"]
/- shelves_of -/
def b0 : Stms := (
  .cons (.asg (.n 1) (.dT)) <|
  .cons (.for (.n 2) (.seq (.v 0)) (
    .cons (.expr (.meth .append (.meth .setdef (.v 1) (.cons (.tup (.cons (.prim .item (.cons (.v 2) (.cons (.c (.int 0)) .nil))) (.cons (.prim .item (.cons (.v 2) (.cons (.c (.int 3)) .nil))) .nil))) (.cons (.lst .nil) .nil))) (.cons (.v 2) .nil))) <| .nil)) <|
  .cons (.ret (.v 1)) <| .nil)
/- last_of -/
def b1 : Stms := (
  .cons (.asg (.n 4) (.c (.non))) <|
  .cons (.for (.n 5) (.seq (.meth .get2 (.v 0) (.cons (.tup (.cons (.v 1) (.cons (.v 2) .nil))) (.cons (.lst .nil) .nil)))) (
    .cons (.ite (.prim .le (.cons (.prim .item (.cons (.v 5) (.cons (.c (.int 2)) .nil))) (.cons (.v 3) .nil))) (
      .cons (.asg (.n 4) (.v 5)) <| .nil) .nil) <| .nil)) <|
  .cons (.ret (.v 4)) <| .nil)
/- reading_in -/
def b2 : Stms := (
  .cons (.asg (.n 3) (.call 1 (.cons (.v 0) (.cons (.c (.str "read")) (.cons (.v 1) (.cons (.v 2) .nil)))))) <|
  .cons (.ret (.ite (.prim (.isN false) (.cons (.v 3) .nil)) (.c (.non)) (.prim .item (.cons (.v 3) (.cons (.c (.int 4)) .nil))))) <| .nil)
/- rules_in -/
def b3 : Stms := (
  .cons (.asg (.n 3) (.call 1 (.cons (.v 0) (.cons (.c (.str "rule")) (.cons (.v 1) (.cons (.v 2) .nil)))))) <|
  .cons (.ret (.ite (.prim (.isN false) (.cons (.v 3) .nil)) (.tup .nil) (.prim .item (.cons (.v 3) (.cons (.c (.int 4)) .nil))))) <| .nil)
/- looked_in -/
def b4 : Stms := (
  .cons (.asg (.n 3) (.call 1 (.cons (.v 0) (.cons (.c (.str "look")) (.cons (.v 1) (.cons (.v 2) .nil)))))) <|
  .cons (.ret (.ite (.prim (.isN false) (.cons (.v 3) .nil)) (.c (.non)) (.prim .item (.cons (.v 3) (.cons (.c (.int 2)) .nil))))) <| .nil)
/- reading -/
def b5 : Stms := (
  .cons (.ret (.call 2 (.cons (.call 0 (.cons (.v 0) .nil)) (.cons (.v 1) (.cons (.v 2) .nil))))) <| .nil)
/- rules_at -/
def b6 : Stms := (
  .cons (.ret (.call 3 (.cons (.call 0 (.cons (.v 0) .nil)) (.cons (.v 1) (.cons (.v 2) .nil))))) <| .nil)
/- looked_at -/
def b7 : Stms := (
  .cons (.ret (.call 4 (.cons (.call 0 (.cons (.v 0) .nil)) (.cons (.v 1) (.cons (.v 2) .nil))))) <| .nil)
/- _law_start -/
def b8 : Stms := (
  .cons (.asg (.n 1) (.c (.int 0))) <|
  .cons (.ite (.and (.cons (.prim .ne (.cons (.prim (.slice false true) (.cons (.v 0) (.cons (.c (.int 1)) .nil))) (.cons (.lst .nil) .nil))) (.cons (.prim .ge (.cons (.prim .item (.cons (.v 0) (.cons (.c (.int 0)) .nil))) (.cons (.prim .pow (.cons (.c (.int 10)) (.cons (.c (.int 18)) .nil))) .nil))) .nil))) (
    .cons (.for (.n 2) (.revd (.prim (.slice false true) (.cons (.v 0) (.cons (.c (.int 63)) .nil)))) (
      .cons (.asg (.n 1) (.prim .add (.cons (.prim .mul (.cons (.v 1) (.cons (.prim .pow (.cons (.c (.int 10)) (.cons (.c (.int 60)) .nil))) .nil))) (.cons (.prim .mod (.cons (.prim .abs (.cons (.v 2) .nil)) (.cons (.prim .pow (.cons (.c (.int 10)) (.cons (.c (.int 60)) .nil))) .nil))) .nil)))) <| .nil)) <| .nil) .nil) <|
  .cons (.asg (.n 3) (.c (.int 271828182))) <|
  .cons (.for (.tup (.cons (.n 4) (.cons (.n 2) .nil))) (.enum (.prim (.slice false true) (.cons (.v 0) (.cons (.c (.int 63)) .nil)))) (
    .cons (.asg (.n 3) (.prim .mod (.cons (.prim .pow (.cons (.prim .add (.cons (.prim .add (.cons (.prim .mul (.cons (.v 3) (.cons (.c (.int 3)) .nil))) (.cons (.prim .mod (.cons (.v 2) (.cons (.c (.int 2305843009213693951)) .nil))) .nil))) (.cons (.prim .mul (.cons (.c (.int 104729)) (.cons (.v 4) .nil))) .nil))) (.cons (.c (.int 5)) .nil))) (.cons (.c (.int 2305843009213693951)) .nil)))) <| .nil)) <|
  .cons (.ret (.lst (.cons (.v 1) (.cons (.v 3) (.cons (.c (.int 0)) .nil))))) <| .nil)
/- _law_pick -/
def b9 : Stms := (
  .cons (.ite (.prim .gt (.cons (.prim .item (.cons (.v 0) (.cons (.c (.int 0)) .nil))) (.cons (.c (.int 0)) .nil))) (
    .cons (.asg (.n 2) (.prim .mod (.cons (.prim .item (.cons (.v 0) (.cons (.c (.int 0)) .nil))) (.cons (.v 1) .nil)))) <|
    .cons (.asg (.sub (.v 0) (.c (.int 0))) (.prim .fdiv (.cons (.prim .item (.cons (.v 0) (.cons (.c (.int 0)) .nil))) (.cons (.v 1) .nil)))) <|
    .cons (.ret (.v 2)) <| .nil) .nil) <|
  .cons (.asg (.sub (.v 0) (.c (.int 2))) (.prim .add (.cons (.prim .item (.cons (.v 0) (.cons (.c (.int 2)) .nil))) (.cons (.c (.int 1)) .nil)))) <|
  .cons (.asg (.n 3) (.prim .mod (.cons (.prim .pow (.cons (.prim .add (.cons (.prim .item (.cons (.v 0) (.cons (.c (.int 1)) .nil))) (.cons (.prim .mul (.cons (.c (.int 982451653)) (.cons (.prim .item (.cons (.v 0) (.cons (.c (.int 2)) .nil))) .nil))) .nil))) (.cons (.c (.int 3)) .nil))) (.cons (.c (.int 2305843009213693921)) .nil)))) <|
  .cons (.asg (.n 3) (.prim .mod (.cons (.prim .mul (.cons (.prim .add (.cons (.v 3) (.cons (.prim .mul (.cons (.c (.int 15485863)) (.cons (.prim .item (.cons (.v 0) (.cons (.c (.int 2)) .nil))) .nil))) .nil))) (.cons (.prim .add (.cons (.prim .mod (.cons (.v 3) (.cons (.c (.int 179424673)) .nil))) (.cons (.c (.int 2)) .nil))) .nil))) (.cons (.c (.int 4611686018427387847)) .nil)))) <|
  .cons (.ret (.prim .mod (.cons (.prim .add (.cons (.prim .fdiv (.cons (.v 3) (.cons (.c (.int 1009)) .nil))) (.cons (.prim .fdiv (.cons (.v 3) (.cons (.c (.int 10007)) .nil))) .nil))) (.cons (.v 1) .nil)))) <| .nil)
/- _law_word -/
def b10 : Stms := (
  .cons (.asg (.n 2) (.c (.str "etaoinshrdlcumwfgypbvkjxqz"))) <|
  .cons (.asg (.n 3) (.prim .add (.cons (.c (.int 1)) (.cons (.call 9 (.cons (.v 0) (.cons (.c (.int 8)) .nil))) .nil)))) <|
  .cons (.asg (.n 4) (.meth .join (.c (.str "")) (.cons (.lc (.prim .item (.cons (.v 2) (.cons (.call 9 (.cons (.v 0) (.cons (.c (.int 26)) .nil))) .nil))) (.n 5) (.range1 (.v 3)) .nil [5]) .nil))) <|
  .cons (.ret (.prim .item (.cons (.lc (.v 6) (.n 6) (.seq (.prim .add (.cons (.lst (.cons (.v 4) .nil)) (.cons (.lc (.prim .add (.cons (.prim (.slice false true) (.cons (.v 4) (.cons (.c (.int 7)) .nil))) (.cons (.v 7) .nil))) (.n 7) (.seq (.v 2)) .nil [7]) .nil)))) (.cons (.prim (.isin true) (.cons (.v 6) (.cons (.v 1) .nil))) .nil) [6]) (.cons (.c (.int 0)) .nil)))) <| .nil)
/- _law_words -/
def b11 : Stms := (
  .cons (.asg (.n 2) (.lst .nil)) <|
  .cons (.for (.n 3) (.range1 (.v 1)) (
    .cons (.expr (.meth .append (.v 2) (.cons (.call 10 (.cons (.v 0) (.cons (.v 2) .nil))) .nil))) <| .nil)) <|
  .cons (.ret (.v 2)) <| .nil)
/- _law_hill -/
def b12 : Stms := (
  .cons (.asg (.n 3) (.call 11 (.cons (.v 0) (.cons (.prim .add (.cons (.c (.int 2)) (.cons (.call 9 (.cons (.v 0) (.cons (.c (.int 4)) .nil))) .nil))) .nil)))) <|
  .cons (.asg (.n 4) (.call 11 (.cons (.v 0) (.cons (.prim .add (.cons (.c (.int 1)) (.cons (.call 9 (.cons (.v 0) (.cons (.v 1) .nil))) .nil))) .nil)))) <|
  .cons (.asg (.n 5) (.lst .nil)) <|
  .cons (.for (.n 6) (.seq (.v 4)) (
    .cons (.asg (.n 7) (.prim .item (.cons (.lst (.cons (.c (.str "slope")) (.cons (.c (.str "slope")) (.cons (.c (.str "lift")) (.cons (.c (.str "path")) .nil))))) (.cons (.call 9 (.cons (.v 0) (.cons (.c (.int 4)) .nil))) .nil)))) <|
    .cons (.asg (.n 8) (.lc (.prim .item (.cons (.v 3) (.cons (.call 9 (.cons (.v 0) (.cons (.prim .len (.cons (.v 3) .nil)) .nil))) .nil))) (.n 9) (.range1 (.c (.int 2))) .nil [9])) <|
    .cons (.expr (.meth .append (.v 5) (.cons (.tup (.cons (.v 6) (.cons (.v 7) (.cons (.prim .item (.cons (.v 8) (.cons (.c (.int 0)) .nil))) (.cons (.prim .item (.cons (.v 8) (.cons (.c (.int 1)) .nil))) (.cons (.prim .mul (.cons (.v 2) (.cons (.call 9 (.cons (.v 0) (.cons (.c (.int 8)) .nil))) .nil))) (.cons (.prim .mul (.cons (.v 2) (.cons (.call 9 (.cons (.v 0) (.cons (.c (.int 5)) .nil))) .nil))) .nil))))))) .nil))) <| .nil)) <|
  .cons (.ret (.tup (.cons (.prim .tuple (.cons (.v 5) .nil)) (.cons (.prim .item (.cons (.v 3) (.cons (.call 9 (.cons (.v 0) (.cons (.prim .len (.cons (.v 3) .nil)) .nil))) .nil))) (.cons (.prim .mul (.cons (.v 2) (.cons (.prim .add (.cons (.c (.int 1)) (.cons (.call 9 (.cons (.v 0) (.cons (.c (.int 30)) .nil))) .nil))) .nil))) .nil))))) <| .nil)
/- _law_moment -/
def b13 : Stms := (
  .cons (.ret (.prim .min2 (.cons (.prim .item (.cons (.v 1) (.cons (.c (.int 2)) .nil))) (.cons (.prim .max2 (.cons (.c (.int 0)) (.cons (.prim .add (.cons (.prim .mul (.cons (.v 2) (.cons (.call 9 (.cons (.v 0) (.cons (.c (.int 31)) .nil))) .nil))) (.cons (.prim .item (.cons (.lst (.cons (.c (.int 0)) (.cons (.c (.int 0)) (.cons (.c (.int 1)) (.cons (.prim .neg (.cons (.c (.int 1)) .nil)) .nil))))) (.cons (.call 9 (.cons (.v 0) (.cons (.c (.int 4)) .nil))) .nil))) .nil))) .nil))) .nil)))) <| .nil)
/- _law_rule -/
def b14 : Stms := (
  .cons (.asg (.n 4) (.call 9 (.cons (.v 0) (.cons (.c (.int 12)) .nil)))) <|
  .cons (.asg (.n 5) (.prim .item (.cons (.v 2) (.cons (.call 9 (.cons (.v 0) (.cons (.prim .len (.cons (.v 2) .nil)) .nil))) .nil)))) <|
  .cons (.asg (.n 6) (.prim .sub (.cons (.call 9 (.cons (.v 0) (.cons (.c (.int 7)) .nil))) (.cons (.c (.int 3)) .nil)))) <|
  .cons (.par [7, 8] (.cons (.prim .mul (.cons (.v 3) (.cons (.call 9 (.cons (.v 0) (.cons (.c (.int 31)) .nil))) .nil))) (.cons (.prim .sub (.cons (.prim .add (.cons (.prim .mul (.cons (.v 3) (.cons (.prim .add (.cons (.c (.int 1)) (.cons (.call 9 (.cons (.v 0) (.cons (.c (.int 12)) .nil))) .nil))) .nil))) (.cons (.call 9 (.cons (.v 0) (.cons (.c (.int 3)) .nil))) .nil))) (.cons (.c (.int 1)) .nil))) .nil))) <|
  .cons (.asg (.n 9) (.prim .item (.cons (.prim .item (.cons (.prim .item (.cons (.v 1) (.cons (.c (.int 0)) .nil))) (.cons (.call 9 (.cons (.v 0) (.cons (.prim .len (.cons (.prim .item (.cons (.v 1) (.cons (.c (.int 0)) .nil))) .nil)) .nil))) .nil))) (.cons (.c (.int 0)) .nil)))) <|
  .cons (.ite (.prim .lt (.cons (.v 4) (.cons (.c (.int 3)) .nil))) (
    .cons (.ret (.tup (.cons (.c (.str "hours")) (.cons (.v 7) (.cons (.prim .min2 (.cons (.c (.int 1000001)) (.cons (.prim .add (.cons (.v 7) (.cons (.prim .max2 (.cons (.c (.int 1)) (.cons (.v 8) .nil))) .nil))) .nil))) .nil))))) <| .nil) .nil) <|
  .cons (.ite (.prim .lt (.cons (.v 4) (.cons (.c (.int 8)) .nil))) (
    .cons (.ret (.prim .item (.cons (.lst (.cons (.tup (.cons (.c (.str "least")) (.cons (.v 5) (.cons (.v 6) .nil)))) (.cons (.tup (.cons (.c (.str "most")) (.cons (.v 5) (.cons (.v 6) .nil)))) .nil))) (.cons (.prim .mod (.cons (.v 4) (.cons (.c (.int 2)) .nil))) .nil)))) <| .nil) .nil) <|
  .cons (.ite (.prim .lt (.cons (.v 4) (.cons (.c (.int 10)) .nil))) (
    .cons (.ret (.tup (.cons (.c (.str "looked")) (.cons (.prim .max2 (.cons (.c (.int 1)) (.cons (.v 8) .nil))) .nil)))) <| .nil) .nil) <|
  .cons (.ret (.prim .item (.cons (.lst (.cons (.tup (.cons (.c (.str "with")) (.cons (.v 9) .nil))) (.cons (.tup (.cons (.c (.str "never")) .nil)) .nil))) (.cons (.prim .int1 (.cons (.and (.cons (.prim .eq (.cons (.v 4) (.cons (.c (.int 11)) .nil))) (.cons (.prim .gt (.cons (.v 6) (.cons (.c (.int 0)) .nil))) .nil))) .nil)) .nil)))) <| .nil)
/- _law_number -/
def b15 : Stms := (
  .cons (.asg (.n 2) (.call 9 (.cons (.v 0) (.cons (.prim .item (.cons (.lst (.cons (.c (.int 20)) (.cons (.c (.int 1000000)) .nil))) (.cons (.call 9 (.cons (.v 0) (.cons (.c (.int 2)) .nil))) .nil))) .nil)))) <|
  .cons (.asg (.n 3) (.lc (.prim .mod (.cons (.prim .add (.cons (.v 2) (.cons (.v 4) .nil))) (.cons (.c (.int 1000000)) .nil))) (.n 4) (.range1 (.c (.int 70))) .nil [4])) <|
  .cons (.ret (.prim .item (.cons (.lc (.v 5) (.n 5) (.seq (.v 3)) (.cons (.prim (.isin true) (.cons (.v 5) (.cons (.v 1) .nil))) .nil) [5]) (.cons (.c (.int 0)) .nil)))) <| .nil)
/- _law_pages -/
def b16 : Stms := (
  .cons (.asg (.n 4) (.prim .add (.cons (.call 11 (.cons (.v 0) (.cons (.prim .add (.cons (.c (.int 1)) (.cons (.call 9 (.cons (.v 0) (.cons (.c (.int 3)) .nil))) .nil))) .nil))) (.cons (.prim .mul (.cons (.lst (.cons (.prim .item (.cons (.prim .item (.cons (.prim .item (.cons (.v 1) (.cons (.c (.int 0)) .nil))) (.cons (.c (.int 0)) .nil))) (.cons (.c (.int 0)) .nil))) .nil)) (.cons (.call 9 (.cons (.v 0) (.cons (.c (.int 2)) .nil))) .nil))) .nil)))) <|
  .cons (.asg (.n 5) (.lc (.prim .item (.cons (.v 6) (.cons (.c (.int 0)) .nil))) (.n 6) (.seq (.prim .item (.cons (.v 1) (.cons (.c (.int 0)) .nil)))) (.cons (.prim .eq (.cons (.prim .item (.cons (.v 6) (.cons (.c (.int 1)) .nil))) (.cons (.c (.str "slope")) .nil))) .nil) [6])) <|
  .cons (.asg (.n 7) (.lst .nil)) <|
  .cons (.asg (.n 8) (.lst .nil)) <|
  .cons (.for (.n 9) (.range1 (.v 3)) (
    .cons (.asg (.n 10) (.call 9 (.cons (.v 0) (.cons (.c (.int 8)) .nil)))) <|
    .cons (.asg (.n 11) (.prim .mul (.cons (.call 13 (.cons (.v 0) (.cons (.v 1) (.cons (.v 2) .nil)))) (.cons (.prim .int1 (.cons (.prim .gt (.cons (.call 9 (.cons (.v 0) (.cons (.c (.int 3)) .nil))) (.cons (.c (.int 0)) .nil))) .nil)) .nil)))) <|
    .cons (.expr (.meth .append (.v 8) (.cons (.call 15 (.cons (.v 0) (.cons (.v 8) .nil))) .nil))) <|
    .cons (.ite (.prim .lt (.cons (.v 10) (.cons (.c (.int 3)) .nil))) (
      .cons (.asg (.n 12) (.prim .item (.cons (.prim .item (.cons (.prim .item (.cons (.v 1) (.cons (.c (.int 0)) .nil))) (.cons (.call 9 (.cons (.v 0) (.cons (.prim .len (.cons (.prim .item (.cons (.v 1) (.cons (.c (.int 0)) .nil))) .nil)) .nil))) .nil))) (.cons (.c (.int 0)) .nil)))) <|
      .cons (.asg (.n 13) (.prim .item (.cons (.lst (.cons (.c (.int 0)) (.cons (.c (.int 1)) (.cons (.c (.int 1)) (.cons (.c (.int 1)) (.cons (.c (.int 2)) (.cons (.c (.int 2)) (.cons (.c (.int 3)) (.cons (.c (.int 6)) .nil))))))))) (.cons (.call 9 (.cons (.v 0) (.cons (.c (.int 8)) .nil))) .nil)))) <|
      .cons (.asg (.n 14) (.lc (.call 14 (.cons (.v 0) (.cons (.v 1) (.cons (.v 4) (.cons (.v 2) .nil))))) (.n 15) (.range1 (.v 13)) .nil [15])) <|
      .cons (.expr (.meth .append (.v 7) (.cons (.tup (.cons (.c (.str "rule")) (.cons (.prim .item (.cons (.v 8) (.cons (.prim .neg (.cons (.c (.int 1)) .nil)) .nil))) (.cons (.v 11) (.cons (.v 12) (.cons (.prim .tuple (.cons (.v 14) .nil)) .nil)))))) .nil))) <| .nil) (
      .cons (.ite (.or (.cons (.prim .lt (.cons (.v 10) (.cons (.c (.int 6)) .nil))) (.cons (.prim .eq (.cons (.v 5) (.cons (.lst .nil) .nil))) .nil))) (
        .cons (.asg (.n 16) (.prim .mul (.cons (.prim .sub (.cons (.call 9 (.cons (.v 0) (.cons (.c (.int 7)) .nil))) (.cons (.c (.int 3)) .nil))) (.cons (.prim .item (.cons (.lst (.cons (.c (.int 1)) (.cons (.c (.int 1)) (.cons (.c (.int 1)) (.cons (.prim .pow (.cons (.c (.int 10)) (.cons (.c (.int 50)) .nil))) .nil))))) (.cons (.call 9 (.cons (.v 0) (.cons (.c (.int 4)) .nil))) .nil))) .nil)))) <|
        .cons (.expr (.meth .append (.v 7) (.cons (.tup (.cons (.c (.str "read")) (.cons (.prim .item (.cons (.v 8) (.cons (.prim .neg (.cons (.c (.int 1)) .nil)) .nil))) (.cons (.v 11) (.cons (.prim .item (.cons (.v 4) (.cons (.call 9 (.cons (.v 0) (.cons (.prim .len (.cons (.v 4) .nil)) .nil))) .nil))) (.cons (.v 16) .nil)))))) .nil))) <| .nil) (
        .cons (.expr (.meth .append (.v 7) (.cons (.tup (.cons (.c (.str "look")) (.cons (.prim .item (.cons (.v 8) (.cons (.prim .neg (.cons (.c (.int 1)) .nil)) .nil))) (.cons (.v 11) (.cons (.prim .item (.cons (.v 5) (.cons (.call 9 (.cons (.v 0) (.cons (.prim .len (.cons (.v 5) .nil)) .nil))) .nil))) .nil))))) .nil))) <| .nil)) <| .nil)) <| .nil)) <|
  .cons (.ret (.v 7)) <| .nil)
/- _law_book -/
def b17 : Stms := (
  .cons (.ret (.prim .tuple (.cons (.prim .sortR (.cons (.v 0) .nil)) .nil))) <| .nil)
/- _law_page -/
def b18 : Stms := (
  .cons (.asg (.n 4) (.lc (.v 5) (.n 5) (.seq (.v 0)) (.cons (.and (.cons (.prim .eq (.cons (.prim .item (.cons (.v 5) (.cons (.c (.int 0)) .nil))) (.cons (.v 1) .nil))) (.cons (.prim .eq (.cons (.prim .item (.cons (.v 5) (.cons (.c (.int 3)) .nil))) (.cons (.v 2) .nil))) (.cons (.prim .le (.cons (.prim .item (.cons (.v 5) (.cons (.c (.int 2)) .nil))) (.cons (.v 3) .nil))) .nil)))) .nil) [5])) <|
  .cons (.ret (.prim .maxR (.cons (.v 4) .nil))) <| .nil)
/- _law_right -/
def b19 : Stms := (
  .cons (.asg (.n 4) (.call 17 (.cons (.v 1) .nil))) <|
  .cons (.for (.n 5) (.seq (.v 2)) (
    .cons (.asg (.n 6) (.call 18 (.cons (.v 1) (.cons (.c (.str "read")) (.cons (.v 5) (.cons (.v 3) .nil)))))) <|
    .cons (.ite (.prim (.reprC true) (.cons (.call 5 (.cons (.v 4) (.cons (.v 5) (.cons (.v 3) .nil)))) (.cons (.ite (.prim (.isN false) (.cons (.v 6) .nil)) (.c (.non)) (.prim .item (.cons (.v 6) (.cons (.c (.int 4)) .nil)))) .nil))) (
      .cons (.ret (.c (.bl false))) <| .nil) .nil) <| .nil)) <|
  .cons (.for (.n 7) (.seq (.prim .item (.cons (.v 0) (.cons (.c (.int 0)) .nil)))) (
    .cons (.par [8, 9] (.cons (.call 18 (.cons (.v 1) (.cons (.c (.str "rule")) (.cons (.prim .item (.cons (.v 7) (.cons (.c (.int 0)) .nil))) (.cons (.v 3) .nil))))) (.cons (.call 18 (.cons (.v 1) (.cons (.c (.str "look")) (.cons (.prim .item (.cons (.v 7) (.cons (.c (.int 0)) .nil))) (.cons (.v 3) .nil))))) .nil))) <|
    .cons (.ite (.prim (.reprC true) (.cons (.call 6 (.cons (.v 4) (.cons (.prim .item (.cons (.v 7) (.cons (.c (.int 0)) .nil))) (.cons (.v 3) .nil)))) (.cons (.ite (.prim (.isN false) (.cons (.v 8) .nil)) (.tup .nil) (.prim .item (.cons (.v 8) (.cons (.c (.int 4)) .nil)))) .nil))) (
      .cons (.ret (.c (.bl false))) <| .nil) .nil) <|
    .cons (.ite (.prim (.reprC true) (.cons (.call 7 (.cons (.v 4) (.cons (.prim .item (.cons (.v 7) (.cons (.c (.int 0)) .nil))) (.cons (.v 3) .nil)))) (.cons (.ite (.prim (.isN false) (.cons (.v 9) .nil)) (.c (.non)) (.prim .item (.cons (.v 9) (.cons (.c (.int 2)) .nil)))) .nil))) (
      .cons (.ret (.c (.bl false))) <| .nil) .nil) <| .nil)) <|
  .cons (.ret (.c (.bl true))) <| .nil)
/- law -/
def b20 : Stms := (
  .cons (.asg (.n 1) (.call 8 (.cons (.v 0) .nil))) <|
  .cons (.asg (.n 2) (.prim .item (.cons (.lst (.cons (.c (.int 1)) (.cons (.c (.int 7)) (.cons (.c (.int 33333)) .nil)))) (.cons (.call 9 (.cons (.v 1) (.cons (.c (.int 3)) .nil))) .nil)))) <|
  .cons (.asg (.n 3) (.call 12 (.cons (.v 1) (.cons (.prim .item (.cons (.lst (.cons (.c (.int 3)) (.cons (.c (.int 6)) (.cons (.c (.int 12)) .nil)))) (.cons (.call 9 (.cons (.v 1) (.cons (.c (.int 3)) .nil))) .nil))) (.cons (.v 2) .nil))))) <|
  .cons (.asg (.n 4) (.ite (.prim .eq (.cons (.call 9 (.cons (.v 1) (.cons (.c (.int 6)) .nil))) (.cons (.c (.int 0)) .nil))) (.call 9 (.cons (.v 1) (.cons (.c (.int 61)) .nil))) (.call 9 (.cons (.v 1) (.cons (.c (.int 15)) .nil))))) <|
  .cons (.asg (.n 5) (.call 16 (.cons (.v 1) (.cons (.v 3) (.cons (.v 2) (.cons (.v 4) .nil)))))) <|
  .cons (.asg (.n 6) (.prim .sortedSet (.cons (.prim .add (.cons (.lc (.prim .item (.cons (.v 7) (.cons (.c (.int 3)) .nil))) (.n 7) (.seq (.v 5)) .nil [7]) (.cons (.lst (.cons (.prim .item (.cons (.prim .item (.cons (.prim .item (.cons (.v 3) (.cons (.c (.int 0)) .nil))) (.cons (.c (.int 0)) .nil))) (.cons (.c (.int 0)) .nil))) (.cons (.c (.str "nobody")) .nil))) .nil))) .nil))) <|
  .cons (.asg (.n 8) (.lst (.cons (.c (.int 0)) (.cons (.prim .item (.cons (.v 3) (.cons (.c (.int 2)) .nil))) (.cons (.call 13 (.cons (.v 1) (.cons (.v 3) (.cons (.v 2) .nil)))) (.cons (.call 13 (.cons (.v 1) (.cons (.v 3) (.cons (.v 2) .nil)))) .nil)))))) <|
  .cons (.for (.n 7) (.seq (.prim (.slice false true) (.cons (.v 5) (.cons (.c (.int 6)) .nil)))) (
    .cons (.asg (.n 8) (.prim .add (.cons (.v 8) (.cons (.lst (.cons (.prim .item (.cons (.v 7) (.cons (.c (.int 2)) .nil))) (.cons (.prim .max2 (.cons (.c (.int 0)) (.cons (.prim .sub (.cons (.prim .item (.cons (.v 7) (.cons (.c (.int 2)) .nil))) (.cons (.c (.int 1)) .nil))) .nil))) (.cons (.prim .min2 (.cons (.prim .item (.cons (.v 3) (.cons (.c (.int 2)) .nil))) (.cons (.prim .add (.cons (.prim .item (.cons (.v 7) (.cons (.c (.int 2)) .nil))) (.cons (.c (.int 1)) .nil))) .nil))) .nil)))) .nil)))) <| .nil)) <|
  .cons (.for (.n 9) (.seq (.v 8)) (
    .cons (.ite (.or (.cons (.not (.call 19 (.cons (.v 3) (.cons (.v 5) (.cons (.v 6) (.cons (.v 9) .nil)))))) (.cons (.not (.call 19 (.cons (.v 3) (.cons (.prim (.slice true false) (.cons (.v 5) (.cons (.c (.int 1)) .nil))) (.cons (.v 6) (.cons (.v 9) .nil)))))) .nil))) (
      .cons (.ret (.c (.bl false))) <| .nil) .nil) <| .nil)) <|
  .cons (.ret (.c (.bl true))) <| .nil)
def r0 : F.Row := ⟨"shelves_of", "shelves_of", true, top 1, ["book", "found", "page"], ["book"], ⟨1, 3, b0⟩⟩
def r1 : F.Row := ⟨"last_of", "last_of", true, top 2, ["shelves", "kind", "name", "t", "found", "page"], ["shelves", "kind", "name", "t"], ⟨4, 6, b1⟩⟩
def r2 : F.Row := ⟨"reading_in", "reading_in", true, top 3, ["shelves", "post", "t", "page"], ["shelves", "post", "t"], ⟨3, 4, b2⟩⟩
def r3 : F.Row := ⟨"rules_in", "rules_in", true, top 4, ["shelves", "w", "t", "page"], ["shelves", "w", "t"], ⟨3, 4, b3⟩⟩
def r4 : F.Row := ⟨"looked_in", "looked_in", true, top 5, ["shelves", "w", "t", "page"], ["shelves", "w", "t"], ⟨3, 4, b4⟩⟩
def r5 : F.Row := ⟨"reading", "reading", true, top 6, ["book", "post", "t"], ["book", "post", "t"], ⟨3, 3, b5⟩⟩
def r6 : F.Row := ⟨"rules_at", "rules_at", true, top 7, ["book", "w", "t"], ["book", "w", "t"], ⟨3, 3, b6⟩⟩
def r7 : F.Row := ⟨"looked_at", "looked_at", true, top 8, ["book", "w", "t"], ["book", "w", "t"], ⟨3, 3, b7⟩⟩
def r8 : F.Row := ⟨"_law_start", "_law_start", true, top 10, ["_law_script", "_law_digits", "_law_cell", "_law_seed", "_law_k"], ["_law_script"], ⟨1, 5, b8⟩⟩
def r9 : F.Row := ⟨"_law_pick", "_law_pick", true, top 11, ["_law_state", "_law_many", "_law_found", "_law_far"], ["_law_state", "_law_many"], ⟨2, 4, b9⟩⟩
def r10 : F.Row := ⟨"_law_word", "_law_word", true, top 12, ["_law_state", "_law_taken", "_law_letters", "_law_size", "_law_word_here", "_law_k", "_law_one", "_law_letter"], ["_law_state", "_law_taken"], ⟨2, 8, b10⟩⟩
def r11 : F.Row := ⟨"_law_words", "_law_words", true, top 13, ["_law_state", "_law_many", "_law_found", "_law_k"], ["_law_state", "_law_many"], ⟨2, 4, b11⟩⟩
def r12 : F.Row := ⟨"_law_hill", "_law_hill", true, top 14, ["_law_state", "_law_most", "_law_scale", "_law_spots", "_law_names", "_law_ways", "_law_name", "_law_kind", "_law_ends", "_law_k"], ["_law_state", "_law_most", "_law_scale"], ⟨3, 10, b12⟩⟩
def r13 : F.Row := ⟨"_law_moment", "_law_moment", true, top 15, ["_law_state", "_law_hill_here", "_law_scale"], ["_law_state", "_law_hill_here", "_law_scale"], ⟨3, 3, b13⟩⟩
def r14 : F.Row := ⟨"_law_rule", "_law_rule", true, top 16, ["_law_state", "_law_hill_here", "_law_posts", "_law_scale", "_law_way", "_law_post", "_law_value", "_law_first", "_law_last", "_law_other"], ["_law_state", "_law_hill_here", "_law_posts", "_law_scale"], ⟨4, 10, b14⟩⟩
def r15 : F.Row := ⟨"_law_number", "_law_number", true, top 17, ["_law_state", "_law_taken", "_law_number_here", "_law_some", "_law_k", "_law_one"], ["_law_state", "_law_taken"], ⟨2, 6, b15⟩⟩
def r16 : F.Row := ⟨"_law_pages", "_law_pages", true, top 18, ["_law_state", "_law_hill_here", "_law_scale", "_law_many", "_law_posts", "_law_slopes", "_law_way", "_law_pages_here", "_law_taken", "_law_k", "_law_kind", "_law_moment_here", "_law_name", "_law_size", "_law_rules", "_law_j", "_law_value"], ["_law_state", "_law_hill_here", "_law_scale", "_law_many"], ⟨4, 17, b16⟩⟩
def r17 : F.Row := ⟨"_law_book", "_law_book", true, top 19, ["_law_pages_here"], ["_law_pages_here"], ⟨1, 1, b17⟩⟩
def r18 : F.Row := ⟨"_law_page", "_law_page", true, top 20, ["_law_pages_here", "_law_kind", "_law_name", "_law_t", "_law_found", "_law_page_here"], ["_law_pages_here", "_law_kind", "_law_name", "_law_t"], ⟨4, 6, b18⟩⟩
def r19 : F.Row := ⟨"_law_right", "_law_right", true, top 21, ["_law_hill_here", "_law_pages_here", "_law_names", "_law_t", "_law_book_here", "_law_name", "_law_read", "_law_way", "_law_rule_here", "_law_look"], ["_law_hill_here", "_law_pages_here", "_law_names", "_law_t"], ⟨4, 10, b19⟩⟩
def r20 : F.Row := ⟨"law", "law", true, top 22, ["_law_script", "_law_state", "_law_scale", "_law_hill_here", "_law_many", "_law_pages_here", "_law_names", "_law_page_here", "_law_some", "_law_t"], ["_law_script"], ⟨1, 10, b20⟩⟩
def rows : List F.Row := [r0, r1, r2, r3, r4, r5, r6, r7, r8, r9, r10, r11, r12, r13, r14, r15, r16, r17, r18, r19, r20]
end LK09

namespace LK09
open PySem PyProof.Rows L2 F
theorem ok0 : RowOk gl bl ms fa lm rows r0 := ⟨⟨rfl, rfl, rfl, by decide +kernel, rfl, by decide +kernel, by decide +kernel⟩, by decide +kernel, rfl, rfl⟩
theorem ok1 : RowOk gl bl ms fa lm rows r1 := ⟨⟨rfl, rfl, rfl, by decide +kernel, rfl, by decide +kernel, by decide +kernel⟩, by decide +kernel, rfl, rfl⟩
theorem ok2 : RowOk gl bl ms fa lm rows r2 := ⟨⟨rfl, rfl, rfl, by decide +kernel, rfl, by decide +kernel, by decide +kernel⟩, by decide +kernel, rfl, rfl⟩
theorem ok3 : RowOk gl bl ms fa lm rows r3 := ⟨⟨rfl, rfl, rfl, by decide +kernel, rfl, by decide +kernel, by decide +kernel⟩, by decide +kernel, rfl, rfl⟩
theorem ok4 : RowOk gl bl ms fa lm rows r4 := ⟨⟨rfl, rfl, rfl, by decide +kernel, rfl, by decide +kernel, by decide +kernel⟩, by decide +kernel, rfl, rfl⟩
theorem ok5 : RowOk gl bl ms fa lm rows r5 := ⟨⟨rfl, rfl, rfl, by decide +kernel, rfl, by decide +kernel, by decide +kernel⟩, by decide +kernel, rfl, rfl⟩
theorem ok6 : RowOk gl bl ms fa lm rows r6 := ⟨⟨rfl, rfl, rfl, by decide +kernel, rfl, by decide +kernel, by decide +kernel⟩, by decide +kernel, rfl, rfl⟩
theorem ok7 : RowOk gl bl ms fa lm rows r7 := ⟨⟨rfl, rfl, rfl, by decide +kernel, rfl, by decide +kernel, by decide +kernel⟩, by decide +kernel, rfl, rfl⟩
theorem ok8 : RowOk gl bl ms fa lm rows r8 := ⟨⟨rfl, rfl, rfl, by decide +kernel, rfl, by decide +kernel, by decide +kernel⟩, by decide +kernel, rfl, rfl⟩
theorem ok9 : RowOk gl bl ms fa lm rows r9 := ⟨⟨rfl, rfl, rfl, by decide +kernel, rfl, by decide +kernel, by decide +kernel⟩, by decide +kernel, rfl, rfl⟩
theorem ok10 : RowOk gl bl ms fa lm rows r10 := ⟨⟨rfl, rfl, rfl, by decide +kernel, rfl, by decide +kernel, by decide +kernel⟩, by decide +kernel, rfl, rfl⟩
theorem ok11 : RowOk gl bl ms fa lm rows r11 := ⟨⟨rfl, rfl, rfl, by decide +kernel, rfl, by decide +kernel, by decide +kernel⟩, by decide +kernel, rfl, rfl⟩
theorem ok12 : RowOk gl bl ms fa lm rows r12 := ⟨⟨rfl, rfl, rfl, by decide +kernel, rfl, by decide +kernel, by decide +kernel⟩, by decide +kernel, rfl, rfl⟩
theorem ok13 : RowOk gl bl ms fa lm rows r13 := ⟨⟨rfl, rfl, rfl, by decide +kernel, rfl, by decide +kernel, by decide +kernel⟩, by decide +kernel, rfl, rfl⟩
theorem ok14 : RowOk gl bl ms fa lm rows r14 := ⟨⟨rfl, rfl, rfl, by decide +kernel, rfl, by decide +kernel, by decide +kernel⟩, by decide +kernel, rfl, rfl⟩
theorem ok15 : RowOk gl bl ms fa lm rows r15 := ⟨⟨rfl, rfl, rfl, by decide +kernel, rfl, by decide +kernel, by decide +kernel⟩, by decide +kernel, rfl, rfl⟩
theorem ok16 : RowOk gl bl ms fa lm rows r16 := ⟨⟨rfl, rfl, rfl, by decide +kernel, rfl, by decide +kernel, by decide +kernel⟩, by decide +kernel, rfl, rfl⟩
theorem ok17 : RowOk gl bl ms fa lm rows r17 := ⟨⟨rfl, rfl, rfl, by decide +kernel, rfl, by decide +kernel, by decide +kernel⟩, by decide +kernel, rfl, rfl⟩
theorem ok18 : RowOk gl bl ms fa lm rows r18 := ⟨⟨rfl, rfl, rfl, by decide +kernel, rfl, by decide +kernel, by decide +kernel⟩, by decide +kernel, rfl, rfl⟩
theorem ok19 : RowOk gl bl ms fa lm rows r19 := ⟨⟨rfl, rfl, rfl, by decide +kernel, rfl, by decide +kernel, by decide +kernel⟩, by decide +kernel, rfl, rfl⟩
theorem ok20 : RowOk gl bl ms fa lm rows r20 := ⟨⟨rfl, rfl, rfl, by decide +kernel, rfl, by decide +kernel, by decide +kernel⟩, by decide +kernel, rfl, rfl⟩
theorem oks : ∀ r ∈ rows, RowOk gl bl ms fa lm rows r := by
  intro r h
  simp only [rows, List.mem_cons, List.not_mem_nil, or_false] at h
  rcases h with rfl | rfl | rfl | rfl | rfl | rfl | rfl | rfl | rfl | rfl | rfl | rfl | rfl | rfl | rfl | rfl | rfl | rfl | rfl | rfl | rfl
  · exact ok0
  · exact ok1
  · exact ok2
  · exact ok3
  · exact ok4
  · exact ok5
  · exact ok6
  · exact ok7
  · exact ok8
  · exact ok9
  · exact ok10
  · exact ok11
  · exact ok12
  · exact ok13
  · exact ok14
  · exact ok15
  · exact ok16
  · exact ok17
  · exact ok18
  · exact ok19
  · exact ok20
theorem mod_ok {K : PySem.W.Frag} {h : Heap} {mg : Str → Option Value} {f0 f1 f2 f3 f4 f5 f6 f7 f8 f9 f10 f11 f12 f13 f14 f15 f16 f17 f18 f19 f20 : Addr} (X : K.In h) (G : h.Ns mainGlobals mg)
    {od0 an0 od1 an1 od2 an2 od3 an3 od4 an4 od5 an5 od6 an6 od7 an7 od8 an8 od9 an9 od10 an10 od11 an11 od12 an12 od13 an13 od14 an14 od15 an15 od16 an16 od17 an17 od18 an18 od19 an19 od20 an20 : Option Addr} {sl0 sl1 sl2 sl3 sl4 sl5 sl6 sl7 sl8 sl9 sl10 sl11 sl12 sl13 sl14 sl15 sl16 sl17 sl18 sl19 sl20 : Array (Option Value)} {oc0 kV0 dc0 pm0 cd0 ct0 oc1 kV1 dc1 pm1 cd1 ct1 oc2 kV2 dc2 pm2 cd2 ct2 oc3 kV3 dc3 pm3 cd3 ct3 oc4 kV4 dc4 pm4 cd4 ct4 oc5 kV5 dc5 pm5 cd5 ct5 oc6 kV6 dc6 pm6 cd6 ct6 oc7 kV7 dc7 pm7 cd7 ct7 oc8 kV8 dc8 pm8 cd8 ct8 oc9 kV9 dc9 pm9 cd9 ct9 oc10 kV10 dc10 pm10 cd10 ct10 oc11 kV11 dc11 pm11 cd11 ct11 oc12 kV12 dc12 pm12 cd12 ct12 oc13 kV13 dc13 pm13 cd13 ct13 oc14 kV14 dc14 pm14 cd14 ct14 oc15 kV15 dc15 pm15 cd15 ct15 oc16 kV16 dc16 pm16 cd16 ct16 oc17 kV17 dc17 pm17 cd17 ct17 oc18 kV18 dc18 pm18 cd18 ct18 oc19 kV19 dc19 pm19 cd19 ct19 oc20 kV20 dc20 pm20 cd20 ct20 : Value}
    (a0 : PySem.W.nsIn K mainGlobals "shelves_of" = some (some (.ref f0))) (l0 : K.lookup f0 = some ⟨oc0, od0, .func (PySem.W.fnOf "shelves_of" "shelves_of" (defArgs (top 1)) (defBody (top 1)) (defScope (top 1)) .none kV0 dc0 pm0 an0 cd0 ct0), sl0⟩) (c0 : PySem.W.codeIn K cd0 "shelves_of" = true) (k0 : PySem.W.keepIn K (.ref f0) = true)
    (a1 : PySem.W.nsIn K mainGlobals "last_of" = some (some (.ref f1))) (l1 : K.lookup f1 = some ⟨oc1, od1, .func (PySem.W.fnOf "last_of" "last_of" (defArgs (top 2)) (defBody (top 2)) (defScope (top 2)) .none kV1 dc1 pm1 an1 cd1 ct1), sl1⟩) (c1 : PySem.W.codeIn K cd1 "last_of" = true) (k1 : PySem.W.keepIn K (.ref f1) = true)
    (a2 : PySem.W.nsIn K mainGlobals "reading_in" = some (some (.ref f2))) (l2 : K.lookup f2 = some ⟨oc2, od2, .func (PySem.W.fnOf "reading_in" "reading_in" (defArgs (top 3)) (defBody (top 3)) (defScope (top 3)) .none kV2 dc2 pm2 an2 cd2 ct2), sl2⟩) (c2 : PySem.W.codeIn K cd2 "reading_in" = true) (k2 : PySem.W.keepIn K (.ref f2) = true)
    (a3 : PySem.W.nsIn K mainGlobals "rules_in" = some (some (.ref f3))) (l3 : K.lookup f3 = some ⟨oc3, od3, .func (PySem.W.fnOf "rules_in" "rules_in" (defArgs (top 4)) (defBody (top 4)) (defScope (top 4)) .none kV3 dc3 pm3 an3 cd3 ct3), sl3⟩) (c3 : PySem.W.codeIn K cd3 "rules_in" = true) (k3 : PySem.W.keepIn K (.ref f3) = true)
    (a4 : PySem.W.nsIn K mainGlobals "looked_in" = some (some (.ref f4))) (l4 : K.lookup f4 = some ⟨oc4, od4, .func (PySem.W.fnOf "looked_in" "looked_in" (defArgs (top 5)) (defBody (top 5)) (defScope (top 5)) .none kV4 dc4 pm4 an4 cd4 ct4), sl4⟩) (c4 : PySem.W.codeIn K cd4 "looked_in" = true) (k4 : PySem.W.keepIn K (.ref f4) = true)
    (a5 : PySem.W.nsIn K mainGlobals "reading" = some (some (.ref f5))) (l5 : K.lookup f5 = some ⟨oc5, od5, .func (PySem.W.fnOf "reading" "reading" (defArgs (top 6)) (defBody (top 6)) (defScope (top 6)) .none kV5 dc5 pm5 an5 cd5 ct5), sl5⟩) (c5 : PySem.W.codeIn K cd5 "reading" = true) (k5 : PySem.W.keepIn K (.ref f5) = true)
    (a6 : PySem.W.nsIn K mainGlobals "rules_at" = some (some (.ref f6))) (l6 : K.lookup f6 = some ⟨oc6, od6, .func (PySem.W.fnOf "rules_at" "rules_at" (defArgs (top 7)) (defBody (top 7)) (defScope (top 7)) .none kV6 dc6 pm6 an6 cd6 ct6), sl6⟩) (c6 : PySem.W.codeIn K cd6 "rules_at" = true) (k6 : PySem.W.keepIn K (.ref f6) = true)
    (a7 : PySem.W.nsIn K mainGlobals "looked_at" = some (some (.ref f7))) (l7 : K.lookup f7 = some ⟨oc7, od7, .func (PySem.W.fnOf "looked_at" "looked_at" (defArgs (top 8)) (defBody (top 8)) (defScope (top 8)) .none kV7 dc7 pm7 an7 cd7 ct7), sl7⟩) (c7 : PySem.W.codeIn K cd7 "looked_at" = true) (k7 : PySem.W.keepIn K (.ref f7) = true)
    (a8 : PySem.W.nsIn K mainGlobals "_law_start" = some (some (.ref f8))) (l8 : K.lookup f8 = some ⟨oc8, od8, .func (PySem.W.fnOf "_law_start" "_law_start" (defArgs (top 10)) (defBody (top 10)) (defScope (top 10)) .none kV8 dc8 pm8 an8 cd8 ct8), sl8⟩) (c8 : PySem.W.codeIn K cd8 "_law_start" = true) (k8 : PySem.W.keepIn K (.ref f8) = true)
    (a9 : PySem.W.nsIn K mainGlobals "_law_pick" = some (some (.ref f9))) (l9 : K.lookup f9 = some ⟨oc9, od9, .func (PySem.W.fnOf "_law_pick" "_law_pick" (defArgs (top 11)) (defBody (top 11)) (defScope (top 11)) .none kV9 dc9 pm9 an9 cd9 ct9), sl9⟩) (c9 : PySem.W.codeIn K cd9 "_law_pick" = true) (k9 : PySem.W.keepIn K (.ref f9) = true)
    (a10 : PySem.W.nsIn K mainGlobals "_law_word" = some (some (.ref f10))) (l10 : K.lookup f10 = some ⟨oc10, od10, .func (PySem.W.fnOf "_law_word" "_law_word" (defArgs (top 12)) (defBody (top 12)) (defScope (top 12)) .none kV10 dc10 pm10 an10 cd10 ct10), sl10⟩) (c10 : PySem.W.codeIn K cd10 "_law_word" = true) (k10 : PySem.W.keepIn K (.ref f10) = true)
    (a11 : PySem.W.nsIn K mainGlobals "_law_words" = some (some (.ref f11))) (l11 : K.lookup f11 = some ⟨oc11, od11, .func (PySem.W.fnOf "_law_words" "_law_words" (defArgs (top 13)) (defBody (top 13)) (defScope (top 13)) .none kV11 dc11 pm11 an11 cd11 ct11), sl11⟩) (c11 : PySem.W.codeIn K cd11 "_law_words" = true) (k11 : PySem.W.keepIn K (.ref f11) = true)
    (a12 : PySem.W.nsIn K mainGlobals "_law_hill" = some (some (.ref f12))) (l12 : K.lookup f12 = some ⟨oc12, od12, .func (PySem.W.fnOf "_law_hill" "_law_hill" (defArgs (top 14)) (defBody (top 14)) (defScope (top 14)) .none kV12 dc12 pm12 an12 cd12 ct12), sl12⟩) (c12 : PySem.W.codeIn K cd12 "_law_hill" = true) (k12 : PySem.W.keepIn K (.ref f12) = true)
    (a13 : PySem.W.nsIn K mainGlobals "_law_moment" = some (some (.ref f13))) (l13 : K.lookup f13 = some ⟨oc13, od13, .func (PySem.W.fnOf "_law_moment" "_law_moment" (defArgs (top 15)) (defBody (top 15)) (defScope (top 15)) .none kV13 dc13 pm13 an13 cd13 ct13), sl13⟩) (c13 : PySem.W.codeIn K cd13 "_law_moment" = true) (k13 : PySem.W.keepIn K (.ref f13) = true)
    (a14 : PySem.W.nsIn K mainGlobals "_law_rule" = some (some (.ref f14))) (l14 : K.lookup f14 = some ⟨oc14, od14, .func (PySem.W.fnOf "_law_rule" "_law_rule" (defArgs (top 16)) (defBody (top 16)) (defScope (top 16)) .none kV14 dc14 pm14 an14 cd14 ct14), sl14⟩) (c14 : PySem.W.codeIn K cd14 "_law_rule" = true) (k14 : PySem.W.keepIn K (.ref f14) = true)
    (a15 : PySem.W.nsIn K mainGlobals "_law_number" = some (some (.ref f15))) (l15 : K.lookup f15 = some ⟨oc15, od15, .func (PySem.W.fnOf "_law_number" "_law_number" (defArgs (top 17)) (defBody (top 17)) (defScope (top 17)) .none kV15 dc15 pm15 an15 cd15 ct15), sl15⟩) (c15 : PySem.W.codeIn K cd15 "_law_number" = true) (k15 : PySem.W.keepIn K (.ref f15) = true)
    (a16 : PySem.W.nsIn K mainGlobals "_law_pages" = some (some (.ref f16))) (l16 : K.lookup f16 = some ⟨oc16, od16, .func (PySem.W.fnOf "_law_pages" "_law_pages" (defArgs (top 18)) (defBody (top 18)) (defScope (top 18)) .none kV16 dc16 pm16 an16 cd16 ct16), sl16⟩) (c16 : PySem.W.codeIn K cd16 "_law_pages" = true) (k16 : PySem.W.keepIn K (.ref f16) = true)
    (a17 : PySem.W.nsIn K mainGlobals "_law_book" = some (some (.ref f17))) (l17 : K.lookup f17 = some ⟨oc17, od17, .func (PySem.W.fnOf "_law_book" "_law_book" (defArgs (top 19)) (defBody (top 19)) (defScope (top 19)) .none kV17 dc17 pm17 an17 cd17 ct17), sl17⟩) (c17 : PySem.W.codeIn K cd17 "_law_book" = true) (k17 : PySem.W.keepIn K (.ref f17) = true)
    (a18 : PySem.W.nsIn K mainGlobals "_law_page" = some (some (.ref f18))) (l18 : K.lookup f18 = some ⟨oc18, od18, .func (PySem.W.fnOf "_law_page" "_law_page" (defArgs (top 20)) (defBody (top 20)) (defScope (top 20)) .none kV18 dc18 pm18 an18 cd18 ct18), sl18⟩) (c18 : PySem.W.codeIn K cd18 "_law_page" = true) (k18 : PySem.W.keepIn K (.ref f18) = true)
    (a19 : PySem.W.nsIn K mainGlobals "_law_right" = some (some (.ref f19))) (l19 : K.lookup f19 = some ⟨oc19, od19, .func (PySem.W.fnOf "_law_right" "_law_right" (defArgs (top 21)) (defBody (top 21)) (defScope (top 21)) .none kV19 dc19 pm19 an19 cd19 ct19), sl19⟩) (c19 : PySem.W.codeIn K cd19 "_law_right" = true) (k19 : PySem.W.keepIn K (.ref f19) = true)
    (a20 : PySem.W.nsIn K mainGlobals "law" = some (some (.ref f20))) (l20 : K.lookup f20 = some ⟨oc20, od20, .func (PySem.W.fnOf "law" "law" (defArgs (top 22)) (defBody (top 22)) (defScope (top 22)) .none kV20 dc20 pm20 an20 cd20 ct20), sl20⟩) (c20 : PySem.W.codeIn K cd20 "law" = true) (k20 : PySem.W.keepIn K (.ref f20) = true)
    (z0 : PySem.W.nsIn K mainGlobals "reversed" = some none)
    (z1 : PySem.W.nsIn K mainGlobals "abs" = some none)
    (z2 : PySem.W.nsIn K mainGlobals "enumerate" = some none)
    (z3 : PySem.W.nsIn K mainGlobals "range" = some none)
    (z4 : PySem.W.nsIn K mainGlobals "len" = some none)
    (z5 : PySem.W.nsIn K mainGlobals "tuple" = some none)
    (z6 : PySem.W.nsIn K mainGlobals "min" = some none)
    (z7 : PySem.W.nsIn K mainGlobals "max" = some none)
    (z8 : PySem.W.nsIn K mainGlobals "int" = some none)
    (z9 : PySem.W.nsIn K mainGlobals "sorted" = some none)
    (z10 : PySem.W.nsIn K mainGlobals "repr" = some none)
    (z11 : PySem.W.nsIn K mainGlobals "set" = some none)
    (tt : tabsOk K [f17, f18] = true)
    : ModOk K mg gl bl ms fa lm rows where
  gl := fun j x d e => by
    match j, e with
    | j + 0, e => cases e
  bl := fun x h => by
    simp only [bl, List.mem_cons, List.not_mem_nil, or_false] at h
    rcases h with rfl | rfl | rfl | rfl | rfl | rfl | rfl | rfl | rfl | rfl | rfl | rfl
    · exact PySem.W.mg_none_of X G z0
    · exact PySem.W.mg_none_of X G z1
    · exact PySem.W.mg_none_of X G z2
    · exact PySem.W.mg_none_of X G z3
    · exact PySem.W.mg_none_of X G z4
    · exact PySem.W.mg_none_of X G z5
    · exact PySem.W.mg_none_of X G z6
    · exact PySem.W.mg_none_of X G z7
    · exact PySem.W.mg_none_of X G z8
    · exact PySem.W.mg_none_of X G z9
    · exact PySem.W.mg_none_of X G z10
    · exact PySem.W.mg_none_of X G z11
  ms := fun c m i h => nomatch h
  fa := fun c f h => nomatch h
  lm := ⟨[f17, f18], by
    simp only [lm, List.map_cons, List.map_nil, PySem.W.mg_of X G a17, PySem.W.mg_of X G a18], tt⟩
  fn := fun i r e ht => by
    match i, e with
    | 0, e => cases e; exact ⟨f0, ⟨_, fun_mk (st := top 1) l0 c0 k0, fun us hl => match us, hl with | [_], _ => rfl⟩, PySem.W.mg_of X G a0⟩
    | 1, e => cases e; exact ⟨f1, ⟨_, fun_mk (st := top 2) l1 c1 k1, fun us hl => match us, hl with | [_, _, _, _], _ => rfl⟩, PySem.W.mg_of X G a1⟩
    | 2, e => cases e; exact ⟨f2, ⟨_, fun_mk (st := top 3) l2 c2 k2, fun us hl => match us, hl with | [_, _, _], _ => rfl⟩, PySem.W.mg_of X G a2⟩
    | 3, e => cases e; exact ⟨f3, ⟨_, fun_mk (st := top 4) l3 c3 k3, fun us hl => match us, hl with | [_, _, _], _ => rfl⟩, PySem.W.mg_of X G a3⟩
    | 4, e => cases e; exact ⟨f4, ⟨_, fun_mk (st := top 5) l4 c4 k4, fun us hl => match us, hl with | [_, _, _], _ => rfl⟩, PySem.W.mg_of X G a4⟩
    | 5, e => cases e; exact ⟨f5, ⟨_, fun_mk (st := top 6) l5 c5 k5, fun us hl => match us, hl with | [_, _, _], _ => rfl⟩, PySem.W.mg_of X G a5⟩
    | 6, e => cases e; exact ⟨f6, ⟨_, fun_mk (st := top 7) l6 c6 k6, fun us hl => match us, hl with | [_, _, _], _ => rfl⟩, PySem.W.mg_of X G a6⟩
    | 7, e => cases e; exact ⟨f7, ⟨_, fun_mk (st := top 8) l7 c7 k7, fun us hl => match us, hl with | [_, _, _], _ => rfl⟩, PySem.W.mg_of X G a7⟩
    | 8, e => cases e; exact ⟨f8, ⟨_, fun_mk (st := top 10) l8 c8 k8, fun us hl => match us, hl with | [_], _ => rfl⟩, PySem.W.mg_of X G a8⟩
    | 9, e => cases e; exact ⟨f9, ⟨_, fun_mk (st := top 11) l9 c9 k9, fun us hl => match us, hl with | [_, _], _ => rfl⟩, PySem.W.mg_of X G a9⟩
    | 10, e => cases e; exact ⟨f10, ⟨_, fun_mk (st := top 12) l10 c10 k10, fun us hl => match us, hl with | [_, _], _ => rfl⟩, PySem.W.mg_of X G a10⟩
    | 11, e => cases e; exact ⟨f11, ⟨_, fun_mk (st := top 13) l11 c11 k11, fun us hl => match us, hl with | [_, _], _ => rfl⟩, PySem.W.mg_of X G a11⟩
    | 12, e => cases e; exact ⟨f12, ⟨_, fun_mk (st := top 14) l12 c12 k12, fun us hl => match us, hl with | [_, _, _], _ => rfl⟩, PySem.W.mg_of X G a12⟩
    | 13, e => cases e; exact ⟨f13, ⟨_, fun_mk (st := top 15) l13 c13 k13, fun us hl => match us, hl with | [_, _, _], _ => rfl⟩, PySem.W.mg_of X G a13⟩
    | 14, e => cases e; exact ⟨f14, ⟨_, fun_mk (st := top 16) l14 c14 k14, fun us hl => match us, hl with | [_, _, _, _], _ => rfl⟩, PySem.W.mg_of X G a14⟩
    | 15, e => cases e; exact ⟨f15, ⟨_, fun_mk (st := top 17) l15 c15 k15, fun us hl => match us, hl with | [_, _], _ => rfl⟩, PySem.W.mg_of X G a15⟩
    | 16, e => cases e; exact ⟨f16, ⟨_, fun_mk (st := top 18) l16 c16 k16, fun us hl => match us, hl with | [_, _, _, _], _ => rfl⟩, PySem.W.mg_of X G a16⟩
    | 17, e => cases e; exact ⟨f17, ⟨_, fun_mk (st := top 19) l17 c17 k17, fun us hl => match us, hl with | [_], _ => rfl⟩, PySem.W.mg_of X G a17⟩
    | 18, e => cases e; exact ⟨f18, ⟨_, fun_mk (st := top 20) l18 c18 k18, fun us hl => match us, hl with | [_, _, _, _], _ => rfl⟩, PySem.W.mg_of X G a18⟩
    | 19, e => cases e; exact ⟨f19, ⟨_, fun_mk (st := top 21) l19 c19 k19, fun us hl => match us, hl with | [_, _, _, _], _ => rfl⟩, PySem.W.mg_of X G a19⟩
    | 20, e => cases e; exact ⟨f20, ⟨_, fun_mk (st := top 22) l20 c20 k20, fun us hl => match us, hl with | [_], _ => rfl⟩, PySem.W.mg_of X G a20⟩
    | j + 21, e => cases e
end LK09

namespace LK09
open PySem PyProof.Rows L2 F
local macro_rules | `(tactic| walk_at "s0") => `(tactic| with_reducible first
  | refine w_c ?_ | refine w_v (by with_unfolding_all rfl) ?_ | refine w_prim ?_ | refine wes_cons ?_ | refine wes_nil ?_ | refine wds_cons ?_ | refine wds_nil ?_ | refine wn_d ?_ | refine wn_tmp ?_
  | refine w_meth ?_ | refine w_tup ?_ | refine w_lst ?_ | refine w_and ?_ | refine w_or ?_ | refine wb_and ?_ | refine wb_or ?_ | refine wb_one ?_ | refine w_not ?_ | refine w_ite ?_ | refine w_call ?_
  | refine w_chain rfl rfl ?_ | refine w_lc ?_ | refine w_g (by with_unfolding_all rfl) ?_ | refine w_dK ?_
  | refine wxs_cons ?_ | refine wxs_nil ?_ | refine wo_nx ?_ | refine wo_rt ?_ | refine wo_bk ?_ | refine wo_ct ?_ | refine wx_asg ?_ | refine wx_par ?_ | refine wx_expr ?_ | refine wx_ret ?_ | refine wx_retN ?_ | refine wx_pass ?_ | refine wx_brk ?_ | refine wx_cont ?_
  | refine wa_n (Nat.le_of_ble_eq_true (by with_unfolding_all rfl)) ?_ | refine wa_tup ?_ | refine wa_sub ?_ | refine was_cons ?_ | refine was_nil ?_ | refine wf_nil ?_ | refine wf_one ?_
  | refine wi_seq ?_ | refine wi_range1 ?_ | refine wi_range2 ?_ | refine wi_zip ?_ | refine wi_enum ?_
  | refine wl (Nat.le_of_ble_eq_true (by with_unfolding_all rfl)) ?_ | refine wv (by with_unfolding_all rfl) ?_ | refine ws_lst (by with_unfolding_all rfl) (by first | decide | omega) (Nat.le_of_ble_eq_true (by with_unfolding_all rfl)) ?_ | refine wpar (by with_unfolding_all rfl) ?_ | refine wit (by with_unfolding_all rfl) ?_ | refine wen (by with_unfolding_all rfl) ?_ | refine wint (by omega) ?_
  | refine wc_t ?_ | refine wc_f ?_
  | refine r_add ?_ | refine r_sub ?_ | refine r_neg ?_ | refine r_lt ?_ | refine r_le ?_ | refine r_gt ?_ | refine r_ge ?_ | refine r_abs ?_ | refine r_min ?_ | refine r_max ?_ | refine r_isN ?_ | refine r_isB ?_
  | refine r_ne_nil (by with_unfolding_all rfl) (pdL_ints _) ?_ | refine r_eq_nil (by with_unfolding_all rfl) (pdL_ints _) ?_ | refine r_popAt (by with_unfolding_all rfl) ?_
  | refine r_eq_tt ?_ | refine r_eq_ff ?_ | refine r_eq_tf ?_ | refine r_eq_ft ?_
  | refine r_eq_int ?_ | refine r_ne_int ?_ | refine r_eq_bl ?_ | refine r_ne_bl ?_
  | refine r_pow18 ?_ | refine r_pow30 ?_ | refine r_pow48 ?_ | refine r_pow60 ?_ | refine r_pow900 ?_ | refine r_mod big900_pos ?_
  | refine r_mod (by first | decide | omega) ?_ | refine r_fdiv (by first | decide | omega) (by first | decide | omega) ?_ | refine r_mul (by first | decide | omega) (by first | decide | omega) ?_ | refine r_pow (by first | decide | omega) (by first | decide | omega) (by first | decide | omega) ?_
  | refine r_item_ref (by with_unfolding_all rfl) (by first | decide | omega) (by with_unfolding_all rfl) ?_ | refine r_item_tmp (by first | decide | omega) (by with_unfolding_all rfl) ?_ | refine r_item_tup (by first | decide | omega) (by with_unfolding_all rfl) ?_
  | refine r_item_rol (by first | decide | omega) (by with_unfolding_all rfl) ?_ | refine r_len_tmp ?_ | refine r_len_tup ?_ | refine r_len_rol ?_ | refine r_len_ref (by with_unfolding_all rfl) ?_
  | refine r_inst (by with_unfolding_all rfl) ?_)
local macro_rules | `(tactic| walk_at "s") => `(tactic| first | walk_at "s0" | with_reducible refine wx_ite ?_)
local macro_rules | `(tactic| walk_at "A") => `(tactic| repeat walk_at "s0")
local macro_rules | `(tactic| walk_at "S") => `(tactic| repeat walk_at "s")
local macro_rules | `(tactic| walk_at "c") => `(tactic| first | refine wc_dt (by first | decide | omega) ?_ | refine wc_df (by first | decide | omega) ?_)
local macro_rules | `(tactic| walk_at "C") => `(tactic| repeat first | walk_at "s" | walk_at "c")
local macro_rules | `(tactic| walk_at "p") => `(tactic| with_reducible first | refine wn_tmp_p (by assumption) fun _ _ => ?_ | refine wd_dK_p (by assumption) fun _ _ => ?_ | refine r_item_p (by assumption) (by first | assumption | exact set_at (by assumption) | with_unfolding_all rfl) (by omega) (by first | omega | (rw [List.length_set]; omega)) fun _ _ => ?_ | refine ws_p (by assumption) (by first | assumption | exact set_at (by assumption) | with_unfolding_all rfl) (by omega) (by first | omega | (rw [List.length_set]; omega)) fun _ _ => ?_ | refine r_add_lst (by first | (with_unfolding_all rfl) | exact lstM_p (by assumption) (by first | assumption | exact set_at (by assumption) | with_unfolding_all rfl)) (by first | (with_unfolding_all rfl) | exact lstM_p (by assumption) (by first | assumption | exact set_at (by assumption) | with_unfolding_all rfl)) (by first | omega | (simp only [List.length_append, List.length_take, List.length_drop, List.length_cons, List.length_nil]; omega)) ?_ | refine r_tuple (by first | (with_unfolding_all rfl) | exact lst_p (by assumption) (by first | assumption | exact set_at (by assumption) | with_unfolding_all rfl)) ?_ | refine r_slice01 (slice_to (by first | (with_unfolding_all rfl) | exact lst_p (by assumption) (by first | assumption | exact set_at (by assumption) | with_unfolding_all rfl)) (by with_unfolding_all rfl) (by omega)) ?_ | refine r_slice10 (slice_from (by first | (with_unfolding_all rfl) | exact lst_p (by assumption) (by first | assumption | exact set_at (by assumption) | with_unfolding_all rfl)) (by with_unfolding_all rfl) (by omega)) ?_)
local macro_rules | `(tactic| walk_at "P") => `(tactic| repeat first | walk_at "p" | walk_at "d" | walk_at "s")
local macro_rules | `(tactic| walk_at "PA") => `(tactic| repeat first | walk_at "p" | walk_at "d" | walk_at "s0")
theorem start_ok (k : Nat) (ns : List Int) (hl : ns.length ≤ 63) : ∃ S, calls gl rows (k + 1) 8 [.rol (ns.map .int)] [] = some (.ref 0, S) ∧ St 0 [] S := by
  have w : Wxs (gl.map (·.2)) (calls gl rows k) b8 [some (.rol (ns.map .int)), none, none, none, none] [] fun o S' => o = .rt (.ref 0) ∧ St 0 [] S' := by
    unfold b8
    walk_at "A"
    refine Wx.mono (Q := fun o S => S = [] ∧ ∃ (dg : Int) (u : Option D), 0 ≤ dg ∧ o = .nx [some (.rol (ns.map .int)), some (.int dg), u, none, none]) ?_ ?_
    · walk_at "S"
      refine r_slice01 (slice_to rfl rfl (by decide)) ?_
      walk_at "S"
      rw [← List.map_take]
      refine r_ne_tmpnil (pdL_ints _) ?_
      refine wc_dec (fun hne => ?_) fun _ => wc_f (wxs_nil ⟨rfl, 0, none, by decide, rfl⟩)
      cases ns with
      | nil => exact absurd rfl hne
      | cons x xs =>
        walk_at "S"
        refine wc_dec (fun _ => ?_) fun _ => wxs_nil ⟨rfl, 0, none, by decide, rfl⟩
        refine wxs_cons (wx_for2 ?_)
        refine wi_revd ?_
        walk_at "S"
        refine r_slice01 (slice_to rfl rfl (by decide)) ?_
        refine wen rfl ?_
        refine ⟨fun i ρ S => S = [] ∧ i ≤ 63 ∧ ∃ (dg : Int) (u : Option D), 0 ≤ dg ∧ dg < 2 ^ (200 * i) ∧ ρ = [some (.rol ((x :: xs).map .int)), some (.int dg), u, none, none], ⟨rfl, by decide, 0, none, by decide, by decide, rfl⟩, fun _ _ _ _ => chk_nil, ?_, ?_⟩
        · rintro i d ρ S hi ⟨rfl, hi63, dg, u, d0, d1, rfl⟩
          have hi2 := (List.getElem?_eq_some_iff.mp hi).1
          rw [List.length_reverse, List.length_take] at hi2
          obtain ⟨y, _, rfl⟩ : ∃ y, y ∈ (x :: xs) ∧ D.int y = d := by
            have := List.mem_of_mem_take (List.mem_reverse.mp (List.mem_of_getElem? hi))
            exact List.mem_map.mp this
          walk_at "S"
          refine r_mul_big ?_ ?_
          · have h1 := log2_pow d0 d1
            have h2 : (1000000000000000000000000000000000000000000000000000000000000 : Int).natAbs.log2 ≤ 200 := by decide +kernel
            have h3 : (63 : Nat) * 200 < 900000 := by decide
            omega
          walk_at "S"
          have q0 := Int.emod_nonneg (if y < 0 then -y else y) (show (1000000000000000000000000000000000000000000000000000000000000 : Int) ≠ 0 by decide)
          have q1 := Int.emod_lt_of_pos (if y < 0 then -y else y) (show (0 : Int) < 1000000000000000000000000000000000000000000000000000000000000 by decide)
          obtain ⟨e1, e2⟩ := digits_up d0 d1 q0 q1
          exact ⟨rfl, by omega, _, _, e1, by rw [show 200 * (i + 1) = 200 * i + 200 by omega]; exact e2, rfl⟩
        · rintro ρ S ⟨rfl, _, dg, u, d0, d1, rfl⟩
          walk_at "S"
          exact ⟨rfl, dg, u, d0, rfl⟩
    · rintro o S ⟨rfl, dg, u, d0, rfl⟩
      walk_at "S"
      refine wx_for (fun i ρ S => S = [] ∧ ∃ (seed : Int) (u v : Option D), 0 ≤ seed ∧ seed < 2305843009213693951 ∧ ρ = [some (.rol (ns.map .int)), some (.int dg), u, some (.int seed), v]) ?_
      walk_at "S"
      refine r_slice01 (slice_to rfl rfl (by decide)) ?_
      walk_at "S"
      refine ⟨⟨rfl, _, _, _, by decide, by decide, rfl⟩, fun i ρ S h => chk_nil, ?_, ?_⟩
      · rintro i d ρ S hi ⟨rfl, seed, u, v, s0, s1, rfl⟩
        obtain ⟨x, hx, rfl⟩ := enumD_at hi
        have hi2 : i < 63 := by
          have := (List.getElem?_eq_some_iff.mp hx).1
          rw [List.length_take, List.length_map] at this
          omega
        obtain ⟨y, _, rfl⟩ : ∃ y, y ∈ ns ∧ D.int y = x := by
          have := List.mem_of_mem_take (List.mem_of_getElem? hx)
          exact List.mem_map.mp this
        rw [Nat.zero_add]
        walk_at "S"
        have q0 := Int.emod_nonneg y (show (2305843009213693951 : Int) ≠ 0 by decide)
        have q1 := Int.emod_lt_of_pos y (show (0 : Int) < 2305843009213693951 by decide)
        generalize y % 2305843009213693951 = z at *
        walk_at "S"
        exact ⟨rfl, _, _, _, Int.emod_nonneg _ (by decide), Int.emod_lt_of_pos _ (by decide), rfl⟩
      · rintro ρ S ⟨rfl, seed, u, v, s0, s1, rfl⟩
        walk_at "S"
        exact ⟨rfl, dg, seed, 0, d0, s0, s1, by omega, by omega, rfl⟩
  obtain ⟨o, S, e, rfl, h⟩ := w.h
  exact ⟨S, (call_rt (r := r8) rfl rfl e).trans (congrArg some (gc_keep rfl)), h⟩
theorem pick_ok (k n : Nat) (many : Int) (R S : Store) (p : St n R S) (h : 0 < many) (h2 : many < 18446744073709551616) (hn : n ≤ 1000000000) : ∃ (v : Int) (S' : Store), 0 ≤ v ∧ v < many ∧ St (n + 1) R S' ∧ calls gl rows (k + 1) 9 [.ref 0, .int many] S = some (.int v, S') := by
  have w : Wxs (gl.map (·.2)) (calls gl rows k) b9 [some (.ref 0), some (.int many), none, none] S fun o S' => ∃ v : Int, 0 ≤ v ∧ v < many ∧ o = .rt (.int v) ∧ St (n + 1) R S' := by
    unfold b9
    obtain ⟨dg, sd, ct, d0, s0, s1, c0, c1, rfl⟩ := p
    walk_at "S"
    refine wc_dec (fun hd => ?_) fun hd => ?_
    · walk_at "S"
      exact ⟨_, Int.emod_nonneg _ (by omega), Int.emod_lt_of_pos _ h, rfl, dg / many, sd, ct, Int.ediv_nonneg d0 (by omega), s0, s1, c0, by omega, rfl⟩
    · walk_at "S"
      have q0 := Int.emod_nonneg ((sd + 982451653 * (ct + 1)) ^ (3 : Int).toNat) (show (2305843009213693921 : Int) ≠ 0 by decide)
      have q1 := Int.emod_lt_of_pos ((sd + 982451653 * (ct + 1)) ^ (3 : Int).toNat) (show (0 : Int) < 2305843009213693921 by decide)
      generalize (sd + 982451653 * (ct + 1)) ^ (3 : Int).toNat % 2305843009213693921 = u at *
      walk_at "S"
      exact ⟨_, Int.emod_nonneg _ (by omega), Int.emod_lt_of_pos _ h, rfl, dg, sd, ct + 1, d0, s0, s1, by omega, by omega, rfl⟩
  obtain ⟨o, S', e, v, h1, h2, rfl, h3⟩ := w.h
  exact ⟨v, S', h1, h2, h3, (call_rt (r := r9) rfl rfl e).trans (congrArg some (gc_same (by rw [h3.len, p.len])))⟩
theorem wk_pick {k n : Nat} {many : Int} {X S : Store} {Q : D → Store → Prop} (p : St n X S) (h : 0 < many) (h2 : many < 18446744073709551616) (hn : n ≤ 1000000000) (q : ∀ (v : Int) (S' : Store), 0 ≤ v → v < many → St (n + 1) X S' → Q (.int v) S') : Wk (calls gl rows (k + 1)) 9 [.ref 0, .int many] S Q := by
  obtain ⟨v, S', h0, h1, p', e⟩ := pick_ok k n many X S p h h2 hn
  exact wk e (q v S' h0 h1 p')
end LK09

namespace LK09
open PySem PyProof.Rows L2 F
local macro_rules | `(tactic| walk_at "s0") => `(tactic| with_reducible first
  | refine w_c ?_ | refine w_v (by with_unfolding_all rfl) ?_ | refine w_prim ?_ | refine wes_cons ?_ | refine wes_nil ?_ | refine wds_cons ?_ | refine wds_nil ?_ | refine wn_d ?_ | refine wn_tmp ?_
  | refine w_meth ?_ | refine w_tup ?_ | refine w_lst ?_ | refine w_and ?_ | refine w_or ?_ | refine wb_and ?_ | refine wb_or ?_ | refine wb_one ?_ | refine w_not ?_ | refine w_ite ?_ | refine w_call ?_
  | refine w_chain rfl rfl ?_ | refine w_lc ?_ | refine w_g (by with_unfolding_all rfl) ?_ | refine w_dK ?_
  | refine wxs_cons ?_ | refine wxs_nil ?_ | refine wo_nx ?_ | refine wo_rt ?_ | refine wo_bk ?_ | refine wo_ct ?_ | refine wx_asg ?_ | refine wx_par ?_ | refine wx_expr ?_ | refine wx_ret ?_ | refine wx_retN ?_ | refine wx_pass ?_ | refine wx_brk ?_ | refine wx_cont ?_
  | refine wa_n (Nat.le_of_ble_eq_true (by with_unfolding_all rfl)) ?_ | refine wa_tup ?_ | refine wa_sub ?_ | refine was_cons ?_ | refine was_nil ?_ | refine wf_nil ?_ | refine wf_one ?_
  | refine wi_seq ?_ | refine wi_range1 ?_ | refine wi_range2 ?_ | refine wi_zip ?_ | refine wi_enum ?_
  | refine wl (Nat.le_of_ble_eq_true (by with_unfolding_all rfl)) ?_ | refine wv (by with_unfolding_all rfl) ?_ | refine ws_lst (by with_unfolding_all rfl) (by first | decide | omega) (Nat.le_of_ble_eq_true (by with_unfolding_all rfl)) ?_ | refine wpar (by with_unfolding_all rfl) ?_ | refine wit (by with_unfolding_all rfl) ?_ | refine wen (by with_unfolding_all rfl) ?_ | refine wint (by omega) ?_
  | refine wc_t ?_ | refine wc_f ?_
  | refine r_add ?_ | refine r_sub ?_ | refine r_neg ?_ | refine r_lt ?_ | refine r_le ?_ | refine r_gt ?_ | refine r_ge ?_ | refine r_abs ?_ | refine r_min ?_ | refine r_max ?_ | refine r_isN ?_ | refine r_isB ?_
  | refine r_ne_nil (by with_unfolding_all rfl) (pdL_ints _) ?_ | refine r_eq_nil (by with_unfolding_all rfl) (pdL_ints _) ?_ | refine r_popAt (by with_unfolding_all rfl) ?_
  | refine r_eq_tt ?_ | refine r_eq_ff ?_ | refine r_eq_tf ?_ | refine r_eq_ft ?_
  | refine r_eq_int ?_ | refine r_ne_int ?_ | refine r_eq_bl ?_ | refine r_ne_bl ?_
  | refine r_pow18 ?_ | refine r_pow30 ?_ | refine r_pow48 ?_ | refine r_pow60 ?_ | refine r_pow900 ?_ | refine r_mod big900_pos ?_
  | refine r_mod (by first | decide | omega) ?_ | refine r_fdiv (by first | decide | omega) (by first | decide | omega) ?_ | refine r_mul (by first | decide | omega) (by first | decide | omega) ?_ | refine r_pow (by first | decide | omega) (by first | decide | omega) (by first | decide | omega) ?_
  | refine r_item_ref (by with_unfolding_all rfl) (by first | decide | omega) (by with_unfolding_all rfl) ?_ | refine r_item_tmp (by first | decide | omega) (by with_unfolding_all rfl) ?_ | refine r_item_tup (by first | decide | omega) (by with_unfolding_all rfl) ?_
  | refine r_item_rol (by first | decide | omega) (by with_unfolding_all rfl) ?_ | refine r_len_tmp ?_ | refine r_len_tup ?_ | refine r_len_rol ?_ | refine r_len_ref (by with_unfolding_all rfl) ?_
  | refine r_inst (by with_unfolding_all rfl) ?_)
local macro_rules | `(tactic| walk_at "s") => `(tactic| first | walk_at "s0" | with_reducible refine wx_ite ?_)
local macro_rules | `(tactic| walk_at "A") => `(tactic| repeat walk_at "s0")
local macro_rules | `(tactic| walk_at "S") => `(tactic| repeat walk_at "s")
local macro_rules | `(tactic| walk_at "c") => `(tactic| first | refine wc_dt (by first | decide | omega) ?_ | refine wc_df (by first | decide | omega) ?_)
local macro_rules | `(tactic| walk_at "C") => `(tactic| repeat first | walk_at "s" | walk_at "c")
local macro_rules | `(tactic| walk_at "p") => `(tactic| with_reducible first | refine wn_tmp_p (by assumption) fun _ _ => ?_ | refine wd_dK_p (by assumption) fun _ _ => ?_ | refine r_item_p (by assumption) (by first | assumption | exact set_at (by assumption) | with_unfolding_all rfl) (by omega) (by first | omega | (rw [List.length_set]; omega)) fun _ _ => ?_ | refine ws_p (by assumption) (by first | assumption | exact set_at (by assumption) | with_unfolding_all rfl) (by omega) (by first | omega | (rw [List.length_set]; omega)) fun _ _ => ?_ | refine r_add_lst (by first | (with_unfolding_all rfl) | exact lstM_p (by assumption) (by first | assumption | exact set_at (by assumption) | with_unfolding_all rfl)) (by first | (with_unfolding_all rfl) | exact lstM_p (by assumption) (by first | assumption | exact set_at (by assumption) | with_unfolding_all rfl)) (by first | omega | (simp only [List.length_append, List.length_take, List.length_drop, List.length_cons, List.length_nil]; omega)) ?_ | refine r_tuple (by first | (with_unfolding_all rfl) | exact lst_p (by assumption) (by first | assumption | exact set_at (by assumption) | with_unfolding_all rfl)) ?_ | refine r_slice01 (slice_to (by first | (with_unfolding_all rfl) | exact lst_p (by assumption) (by first | assumption | exact set_at (by assumption) | with_unfolding_all rfl)) (by with_unfolding_all rfl) (by omega)) ?_ | refine r_slice10 (slice_from (by first | (with_unfolding_all rfl) | exact lst_p (by assumption) (by first | assumption | exact set_at (by assumption) | with_unfolding_all rfl)) (by with_unfolding_all rfl) (by omega)) ?_)
local macro_rules | `(tactic| walk_at "P") => `(tactic| repeat first | walk_at "p" | walk_at "d" | walk_at "s")
local macro_rules | `(tactic| walk_at "PA") => `(tactic| repeat first | walk_at "p" | walk_at "d" | walk_at "s0")
local macro_rules | `(tactic| walk_at "d") => `(tactic| with_reducible first | refine wk_pick (by assumption) (by omega) (by omega) (by omega) fun _ _ _ _ _ => ?_ | refine wn_tmp_s (by assumption) fun _ _ => ?_)
theorem word_ok {n i : Nat} {R J S : Store} {ys : List Str} (k : Nat) (p : St n (R ++ J) S) (h : J[i]? = some (.lst (ys.map .str))) (hy : ys.length ≤ 25) (hn : n ≤ 100000000) : ∃ (z : Str) (S' : Store), Name z ∧ z ∉ ys ∧ St (n + 9) (R ++ J) S' ∧ calls gl rows (k + 2) 10 [.ref 0, .ref (R.length + 1 + i)] S = some (.str z, S') := by
  have w : Wxs (gl.map (·.2)) (calls gl rows (k + 1)) b10 [some (.ref 0), some (.ref (R.length + 1 + i)), none, none, none, none, none, none] S fun o S' => ∃ z : Str, o = .rt (.str z) ∧ Name z ∧ z ∉ ys ∧ St (n + 9) (R ++ J) S' := by
    unfold b10
    walk_at "P"
    rename_i sz S1 g1 g2 p1
    refine wlc_inv (fun j acc S => j ≤ 8 ∧ St (n + 1 + j) (R ++ J) S ∧ ∃ cs : List Nat, acc = cs.map (fun c => D.str ⟨#[c]⟩) ∧ Abc cs ∧ cs.length = j) ⟨by omega, p1, [], rfl, (fun y hy => by cases hy), rfl⟩ (fun _ _ _ _ => chk_nil) (by rw [rngD_len]; omega) ?_ ?_
    · rintro j d acc S hj ⟨hj8, p, cs, rfl, hcs, hcl⟩
      obtain ⟨hj2, rfl⟩ := rngD_get hj
      walk_at "P"
      refine ⟨(fun z => by cases z), fun _ => ?_⟩
      walk_at "P"
      rename_i v S1 h1 h2 p1
      refine r_item_str (by decide) h1 h2 fun c hc => ?_
      walk_at "S"
      refine ⟨by omega, p1, cs ++ [c], by rw [List.map_append]; rfl, fun y hy => ?_, by rw [List.length_append, hcl]; rfl⟩
      rcases List.mem_append.mp hy with hy | hy
      · exact hcs y hy
      · rw [List.mem_singleton.mp hy]; exact law26_abc hc
    · rintro acc S ⟨hj8, p5, cs, rfl, hcs, hcl⟩
      rw [rngD_len] at *
      walk_at "S"
      have hsum : (((cs.map fun c => (⟨#[c]⟩ : Str))).map (·.length)).sum ≤ cs.length * 1 := by
        have := sum_le (n := 1) (ns := ((cs.map fun c => (⟨#[c]⟩ : Str))).map (·.length)) fun x hx => by
          obtain ⟨y, hy, rfl⟩ := List.mem_map.mp hx
          obtain ⟨c, _, rfl⟩ := List.mem_map.mp hy
          exact Nat.le_refl _
        rw [List.length_map, List.length_map] at this
        exact this
      refine r_join (ys := cs.map fun c => (⟨#[c]⟩ : Str)) (by rw [List.map_map]; rfl) (by rw [emp_len, List.length_map]; omega) ?_
      rw [join_ofLs]
      have hN : Name (ofL cs) := ⟨by rw [← len_to, ofL_cps]; omega, by rw [← len_to, ofL_cps]; omega, by rw [ofL_cps]; exact hcs⟩
      have p6 : St (n + 9) (R ++ J) S := p5.mono (by omega)
      clear p1 p5
      generalize ofL cs = z at hN
      have hz8 := hN.hi
      walk_at "S"
      refine wlc_map (fun c : Nat => D.str ⟨#[c]⟩) law26.cps.toList (fun _ => true) (fun c => .str (ofL (z.cps.toList.take 7 ++ [c]))) rfl chk_nil (by rw [law26_len]; decide) (fun c _ => ?_) ?_
      · walk_at "S"
        refine ⟨rfl, rfl, rfl, fun _ => ?_⟩
        walk_at "S"
        refine r_slice01 (slice_str (by omega)) ?_
        walk_at "S"
        have e1 : (cutS z none (some 7)).cps.toList = z.cps.toList.take 7 := cut_to (by decide)
        have l1 : (cutS z none (some 7)).length ≤ 7 := by rw [← len_to, e1, List.length_take]; omega
        refine r_add_str (y := ⟨#[c]⟩) (by have : (⟨#[c]⟩ : Str).length = 1 := rfl
                                           omega) ?_
        refine ⟨?_, rfl⟩
        have e2 : cutS z none (some 7) ++ (⟨#[c]⟩ : Str) = ofL (z.cps.toList.take 7 ++ [c]) := str_ext (by rw [app_to, e1, ofL_cps])
        rw [e2]
      · rw [List.filter_eq_self.mpr fun _ _ => rfl]
        walk_at "S"
        refine r_add_lst rfl rfl (by rw [List.length_map, law26_len]; exact Nat.le_of_ble_eq_true rfl) ?_
        have e3 : [D.str z] ++ (law26.cps.toList.map fun c => D.str (ofL (z.cps.toList.take 7 ++ [c]))) = (cands z).map D.str := by
          unfold cands
          rw [List.map_cons, List.map_map]
          rfl
        rw [e3]
        walk_at "S"
        refine wlc_map D.str (cands z) (fun y => !(ys.any fun x => decide (x = y))) D.str rfl chk_nil (by unfold cands; rw [List.length_cons, List.length_map, law26_len]; decide) (fun y _ => ?_) ?_
        · walk_at "S"
          refine r_isin (inT_ref_strs (ys := ys) ((st_at p6 i).trans h)) ?_
          cases hb : ys.any fun x => decide (x = y) with
          | true => exact wc_f ⟨rfl, rfl, rfl, fun z => by cases z⟩
          | false =>
            refine wc_t ⟨rfl, rfl, rfl, fun _ => ?_⟩
            walk_at "S"
            exact ⟨rfl, rfl⟩
        · obtain ⟨y, hy1, hy2⟩ := cands_free (z := z) hy
          have hmem : y ∈ (cands z).filter fun y => !(ys.any fun x => decide (x = y)) := List.mem_filter.mpr ⟨hy1, by
            rw [Bool.not_eq_true', List.any_eq_false]
            intro x hx e
            exact hy2 (of_decide_eq_true e ▸ hx)⟩
          cases hf : (cands z).filter fun y => !(ys.any fun x => decide (x = y)) with
          | nil => rw [hf] at hmem; cases hmem
          | cons a r =>
            have ha : a ∈ (cands z).filter fun y => !(ys.any fun x => decide (x = y)) := by rw [hf]; exact List.mem_cons_self
            obtain ⟨ha1, ha2⟩ := List.mem_filter.mp ha
            walk_at "S"
            refine ⟨a, rfl, cands_name hN a ha1, fun hin => ?_, p6⟩
            rw [Bool.not_eq_true', List.any_eq_false] at ha2
            exact ha2 a hin (decide_eq_true rfl)
  obtain ⟨o, S', e, z, rfl, h1, h2, h3⟩ := w.h
  exact ⟨z, S', h1, h2, h3, (call_rt (r := r10) rfl rfl e).trans (congrArg some (gc_same (by rw [h3.len, p.len])))⟩
theorem words_ok {n many : Nat} {X S : Store} (k : Nat) (p : St n X S) (hm : many ≤ 20) (hn : n ≤ 50000000) : ∃ (ys : List Str) (S' : Store), ys.length = many ∧ (∀ y ∈ ys, Name y) ∧ ys.Nodup ∧ St (n + 9 * many) (X ++ [.lst (ys.map .str)]) S' ∧ calls gl rows (k + 3) 11 [.ref 0, .int (many : Nat)] S = some (.ref (X.length + 1), S') := by
  have w : Wxs (gl.map (·.2)) (calls gl rows (k + 2)) b11 [some (.ref 0), some (.int (many : Nat)), none, none] S fun o S' => o = .rt (.ref (X.length + 1)) ∧ ∃ ys : List Str, ys.length = many ∧ (∀ y ∈ ys, Name y) ∧ ys.Nodup ∧ St (n + 9 * many) (X ++ [.lst (ys.map .str)]) S' := by
    unfold b11
    have p0 := p.re0
    walk_at "PA"
    rename_i S1 p1
    clear p p0
    refine wx_for2 ?_
    walk_at "S"
    refine ⟨fun i ρ S => ∃ (ys : List Str) (a : Option D), St (n + 9 * i) (X ++ [.lst (ys.map .str)]) S ∧ ys.length = i ∧ (∀ y ∈ ys, Name y) ∧ ys.Nodup ∧ ρ = [some (.ref 0), some (.int (many : Nat)), some (.ref (X.length + 1)), a],
      ⟨[], none, p1, rfl, (fun y hy => by cases hy), List.nodup_nil, rfl⟩, fun _ _ _ _ => chk_nil, ?_, ?_⟩
    · rintro i d ρ S hi ⟨ys, a, p, hyl, hyn, hnd, rfl⟩
      obtain ⟨hi2, rfl⟩ := rngD_get hi
      rw [Int.toNat_natCast] at hi2
      walk_at "S"
      refine wv (rv_append ((st_at p 0).trans rfl)) ?_
      walk_at "S"
      obtain ⟨z, S2, hz1, hz2, p2, e2⟩ := word_ok k p (i := 0) rfl (by omega) (by omega)
      refine wk e2 ?_
      walk_at "S"
      refine r_append_s (i := 0) (R := X) p2 rfl (by rw [List.length_map]; omega) fun S3 p3 => ?_
      walk_at "S"
      refine ⟨ys ++ [z], _, ?_, by rw [List.length_append, hyl]; rfl, fun y hy => ?_, ?_, rfl⟩
      · rw [List.map_append]
        exact p3.mono (by omega)
      · rcases List.mem_append.mp hy with hy | hy
        · exact hyn y hy
        · rw [List.mem_singleton.mp hy]; exact hz1
      · refine List.nodup_append.mpr ⟨hnd, by simp, fun a ha b hb e => ?_⟩
        rw [List.mem_singleton] at hb
        rw [e, hb] at ha
        exact hz2 ha
    · rintro ρ S ⟨ys, a, p, hyl, hyn, hnd, rfl⟩
      rw [rngD_len, Int.toNat_natCast] at p hyl
      walk_at "S"
      exact ⟨rfl, ys, hyl, hyn, hnd, p⟩
  obtain ⟨o, S', e, rfl, ys, h1, h2, h3, h4⟩ := w.h
  exact ⟨ys, S', h1, h2, h3, h4, (call_rt (k := k + 2) (r := r11) (ds := [.ref 0, .int (many : Nat)]) rfl rfl e).trans (congrArg some (gc_keep (show decide (X.length + 1 < S.length) = false from decide_eq_false (by rw [p.len]; omega))))⟩
end LK09

namespace LK09
open PySem PyProof.Rows L2 F
local macro_rules | `(tactic| walk_at "s0") => `(tactic| with_reducible first
  | refine w_c ?_ | refine w_v (by with_unfolding_all rfl) ?_ | refine w_prim ?_ | refine wes_cons ?_ | refine wes_nil ?_ | refine wds_cons ?_ | refine wds_nil ?_ | refine wn_d ?_ | refine wn_tmp ?_
  | refine w_meth ?_ | refine w_tup ?_ | refine w_lst ?_ | refine w_and ?_ | refine w_or ?_ | refine wb_and ?_ | refine wb_or ?_ | refine wb_one ?_ | refine w_not ?_ | refine w_ite ?_ | refine w_call ?_
  | refine w_chain rfl rfl ?_ | refine w_lc ?_ | refine w_g (by with_unfolding_all rfl) ?_ | refine w_dK ?_
  | refine wxs_cons ?_ | refine wxs_nil ?_ | refine wo_nx ?_ | refine wo_rt ?_ | refine wo_bk ?_ | refine wo_ct ?_ | refine wx_asg ?_ | refine wx_par ?_ | refine wx_expr ?_ | refine wx_ret ?_ | refine wx_retN ?_ | refine wx_pass ?_ | refine wx_brk ?_ | refine wx_cont ?_
  | refine wa_n (Nat.le_of_ble_eq_true (by with_unfolding_all rfl)) ?_ | refine wa_tup ?_ | refine wa_sub ?_ | refine was_cons ?_ | refine was_nil ?_ | refine wf_nil ?_ | refine wf_one ?_
  | refine wi_seq ?_ | refine wi_range1 ?_ | refine wi_range2 ?_ | refine wi_zip ?_ | refine wi_enum ?_
  | refine wl (Nat.le_of_ble_eq_true (by with_unfolding_all rfl)) ?_ | refine wv (by with_unfolding_all rfl) ?_ | refine ws_lst (by with_unfolding_all rfl) (by first | decide | omega) (Nat.le_of_ble_eq_true (by with_unfolding_all rfl)) ?_ | refine wpar (by with_unfolding_all rfl) ?_ | refine wit (by with_unfolding_all rfl) ?_ | refine wen (by with_unfolding_all rfl) ?_ | refine wint (by omega) ?_
  | refine wc_t ?_ | refine wc_f ?_
  | refine r_add ?_ | refine r_sub ?_ | refine r_neg ?_ | refine r_lt ?_ | refine r_le ?_ | refine r_gt ?_ | refine r_ge ?_ | refine r_abs ?_ | refine r_min ?_ | refine r_max ?_ | refine r_isN ?_ | refine r_isB ?_
  | refine r_ne_nil (by with_unfolding_all rfl) (pdL_ints _) ?_ | refine r_eq_nil (by with_unfolding_all rfl) (pdL_ints _) ?_ | refine r_popAt (by with_unfolding_all rfl) ?_
  | refine r_eq_tt ?_ | refine r_eq_ff ?_ | refine r_eq_tf ?_ | refine r_eq_ft ?_
  | refine r_eq_int ?_ | refine r_ne_int ?_ | refine r_eq_bl ?_ | refine r_ne_bl ?_
  | refine r_pow18 ?_ | refine r_pow30 ?_ | refine r_pow48 ?_ | refine r_pow60 ?_ | refine r_pow900 ?_ | refine r_mod big900_pos ?_
  | refine r_mod (by first | decide | omega) ?_ | refine r_fdiv (by first | decide | omega) (by first | decide | omega) ?_ | refine r_mul (by first | decide | omega) (by first | decide | omega) ?_ | refine r_pow (by first | decide | omega) (by first | decide | omega) (by first | decide | omega) ?_
  | refine r_item_ref (by with_unfolding_all rfl) (by first | decide | omega) (by with_unfolding_all rfl) ?_ | refine r_item_tmp (by first | decide | omega) (by with_unfolding_all rfl) ?_ | refine r_item_tup (by first | decide | omega) (by with_unfolding_all rfl) ?_
  | refine r_item_rol (by first | decide | omega) (by with_unfolding_all rfl) ?_ | refine r_len_tmp ?_ | refine r_len_tup ?_ | refine r_len_rol ?_ | refine r_len_ref (by with_unfolding_all rfl) ?_
  | refine r_inst (by with_unfolding_all rfl) ?_)
local macro_rules | `(tactic| walk_at "s") => `(tactic| first | walk_at "s0" | with_reducible refine wx_ite ?_)
local macro_rules | `(tactic| walk_at "A") => `(tactic| repeat walk_at "s0")
local macro_rules | `(tactic| walk_at "S") => `(tactic| repeat walk_at "s")
local macro_rules | `(tactic| walk_at "c") => `(tactic| first | refine wc_dt (by first | decide | omega) ?_ | refine wc_df (by first | decide | omega) ?_)
local macro_rules | `(tactic| walk_at "C") => `(tactic| repeat first | walk_at "s" | walk_at "c")
local macro_rules | `(tactic| walk_at "p") => `(tactic| with_reducible first | refine wn_tmp_p (by assumption) fun _ _ => ?_ | refine wd_dK_p (by assumption) fun _ _ => ?_ | refine r_item_p (by assumption) (by first | assumption | exact set_at (by assumption) | with_unfolding_all rfl) (by omega) (by first | omega | (rw [List.length_set]; omega)) fun _ _ => ?_ | refine ws_p (by assumption) (by first | assumption | exact set_at (by assumption) | with_unfolding_all rfl) (by omega) (by first | omega | (rw [List.length_set]; omega)) fun _ _ => ?_ | refine r_add_lst (by first | (with_unfolding_all rfl) | exact lstM_p (by assumption) (by first | assumption | exact set_at (by assumption) | with_unfolding_all rfl)) (by first | (with_unfolding_all rfl) | exact lstM_p (by assumption) (by first | assumption | exact set_at (by assumption) | with_unfolding_all rfl)) (by first | omega | (simp only [List.length_append, List.length_take, List.length_drop, List.length_cons, List.length_nil]; omega)) ?_ | refine r_tuple (by first | (with_unfolding_all rfl) | exact lst_p (by assumption) (by first | assumption | exact set_at (by assumption) | with_unfolding_all rfl)) ?_ | refine r_slice01 (slice_to (by first | (with_unfolding_all rfl) | exact lst_p (by assumption) (by first | assumption | exact set_at (by assumption) | with_unfolding_all rfl)) (by with_unfolding_all rfl) (by omega)) ?_ | refine r_slice10 (slice_from (by first | (with_unfolding_all rfl) | exact lst_p (by assumption) (by first | assumption | exact set_at (by assumption) | with_unfolding_all rfl)) (by with_unfolding_all rfl) (by omega)) ?_)
local macro_rules | `(tactic| walk_at "P") => `(tactic| repeat first | walk_at "p" | walk_at "d" | walk_at "s")
local macro_rules | `(tactic| walk_at "PA") => `(tactic| repeat first | walk_at "p" | walk_at "d" | walk_at "s0")
local macro_rules | `(tactic| walk_at "d") => `(tactic| with_reducible first | refine wk_pick (by assumption) (by omega) (by omega) (by omega) fun _ _ _ _ _ => ?_ | refine wn_tmp_s (by assumption) fun _ _ => ?_)
theorem hill_ok {n : Nat} {X S : Store} {most sc : Int} (k : Nat) (p : St n X S) (hm0 : 1 ≤ most) (hm1 : most ≤ 12) (hs0 : 1 ≤ sc) (hs1 : sc ≤ 33333) (hn : n ≤ 1000000) : ∃ (h : HillV) (S' : Store), h.Ok ∧ (h.ws.length : Int) ≤ most ∧ h.dark ≤ sc * 30 ∧ St (n + 300) X S' ∧ calls gl rows (k + 4) 12 [.ref 0, .int most, .int sc] S = some (h.d, S') := by
  have w : Wxs (gl.map (·.2)) (calls gl rows (k + 3)) b12 [some (.ref 0), some (.int most), some (.int sc), none, none, none, none, none, none, none] S fun o S' => ∃ (h : HillV) (J : Store), o = .rt h.d ∧ h.Ok ∧ (h.ws.length : Int) ≤ most ∧ h.dark ≤ sc * 30 ∧ St (n + 300) (X ++ J) S' := by
    unfold b12
    walk_at "PA"
    rename_i v1 S1 g1 g2 p1
    obtain ⟨m, hm⟩ : ∃ m : Nat, 2 + v1 = (m : Int) := ⟨(2 + v1).toNat, by omega⟩
    rw [hm]
    obtain ⟨spots, S2, hl2, hs2, _, p2, e2⟩ := words_ok k p1 (many := m) (by omega) (by omega)
    refine wk e2 ?_
    walk_at "PA"
    rename_i v3 S3 g3 g4 p3
    obtain ⟨mw, hmw⟩ : ∃ mw : Nat, 1 + v3 = (mw : Int) := ⟨(1 + v3).toNat, by omega⟩
    rw [hmw]
    obtain ⟨names, S4, hl4, hs4, hnd4, p4, e4⟩ := words_ok k p3 (many := mw) (by omega) (by omega)
    refine wk e4 ?_
    have hx : (X ++ [O.lst (spots.map D.str)]).length + 1 = X.length + 1 + 1 := by rw [List.length_append]; rfl
    rw [hx]
    have p5 : St (n + 200) (X ++ [.lst (spots.map .str), .lst (names.map .str)]) S4 := by
      rw [show X ++ [O.lst (spots.map .str), .lst (names.map .str)] = (X ++ [.lst (spots.map .str)]) ++ [.lst (names.map .str)] by simp]
      exact p4.mono (by omega)
    clear p1 p2 p3 p4
    walk_at "PA"
    rename_i S5 p6
    refine wx_for2 ?_
    walk_at "S"
    refine wit_s p6 (i := 1) rfl ?_
    have hsp : 2 ≤ spots.length ∧ spots.length ≤ 5 := by omega
    refine ⟨fun i ρ S => ∃ (ws : List WayV) (J : Store) (a b c d : Option D), St (n + 200 + 5 * i) (X ++ (.lst (spots.map .str) :: .lst (names.map .str) :: .lst (ws.map WayV.d) :: J)) S ∧ ws.map WayV.nm = names.take i ∧ (∀ w ∈ ws, w.Ok) ∧
        ρ = [some (.ref 0), some (.int most), some (.int sc), some (.ref (X.length + 1)), some (.ref (X.length + 1 + 1)), some (.ref (X.length + 1 + 2)), a, b, c, d], ⟨[], [], none, none, none, none, p6, rfl, (fun y hy => by cases hy), rfl⟩, ?_, ?_, ?_⟩
    · rintro i ρ S ⟨ws, J, a, b, c, d, p, _⟩
      exact chk_s p (i := 1) rfl
    · rintro i x ρ S hx ⟨ws, J, a, b, c, d, p, hwn, hwo, rfl⟩
      obtain ⟨nm, hnm, rfl⟩ := mem_strs (List.mem_of_getElem? hx)
      have hi : i < names.length := by
        have := (List.getElem?_eq_some_iff.mp hx).1
        rwa [List.length_map] at this
      have hnm2 : names[i]? = some nm := by
        rw [List.getElem?_map, Option.map_eq_some_iff] at hx
        obtain ⟨y, hy, e⟩ := hx
        cases e
        exact hy
      have hwl : ws.length = i := by
        have := congrArg List.length hwn
        rw [List.length_map, List.length_take] at this
        omega
      clear p6 p5
      walk_at "PA"
      rename_i kd S6 g5 g6 p7
      refine r_item_mem g5 (by simpa using g6) fun kk hkk => ?_
      obtain ⟨kk, rfl, hk⟩ : ∃ z : Str, kk = .str z ∧ (z = "slope" ∨ z = "lift" ∨ z = "path") := by
        simp only [List.mem_cons, List.not_mem_nil, or_false] at hkk
        rcases hkk with rfl | rfl | rfl | rfl
        · exact ⟨_, rfl, .inl rfl⟩
        · exact ⟨_, rfl, .inl rfl⟩
        · exact ⟨_, rfl, .inr (.inl rfl)⟩
        · exact ⟨_, rfl, .inr (.inr rfl)⟩
      walk_at "S"
      refine wlc_inv (fun j acc S => j ≤ 2 ∧ St (n + 200 + 5 * i + 1 + j) (X ++ (.lst (spots.map .str) :: .lst (names.map .str) :: .lst (ws.map WayV.d) :: J)) S ∧ acc.length = j ∧ ∀ x ∈ acc, ∃ s ∈ spots, x = .str s) ⟨by omega, p7, rfl, fun x hx => by cases hx⟩ (fun _ _ _ _ => chk_nil) (by rw [rngD_len]; decide) ?_ ?_
      · rintro j d acc S hj ⟨hj2, p, hal, hac⟩
        obtain ⟨hj3, rfl⟩ := rngD_get hj
        have hj4 : j < 2 := hj3
        clear p7
        walk_at "S"
        refine ⟨(fun z => by cases z), fun _ => ?_⟩
        walk_at "S"
        refine r_len_ref ((st_at p 0).trans rfl) ?_
        rw [List.length_map]
        walk_at "PA"
        rename_i v S1 h1 h2 p1
        refine r_item_s p1 (i := 0) rfl h1 (by rw [List.length_map]; omega) fun x hx => ?_
        obtain ⟨s, hs, rfl⟩ := mem_strs hx
        walk_at "S"
        refine ⟨by omega, p1, by rw [List.length_append, hal]; rfl, fun x hx => ?_⟩
        rcases List.mem_append.mp hx with hx | hx
        · exact hac x hx
        · exact ⟨s, hs, List.mem_singleton.mp hx⟩
      · rintro acc S ⟨_, p8, hal, hac⟩
        clear p7 p
        rw [rngD_len] at *
        match acc, hal with
        | [x1, x2], _ =>
          obtain ⟨st, hst, rfl⟩ := hac x1 List.mem_cons_self
          obtain ⟨en, hen, rfl⟩ := hac x2 (List.mem_cons_of_mem _ List.mem_cons_self)
          walk_at "PA"
          rename_i S7 p9
          have h9 : S7[X.length + 1 + (J.length + 3)]? = some (.lst [.str st, .str en]) := (st_at p9 (J.length + 3)).trans at_sn
          refine wv (rv_append ((st_at p9 2).trans rfl)) ?_
          walk_at "S"
          refine r_item_ref h9 (by decide) rfl ?_
          walk_at "S"
          refine r_item_ref h9 (by decide) rfl ?_
          clear p8
          walk_at "PA"
          rename_i w1 T1 k1 k2 q1 w2 T2 k3 k4 q2
          have m1 := Int.mul_nonneg (show 0 ≤ sc by omega) k1
          have m2 : sc * w1 ≤ 33333 * 8 := Int.mul_le_mul hs1 (by omega) k1 (by decide)
          have m3 := Int.mul_nonneg (show 0 ≤ sc by omega) k3
          have m4 : sc * w2 ≤ 33333 * 8 := Int.mul_le_mul hs1 (by omega) k3 (by decide)
          walk_at "S"
          refine r_append_s (i := 2) (R := X) (ds := ws.map WayV.d) q2 rfl (by rw [List.length_map]; omega) fun S8 p10 => ?_
          walk_at "S"
          refine ⟨ws ++ [⟨nm, kk, st, en, sc * w1, sc * w2⟩], J ++ [.lst [.str st, .str en]], _, _, _, _, ?_, by rw [List.map_append, hwn, List.take_succ, hnm2]; rfl, fun w hw => ?_, rfl⟩
          · rw [List.map_append]
            exact p10.mono (by omega)
          · rcases List.mem_append.mp hw with hw | hw
            · exact hwo w hw
            · rw [List.mem_singleton.mp hw]
              exact ⟨hs4 nm hnm, hk, hs2 st hst, hs2 en hen, m1, by show sc * w1 ≤ _; omega, m3, by show sc * w2 ≤ _; omega⟩
    · rintro ρ S ⟨ws, J, a, b, c, d, p, hwn, hwo, rfl⟩
      rw [List.length_map, hl4] at p hwn
      rw [← hl4, List.take_length] at hwn
      have hwl : ws.length = mw := by
        have := congrArg List.length hwn
        rw [List.length_map] at this
        omega
      clear p6 p5
      walk_at "S"
      refine r_tuple (lst_ref ((st_at p 2).trans rfl)) ?_
      walk_at "S"
      refine r_len_ref ((st_at p 0).trans rfl) ?_
      rw [List.length_map]
      walk_at "PA"
      rename_i v S1 h1 h2 p1
      refine r_item_s p1 (i := 0) rfl h1 (by rw [List.length_map]; omega) fun x hx => ?_
      obtain ⟨home, hh, rfl⟩ := mem_strs hx
      clear p
      walk_at "PA"
      rename_i w2 T2 k3 k4 q2
      have m1 := Int.mul_pos (show 0 < sc by omega) (show 0 < 1 + w2 by omega)
      have m2 : sc * (1 + w2) ≤ sc * 30 := Int.mul_le_mul_of_nonneg_left (by omega) (by omega)
      walk_at "S"
      exact ⟨⟨ws, home, sc * (1 + w2)⟩, _, rfl, ⟨by show 1 ≤ ws.length; omega, by show ws.length ≤ 12; omega, hwo, hs2 home hh, by show (ws.map WayV.nm).Nodup; rw [hwn]; exact hnd4, by show 1 ≤ sc * (1 + w2); omega, by show sc * (1 + w2) ≤ 1000000; omega⟩, by show ((ws.length : Nat) : Int) ≤ most; omega, m2, q2.mono (by omega)⟩
  obtain ⟨o, S', e, h, J, rfl, ho, hml, hdk, h3⟩ := w.h
  obtain ⟨S'', e2, h4⟩ := p.gc h3 (closed_hill _ h)
  exact ⟨h, S'', ho, hml, hdk, h4, (call_rt (r := r12) rfl rfl e).trans (congrArg some e2)⟩
theorem moment_ok {n : Nat} {X S : Store} {sc : Int} (k : Nat) (h : HillV) (ho : h.Ok) (p : St n X S) (hs0 : 1 ≤ sc) (hs1 : sc ≤ 33333) (hn : n ≤ 100000000) : ∃ (v : Int) (S' : Store), 0 ≤ v ∧ v ≤ h.dark ∧ St (n + 2) X S' ∧ calls gl rows (k + 2) 13 [.ref 0, h.d, .int sc] S = some (.int v, S') := by
  have d0 := ho.d0
  have d1 := ho.d1
  have w : Wxs (gl.map (·.2)) (calls gl rows (k + 1)) b13 [some (.ref 0), some h.d, some (.int sc)] S fun o S' => ∃ v : Int, o = .rt (.int v) ∧ 0 ≤ v ∧ v ≤ h.dark ∧ St (n + 2) X S' := by
    unfold b13 HillV.d
    walk_at "P"
    rename_i v S1 g1 g2 p1 v2 S2 g3 g4 p2
    refine r_item_mem g3 (by simpa using g4) fun y hy => ?_
    simp only [List.mem_cons, List.not_mem_nil, or_false] at hy
    have key : ∀ e : Int, ∃ v' : Int, (if (if sc * v + e > 0 then sc * v + e else 0) < h.dark then (if sc * v + e > 0 then sc * v + e else 0) else h.dark) = v' ∧ 0 ≤ v' ∧ v' ≤ h.dark := fun e => ⟨_, rfl, by split <;> split <;> omega, by split <;> split <;> omega⟩
    rcases hy with rfl | rfl | rfl | rfl
    · walk_at "S"
      obtain ⟨v', e, h1, h2⟩ := key 0
      exact ⟨_, rfl, by rw [e]; exact h1, by rw [e]; exact h2, p2⟩
    · walk_at "S"
      obtain ⟨v', e, h1, h2⟩ := key 0
      exact ⟨_, rfl, by rw [e]; exact h1, by rw [e]; exact h2, p2⟩
    · walk_at "S"
      obtain ⟨v', e, h1, h2⟩ := key 1
      exact ⟨_, rfl, by rw [e]; exact h1, by rw [e]; exact h2, p2⟩
    · walk_at "S"
      obtain ⟨v', e, h1, h2⟩ := key (-1)
      exact ⟨_, rfl, by rw [e]; exact h1, by rw [e]; exact h2, p2⟩
  obtain ⟨o, S', e, v, rfl, h2, h3, h4⟩ := w.h
  exact ⟨v, S', h2, h3, h4, (call_rt (r := r13) rfl rfl e).trans (congrArg some (gc_same (by rw [h4.len, p.len])))⟩
end LK09

namespace LK09
open PySem PyProof.Rows L2 F
local macro_rules | `(tactic| walk_at "s0") => `(tactic| with_reducible first
  | refine w_c ?_ | refine w_v (by with_unfolding_all rfl) ?_ | refine w_prim ?_ | refine wes_cons ?_ | refine wes_nil ?_ | refine wds_cons ?_ | refine wds_nil ?_ | refine wn_d ?_ | refine wn_tmp ?_
  | refine w_meth ?_ | refine w_tup ?_ | refine w_lst ?_ | refine w_and ?_ | refine w_or ?_ | refine wb_and ?_ | refine wb_or ?_ | refine wb_one ?_ | refine w_not ?_ | refine w_ite ?_ | refine w_call ?_
  | refine w_chain rfl rfl ?_ | refine w_lc ?_ | refine w_g (by with_unfolding_all rfl) ?_ | refine w_dK ?_
  | refine wxs_cons ?_ | refine wxs_nil ?_ | refine wo_nx ?_ | refine wo_rt ?_ | refine wo_bk ?_ | refine wo_ct ?_ | refine wx_asg ?_ | refine wx_par ?_ | refine wx_expr ?_ | refine wx_ret ?_ | refine wx_retN ?_ | refine wx_pass ?_ | refine wx_brk ?_ | refine wx_cont ?_
  | refine wa_n (Nat.le_of_ble_eq_true (by with_unfolding_all rfl)) ?_ | refine wa_tup ?_ | refine wa_sub ?_ | refine was_cons ?_ | refine was_nil ?_ | refine wf_nil ?_ | refine wf_one ?_
  | refine wi_seq ?_ | refine wi_range1 ?_ | refine wi_range2 ?_ | refine wi_zip ?_ | refine wi_enum ?_
  | refine wl (Nat.le_of_ble_eq_true (by with_unfolding_all rfl)) ?_ | refine wv (by with_unfolding_all rfl) ?_ | refine ws_lst (by with_unfolding_all rfl) (by first | decide | omega) (Nat.le_of_ble_eq_true (by with_unfolding_all rfl)) ?_ | refine wpar (by with_unfolding_all rfl) ?_ | refine wit (by with_unfolding_all rfl) ?_ | refine wen (by with_unfolding_all rfl) ?_ | refine wint (by omega) ?_
  | refine wc_t ?_ | refine wc_f ?_
  | refine r_add ?_ | refine r_sub ?_ | refine r_neg ?_ | refine r_lt ?_ | refine r_le ?_ | refine r_gt ?_ | refine r_ge ?_ | refine r_abs ?_ | refine r_min ?_ | refine r_max ?_ | refine r_isN ?_ | refine r_isB ?_
  | refine r_ne_nil (by with_unfolding_all rfl) (pdL_ints _) ?_ | refine r_eq_nil (by with_unfolding_all rfl) (pdL_ints _) ?_ | refine r_popAt (by with_unfolding_all rfl) ?_
  | refine r_eq_tt ?_ | refine r_eq_ff ?_ | refine r_eq_tf ?_ | refine r_eq_ft ?_
  | refine r_eq_int ?_ | refine r_ne_int ?_ | refine r_eq_bl ?_ | refine r_ne_bl ?_
  | refine r_pow18 ?_ | refine r_pow30 ?_ | refine r_pow48 ?_ | refine r_pow60 ?_ | refine r_pow900 ?_ | refine r_mod big900_pos ?_
  | refine r_mod (by first | decide | omega) ?_ | refine r_fdiv (by first | decide | omega) (by first | decide | omega) ?_ | refine r_mul (by first | decide | omega) (by first | decide | omega) ?_ | refine r_pow (by first | decide | omega) (by first | decide | omega) (by first | decide | omega) ?_
  | refine r_item_ref (by with_unfolding_all rfl) (by first | decide | omega) (by with_unfolding_all rfl) ?_ | refine r_item_tmp (by first | decide | omega) (by with_unfolding_all rfl) ?_ | refine r_item_tup (by first | decide | omega) (by with_unfolding_all rfl) ?_
  | refine r_item_rol (by first | decide | omega) (by with_unfolding_all rfl) ?_ | refine r_len_tmp ?_ | refine r_len_tup ?_ | refine r_len_rol ?_ | refine r_len_ref (by with_unfolding_all rfl) ?_
  | refine r_inst (by with_unfolding_all rfl) ?_)
local macro_rules | `(tactic| walk_at "s") => `(tactic| first | walk_at "s0" | with_reducible refine wx_ite ?_)
local macro_rules | `(tactic| walk_at "A") => `(tactic| repeat walk_at "s0")
local macro_rules | `(tactic| walk_at "S") => `(tactic| repeat walk_at "s")
local macro_rules | `(tactic| walk_at "c") => `(tactic| first | refine wc_dt (by first | decide | omega) ?_ | refine wc_df (by first | decide | omega) ?_)
local macro_rules | `(tactic| walk_at "C") => `(tactic| repeat first | walk_at "s" | walk_at "c")
local macro_rules | `(tactic| walk_at "p") => `(tactic| with_reducible first | refine wn_tmp_p (by assumption) fun _ _ => ?_ | refine wd_dK_p (by assumption) fun _ _ => ?_ | refine r_item_p (by assumption) (by first | assumption | exact set_at (by assumption) | with_unfolding_all rfl) (by omega) (by first | omega | (rw [List.length_set]; omega)) fun _ _ => ?_ | refine ws_p (by assumption) (by first | assumption | exact set_at (by assumption) | with_unfolding_all rfl) (by omega) (by first | omega | (rw [List.length_set]; omega)) fun _ _ => ?_ | refine r_add_lst (by first | (with_unfolding_all rfl) | exact lstM_p (by assumption) (by first | assumption | exact set_at (by assumption) | with_unfolding_all rfl)) (by first | (with_unfolding_all rfl) | exact lstM_p (by assumption) (by first | assumption | exact set_at (by assumption) | with_unfolding_all rfl)) (by first | omega | (simp only [List.length_append, List.length_take, List.length_drop, List.length_cons, List.length_nil]; omega)) ?_ | refine r_tuple (by first | (with_unfolding_all rfl) | exact lst_p (by assumption) (by first | assumption | exact set_at (by assumption) | with_unfolding_all rfl)) ?_ | refine r_slice01 (slice_to (by first | (with_unfolding_all rfl) | exact lst_p (by assumption) (by first | assumption | exact set_at (by assumption) | with_unfolding_all rfl)) (by with_unfolding_all rfl) (by omega)) ?_ | refine r_slice10 (slice_from (by first | (with_unfolding_all rfl) | exact lst_p (by assumption) (by first | assumption | exact set_at (by assumption) | with_unfolding_all rfl)) (by with_unfolding_all rfl) (by omega)) ?_)
local macro_rules | `(tactic| walk_at "P") => `(tactic| repeat first | walk_at "p" | walk_at "d" | walk_at "s")
local macro_rules | `(tactic| walk_at "PA") => `(tactic| repeat first | walk_at "p" | walk_at "d" | walk_at "s0")
local macro_rules | `(tactic| walk_at "d") => `(tactic| with_reducible first | refine wk_pick (by assumption) (by omega) (by omega) (by omega) fun _ _ _ _ _ => ?_ | refine wn_tmp_s (by assumption) fun _ _ => ?_)
theorem sixty_sm {n : Int} (h : -1000000 ≤ n ∧ n ≤ 1000000) : Sixty n := ⟨by omega, by omega⟩
theorem way_at {h : HillV} {v : Int} (h0 : 0 ≤ v) (h1 : v < h.ws.length) : ∃ w ∈ h.ws, (h.ws.map WayV.d)[v.toNat]? = some w.d := by
  have hlt : v.toNat < h.ws.length := by omega
  exact ⟨h.ws[v.toNat], List.getElem_mem hlt, by rw [List.getElem?_map, List.getElem?_eq_getElem hlt]; rfl⟩
theorem rule_ok {n i : Nat} {R J S : Store} {sc : Int} {posts : List Str} (k : Nat) (h : HillV) (ho : h.Ok) (p : St n (R ++ J) S) (hp : J[i]? = some (.lst (posts.map .str))) (hp0 : 1 ≤ posts.length) (hp1 : posts.length ≤ 100) (hpn : ∀ y ∈ posts, Name y) (hs0 : 1 ≤ sc) (hs1 : sc ≤ 33333) (hn : n ≤ 100000000) :
    ∃ (x : RuleV) (S' : Store), x.Ok h ∧ St (n + 7) (R ++ J) S' ∧ calls gl rows (k + 2) 14 [.ref 0, h.d, .ref (R.length + 1 + i), .int sc] S = some (x.d, S') := by
  have l0 := ho.l0
  have l1 := ho.l1
  have w : Wxs (gl.map (·.2)) (calls gl rows (k + 1)) b14 [some (.ref 0), some h.d, some (.ref (R.length + 1 + i)), some (.int sc), none, none, none, none, none, none] S fun o S' => ∃ x : RuleV, o = .rt x.d ∧ x.Ok h ∧ St (n + 7) (R ++ J) S' := by
    unfold b14
    walk_at "PA"
    rename_i way S1 g1 g2 p1
    refine r_len_ref ((st_at p1 i).trans hp) ?_
    rw [List.length_map]
    walk_at "PA"
    rename_i v2 S2 g3 g4 p2
    refine r_item_s p2 hp g3 (by rw [List.length_map]; omega) fun x hx => ?_
    obtain ⟨post, hpost, rfl⟩ := mem_strs hx
    unfold HillV.d
    walk_at "PA"
    rename_i v3 S3 g5 g6 p3 v4 S4 g7 g8 p4 v5 S5 g9 g10 p5 v6 S6 g11 g12 p6
    rw [List.length_map]
    walk_at "PA"
    rename_i v7 S7 g13 g14 p7
    obtain ⟨w, hw, hwd⟩ := way_at (h := h) g13 (by omega)
    refine r_item_tup g13 hwd ?_
    unfold WayV.d
    walk_at "A"
    have m1 := Int.mul_nonneg (show 0 ≤ sc by omega) g7
    have m2 : sc * v4 ≤ 33333 * 30 := Int.mul_le_mul hs1 (by omega) g7 (by decide)
    have m3 := Int.mul_pos (show 0 < sc by omega) (show 0 < 1 + v5 by omega)
    have m4 : sc * (1 + v5) ≤ 33333 * 12 := Int.mul_le_mul hs1 (by omega) (by omega) (by decide)
    have pend : St (n + 7) (R ++ J) S7 := p7.mono (by omega)
    clear p1 p2 p3 p4 p5 p6 p7
    generalize sc * v4 = fi at *
    generalize sc * (1 + v5) = la at *
    walk_at "S"
    refine wc_dec (fun _ => ?_) fun _ => ?_
    · walk_at "S"
      refine ⟨.hours fi (if fi + (if la + v6 - 1 > 1 then la + v6 - 1 else 1) < 1000001 then fi + (if la + v6 - 1 > 1 then la + v6 - 1 else 1) else 1000001), rfl, ?_, pend⟩
      show 0 ≤ fi ∧ fi < _ ∧ _ ≤ (1000001 : Int)
      refine ⟨by omega, ?_, ?_⟩ <;> split <;> split <;> omega
    · walk_at "S"
      refine wc_dec (fun _ => ?_) fun _ => ?_
      · walk_at "S"
        have e1 : way % 2 = 0 ∨ way % 2 = 1 := by omega
        rcases e1 with e1 | e1
        · rw [e1]
          walk_at "S"
          exact ⟨.least post (v3 - 3), rfl, ⟨hpn post hpost, sixty_sm (by omega)⟩, pend⟩
        · rw [e1]
          walk_at "S"
          exact ⟨.most post (v3 - 3), rfl, ⟨hpn post hpost, sixty_sm (by omega)⟩, pend⟩
      · walk_at "S"
        refine wc_dec (fun _ => ?_) fun _ => ?_
        · walk_at "S"
          refine ⟨.looked (if la + v6 - 1 > 1 then la + v6 - 1 else 1), rfl, ?_, pend⟩
          show 1 ≤ _ ∧ _ ≤ (1000000 : Int)
          refine ⟨?_, ?_⟩ <;> split <;> omega
        · walk_at "S"
          refine wc_dec (fun _ => ?_) fun _ => ?_
          · walk_at "S"
            refine r_int1S ?_
            by_cases hb : 0 < v3 - 3
            · rw [decide_eq_true hb, if_pos rfl]
              walk_at "S"
              exact ⟨.never, rfl, trivial, pend⟩
            · rw [decide_eq_false hb, if_neg Bool.false_ne_true]
              walk_at "S"
              exact ⟨.along w.nm, rfl, ⟨w, hw, rfl⟩, pend⟩
          · walk_at "S"
            refine r_int1S ?_
            rw [if_neg Bool.false_ne_true]
            walk_at "S"
            exact ⟨.along w.nm, rfl, ⟨w, hw, rfl⟩, pend⟩
  obtain ⟨o, S', e, x, rfl, h1, h2⟩ := w.h
  exact ⟨x, S', h1, h2, (call_rt (r := r14) rfl rfl e).trans (congrArg some (gc_same (by rw [h2.len, p.len])))⟩
theorem closed_int (m : Nat) (v : Int) : closed m (.int v) = true := by unfold closed; rfl
theorem number_ok {n i : Nat} {R J S : Store} {ns : List Int} (k : Nat) (p : St n (R ++ J) S) (h : J[i]? = some (.lst (ns.map .int))) (hl : ns.length ≤ 69) (hn : n ≤ 100000000) : ∃ (v : Int) (S' : Store), 0 ≤ v ∧ v ≤ 999999 ∧ v ∉ ns ∧ St (n + 2) (R ++ J) S' ∧ calls gl rows (k + 2) 15 [.ref 0, .ref (R.length + 1 + i)] S = some (.int v, S') := by
  have w : Wxs (gl.map (·.2)) (calls gl rows (k + 1)) b15 [some (.ref 0), some (.ref (R.length + 1 + i)), none, none, none, none] S fun o S' => ∃ (v : Int) (J' : Store), o = .rt (.int v) ∧ 0 ≤ v ∧ v ≤ 999999 ∧ v ∉ ns ∧ St (n + 2) (R ++ J ++ J') S' := by
    unfold b15
    walk_at "P"
    rename_i v1 S1 g1 g2 p1
    refine r_item_mem g1 (by simpa using g2) fun y hy => ?_
    obtain ⟨y, rfl, hy0, hy1⟩ : ∃ z : Int, y = .int z ∧ 20 ≤ z ∧ z ≤ 1000000 := by
      simp only [List.mem_cons, List.not_mem_nil, or_false] at hy
      rcases hy with rfl | rfl <;> exact ⟨_, rfl, by decide, by decide⟩
    walk_at "PA"
    rename_i v2 S2 g3 g4 p2
    clear p1
    refine wlc_map (fun k : Nat => D.int (0 + (k : Int))) (List.range 70) (fun _ => true) (fun k => .int ((v2 + (k : Int)) % 1000000)) rfl chk_nil (by rw [List.length_range]; decide) (fun j _ => ?_) ?_
    · walk_at "S"
      refine ⟨rfl, rfl, rfl, fun _ => ?_⟩
      walk_at "S"
      refine ⟨?_, rfl⟩
      rw [Int.zero_add]
    · rw [List.filter_eq_self.mpr fun _ _ => rfl]
      have e1 : ((List.range 70).map fun k : Nat => D.int ((v2 + (k : Int)) % 1000000)) = (seventy v2).map D.int := by unfold seventy; rw [List.map_map]; rfl
      rw [e1]
      walk_at "PA"
      rename_i S3 p3
      have h3 : (J ++ [O.lst ((seventy v2).map .int)])[i]? = some (.lst (ns.map .int)) := by rw [List.getElem?_append_left (List.getElem?_eq_some_iff.mp h).1]; exact h
      refine wit_s p3 at_sn ?_
      refine wlc_map D.int (seventy v2) (fun y => !(ns.any fun x => decide (x = y))) D.int rfl (chk_s p3 at_sn) (by unfold seventy; rw [List.length_map, List.length_range]; decide) (fun y _ => ?_) ?_
      · walk_at "S"
        refine r_isin (inT_ints_at (ys := ns) ((st_at p3 i).trans h3)) ?_
        cases hb : ns.any fun x => decide (x = y) with
        | true => exact wc_f ⟨rfl, rfl, rfl, fun z => by cases z⟩
        | false =>
          refine wc_t ⟨rfl, rfl, rfl, fun _ => ?_⟩
          walk_at "S"
          exact ⟨rfl, rfl⟩
      · obtain ⟨y, hy1, hy2⟩ := seventy_free (v := v2) hl
        have hmem : y ∈ (seventy v2).filter fun y => !(ns.any fun x => decide (x = y)) := List.mem_filter.mpr ⟨hy1, by
          rw [Bool.not_eq_true', List.any_eq_false]
          intro x hx e
          exact hy2 (of_decide_eq_true e ▸ hx)⟩
        cases hf : (seventy v2).filter fun y => !(ns.any fun x => decide (x = y)) with
        | nil => rw [hf] at hmem; cases hmem
        | cons a r =>
          have ha : a ∈ (seventy v2).filter fun y => !(ns.any fun x => decide (x = y)) := by rw [hf]; exact List.mem_cons_self
          obtain ⟨ha1, ha2⟩ := List.mem_filter.mp ha
          have hb := seventy_bd ha1
          walk_at "S"
          refine ⟨a, [O.lst ((seventy v2).map .int)], rfl, hb.1, hb.2, fun hin => ?_, by rw [List.append_assoc]; exact p3⟩
          rw [Bool.not_eq_true', List.any_eq_false] at ha2
          exact ha2 a hin (decide_eq_true rfl)
  obtain ⟨o, S', e, v, J', rfl, h1, h2, h3, h4⟩ := w.h
  obtain ⟨S'', e2, h5⟩ := p.gc h4 (closed_int _ v)
  exact ⟨v, S'', h1, h2, h3, h5, (call_rt (r := r15) rfl rfl e).trans (congrArg some e2)⟩
end LK09

namespace LK09
open PySem PyProof.Rows L2 F
local macro_rules | `(tactic| walk_at "s0") => `(tactic| with_reducible first
  | refine w_c ?_ | refine w_v (by with_unfolding_all rfl) ?_ | refine w_prim ?_ | refine wes_cons ?_ | refine wes_nil ?_ | refine wds_cons ?_ | refine wds_nil ?_ | refine wn_d ?_ | refine wn_tmp ?_
  | refine w_meth ?_ | refine w_tup ?_ | refine w_lst ?_ | refine w_and ?_ | refine w_or ?_ | refine wb_and ?_ | refine wb_or ?_ | refine wb_one ?_ | refine w_not ?_ | refine w_ite ?_ | refine w_call ?_
  | refine w_chain rfl rfl ?_ | refine w_lc ?_ | refine w_g (by with_unfolding_all rfl) ?_ | refine w_dK ?_
  | refine wxs_cons ?_ | refine wxs_nil ?_ | refine wo_nx ?_ | refine wo_rt ?_ | refine wo_bk ?_ | refine wo_ct ?_ | refine wx_asg ?_ | refine wx_par ?_ | refine wx_expr ?_ | refine wx_ret ?_ | refine wx_retN ?_ | refine wx_pass ?_ | refine wx_brk ?_ | refine wx_cont ?_
  | refine wa_n (Nat.le_of_ble_eq_true (by with_unfolding_all rfl)) ?_ | refine wa_tup ?_ | refine wa_sub ?_ | refine was_cons ?_ | refine was_nil ?_ | refine wf_nil ?_ | refine wf_one ?_
  | refine wi_seq ?_ | refine wi_range1 ?_ | refine wi_range2 ?_ | refine wi_zip ?_ | refine wi_enum ?_
  | refine wl (Nat.le_of_ble_eq_true (by with_unfolding_all rfl)) ?_ | refine wv (by with_unfolding_all rfl) ?_ | refine ws_lst (by with_unfolding_all rfl) (by first | decide | omega) (Nat.le_of_ble_eq_true (by with_unfolding_all rfl)) ?_ | refine wpar (by with_unfolding_all rfl) ?_ | refine wit (by with_unfolding_all rfl) ?_ | refine wen (by with_unfolding_all rfl) ?_ | refine wint (by omega) ?_
  | refine wc_t ?_ | refine wc_f ?_
  | refine r_add ?_ | refine r_sub ?_ | refine r_neg ?_ | refine r_lt ?_ | refine r_le ?_ | refine r_gt ?_ | refine r_ge ?_ | refine r_abs ?_ | refine r_min ?_ | refine r_max ?_ | refine r_isN ?_ | refine r_isB ?_
  | refine r_ne_nil (by with_unfolding_all rfl) (pdL_ints _) ?_ | refine r_eq_nil (by with_unfolding_all rfl) (pdL_ints _) ?_ | refine r_popAt (by with_unfolding_all rfl) ?_
  | refine r_eq_tt ?_ | refine r_eq_ff ?_ | refine r_eq_tf ?_ | refine r_eq_ft ?_
  | refine r_eq_int ?_ | refine r_ne_int ?_ | refine r_eq_bl ?_ | refine r_ne_bl ?_
  | refine r_pow18 ?_ | refine r_pow30 ?_ | refine r_pow48 ?_ | refine r_pow60 ?_ | refine r_pow900 ?_ | refine r_mod big900_pos ?_
  | refine r_mod (by first | decide | omega) ?_ | refine r_fdiv (by first | decide | omega) (by first | decide | omega) ?_ | refine r_mul (by first | decide | omega) (by first | decide | omega) ?_ | refine r_pow (by first | decide | omega) (by first | decide | omega) (by first | decide | omega) ?_
  | refine r_item_ref (by with_unfolding_all rfl) (by first | decide | omega) (by with_unfolding_all rfl) ?_ | refine r_item_tmp (by first | decide | omega) (by with_unfolding_all rfl) ?_ | refine r_item_tup (by first | decide | omega) (by with_unfolding_all rfl) ?_
  | refine r_item_rol (by first | decide | omega) (by with_unfolding_all rfl) ?_ | refine r_len_tmp ?_ | refine r_len_tup ?_ | refine r_len_rol ?_ | refine r_len_ref (by with_unfolding_all rfl) ?_
  | refine r_inst (by with_unfolding_all rfl) ?_)
local macro_rules | `(tactic| walk_at "s") => `(tactic| first | walk_at "s0" | with_reducible refine wx_ite ?_)
local macro_rules | `(tactic| walk_at "A") => `(tactic| repeat walk_at "s0")
local macro_rules | `(tactic| walk_at "S") => `(tactic| repeat walk_at "s")
local macro_rules | `(tactic| walk_at "c") => `(tactic| first | refine wc_dt (by first | decide | omega) ?_ | refine wc_df (by first | decide | omega) ?_)
local macro_rules | `(tactic| walk_at "C") => `(tactic| repeat first | walk_at "s" | walk_at "c")
local macro_rules | `(tactic| walk_at "p") => `(tactic| with_reducible first | refine wn_tmp_p (by assumption) fun _ _ => ?_ | refine wd_dK_p (by assumption) fun _ _ => ?_ | refine r_item_p (by assumption) (by first | assumption | exact set_at (by assumption) | with_unfolding_all rfl) (by omega) (by first | omega | (rw [List.length_set]; omega)) fun _ _ => ?_ | refine ws_p (by assumption) (by first | assumption | exact set_at (by assumption) | with_unfolding_all rfl) (by omega) (by first | omega | (rw [List.length_set]; omega)) fun _ _ => ?_ | refine r_add_lst (by first | (with_unfolding_all rfl) | exact lstM_p (by assumption) (by first | assumption | exact set_at (by assumption) | with_unfolding_all rfl)) (by first | (with_unfolding_all rfl) | exact lstM_p (by assumption) (by first | assumption | exact set_at (by assumption) | with_unfolding_all rfl)) (by first | omega | (simp only [List.length_append, List.length_take, List.length_drop, List.length_cons, List.length_nil]; omega)) ?_ | refine r_tuple (by first | (with_unfolding_all rfl) | exact lst_p (by assumption) (by first | assumption | exact set_at (by assumption) | with_unfolding_all rfl)) ?_ | refine r_slice01 (slice_to (by first | (with_unfolding_all rfl) | exact lst_p (by assumption) (by first | assumption | exact set_at (by assumption) | with_unfolding_all rfl)) (by with_unfolding_all rfl) (by omega)) ?_ | refine r_slice10 (slice_from (by first | (with_unfolding_all rfl) | exact lst_p (by assumption) (by first | assumption | exact set_at (by assumption) | with_unfolding_all rfl)) (by with_unfolding_all rfl) (by omega)) ?_)
local macro_rules | `(tactic| walk_at "P") => `(tactic| repeat first | walk_at "p" | walk_at "d" | walk_at "s")
local macro_rules | `(tactic| walk_at "PA") => `(tactic| repeat first | walk_at "p" | walk_at "d" | walk_at "s0")
theorem r_eq_strs {S : Store} {x y : Str} {R : T → Store → Prop} (k : R (.d (.bl (decide (x = y)))) S) : Wp .eq [.d (.str x), .d (.str y)] S R := by
  refine r_eq (p := .str x) (q := .str y) rfl rfl ?_
  rw [eqv_str, Bool.bne_false]; exact k
local macro_rules | `(tactic| walk_at "d") => `(tactic| with_reducible first | refine r_eq_strs ?_ | refine wk_pick (by assumption) (by omega) (by omega) (by omega) fun _ _ _ _ _ => ?_ | refine wn_tmp_s (by assumption) fun _ _ => ?_)
theorem mul_bit {m d : Int} {b : Bool} (h0 : 0 ≤ m) (h1 : m ≤ d) : 0 ≤ m * (if b then 1 else 0) ∧ m * (if b then 1 else 0) ≤ d := by
  cases b with
  | true => rw [if_pos rfl]; omega
  | false => rw [if_neg (by decide)]; omega
theorem pages_ok {n : Nat} {X S : Store} {sc : Int} (k : Nat) (h : HillV) (ho : h.Ok) (many : Nat) (hm : many ≤ 60) (p : St n X S) (hs0 : 1 ≤ sc) (hs1 : sc ≤ 33333) (hn : n ≤ 1000000) :
    ∃ (ps : List PageV) (o1 o2 o3 : O) (J S' : Store), ps.length = many ∧ (∀ p ∈ ps, p.Ok h) ∧ (ps.map PageV.num).Nodup ∧ St (n + 50 + 60 * many) (X ++ (o1 :: o2 :: o3 :: .lst (ps.map PageV.d) :: J)) S' ∧ calls gl rows (k + 4) 16 [.ref 0, h.d, .int sc, .int (many : Nat)] S = some (.ref (X.length + 1 + 3), S') := by
  have l0 := ho.l0
  have l1 := ho.l1
  have d1 := ho.d1
  obtain ⟨w0, hw0, hwd0⟩ := way_at (h := h) (v := 0) (by decide) (by omega)
  have w : Wxs (gl.map (·.2)) (calls gl rows (k + 3)) b16 [some (.ref 0), some h.d, some (.int sc), some (.int (many : Nat)), none, none, none, none, none, none, none, none, none, none, none, none, none] S fun o S' => o = .rt (.ref (X.length + 1 + 3)) ∧ ∃ (ps : List PageV) (o1 o2 o3 : O) (J : Store), ps.length = many ∧ (∀ p ∈ ps, p.Ok h) ∧ (ps.map PageV.num).Nodup ∧ St (n + 50 + 60 * many) (X ++ (o1 :: o2 :: o3 :: .lst (ps.map PageV.d) :: J)) S' := by
    unfold b16
    walk_at "PA"
    rename_i v1 S1 g1 g2 p1
    obtain ⟨m, hm'⟩ : ∃ m : Nat, 1 + v1 = (m : Int) := ⟨(1 + v1).toNat, by omega⟩
    rw [hm']
    obtain ⟨wd, S2, hl2, hs2, _, p2, e2⟩ := words_ok k p1 (many := m) (by omega) (by omega)
    refine wk e2 ?_
    unfold HillV.d
    walk_at "S"
    refine r_item_tup (by decide) hwd0 ?_
    unfold WayV.d
    walk_at "PA"
    rename_i v2 S3 g3 g4 p3
    refine r_mul_lst rfl (fun x z => by cases z) g3 (by omega) (Nat.le_of_ble_eq_true rfl) ?_
    have e0 : (List.replicate v2.toNat [D.str w0.nm]).flatten = (List.replicate v2.toNat w0.nm).map D.str := by
      have : v2 = 0 ∨ v2 = 1 := by omega
      rcases this with e | e <;> subst e <;> rfl
    rw [e0]
    walk_at "S"
    refine r_add_lst (lstM_s p3 (i := 0) rfl) rfl (by rw [List.length_map, List.length_map, List.length_replicate]; omega) ?_
    rw [← List.map_append]
    have hposts : ∀ y ∈ wd ++ List.replicate v2.toNat w0.nm, Name y := fun y hy => by
      rcases List.mem_append.mp hy with hy | hy
      · exact hs2 y hy
      · rw [(List.mem_replicate.mp hy).2]; exact (ho.ws w0 hw0).nm
    have hpl : 1 ≤ (wd ++ List.replicate v2.toNat w0.nm).length ∧ (wd ++ List.replicate v2.toNat w0.nm).length ≤ 100 := by rw [List.length_append, List.length_replicate]; omega
    generalize wd ++ List.replicate v2.toNat w0.nm = posts at hposts hpl
    have p4 : St (n + 50) (X ++ [.lst (wd.map .str)]) S3 := p3.mono (by omega)
    clear p1 p2 p3
    walk_at "PA"
    rename_i S4 p5
    clear p4
    refine wlc_map WayV.d h.ws (fun w => decide (w.kind = ("slope" : Str))) (fun w => .str w.nm) rfl chk_nil (by omega) (fun w _ => ?_) ?_
    · unfold WayV.d
      walk_at "P"
      refine wc_dec (fun e => ?_) fun e => ?_
      · refine ⟨(decide_eq_true e).symm, rfl, rfl, fun _ => ?_⟩
        walk_at "P"
        exact ⟨rfl, rfl⟩
      · exact ⟨(decide_eq_false e).symm, rfl, rfl, fun z => by cases z⟩
    rw [show ((h.ws.filter fun w => decide (w.kind = ("slope" : Str))).map fun w => D.str w.nm) = ((h.ws.filter fun w => decide (w.kind = ("slope" : Str))).map WayV.nm).map D.str by rw [List.map_map]; rfl]
    have hsl : ∀ y ∈ (h.ws.filter fun w => decide (w.kind = ("slope" : Str))).map WayV.nm, ∃ w ∈ h.ws, w.nm = y ∧ w.kind = "slope" := fun y hy => by
      obtain ⟨w, hw, rfl⟩ := List.mem_map.mp hy
      obtain ⟨h1, h2⟩ := List.mem_filter.mp hw
      exact ⟨w, h1, rfl, of_decide_eq_true h2⟩
    have hsll : ((h.ws.filter fun w => decide (w.kind = ("slope" : Str))).map WayV.nm).length ≤ 12 := by rw [List.length_map]; exact Nat.le_trans (List.length_filter_le _ _) l1
    generalize (h.ws.filter fun w => decide (w.kind = ("slope" : Str))).map WayV.nm = sl at hsl hsll
    walk_at "PA"
    rename_i S5 p6 S6 p7 S7 p8
    clear p5 p6 p7
    refine wx_for2 ?_
    walk_at "S"
    refine ⟨fun i ρ S => ∃ (ps : List PageV) (J : Store) (a b c d e f g q z : Option D), St (n + 50 + 60 * i) (X ++ (.lst (wd.map .str) :: .lst (posts.map .str) :: .lst (sl.map .str) :: .lst (ps.map PageV.d) :: .lst ((ps.map PageV.num).map .int) :: J)) S ∧ ps.length = i ∧ (∀ p ∈ ps, p.Ok h) ∧ (ps.map PageV.num).Nodup ∧
        ρ = [some (.ref 0), some h.d, some (.int sc), some (.int (many : Nat)), some (.ref (X.length + 1 + 1)), some (.ref (X.length + 1 + 2)), q, some (.ref (X.length + 1 + 3)), some (.ref (X.length + 1 + 4)), z, a, b, c, d, e, f, g], ⟨[], [], none, none, none, none, none, none, none, none, none, p8, rfl, (fun y hy => by cases hy), List.nodup_nil, rfl⟩, fun _ _ _ _ => chk_nil, ?_, ?_⟩
    · rintro i d0 ρ S hi ⟨ps, J, a, b, c, d, e, f, g, q, z, p, hpsl, hpo, hnd, rfl⟩
      obtain ⟨hi2, rfl⟩ := rngD_get hi
      rw [Int.toNat_natCast] at hi2
      clear p8
      walk_at "PA"
      rename_i kd S1 g5 g6 p1
      obtain ⟨mm, S2, m0, m1, p2, e2⟩ := moment_ok (k + 1) h ho p1 hs0 hs1 (by omega)
      refine wk e2 ?_
      clear p1 p
      walk_at "PA"
      rename_i v3 S3 g7 g8 p3
      refine r_int1S (wes_nil ?_)
      obtain ⟨mo0, mo1⟩ := mul_bit (m := mm) (d := h.dark) (b := decide (0 < v3)) m0 m1
      refine r_mul (i := mm) (j := if decide (0 < v3) = true then 1 else 0) (by omega) (by cases decide (0 < v3) <;> decide) ?_
      generalize mm * (if decide (0 < v3) = true then 1 else 0) = mo at mo0 mo1
      clear p2
      walk_at "S"
      refine wv (rv_append ((st_at p3 4).trans rfl)) ?_
      walk_at "S"
      obtain ⟨nu, S4, n0, n1, nni, p4, e4⟩ := number_ok (k + 1) p3 (i := 4) rfl (by rw [List.length_map]; omega) (by omega)
      refine wk e4 ?_
      walk_at "S"
      refine r_append_s (i := 4) (R := X) (ds := (ps.map PageV.num).map .int) p4 rfl (by rw [List.length_map, List.length_map]; omega) fun S5 p5 => ?_
      have p5 : St (n + 50 + 60 * i + 6) (X ++ (.lst (wd.map .str) :: .lst (posts.map .str) :: .lst (sl.map .str) :: .lst (ps.map PageV.d) :: .lst ((ps.map PageV.num).map .int ++ [.int nu]) :: J)) S5 := p5.mono (by omega)
      clear p3 p4
      have fin : ∀ (pg : PageV) (J' S' : Store) (m : Nat), pg.Ok h → pg.num = nu → m ≤ n + 50 + 60 * (i + 1) → St m (X ++ (.lst (wd.map .str) :: .lst (posts.map .str) :: .lst (sl.map .str) :: .lst (ps.map PageV.d ++ [pg.d]) :: .lst ((ps.map PageV.num).map .int ++ [.int nu]) :: J')) S' → ∃ (ps' : List PageV) (J : Store), St (n + 50 + 60 * (i + 1)) (X ++ (.lst (wd.map .str) :: .lst (posts.map .str) :: .lst (sl.map .str) :: .lst (ps'.map PageV.d) :: .lst ((ps'.map PageV.num).map .int) :: J)) S' ∧ ps'.length = i + 1 ∧ (∀ p ∈ ps', p.Ok h) ∧ (ps'.map PageV.num).Nodup := by
        intro pg J' S' m hok hnu hml pst
        refine ⟨ps ++ [pg], J', ?_, by rw [List.length_append, hpsl]; rfl, fun p hp => ?_, ?_⟩
        · rw [List.map_append, List.map_append, List.map_append]
          show St _ (X ++ (_ :: _ :: _ :: .lst (ps.map PageV.d ++ [pg.d]) :: .lst ((ps.map PageV.num).map .int ++ [.int pg.num]) :: J')) S'
          rw [hnu]
          exact pst.mono hml
        · rcases List.mem_append.mp hp with hp | hp
          · exact hpo p hp
          · rw [List.mem_singleton.mp hp]; exact hok
        · rw [List.map_append]
          refine List.nodup_append.mpr ⟨hnd, by simp, fun a ha b hb e => ?_⟩
          have hb2 : b = pg.num := List.mem_singleton.mp hb
          rw [e, hb2, hnu] at ha
          exact nni ha
      walk_at "S"
      refine wc_dec (fun _ => ?_) fun _ => ?_
      · unfold HillV.d
        walk_at "S"
        rw [List.length_map]
        walk_at "PA"
        rename_i v6 S6 g9 g10 p6
        obtain ⟨w1, hw1, hwd1⟩ := way_at (h := h) g9 (by omega)
        refine r_item_tup g9 hwd1 ?_
        unfold WayV.d
        clear p5
        walk_at "PA"
        rename_i v7 S7 g11 g12 p7
        refine r_item_mem g11 (by simpa using g12) fun y hy => ?_
        obtain ⟨sz, rfl, hsz⟩ : ∃ z : Nat, y = .int (z : Int) ∧ z ≤ 6 := by
          simp only [List.mem_cons, List.not_mem_nil, or_false] at hy
          rcases hy with rfl | rfl | rfl | rfl | rfl | rfl | rfl | rfl
          · exact ⟨0, rfl, by decide⟩
          · exact ⟨1, rfl, by decide⟩
          · exact ⟨1, rfl, by decide⟩
          · exact ⟨1, rfl, by decide⟩
          · exact ⟨2, rfl, by decide⟩
          · exact ⟨2, rfl, by decide⟩
          · exact ⟨3, rfl, by decide⟩
          · exact ⟨6, rfl, by decide⟩
        clear p6
        walk_at "S"
        refine wlc_inv (fun j acc S => j ≤ 6 ∧ St (n + 50 + 60 * i + 8 + 7 * j) (X ++ (.lst (wd.map .str) :: .lst (posts.map .str) :: .lst (sl.map .str) :: .lst (ps.map PageV.d) :: .lst ((ps.map PageV.num).map .int ++ [.int nu]) :: J)) S ∧ ∃ rs : List RuleV, acc = rs.map RuleV.d ∧ rs.length = j ∧ ∀ r ∈ rs, r.Ok h) ⟨by omega, p7.mono (by omega), [], rfl, rfl, fun r hr => by cases hr⟩ (fun _ _ _ _ => chk_nil) (by rw [rngD_len]; omega) ?_ ?_
        · rintro j dj acc S hj ⟨hj6, p, rs, rfl, hrl, hro⟩
          obtain ⟨hj2, rfl⟩ := rngD_get hj
          rw [Int.toNat_natCast] at hj2
          clear p7
          walk_at "S"
          refine ⟨(fun z => by cases z), fun _ => ?_⟩
          walk_at "S"
          obtain ⟨x, S8, hx, p8, e8⟩ := rule_ok (k + 1) h ho p (i := 1) rfl hpl.1 hpl.2 hposts hs0 hs1 (by omega)
          unfold HillV.d at e8
          refine wk e8 ?_
          walk_at "S"
          refine ⟨by omega, p8.mono (by omega), rs ++ [x], by rw [List.map_append]; rfl, by rw [List.length_append, hrl]; rfl, fun r hr => ?_⟩
          rcases List.mem_append.mp hr with hr | hr
          · exact hro r hr
          · rw [List.mem_singleton.mp hr]; exact hx
        · rintro acc S ⟨_, p8, rs, rfl, hrl, hro⟩
          rw [rngD_len, Int.toNat_natCast] at hrl
          rw [rngD_len, Int.toNat_natCast] at p8
          clear p7
          walk_at "PA"
          rename_i S9 p9
          refine wv (rv_append ((st_at p9 3).trans rfl)) ?_
          walk_at "S"
          refine r_item_ref_last ((st_at p9 4).trans rfl) ?_
          walk_at "S"
          refine r_tuple (lst_ref ((st_at p9 (J.length + 5)).trans at_sn)) ?_
          walk_at "S"
          refine r_append_s (i := 3) (R := X) (ds := ps.map PageV.d) p9 rfl (by rw [List.length_map]; omega) fun S10 p10 => ?_
          walk_at "S"
          obtain ⟨ps', J', q1, q2, q3, q4⟩ := fin (.rule nu mo w1.nm rs) (J ++ [.lst (rs.map RuleV.d)]) S10 _ ⟨n0, n1, mo0, mo1, ⟨w1, hw1, rfl⟩, by omega, hro⟩ rfl (by omega) p10
          exact ⟨ps', J', _, _, _, _, _, _, _, _, _, q1, q2, q3, q4, rfl⟩
      · walk_at "A"
        refine wx_ite (We.mono (Q := fun t S' => S' = S5 ∧ ∃ bb : Bool, t = .d (.bl bb) ∧ (bb = false → sl ≠ [])) ?_ ?_)
        · walk_at "S"
          refine wc_dec (fun _ => ⟨rfl, true, rfl, fun z => by cases z⟩) fun _ => ?_
          walk_at "S"
          refine r_eq_nil ((st_at p5 2).trans rfl) (pdL_strs _) ?_
          refine ⟨rfl, _, rfl, fun z e => ?_⟩
          rw [e] at z
          exact absurd z (by decide)
        · rintro t S' ⟨rfl, bb, rfl, hbb⟩
          cases bb with
          | true =>
            refine wc_t ?_
            walk_at "PA"
            rename_i v6 S6 g9 g10 p6 v7 S7 g11 g12 p7
            clear p5
            refine r_item_mem g11 (by simpa using g12) fun y hy => ?_
            obtain ⟨y, rfl, hy0⟩ : ∃ z : Int, y = .int z ∧ (z = 1 ∨ z = 100000000000000000000000000000000000000000000000000) := by
              simp only [List.mem_cons, List.not_mem_nil, or_false] at hy
              rcases hy with rfl | rfl | rfl | rfl
              · exact ⟨_, rfl, .inl rfl⟩
              · exact ⟨_, rfl, .inl rfl⟩
              · exact ⟨_, rfl, .inl rfl⟩
              · exact ⟨_, rfl, .inr (by decide +kernel)⟩
            clear p6
            refine wes_nil (r_mul (i := v6 - 3) (j := y) (by omega) (by omega) ?_)
            have hsx : Sixty ((v6 - 3) * y) := by
              rcases hy0 with rfl | rfl
              · exact ⟨by omega, by omega⟩
              · exact ⟨by omega, by omega⟩
            generalize (v6 - 3) * y = va at hsx
            walk_at "S"
            refine wv (rv_append ((st_at p7 3).trans rfl)) ?_
            walk_at "S"
            refine r_item_ref_last ((st_at p7 4).trans rfl) ?_
            walk_at "S"
            refine r_len_ref ((st_at p7 1).trans rfl) ?_
            rw [List.length_map]
            walk_at "PA"
            rename_i v8 S8 g13 g14 p8
            refine r_item_s p8 (i := 1) rfl g13 (by rw [List.length_map]; omega) fun x hx => ?_
            obtain ⟨post, hpost, rfl⟩ := mem_strs hx
            walk_at "S"
            refine r_append_s (i := 3) (R := X) (ds := ps.map PageV.d) p8 rfl (by rw [List.length_map]; omega) fun S10 p10 => ?_
            walk_at "S"
            obtain ⟨ps', J', q1, q2, q3, q4⟩ := fin (.read nu mo post va) J S10 _ ⟨n0, n1, mo0, mo1, hposts post hpost, hsx⟩ rfl (by omega) p10
            exact ⟨ps', J', _, _, _, _, _, _, _, _, _, q1, q2, q3, q4, rfl⟩
          | false =>
            refine wc_f ?_
            have hsl0 : 1 ≤ sl.length := by
              have := hbb rfl
              cases sl with
              | nil => exact absurd rfl this
              | cons _ _ => simp
            walk_at "S"
            refine wv (rv_append ((st_at p5 3).trans rfl)) ?_
            walk_at "S"
            refine r_item_ref_last ((st_at p5 4).trans rfl) ?_
            walk_at "S"
            refine r_len_ref ((st_at p5 2).trans rfl) ?_
            rw [List.length_map]
            walk_at "PA"
            rename_i v8 S8 g13 g14 p8
            refine r_item_s p8 (i := 2) rfl g13 (by rw [List.length_map]; omega) fun x hx => ?_
            obtain ⟨s, hs, rfl⟩ := mem_strs hx
            walk_at "S"
            refine r_append_s (i := 3) (R := X) (ds := ps.map PageV.d) p8 rfl (by rw [List.length_map]; omega) fun S10 p10 => ?_
            walk_at "S"
            obtain ⟨ps', J', q1, q2, q3, q4⟩ := fin (.look nu mo s) J S10 _ ⟨n0, n1, mo0, mo1, hsl s hs⟩ rfl (by omega) p10
            exact ⟨ps', J', _, _, _, _, _, _, _, _, _, q1, q2, q3, q4, rfl⟩
    · rintro ρ S ⟨ps, J, a, b, c, d, e, f, g, q, z, p, hpsl, hpo, hnd, rfl⟩
      rw [rngD_len, Int.toNat_natCast] at p hpsl
      walk_at "S"
      exact ⟨rfl, ps, _, _, _, _, hpsl, hpo, hnd, p⟩
  obtain ⟨o, S', e, rfl, ps, o1, o2, o3, J, h1, h2, h3, h4⟩ := w.h
  exact ⟨ps, o1, o2, o3, J, S', h1, h2, h3, h4, (call_rt (r := r16) rfl rfl e).trans (congrArg some (gc_keep (show decide (X.length + 1 + 3 < S.length) = false from decide_eq_false (by rw [p.len]; omega))))⟩
end LK09

namespace LK09
open PySem PyProof.Rows L2 F
local macro_rules | `(tactic| walk_at "s0") => `(tactic| with_reducible first
  | refine w_c ?_ | refine w_v (by with_unfolding_all rfl) ?_ | refine w_prim ?_ | refine wes_cons ?_ | refine wes_nil ?_ | refine wds_cons ?_ | refine wds_nil ?_ | refine wn_d ?_ | refine wn_tmp ?_
  | refine w_meth ?_ | refine w_tup ?_ | refine w_lst ?_ | refine w_and ?_ | refine w_or ?_ | refine wb_and ?_ | refine wb_or ?_ | refine wb_one ?_ | refine w_not ?_ | refine w_ite ?_ | refine w_call ?_
  | refine w_chain rfl rfl ?_ | refine w_lc ?_ | refine w_g (by with_unfolding_all rfl) ?_ | refine w_dK ?_
  | refine wxs_cons ?_ | refine wxs_nil ?_ | refine wo_nx ?_ | refine wo_rt ?_ | refine wo_bk ?_ | refine wo_ct ?_ | refine wx_asg ?_ | refine wx_par ?_ | refine wx_expr ?_ | refine wx_ret ?_ | refine wx_retN ?_ | refine wx_pass ?_ | refine wx_brk ?_ | refine wx_cont ?_
  | refine wa_n (Nat.le_of_ble_eq_true (by with_unfolding_all rfl)) ?_ | refine wa_tup ?_ | refine wa_sub ?_ | refine was_cons ?_ | refine was_nil ?_ | refine wf_nil ?_ | refine wf_one ?_
  | refine wi_seq ?_ | refine wi_range1 ?_ | refine wi_range2 ?_ | refine wi_zip ?_ | refine wi_enum ?_
  | refine wl (Nat.le_of_ble_eq_true (by with_unfolding_all rfl)) ?_ | refine wv (by with_unfolding_all rfl) ?_ | refine ws_lst (by with_unfolding_all rfl) (by first | decide | omega) (Nat.le_of_ble_eq_true (by with_unfolding_all rfl)) ?_ | refine wpar (by with_unfolding_all rfl) ?_ | refine wit (by with_unfolding_all rfl) ?_ | refine wen (by with_unfolding_all rfl) ?_ | refine wint (by omega) ?_
  | refine wc_t ?_ | refine wc_f ?_
  | refine r_add ?_ | refine r_sub ?_ | refine r_neg ?_ | refine r_lt ?_ | refine r_le ?_ | refine r_gt ?_ | refine r_ge ?_ | refine r_abs ?_ | refine r_min ?_ | refine r_max ?_ | refine r_isN ?_ | refine r_isB ?_
  | refine r_ne_nil (by with_unfolding_all rfl) (pdL_ints _) ?_ | refine r_eq_nil (by with_unfolding_all rfl) (pdL_ints _) ?_ | refine r_popAt (by with_unfolding_all rfl) ?_
  | refine r_eq_tt ?_ | refine r_eq_ff ?_ | refine r_eq_tf ?_ | refine r_eq_ft ?_
  | refine r_eq_int ?_ | refine r_ne_int ?_ | refine r_eq_bl ?_ | refine r_ne_bl ?_
  | refine r_pow18 ?_ | refine r_pow30 ?_ | refine r_pow48 ?_ | refine r_pow60 ?_ | refine r_pow900 ?_ | refine r_mod big900_pos ?_
  | refine r_mod (by first | decide | omega) ?_ | refine r_fdiv (by first | decide | omega) (by first | decide | omega) ?_ | refine r_mul (by first | decide | omega) (by first | decide | omega) ?_ | refine r_pow (by first | decide | omega) (by first | decide | omega) (by first | decide | omega) ?_
  | refine r_item_ref (by with_unfolding_all rfl) (by first | decide | omega) (by with_unfolding_all rfl) ?_ | refine r_item_tmp (by first | decide | omega) (by with_unfolding_all rfl) ?_ | refine r_item_tup (by first | decide | omega) (by with_unfolding_all rfl) ?_
  | refine r_item_rol (by first | decide | omega) (by with_unfolding_all rfl) ?_ | refine r_len_tmp ?_ | refine r_len_tup ?_ | refine r_len_rol ?_ | refine r_len_ref (by with_unfolding_all rfl) ?_
  | refine r_inst (by with_unfolding_all rfl) ?_)
local macro_rules | `(tactic| walk_at "s") => `(tactic| first | walk_at "s0" | with_reducible refine wx_ite ?_)
local macro_rules | `(tactic| walk_at "A") => `(tactic| repeat walk_at "s0")
local macro_rules | `(tactic| walk_at "S") => `(tactic| repeat walk_at "s")
local macro_rules | `(tactic| walk_at "c") => `(tactic| first | refine wc_dt (by first | decide | omega) ?_ | refine wc_df (by first | decide | omega) ?_)
local macro_rules | `(tactic| walk_at "C") => `(tactic| repeat first | walk_at "s" | walk_at "c")
local macro_rules | `(tactic| walk_at "p") => `(tactic| with_reducible first | refine wn_tmp_p (by assumption) fun _ _ => ?_ | refine wd_dK_p (by assumption) fun _ _ => ?_ | refine r_item_p (by assumption) (by first | assumption | exact set_at (by assumption) | with_unfolding_all rfl) (by omega) (by first | omega | (rw [List.length_set]; omega)) fun _ _ => ?_ | refine ws_p (by assumption) (by first | assumption | exact set_at (by assumption) | with_unfolding_all rfl) (by omega) (by first | omega | (rw [List.length_set]; omega)) fun _ _ => ?_ | refine r_add_lst (by first | (with_unfolding_all rfl) | exact lstM_p (by assumption) (by first | assumption | exact set_at (by assumption) | with_unfolding_all rfl)) (by first | (with_unfolding_all rfl) | exact lstM_p (by assumption) (by first | assumption | exact set_at (by assumption) | with_unfolding_all rfl)) (by first | omega | (simp only [List.length_append, List.length_take, List.length_drop, List.length_cons, List.length_nil]; omega)) ?_ | refine r_tuple (by first | (with_unfolding_all rfl) | exact lst_p (by assumption) (by first | assumption | exact set_at (by assumption) | with_unfolding_all rfl)) ?_ | refine r_slice01 (slice_to (by first | (with_unfolding_all rfl) | exact lst_p (by assumption) (by first | assumption | exact set_at (by assumption) | with_unfolding_all rfl)) (by with_unfolding_all rfl) (by omega)) ?_ | refine r_slice10 (slice_from (by first | (with_unfolding_all rfl) | exact lst_p (by assumption) (by first | assumption | exact set_at (by assumption) | with_unfolding_all rfl)) (by with_unfolding_all rfl) (by omega)) ?_)
local macro_rules | `(tactic| walk_at "P") => `(tactic| repeat first | walk_at "p" | walk_at "d" | walk_at "s")
local macro_rules | `(tactic| walk_at "PA") => `(tactic| repeat first | walk_at "p" | walk_at "d" | walk_at "s0")
variable {S : Store}
theorem call_J {i : Nat} {r : F.Row} {k : Nat} {ds : List D} {x : D} (hr : rows[i]? = some r) (hl : ds.length = r.df.np) (hx : closed S.length x = true) (w : Wxs (gl.map (·.2)) (calls gl rows k) r.df.body (startE r.df.ns ds) S fun o S' => o = .rt x ∧ ∃ J, S' = S ++ J) : calls gl rows (k + 1) i ds S = some (x, S) := by
  obtain ⟨o, S', e, rfl, J, rfl⟩ := w.h
  exact (call_rt hr hl e).trans (congrArg some (gc_junk hx))
theorem shelves_ok (k : Nat) (bk : List PageV) (hl : bk.length ≤ 1000) : ∃ J, Shelved (S ++ J).length (S ++ J) S.length bk ∧ calls gl rows (k + 1) 0 [.tup (bk.map PageV.d)] S = some (.ref S.length, S ++ J) := by
  have w : Wxs (gl.map (·.2)) (calls gl rows k) b0 [some (.tup (bk.map PageV.d)), none, none] S fun o S' => o = .rt (.ref S.length) ∧ ∃ ks, S' = S ++ (.dT (shKV (S.length + 1) ks) :: shJ ks bk) ∧ ∀ p ∈ bk, (p.kd, p.nm) ∈ ks := by
    unfold b0
    walk_at "S"
    refine w_dT ?_
    walk_at "S"
    refine wx_for2 ?_
    walk_at "S"
    refine ⟨fun i ρ S' => ∃ (ks : List (Str × Str)) (u : Option D), S' = S ++ (.dT (shKV (S.length + 1) ks) :: shJ ks (bk.take i)) ∧ ks.length ≤ i ∧ ks.Nodup ∧ (∀ p ∈ bk.take i, (p.kd, p.nm) ∈ ks) ∧ ρ = [some (.tup (bk.map PageV.d)), some (.ref S.length), u], ⟨[], none, rfl, Nat.le_refl _, List.nodup_nil, (fun p hp => by cases hp), rfl⟩, fun _ _ _ _ => chk_nil, ?_, ?_⟩
    · rintro i d ρ S' hi ⟨ks, u, rfl, hkl, hnd, hall, rfl⟩
      rw [List.getElem?_map, Option.map_eq_some_iff] at hi
      obtain ⟨p, hp, rfl⟩ := hi
      have hi2 := (List.getElem?_eq_some_iff.mp hp).1
      have e4 : bk.take (i + 1) = bk.take i ++ [p] := by rw [List.take_add_one, hp]; rfl
      have hall2 : ∀ ks' : List (Str × Str), (∀ k ∈ ks, k ∈ ks') → (p.kd, p.nm) ∈ ks' → ∀ q ∈ bk.take (i + 1), (q.kd, q.nm) ∈ ks' := fun ks' h1 h2 q hq => by
        rw [e4] at hq
        rcases List.mem_append.mp hq with hq | hq
        · exact h1 _ (hall q hq)
        · rw [List.mem_singleton.mp hq]; exact h2
      obtain ⟨r, er⟩ := page_head p
      have hks : (shKV (S.length + 1) ks).length < 1000000 := by rw [shKV_len]; omega
      rw [er]
      walk_at "S"
      refine wv (rv_setdefT ap_at0) ?_
      walk_at "S"
      rcases shKV_look ks (S.length + 1) (p.kd, p.nm) with ⟨h1, h2, h3⟩ | ⟨j, h1, h2⟩
      · refine r_setdef_new ap_at0 hks h2 ?_
        have en : (norm (.tmp []) (S ++ (.dT (shKV (S.length + 1) ks) :: shJ ks (bk.take i)))).1 = .ref (S.length + 1 + ks.length) := by
          show D.ref (S ++ (.dT (shKV (S.length + 1) ks) :: shJ ks (bk.take i))).length = _
          rw [List.length_append, List.length_cons]
          unfold shJ
          rw [List.length_map]
          congr 1
          omega
        have es : (norm (.tmp []) (S ++ (.dT (shKV (S.length + 1) ks) :: shJ ks (bk.take i)))).2.set S.length (.dT (storeK (shKV (S.length + 1) ks) (keyS (p.kd, p.nm)) (.ref (S.length + 1 + ks.length)))) = S ++ (.dT (shKV (S.length + 1) (ks ++ [(p.kd, p.nm)])) :: (shJ ks (bk.take i) ++ [.lst []])) := by
          show ((S ++ (.dT (shKV (S.length + 1) ks) :: shJ ks (bk.take i))) ++ [O.lst []]).set _ _ = _
          rw [List.append_assoc, List.cons_append, ap_set0, shKV_app]
          unfold storeK
          rw [h3, if_neg Bool.false_ne_true]
        rw [en, es]
        have hat : (S ++ (O.dT (shKV (S.length + 1) (ks ++ [(p.kd, p.nm)])) :: (shJ ks (bk.take i) ++ [.lst []])))[S.length + 1 + ks.length]? = some (.lst []) := by
          rw [ap_at1]
          have : ks.length = (shJ ks (bk.take i)).length := by unfold shJ; rw [List.length_map]
          rw [this]; exact at_sn
        refine wv (rv_append hat) ?_
        walk_at "S"
        refine r_append hat (Nat.zero_lt_succ _) ?_
        rw [ap_set1, ← er]
        walk_at "S"
        refine ⟨ks ++ [(p.kd, p.nm)], _, ?_, by rw [List.length_append]; simpa using hkl, ?_, hall2 _ (fun k hk => List.mem_append_left _ hk) (by simp), rfl⟩
        · have e5 : (shJ ks (bk.take i) ++ [O.lst []]).set ks.length (.lst ([] ++ [p.d])) = shJ ks (bk.take i) ++ [.lst [p.d]] := by
            have : ks.length = (shJ ks (bk.take i)).length := by unfold shJ; rw [List.length_map]
            rw [this, List.set_append_right _ _ (Nat.le_refl _), Nat.sub_self]
            rfl
          rw [e5, shJ_new h1 hall, ← e4]
        · refine List.nodup_append.mpr ⟨hnd, by simp, fun a ha b hb e => ?_⟩
          rw [List.mem_singleton] at hb
          rw [e, hb] at ha
          exact h1 ha
      · refine r_setdef_old ap_at0 hks h2 ?_
        have hat : (S ++ (O.dT (shKV (S.length + 1) ks) :: shJ ks (bk.take i)))[S.length + 1 + j]? = some (.lst (((bk.take i).filter (isKN (p.kd, p.nm))).map PageV.d)) := by rw [ap_at1]; exact shJ_at h1
        refine wv (rv_append hat) ?_
        walk_at "S"
        refine r_append hat (by rw [List.length_map]; have := List.length_filter_le (isKN (p.kd, p.nm)) (bk.take i); rw [List.length_take] at this; omega) ?_
        rw [ap_set1, ← er]
        walk_at "S"
        refine ⟨ks, _, ?_, by omega, hnd, hall2 _ (fun k hk => hk) (List.mem_of_getElem? h1), rfl⟩
        rw [shJ_old hnd h1, ← e4]
    · rintro ρ S' ⟨ks, u, rfl, hkl, hnd, hall, rfl⟩
      rw [List.length_map, List.take_of_length_le (Nat.le_refl _)] at *
      walk_at "S"
      exact ⟨rfl, ks, rfl, hall⟩
  obtain ⟨o, S', e, rfl, ks, rfl, hall⟩ := w.h
  refine ⟨.dT (shKV (S.length + 1) ks) :: shJ ks bk, ⟨ks, S.length + 1, ?_, ?_, ap_at0, fun j kk hj => by rw [ap_at1]; exact shJ_at hj, hall⟩, (call_rt (r := r0) rfl rfl e).trans (congrArg some (gc_keep (show decide (S.length < S.length) = false from decide_eq_false (Nat.lt_irrefl _))))⟩
  · rw [List.length_append, List.length_cons]; omega
  · rw [List.length_append, List.length_cons]
    unfold shJ
    rw [List.length_map]
    omega
theorem last_ok {L n : Nat} {bk : List PageV} (k : Nat) (h : Shelved L S n bk) (hl : bk.length ≤ 1000) (kd nm : Str) (t : Int) : calls gl rows (k + 1) 1 [.ref n, .str kd, .str nm, .int t] S = some (optD (lastP bk kd nm t), S) := by
  obtain ⟨ks, b, _, _, h3, h4, h5⟩ := h
  refine call_J (r := r1) rfl rfl (closed_opt _ _) ?_
  show Wxs _ _ b1 [some (.ref n), some (.str kd), some (.str nm), some (.int t), none, none] S _
  unfold b1
  walk_at "S"
  refine wx_for2 ?_
  walk_at "S"
  refine wv (rv_get2T h3) ?_
  walk_at "S"
  obtain ⟨tv, e1, e2, e3⟩ : ∃ tv : T, ((lookK (shKV b ks) (keyS (kd, nm)) = none ∧ tv = .tmp []) ∨ ∃ d, lookK (shKV b ks) (keyS (kd, nm)) = some d ∧ tv = .d d) ∧ itemsOf S tv = some ((bk.filter (isKN (kd, nm))).map PageV.d) ∧ chk (liveOf tv ((bk.filter (isKN (kd, nm))).map PageV.d)) S := by
    rcases shKV_look ks b (kd, nm) with ⟨q1, q2, _⟩ | ⟨j, q1, q2⟩
    · refine ⟨.tmp [], .inl ⟨q2, rfl⟩, ?_, chk_nil⟩
      have e : bk.filter (isKN (kd, nm)) = [] := List.filter_eq_nil_iff.mpr fun q hq z => q1 (isKN_iff.mp z ▸ h5 q hq)
      rw [e]
      rfl
    · refine ⟨.d (.ref (b + j)), .inr ⟨_, q2, rfl⟩, ?_, fun x hx => ?_⟩
      · show seqOf S (.d (.ref (b + j))) = _
        unfold seqOf
        rw [lst_ref (h4 j _ q1)]
      · rw [List.mem_singleton.mp hx]
        exact h4 j _ q1
  refine r_get2_tv h3 e1 ?_
  refine wit e2 ?_
  have hfl : (bk.filter (isKN (kd, nm))).length ≤ 1000 := Nat.le_trans (List.length_filter_le _ _) hl
  have elast : lastP bk kd nm t = ((bk.filter (isKN (kd, nm))).filter (byT t)).getLast? := rfl
  rw [elast]
  generalize bk.filter (isKN (kd, nm)) = F at e2 e3 hfl
  refine ⟨fun i ρ S' => S' = S ∧ ∃ u, ρ = [some (.ref n), some (.str kd), some (.str nm), some (.int t), some (optD (((F.take i).filter (byT t)).getLast?)), u], ⟨rfl, _, rfl⟩, ?_, ?_, ?_⟩
  · rintro i ρ S' ⟨rfl, _⟩; exact e3
  · rintro i d ρ S' hi ⟨rfl, u, rfl⟩
    rw [List.getElem?_map, Option.map_eq_some_iff] at hi
    obtain ⟨p, hp, rfl⟩ := hi
    obtain ⟨r, er⟩ := page_head p
    rw [er]
    walk_at "S"
    refine wc_dec (fun hm => ?_) fun hm => ?_
    · walk_at "S"
      refine ⟨rfl, some (.tup (.str p.kd :: .int p.num :: .int p.mom :: .str p.nm :: r)), ?_⟩
      rw [List.take_add_one, hp]
      show _ = [some (.ref n), some (.str kd), some (.str nm), some (.int t), some (optD (((F.take i ++ [p]).filter (byT t)).getLast?)), some (.tup (.str p.kd :: .int p.num :: .int p.mom :: .str p.nm :: r))]
      rw [List.filter_append, List.filter_cons_of_pos (show byT t p = true from decide_eq_true hm), List.filter_nil, List.getLast?_concat]
      show _ = [some (.ref n), some (.str kd), some (.str nm), some (.int t), some p.d, some (.tup (.str p.kd :: .int p.num :: .int p.mom :: .str p.nm :: r))]
      rw [er]
      rfl
    · walk_at "S"
      refine ⟨rfl, some (.tup (.str p.kd :: .int p.num :: .int p.mom :: .str p.nm :: r)), ?_⟩
      rw [List.take_add_one, hp]
      show _ = [some (.ref n), some (.str kd), some (.str nm), some (.int t), some (optD (((F.take i ++ [p]).filter (byT t)).getLast?)), some (.tup (.str p.kd :: .int p.num :: .int p.mom :: .str p.nm :: r))]
      rw [List.filter_append, List.filter_cons_of_neg (show ¬ byT t p = true from fun z => hm (of_decide_eq_true z)), List.filter_nil, List.append_nil]
      rfl
  · rintro ρ S' ⟨rfl, u, rfl⟩
    rw [List.length_map, List.take_of_length_le (Nat.le_refl _)]
    walk_at "S"
    exact ⟨rfl, [], (List.append_nil _).symm⟩
theorem reading_in_ok {L n : Nat} {bk : List PageV} (k : Nat) (h : Shelved L S n bk) (hl : bk.length ≤ 1000) (nm : Str) (t : Int) : calls gl rows (k + 2) 2 [.ref n, .str nm, .int t] S = some (optI (readV bk nm t), S) := by
  refine call_J (r := r2) rfl rfl (closed_optI _ _) ?_
  show Wxs _ _ b2 [some (.ref n), some (.str nm), some (.int t), none] S _
  unfold b2
  walk_at "S"
  refine wk (last_ok k h hl "read" nm t) ?_
  rcases read_case (bk := bk) (nm := nm) (t := t) with ⟨e1, e2⟩ | ⟨_, _, _, v, e1, e2⟩
  · rw [e1, e2]
    walk_at "S"
    exact wc_t (w_c (wn_d (wo_rt ⟨rfl, [], (List.append_nil _).symm⟩)))
  · rw [e1, e2]
    walk_at "S"
    refine wc_f ?_
    show We _ _ _ [_, _, _, some (.tup [_, _, _, _, .int v])] _ _
    walk_at "S"
    exact ⟨rfl, [], (List.append_nil _).symm⟩
theorem rules_in_ok {L n : Nat} {bk : List PageV} (k : Nat) (h : Shelved L S n bk) (hl : bk.length ≤ 1000) (nm : Str) (t : Int) : calls gl rows (k + 2) 3 [.ref n, .str nm, .int t] S = some (.tup ((rulesV bk nm t).map RuleV.d), S) := by
  refine call_J (r := r3) rfl rfl (by unfold closed; exact closed_rules _ _) ?_
  show Wxs _ _ b3 [some (.ref n), some (.str nm), some (.int t), none] S _
  unfold b3
  walk_at "S"
  refine wk (last_ok k h hl "rule" nm t) ?_
  rcases rules_case (bk := bk) (nm := nm) (t := t) with ⟨e1, e2⟩ | ⟨_, _, _, v, e1, e2⟩
  · rw [e1, e2]
    walk_at "S"
    refine wc_t ?_
    walk_at "S"
    exact ⟨rfl, [], (List.append_nil _).symm⟩
  · rw [e1, e2]
    walk_at "S"
    refine wc_f ?_
    show We _ _ _ [_, _, _, some (.tup [_, _, _, _, .tup (v.map RuleV.d)])] _ _
    walk_at "S"
    exact ⟨rfl, [], (List.append_nil _).symm⟩
theorem looked_in_ok {L n : Nat} {bk : List PageV} (k : Nat) (h : Shelved L S n bk) (hl : bk.length ≤ 1000) (nm : Str) (t : Int) : calls gl rows (k + 2) 4 [.ref n, .str nm, .int t] S = some (optI (lookV bk nm t), S) := by
  refine call_J (r := r4) rfl rfl (closed_optI _ _) ?_
  show Wxs _ _ b4 [some (.ref n), some (.str nm), some (.int t), none] S _
  unfold b4
  walk_at "S"
  refine wk (last_ok k h hl "look" nm t) ?_
  rcases look_case (bk := bk) (nm := nm) (t := t) with ⟨e1, e2⟩ | ⟨_, v, _, e1, e2⟩
  · rw [e1, e2]
    walk_at "S"
    exact wc_t (w_c (wn_d (wo_rt ⟨rfl, [], (List.append_nil _).symm⟩)))
  · rw [e1, e2]
    walk_at "S"
    refine wc_f ?_
    show We _ _ _ [_, _, _, some (.tup [_, _, .int v, _])] _ _
    walk_at "S"
    exact ⟨rfl, [], (List.append_nil _).symm⟩
end LK09

namespace LK09
open PySem PyProof.Rows L2 F
local macro_rules | `(tactic| walk_at "s0") => `(tactic| with_reducible first
  | refine w_c ?_ | refine w_v (by with_unfolding_all rfl) ?_ | refine w_prim ?_ | refine wes_cons ?_ | refine wes_nil ?_ | refine wds_cons ?_ | refine wds_nil ?_ | refine wn_d ?_ | refine wn_tmp ?_
  | refine w_meth ?_ | refine w_tup ?_ | refine w_lst ?_ | refine w_and ?_ | refine w_or ?_ | refine wb_and ?_ | refine wb_or ?_ | refine wb_one ?_ | refine w_not ?_ | refine w_ite ?_ | refine w_call ?_
  | refine w_chain rfl rfl ?_ | refine w_lc ?_ | refine w_g (by with_unfolding_all rfl) ?_ | refine w_dK ?_
  | refine wxs_cons ?_ | refine wxs_nil ?_ | refine wo_nx ?_ | refine wo_rt ?_ | refine wo_bk ?_ | refine wo_ct ?_ | refine wx_asg ?_ | refine wx_par ?_ | refine wx_expr ?_ | refine wx_ret ?_ | refine wx_retN ?_ | refine wx_pass ?_ | refine wx_brk ?_ | refine wx_cont ?_
  | refine wa_n (Nat.le_of_ble_eq_true (by with_unfolding_all rfl)) ?_ | refine wa_tup ?_ | refine wa_sub ?_ | refine was_cons ?_ | refine was_nil ?_ | refine wf_nil ?_ | refine wf_one ?_
  | refine wi_seq ?_ | refine wi_range1 ?_ | refine wi_range2 ?_ | refine wi_zip ?_ | refine wi_enum ?_
  | refine wl (Nat.le_of_ble_eq_true (by with_unfolding_all rfl)) ?_ | refine wv (by with_unfolding_all rfl) ?_ | refine ws_lst (by with_unfolding_all rfl) (by first | decide | omega) (Nat.le_of_ble_eq_true (by with_unfolding_all rfl)) ?_ | refine wpar (by with_unfolding_all rfl) ?_ | refine wit (by with_unfolding_all rfl) ?_ | refine wen (by with_unfolding_all rfl) ?_ | refine wint (by omega) ?_
  | refine wc_t ?_ | refine wc_f ?_
  | refine r_add ?_ | refine r_sub ?_ | refine r_neg ?_ | refine r_lt ?_ | refine r_le ?_ | refine r_gt ?_ | refine r_ge ?_ | refine r_abs ?_ | refine r_min ?_ | refine r_max ?_ | refine r_isN ?_ | refine r_isB ?_
  | refine r_ne_nil (by with_unfolding_all rfl) (pdL_ints _) ?_ | refine r_eq_nil (by with_unfolding_all rfl) (pdL_ints _) ?_ | refine r_popAt (by with_unfolding_all rfl) ?_
  | refine r_eq_tt ?_ | refine r_eq_ff ?_ | refine r_eq_tf ?_ | refine r_eq_ft ?_
  | refine r_eq_int ?_ | refine r_ne_int ?_ | refine r_eq_bl ?_ | refine r_ne_bl ?_
  | refine r_pow18 ?_ | refine r_pow30 ?_ | refine r_pow48 ?_ | refine r_pow60 ?_ | refine r_pow900 ?_ | refine r_mod big900_pos ?_
  | refine r_mod (by first | decide | omega) ?_ | refine r_fdiv (by first | decide | omega) (by first | decide | omega) ?_ | refine r_mul (by first | decide | omega) (by first | decide | omega) ?_ | refine r_pow (by first | decide | omega) (by first | decide | omega) (by first | decide | omega) ?_
  | refine r_item_ref (by with_unfolding_all rfl) (by first | decide | omega) (by with_unfolding_all rfl) ?_ | refine r_item_tmp (by first | decide | omega) (by with_unfolding_all rfl) ?_ | refine r_item_tup (by first | decide | omega) (by with_unfolding_all rfl) ?_
  | refine r_item_rol (by first | decide | omega) (by with_unfolding_all rfl) ?_ | refine r_len_tmp ?_ | refine r_len_tup ?_ | refine r_len_rol ?_ | refine r_len_ref (by with_unfolding_all rfl) ?_
  | refine r_inst (by with_unfolding_all rfl) ?_)
local macro_rules | `(tactic| walk_at "s") => `(tactic| first | walk_at "s0" | with_reducible refine wx_ite ?_)
local macro_rules | `(tactic| walk_at "A") => `(tactic| repeat walk_at "s0")
local macro_rules | `(tactic| walk_at "S") => `(tactic| repeat walk_at "s")
local macro_rules | `(tactic| walk_at "c") => `(tactic| first | refine wc_dt (by first | decide | omega) ?_ | refine wc_df (by first | decide | omega) ?_)
local macro_rules | `(tactic| walk_at "C") => `(tactic| repeat first | walk_at "s" | walk_at "c")
local macro_rules | `(tactic| walk_at "p") => `(tactic| with_reducible first | refine wn_tmp_p (by assumption) fun _ _ => ?_ | refine wd_dK_p (by assumption) fun _ _ => ?_ | refine r_item_p (by assumption) (by first | assumption | exact set_at (by assumption) | with_unfolding_all rfl) (by omega) (by first | omega | (rw [List.length_set]; omega)) fun _ _ => ?_ | refine ws_p (by assumption) (by first | assumption | exact set_at (by assumption) | with_unfolding_all rfl) (by omega) (by first | omega | (rw [List.length_set]; omega)) fun _ _ => ?_ | refine r_add_lst (by first | (with_unfolding_all rfl) | exact lstM_p (by assumption) (by first | assumption | exact set_at (by assumption) | with_unfolding_all rfl)) (by first | (with_unfolding_all rfl) | exact lstM_p (by assumption) (by first | assumption | exact set_at (by assumption) | with_unfolding_all rfl)) (by first | omega | (simp only [List.length_append, List.length_take, List.length_drop, List.length_cons, List.length_nil]; omega)) ?_ | refine r_tuple (by first | (with_unfolding_all rfl) | exact lst_p (by assumption) (by first | assumption | exact set_at (by assumption) | with_unfolding_all rfl)) ?_ | refine r_slice01 (slice_to (by first | (with_unfolding_all rfl) | exact lst_p (by assumption) (by first | assumption | exact set_at (by assumption) | with_unfolding_all rfl)) (by with_unfolding_all rfl) (by omega)) ?_ | refine r_slice10 (slice_from (by first | (with_unfolding_all rfl) | exact lst_p (by assumption) (by first | assumption | exact set_at (by assumption) | with_unfolding_all rfl)) (by with_unfolding_all rfl) (by omega)) ?_)
local macro_rules | `(tactic| walk_at "P") => `(tactic| repeat first | walk_at "p" | walk_at "d" | walk_at "s")
local macro_rules | `(tactic| walk_at "PA") => `(tactic| repeat first | walk_at "p" | walk_at "d" | walk_at "s0")
local macro_rules | `(tactic| walk_at "d") => `(tactic| with_reducible refine r_eq_strs ?_)
variable {S : Store}
theorem seq_lst {n : Nat} {ds : List D} (h : S[n]? = some (.lst ds)) : seqOf S (.d (.ref n)) = some ds := by
  unfold seqOf
  rw [lst_ref h]
theorem chk_lst {n : Nat} {ds : List D} (h : S[n]? = some (.lst ds)) : chk (liveOf (.d (.ref n)) ds) S := fun q hq => by rw [List.mem_singleton.mp hq]; exact h
theorem law_book_ok {n : Nat} {ps : List PageV} (k : Nat) (h : S[n]? = some (.lst (ps.map PageV.d))) (hl : ps.length ≤ 1000) : calls gl rows (k + 1) 17 [.ref n] S = some (.tup ((sortP ps).map PageV.d), S) := by
  refine call_J (r := r17) rfl rfl (by unfold closed; exact closed_pages _ _) ?_
  show Wxs _ _ b17 [some (.ref n)] S _
  unfold b17
  walk_at "S"
  refine r_sortR (seq_lst h) (ranked_pages ps) (by rw [List.length_map]; omega) ?_
  rw [sortP_d]
  walk_at "S"
  refine r_tuple rfl ?_
  walk_at "S"
  exact ⟨rfl, [], (List.append_nil _).symm⟩
theorem law_page_ok {n : Nat} {ps : List PageV} (k : Nat) (h : S[n]? = some (.lst (ps.map PageV.d))) (hl : ps.length ≤ 1000) (hnd : (ps.map PageV.num).Nodup) (kd nm : Str) (t : Int) : calls gl rows (k + 1) 18 [.ref n, .str kd, .str nm, .int t] S = some (optD (lastP (sortP ps) kd nm t), S) := by
  refine call_J (r := r18) rfl rfl (closed_opt _ _) ?_
  show Wxs _ _ b18 [some (.ref n), some (.str kd), some (.str nm), some (.int t), none, none] S _
  unfold b18
  walk_at "S"
  refine wit_ref h ?_
  refine wlc_map PageV.d ps (fun p => isKN (kd, nm) p && byT t p) PageV.d rfl (chk_lst h) (by omega) (fun p _ => ?_) ?_
  · obtain ⟨r, er⟩ := page_head p
    rw [er]
    walk_at "P"
    refine wc_dec (fun e1 => ?_) fun e1 => ?_
    · walk_at "P"
      refine wc_dec (fun e2 => ?_) fun e2 => ?_
      · walk_at "P"
        have e3 : isKN (kd, nm) p = true := isKN_iff.mpr (Prod.ext e1 e2)
        refine wc_dec (fun e4 => ?_) fun e4 => ?_
        · refine ⟨?_, rfl, rfl, fun _ => ?_⟩
          · rw [e3]; exact (show byT t p = true from decide_eq_true e4).symm
          · walk_at "P"
            exact ⟨rfl, rfl⟩
        · refine ⟨?_, rfl, rfl, fun z => by cases z⟩
          rw [e3]; exact (show byT t p = false from decide_eq_false e4).symm
      · walk_at "P"
        refine ⟨?_, rfl, rfl, fun z => by cases z⟩
        have e3 : isKN (kd, nm) p = false := by
          rw [← Bool.not_eq_true]
          exact fun z => e2 (congrArg Prod.snd (isKN_iff.mp z))
        rw [e3]; rfl
    · walk_at "P"
      refine ⟨?_, rfl, rfl, fun z => by cases z⟩
      have e3 : isKN (kd, nm) p = false := by
        rw [← Bool.not_eq_true]
        exact fun z => e1 (congrArg Prod.fst (isKN_iff.mp z))
      rw [e3]; rfl
  · have el : lastP (sortP ps) kd nm t = ((sortP ps).filter fun p => isKN (kd, nm) p && byT t p).getLast? := by
      unfold lastP
      rw [List.filter_filter]
      congr 1
      exact List.filter_congr fun p _ => Bool.and_comm _ _
    rw [el, ← max_last hnd]
    have hrk : ranked ((ps.filter fun p => isKN (kd, nm) p && byT t p).map PageV.d) = true := ranked_pages _
    generalize (ps.filter fun p => isKN (kd, nm) p && byT t p).map PageV.d = ds at hrk
    walk_at "S"
    have hat : (S ++ [O.lst ds])[S.length]? = some (.lst ds) := ap_at0
    cases ds with
    | nil =>
      refine r_maxR_nil (lst_ref hat) ?_
      walk_at "S"
      exact ⟨rfl, _, rfl⟩
    | cons d ds =>
      refine r_maxR (lst_ref hat) hrk ?_
      walk_at "S"
      exact ⟨rfl, _, rfl⟩
end LK09

namespace LK09
open PySem PyProof.Rows L2 F
local macro_rules | `(tactic| walk_at "s0") => `(tactic| with_reducible first
  | refine w_c ?_ | refine w_v (by with_unfolding_all rfl) ?_ | refine w_prim ?_ | refine wes_cons ?_ | refine wes_nil ?_ | refine wds_cons ?_ | refine wds_nil ?_ | refine wn_d ?_ | refine wn_tmp ?_
  | refine w_meth ?_ | refine w_tup ?_ | refine w_lst ?_ | refine w_and ?_ | refine w_or ?_ | refine wb_and ?_ | refine wb_or ?_ | refine wb_one ?_ | refine w_not ?_ | refine w_ite ?_ | refine w_call ?_
  | refine w_chain rfl rfl ?_ | refine w_lc ?_ | refine w_g (by with_unfolding_all rfl) ?_ | refine w_dK ?_
  | refine wxs_cons ?_ | refine wxs_nil ?_ | refine wo_nx ?_ | refine wo_rt ?_ | refine wo_bk ?_ | refine wo_ct ?_ | refine wx_asg ?_ | refine wx_par ?_ | refine wx_expr ?_ | refine wx_ret ?_ | refine wx_retN ?_ | refine wx_pass ?_ | refine wx_brk ?_ | refine wx_cont ?_
  | refine wa_n (Nat.le_of_ble_eq_true (by with_unfolding_all rfl)) ?_ | refine wa_tup ?_ | refine wa_sub ?_ | refine was_cons ?_ | refine was_nil ?_ | refine wf_nil ?_ | refine wf_one ?_
  | refine wi_seq ?_ | refine wi_range1 ?_ | refine wi_range2 ?_ | refine wi_zip ?_ | refine wi_enum ?_
  | refine wl (Nat.le_of_ble_eq_true (by with_unfolding_all rfl)) ?_ | refine wv (by with_unfolding_all rfl) ?_ | refine ws_lst (by with_unfolding_all rfl) (by first | decide | omega) (Nat.le_of_ble_eq_true (by with_unfolding_all rfl)) ?_ | refine wpar (by with_unfolding_all rfl) ?_ | refine wit (by with_unfolding_all rfl) ?_ | refine wen (by with_unfolding_all rfl) ?_ | refine wint (by omega) ?_
  | refine wc_t ?_ | refine wc_f ?_
  | refine r_add ?_ | refine r_sub ?_ | refine r_neg ?_ | refine r_lt ?_ | refine r_le ?_ | refine r_gt ?_ | refine r_ge ?_ | refine r_abs ?_ | refine r_min ?_ | refine r_max ?_ | refine r_isN ?_ | refine r_isB ?_
  | refine r_ne_nil (by with_unfolding_all rfl) (pdL_ints _) ?_ | refine r_eq_nil (by with_unfolding_all rfl) (pdL_ints _) ?_ | refine r_popAt (by with_unfolding_all rfl) ?_
  | refine r_eq_tt ?_ | refine r_eq_ff ?_ | refine r_eq_tf ?_ | refine r_eq_ft ?_
  | refine r_eq_int ?_ | refine r_ne_int ?_ | refine r_eq_bl ?_ | refine r_ne_bl ?_
  | refine r_pow18 ?_ | refine r_pow30 ?_ | refine r_pow48 ?_ | refine r_pow60 ?_ | refine r_pow900 ?_ | refine r_mod big900_pos ?_
  | refine r_mod (by first | decide | omega) ?_ | refine r_fdiv (by first | decide | omega) (by first | decide | omega) ?_ | refine r_mul (by first | decide | omega) (by first | decide | omega) ?_ | refine r_pow (by first | decide | omega) (by first | decide | omega) (by first | decide | omega) ?_
  | refine r_item_ref (by with_unfolding_all rfl) (by first | decide | omega) (by with_unfolding_all rfl) ?_ | refine r_item_tmp (by first | decide | omega) (by with_unfolding_all rfl) ?_ | refine r_item_tup (by first | decide | omega) (by with_unfolding_all rfl) ?_
  | refine r_item_rol (by first | decide | omega) (by with_unfolding_all rfl) ?_ | refine r_len_tmp ?_ | refine r_len_tup ?_ | refine r_len_rol ?_ | refine r_len_ref (by with_unfolding_all rfl) ?_
  | refine r_inst (by with_unfolding_all rfl) ?_)
local macro_rules | `(tactic| walk_at "s") => `(tactic| first | walk_at "s0" | with_reducible refine wx_ite ?_)
local macro_rules | `(tactic| walk_at "A") => `(tactic| repeat walk_at "s0")
local macro_rules | `(tactic| walk_at "S") => `(tactic| repeat walk_at "s")
local macro_rules | `(tactic| walk_at "c") => `(tactic| first | refine wc_dt (by first | decide | omega) ?_ | refine wc_df (by first | decide | omega) ?_)
local macro_rules | `(tactic| walk_at "C") => `(tactic| repeat first | walk_at "s" | walk_at "c")
local macro_rules | `(tactic| walk_at "p") => `(tactic| with_reducible first | refine wn_tmp_p (by assumption) fun _ _ => ?_ | refine wd_dK_p (by assumption) fun _ _ => ?_ | refine r_item_p (by assumption) (by first | assumption | exact set_at (by assumption) | with_unfolding_all rfl) (by omega) (by first | omega | (rw [List.length_set]; omega)) fun _ _ => ?_ | refine ws_p (by assumption) (by first | assumption | exact set_at (by assumption) | with_unfolding_all rfl) (by omega) (by first | omega | (rw [List.length_set]; omega)) fun _ _ => ?_ | refine r_add_lst (by first | (with_unfolding_all rfl) | exact lstM_p (by assumption) (by first | assumption | exact set_at (by assumption) | with_unfolding_all rfl)) (by first | (with_unfolding_all rfl) | exact lstM_p (by assumption) (by first | assumption | exact set_at (by assumption) | with_unfolding_all rfl)) (by first | omega | (simp only [List.length_append, List.length_take, List.length_drop, List.length_cons, List.length_nil]; omega)) ?_ | refine r_tuple (by first | (with_unfolding_all rfl) | exact lst_p (by assumption) (by first | assumption | exact set_at (by assumption) | with_unfolding_all rfl)) ?_ | refine r_slice01 (slice_to (by first | (with_unfolding_all rfl) | exact lst_p (by assumption) (by first | assumption | exact set_at (by assumption) | with_unfolding_all rfl)) (by with_unfolding_all rfl) (by omega)) ?_ | refine r_slice10 (slice_from (by first | (with_unfolding_all rfl) | exact lst_p (by assumption) (by first | assumption | exact set_at (by assumption) | with_unfolding_all rfl)) (by with_unfolding_all rfl) (by omega)) ?_)
local macro_rules | `(tactic| walk_at "P") => `(tactic| repeat first | walk_at "p" | walk_at "d" | walk_at "s")
local macro_rules | `(tactic| walk_at "PA") => `(tactic| repeat first | walk_at "p" | walk_at "d" | walk_at "s0")
local macro_rules | `(tactic| walk_at "d") => `(tactic| with_reducible first | refine r_eq_strs ?_ | refine wk_pick (by assumption) (by omega) (by omega) (by omega) fun _ _ _ _ _ => ?_ | refine wn_tmp_s (by assumption) fun _ _ => ?_)
section
variable {S : Store}
theorem reading_ok (k : Nat) (bk : List PageV) (hl : bk.length ≤ 1000) (nm : Str) (t : Int) : calls gl rows (k + 3) 5 [.tup (bk.map PageV.d), .str nm, .int t] S = some (optI (readV bk nm t), S) := by
  refine call_J (r := r5) rfl rfl (closed_optI _ _) ?_
  show Wxs _ _ b5 [some (.tup (bk.map PageV.d)), some (.str nm), some (.int t)] S _
  unfold b5
  walk_at "S"
  obtain ⟨J, hs, e⟩ := shelves_ok (k + 1) bk hl (S := S)
  refine wk e ?_
  walk_at "S"
  refine wk (reading_in_ok k hs hl nm t) ?_
  walk_at "S"
  exact ⟨rfl, J, rfl⟩
theorem rules_at_ok (k : Nat) (bk : List PageV) (hl : bk.length ≤ 1000) (nm : Str) (t : Int) : calls gl rows (k + 3) 6 [.tup (bk.map PageV.d), .str nm, .int t] S = some (.tup ((rulesV bk nm t).map RuleV.d), S) := by
  refine call_J (r := r6) rfl rfl (by unfold closed; exact closed_rules _ _) ?_
  show Wxs _ _ b6 [some (.tup (bk.map PageV.d)), some (.str nm), some (.int t)] S _
  unfold b6
  walk_at "S"
  obtain ⟨J, hs, e⟩ := shelves_ok (k + 1) bk hl (S := S)
  refine wk e ?_
  walk_at "S"
  refine wk (rules_in_ok k hs hl nm t) ?_
  walk_at "S"
  exact ⟨rfl, J, rfl⟩
theorem looked_at_ok (k : Nat) (bk : List PageV) (hl : bk.length ≤ 1000) (nm : Str) (t : Int) : calls gl rows (k + 3) 7 [.tup (bk.map PageV.d), .str nm, .int t] S = some (optI (lookV bk nm t), S) := by
  refine call_J (r := r7) rfl rfl (closed_optI _ _) ?_
  show Wxs _ _ b7 [some (.tup (bk.map PageV.d)), some (.str nm), some (.int t)] S _
  unfold b7
  walk_at "S"
  obtain ⟨J, hs, e⟩ := shelves_ok (k + 1) bk hl (S := S)
  refine wk e ?_
  walk_at "S"
  refine wk (looked_in_ok k hs hl nm t) ?_
  walk_at "S"
  exact ⟨rfl, J, rfl⟩
theorem pd_rules (rs : List RuleV) : pdT S (.d (.tup (rs.map RuleV.d))) = some (.tuple (rs.map RuleV.pd)) := by
  show (pdL (pdD S 59) (rs.map RuleV.d)).map PyData.tuple = _
  rw [pdL_mapg (fun r => rule_pd r 57)]; rfl
theorem right_ok {n m : Nat} {ps : List PageV} {nms : List Str} (k : Nat) (h : HillV) (ho : h.Ok) (hp : S[n]? = some (.lst (ps.map PageV.d))) (hn : S[m]? = some (.lst (nms.map .str))) (hl : ps.length ≤ 1000) (hpo : ∀ p ∈ ps, p.Ok h) (hnd : (ps.map PageV.num).Nodup) (t : Int) : calls gl rows (k + 4) 19 [h.d, .ref n, .ref m, .int t] S = some (.bl true, S) := by
  have hbo : ∀ p ∈ sortP ps, p.Ok h := fun p hq => hpo p ((sortP_perm ps).mem_iff.mp hq)
  have hbl : (sortP ps).length ≤ 1000 := by rw [(sortP_perm ps).length_eq]; exact hl
  refine call_J (r := r19) rfl rfl (by unfold closed; rfl) ?_
  show Wxs _ _ b19 [some h.d, some (.ref n), some (.ref m), some (.int t), none, none, none, none, none, none] S _
  unfold b19
  walk_at "S"
  refine wk (law_book_ok (k + 2) hp hl) ?_
  walk_at "S"
  refine wx_for2 ?_
  walk_at "S"
  refine wit_ref hn ?_
  refine ⟨fun i ρ S' => S' = S ∧ ∃ u v, ρ = [some h.d, some (.ref n), some (.ref m), some (.int t), some (.tup ((sortP ps).map PageV.d)), u, v, none, none, none], ⟨rfl, none, none, rfl⟩, ?_, ?_, ?_⟩
  · rintro i ρ S' ⟨rfl, _⟩; exact chk_lst hn
  · rintro i d ρ S' hi ⟨rfl, u, v, rfl⟩
    obtain ⟨nm, _, rfl⟩ := mem_strs (List.mem_of_getElem? hi)
    walk_at "S"
    refine wk (law_page_ok (k + 2) hp hl hnd "read" nm t) ?_
    have hrd := reading_ok k (sortP ps) hbl nm t (S := S')
    rcases read_case (bk := sortP ps) (nm := nm) (t := t) with ⟨e1, e2⟩ | ⟨a, b, q, w, e1, e2⟩
    · have e1' : optD (lastP (sortP ps) "read" nm t) = .non := by rw [e1]; rfl
      rw [e1']
      rw [e2] at hrd
      walk_at "S"
      refine wk hrd ?_
      walk_at "S"
      refine wc_t ?_
      walk_at "S"
      refine r_reprS (p := .none) rfl rfl sh_none (by decide) ?_
      rw [show (!true) = false from rfl]
      walk_at "S"
      exact ⟨rfl, _, _, rfl⟩
    · have e1' : optD (lastP (sortP ps) "read" nm t) = .tup [.str "read", .int a, .int b, .str q, .int w] := by rw [e1]; rfl
      have hsx : Sixty w := (hbo _ (last_mem e1).1).kind.2
      rw [e1']
      rw [e2] at hrd
      walk_at "S"
      refine wk hrd ?_
      walk_at "S"
      refine wc_f ?_
      walk_at "S"
      refine r_reprS (p := .int w) rfl rfl (sh_int (sixty_abs hsx)) (by decide) ?_
      rw [show (!true) = false from rfl]
      walk_at "S"
      exact ⟨rfl, _, _, rfl⟩
  · rintro ρ S' ⟨rfl, u, v, rfl⟩
    unfold HillV.d
    walk_at "S"
    refine wx_for2 ?_
    walk_at "S"
    refine ⟨fun i ρ S => S = S' ∧ ∃ a b c, ρ = [some (.tup [.tup (h.ws.map WayV.d), .str h.home, .int h.dark]), some (.ref n), some (.ref m), some (.int t), some (.tup ((sortP ps).map PageV.d)), u, v, a, b, c], ⟨rfl, none, none, none, rfl⟩, fun _ _ _ _ => chk_nil, ?_, ?_⟩
    · rintro i d ρ S hi ⟨rfl, a, b, c, rfl⟩
      obtain ⟨w, hw, rfl⟩ := List.mem_map.mp (List.mem_of_getElem? hi)
      rw [show w.d = .tup [.str w.nm, .str w.kind, .str w.st, .str w.en, .int w.p, .int w.q] from rfl]
      walk_at "S"
      refine wk (law_page_ok (k + 2) hp hl hnd "rule" w.nm t) ?_
      walk_at "S"
      refine wk (law_page_ok (k + 2) hp hl hnd "look" w.nm t) ?_
      have hru := rules_at_ok k (sortP ps) hbl w.nm t (S := S)
      have hlo := looked_at_ok k (sortP ps) hbl w.nm t (S := S)
      have part1 : ∃ u1 : D, optD (lastP (sortP ps) "rule" w.nm t) = u1 ∧ ((u1 = .non ∧ rulesV (sortP ps) w.nm t = []) ∨ ∃ x y z, u1 = .tup [x, y, z, .str w.nm, .tup ((rulesV (sortP ps) w.nm t).map RuleV.d)]) ∧ Sh (.tuple ((rulesV (sortP ps) w.nm t).map RuleV.pd)) 5000 := by
        rcases rules_case (bk := sortP ps) (nm := w.nm) (t := t) with ⟨e1, e2⟩ | ⟨a1, a2, a3, rs, e1, e2⟩
        · refine ⟨_, rfl, .inl ⟨by rw [e1]; rfl, e2⟩, ?_⟩
          rw [e2]
          exact ⟨rfl, rfl, by decide +kernel⟩
        · have hk := (hbo _ (last_mem e1).1).kind
          have hnm : a3 = w.nm := (last_mem e1).2.2.1
          refine ⟨_, rfl, .inr ⟨.str "rule", .int a1, .int a2, by rw [e1, e2, ← hnm]; rfl⟩, ?_⟩
          rw [e2]
          have := sh_tup (xs := rs.map RuleV.pd) (b := 700) fun x hx => by
            obtain ⟨r, hr, rfl⟩ := List.mem_map.mp hx
            exact rule_sh ho (hk.2.2 r hr)
          rw [List.length_map] at this
          exact this.mono (by have := hk.2.1; omega)
      have part2 : ∃ u2 : D, optD (lastP (sortP ps) "look" w.nm t) = u2 ∧ ((u2 = .non ∧ lookV (sortP ps) w.nm t = none) ∨ ∃ x y z v, u2 = .tup [x, y, .int v, z] ∧ lookV (sortP ps) w.nm t = some v ∧ 0 ≤ v ∧ v ≤ h.dark) := by
        rcases look_case (bk := sortP ps) (nm := w.nm) (t := t) with ⟨e1, e2⟩ | ⟨a1, a2, a3, e1, e2⟩
        · exact ⟨_, rfl, .inl ⟨by rw [e1]; rfl, e2⟩⟩
        · have hk := hbo _ (last_mem e1).1
          exact ⟨_, rfl, .inr ⟨.str "look", .int a1, .str a3, a2, by rw [e1]; rfl, e2, hk.m0, hk.m1⟩⟩
      obtain ⟨u1, e1, c1, s1⟩ := part1
      obtain ⟨u2, e2, c2⟩ := part2
      rw [e1, e2]
      walk_at "S"
      refine wk hru ?_
      walk_at "S"
      have fin2 : ∀ (u1 : D), Wxs (gl.map (·.2)) (calls gl rows (k + 3)) (.cons (.ite (.prim (.reprC true) (.cons (.call 7 (.cons (.v 4) (.cons (.prim .item (.cons (.v 7) (.cons (.c (.int 0)) .nil))) (.cons (.v 3) .nil)))) (.cons (.ite (.prim (.isN false) (.cons (.v 9) .nil)) (.c (.non)) (.prim .item (.cons (.v 9) (.cons (.c (.int 2)) .nil)))) .nil))) (.cons (.ret (.c (.bl false))) <| .nil) .nil) <| .nil) [some (.tup [.tup (h.ws.map WayV.d), .str h.home, .int h.dark]), some (.ref n), some (.ref m), some (.int t), some (.tup ((sortP ps).map PageV.d)), u, v, some (.tup [.str w.nm, .str w.kind, .str w.st, .str w.en, .int w.p, .int w.q]), some u1, some u2] S fun o S2 => S2 = S ∧ o = .nx [some (.tup [.tup (h.ws.map WayV.d), .str h.home, .int h.dark]), some (.ref n), some (.ref m), some (.int t), some (.tup ((sortP ps).map PageV.d)), u, v, some (.tup [.str w.nm, .str w.kind, .str w.st, .str w.en, .int w.p, .int w.q]), some u1, some u2] := by
        intro u1
        walk_at "S"
        refine wk hlo ?_
        rcases c2 with ⟨rfl, e3⟩ | ⟨x, y, z, vv, rfl, e3, v0, v1⟩
        · rw [e3]
          walk_at "S"
          refine wc_t ?_
          walk_at "S"
          refine r_reprS (p := .none) rfl rfl sh_none (by decide) ?_
          rw [show (!true) = false from rfl]
          walk_at "S"
          exact ⟨rfl, rfl⟩
        · rw [e3]
          walk_at "S"
          refine wc_f ?_
          walk_at "S"
          have d1 := ho.d1
          refine r_reprS (p := .int vv) rfl rfl (sh_int (small_abs (by omega))) (by decide) ?_
          rw [show (!true) = false from rfl]
          walk_at "S"
          exact ⟨rfl, rfl⟩
      rcases c1 with ⟨rfl, e3⟩ | ⟨x, y, z, rfl⟩
      · rw [e3] at s1 ⊢
        refine wc_t ?_
        walk_at "S"
        refine r_reprS (p := .tuple []) rfl rfl s1 (by decide) ?_
        rw [show (!true) = false from rfl]
        refine wc_f (wxs_nil (wo_nx ?_))
        refine (fin2 _).mono ?_
        rintro o S2 ⟨rfl, rfl⟩
        exact ⟨rfl, _, _, _, rfl⟩
      · refine wc_f ?_
        walk_at "S"
        refine r_reprS (pd_rules _) (pd_rules _) s1 (by decide) ?_
        rw [show (!true) = false from rfl]
        refine wc_f (wxs_nil (wo_nx ?_))
        refine (fin2 _).mono ?_
        rintro o S2 ⟨rfl, rfl⟩
        exact ⟨rfl, _, _, _, rfl⟩
    · rintro ρ S ⟨rfl, a, b, c, rfl⟩
      walk_at "S"
      exact ⟨rfl, [], (List.append_nil _).symm⟩
end
end LK09

namespace LK09
open PySem PyProof.Rows L2 F
local macro_rules | `(tactic| walk_at "s0") => `(tactic| with_reducible first
  | refine w_c ?_ | refine w_v (by with_unfolding_all rfl) ?_ | refine w_prim ?_ | refine wes_cons ?_ | refine wes_nil ?_ | refine wds_cons ?_ | refine wds_nil ?_ | refine wn_d ?_ | refine wn_tmp ?_
  | refine w_meth ?_ | refine w_tup ?_ | refine w_lst ?_ | refine w_and ?_ | refine w_or ?_ | refine wb_and ?_ | refine wb_or ?_ | refine wb_one ?_ | refine w_not ?_ | refine w_ite ?_ | refine w_call ?_
  | refine w_chain rfl rfl ?_ | refine w_lc ?_ | refine w_g (by with_unfolding_all rfl) ?_ | refine w_dK ?_
  | refine wxs_cons ?_ | refine wxs_nil ?_ | refine wo_nx ?_ | refine wo_rt ?_ | refine wo_bk ?_ | refine wo_ct ?_ | refine wx_asg ?_ | refine wx_par ?_ | refine wx_expr ?_ | refine wx_ret ?_ | refine wx_retN ?_ | refine wx_pass ?_ | refine wx_brk ?_ | refine wx_cont ?_
  | refine wa_n (Nat.le_of_ble_eq_true (by with_unfolding_all rfl)) ?_ | refine wa_tup ?_ | refine wa_sub ?_ | refine was_cons ?_ | refine was_nil ?_ | refine wf_nil ?_ | refine wf_one ?_
  | refine wi_seq ?_ | refine wi_range1 ?_ | refine wi_range2 ?_ | refine wi_zip ?_ | refine wi_enum ?_
  | refine wl (Nat.le_of_ble_eq_true (by with_unfolding_all rfl)) ?_ | refine wv (by with_unfolding_all rfl) ?_ | refine ws_lst (by with_unfolding_all rfl) (by first | decide | omega) (Nat.le_of_ble_eq_true (by with_unfolding_all rfl)) ?_ | refine wpar (by with_unfolding_all rfl) ?_ | refine wit (by with_unfolding_all rfl) ?_ | refine wen (by with_unfolding_all rfl) ?_ | refine wint (by omega) ?_
  | refine wc_t ?_ | refine wc_f ?_
  | refine r_add ?_ | refine r_sub ?_ | refine r_neg ?_ | refine r_lt ?_ | refine r_le ?_ | refine r_gt ?_ | refine r_ge ?_ | refine r_abs ?_ | refine r_min ?_ | refine r_max ?_ | refine r_isN ?_ | refine r_isB ?_
  | refine r_ne_nil (by with_unfolding_all rfl) (pdL_ints _) ?_ | refine r_eq_nil (by with_unfolding_all rfl) (pdL_ints _) ?_ | refine r_popAt (by with_unfolding_all rfl) ?_
  | refine r_eq_tt ?_ | refine r_eq_ff ?_ | refine r_eq_tf ?_ | refine r_eq_ft ?_
  | refine r_eq_int ?_ | refine r_ne_int ?_ | refine r_eq_bl ?_ | refine r_ne_bl ?_
  | refine r_pow18 ?_ | refine r_pow30 ?_ | refine r_pow48 ?_ | refine r_pow60 ?_ | refine r_pow900 ?_ | refine r_mod big900_pos ?_
  | refine r_mod (by first | decide | omega) ?_ | refine r_fdiv (by first | decide | omega) (by first | decide | omega) ?_ | refine r_mul (by first | decide | omega) (by first | decide | omega) ?_ | refine r_pow (by first | decide | omega) (by first | decide | omega) (by first | decide | omega) ?_
  | refine r_item_ref (by with_unfolding_all rfl) (by first | decide | omega) (by with_unfolding_all rfl) ?_ | refine r_item_tmp (by first | decide | omega) (by with_unfolding_all rfl) ?_ | refine r_item_tup (by first | decide | omega) (by with_unfolding_all rfl) ?_
  | refine r_item_rol (by first | decide | omega) (by with_unfolding_all rfl) ?_ | refine r_len_tmp ?_ | refine r_len_tup ?_ | refine r_len_rol ?_ | refine r_len_ref (by with_unfolding_all rfl) ?_
  | refine r_inst (by with_unfolding_all rfl) ?_)
local macro_rules | `(tactic| walk_at "s") => `(tactic| first | walk_at "s0" | with_reducible refine wx_ite ?_)
local macro_rules | `(tactic| walk_at "A") => `(tactic| repeat walk_at "s0")
local macro_rules | `(tactic| walk_at "S") => `(tactic| repeat walk_at "s")
local macro_rules | `(tactic| walk_at "c") => `(tactic| first | refine wc_dt (by first | decide | omega) ?_ | refine wc_df (by first | decide | omega) ?_)
local macro_rules | `(tactic| walk_at "C") => `(tactic| repeat first | walk_at "s" | walk_at "c")
local macro_rules | `(tactic| walk_at "p") => `(tactic| with_reducible first | refine wn_tmp_p (by assumption) fun _ _ => ?_ | refine wd_dK_p (by assumption) fun _ _ => ?_ | refine r_item_p (by assumption) (by first | assumption | exact set_at (by assumption) | with_unfolding_all rfl) (by omega) (by first | omega | (rw [List.length_set]; omega)) fun _ _ => ?_ | refine ws_p (by assumption) (by first | assumption | exact set_at (by assumption) | with_unfolding_all rfl) (by omega) (by first | omega | (rw [List.length_set]; omega)) fun _ _ => ?_ | refine r_add_lst (by first | (with_unfolding_all rfl) | exact lstM_p (by assumption) (by first | assumption | exact set_at (by assumption) | with_unfolding_all rfl)) (by first | (with_unfolding_all rfl) | exact lstM_p (by assumption) (by first | assumption | exact set_at (by assumption) | with_unfolding_all rfl)) (by first | omega | (simp only [List.length_append, List.length_take, List.length_drop, List.length_cons, List.length_nil]; omega)) ?_ | refine r_tuple (by first | (with_unfolding_all rfl) | exact lst_p (by assumption) (by first | assumption | exact set_at (by assumption) | with_unfolding_all rfl)) ?_ | refine r_slice01 (slice_to (by first | (with_unfolding_all rfl) | exact lst_p (by assumption) (by first | assumption | exact set_at (by assumption) | with_unfolding_all rfl)) (by with_unfolding_all rfl) (by omega)) ?_ | refine r_slice10 (slice_from (by first | (with_unfolding_all rfl) | exact lst_p (by assumption) (by first | assumption | exact set_at (by assumption) | with_unfolding_all rfl)) (by with_unfolding_all rfl) (by omega)) ?_)
local macro_rules | `(tactic| walk_at "P") => `(tactic| repeat first | walk_at "p" | walk_at "d" | walk_at "s")
local macro_rules | `(tactic| walk_at "PA") => `(tactic| repeat first | walk_at "p" | walk_at "d" | walk_at "s0")
local macro_rules | `(tactic| walk_at "d") => `(tactic| with_reducible first | refine r_eq_strs ?_ | refine wk_pick (by assumption) (by omega) (by omega) (by omega) fun _ _ _ _ _ => ?_ | refine wn_tmp_s (by assumption) fun _ _ => ?_)
theorem law_holds (ns : List Int) (hl : ns.length ≤ 63) : ∃ S', calls gl rows 115 20 [.rol (ns.map D.int)] [] = some (.bl true, S') := by
  have w : Wxs (gl.map (·.2)) (calls gl rows 114) b20 [some (.rol (ns.map .int)), none, none, none, none, none, none, none, none, none] [] fun o S' => o = .rt (.bl true) := by
    unfold b20
    walk_at "S"
    obtain ⟨S0, e0, p0⟩ := start_ok 113 ns hl
    refine wk e0 ?_
    walk_at "PA"
    rename_i v1 S1 g1 g2 p1
    refine r_item_mem g1 (by simpa using g2) fun y hy => ?_
    obtain ⟨sc, rfl, hs0, hs1⟩ : ∃ sc : Int, y = .int sc ∧ 1 ≤ sc ∧ sc ≤ 33333 := by
      simp only [List.mem_cons, List.not_mem_nil, or_false] at hy
      rcases hy with rfl | rfl | rfl <;> exact ⟨_, rfl, by decide, by decide⟩
    walk_at "PA"
    rename_i v2 S2 g3 g4 p2
    refine r_item_mem g3 (by simpa using g4) fun y hy => ?_
    obtain ⟨mo, rfl, hm0, hm1⟩ : ∃ mo : Int, y = .int mo ∧ 1 ≤ mo ∧ mo ≤ 12 := by
      simp only [List.mem_cons, List.not_mem_nil, or_false] at hy
      rcases hy with rfl | rfl | rfl <;> exact ⟨_, rfl, by decide, by decide⟩
    walk_at "S"
    obtain ⟨h, S3, ho, _, _, p3, e3⟩ := hill_ok 110 p2 hm0 hm1 hs0 hs1 (by omega)
    refine wk e3 ?_
    clear p0 p1 p2
    refine wn_d (wa_n (Nat.le_of_ble_eq_true rfl) (wo_nx (wxs_cons (wx_asg (We.mono (Q := fun t S' => ∃ m : Nat, t = .d (.int (m : Nat)) ∧ m ≤ 60 ∧ St 400 [] S') ?_ ?_)))))
    · walk_at "PA"
      rename_i v3 S4 g5 g6 p4
      refine wc_dec (fun _ => ?_) fun _ => ?_
      · walk_at "PA"
        rename_i v4 S5 g7 g8 p5
        exact ⟨v4.toNat, by rw [Int.toNat_of_nonneg g7], by omega, p5.mono (by decide)⟩
      · walk_at "PA"
        rename_i v4 S5 g7 g8 p5
        exact ⟨v4.toNat, by rw [Int.toNat_of_nonneg g7], by omega, p5.mono (by decide)⟩
    · rintro t S4 ⟨m, rfl, hm, p4⟩
      clear p3
      walk_at "PA"
      obtain ⟨ps, o1, o2, o3, J, S5, hpl, hpo, hnd, p5, e5⟩ := pages_ok 110 h ho m hm p4 hs0 hs1 (by decide)
      refine wk e5 ?_
      clear p4
      have hpg : ∀ {n : Nat} {J' S' : Store}, St n (o1 :: o2 :: o3 :: .lst (ps.map PageV.d) :: J') S' → S'[4]? = some (.lst (ps.map PageV.d)) := fun p => p.at (i := 3)
      have p5' : St 4050 (o1 :: o2 :: o3 :: .lst (ps.map PageV.d) :: J) S5 := p5.mono (by omega)
      clear p5
      walk_at "S"
      refine wit_ref (hpg p5') ?_
      refine wlc_map PageV.d ps (fun _ => true) (fun p => .str p.nm) rfl (chk_lst (hpg p5')) (by omega) (fun p _ => ?_) ?_
      · obtain ⟨r, er⟩ := page_head p
        rw [er]
        walk_at "S"
        refine ⟨rfl, rfl, rfl, fun _ => ?_⟩
        walk_at "S"
        exact ⟨rfl, rfl⟩
      rw [List.filter_eq_self.mpr fun _ _ => rfl]
      obtain ⟨w0, hw0, hwd0⟩ := way_at (h := h) (v := 0) (by decide) (by have := ho.l0; omega)
      rw [show h.d = .tup [.tup (h.ws.map WayV.d), .str h.home, .int h.dark] from rfl]
      walk_at "S"
      refine r_item_tup (by decide) hwd0 ?_
      rw [show w0.d = .tup [.str w0.nm, .str w0.kind, .str w0.st, .str w0.en, .int w0.p, .int w0.q] from rfl]
      walk_at "S"
      refine r_add_lst rfl rfl (by rw [List.length_map, List.length_cons, List.length_cons, List.length_nil]; omega) ?_
      walk_at "S"
      refine r_sortedSet_strs (xs := ps.map PageV.nm ++ [w0.nm, "nobody"]) (by rw [List.map_append, List.map_map]; rfl) (by rw [List.length_append, List.length_map, List.length_cons, List.length_cons, List.length_nil]; omega) ?_
      generalize sortS (met (ps.map PageV.nm ++ [w0.nm, "nobody"])) = nms
      have p6 := p5'.re0
      have hpg2 : ∀ {n : Nat} {J' S' : Store}, St n (o1 :: o2 :: o3 :: .lst (ps.map PageV.d) :: J ++ J') S' → S'[4]? = some (.lst (ps.map PageV.d)) := fun p => p.at (i := 3)
      clear p5'
      refine wn_tmp_s p6 fun S6 p7 => ?_
      clear p6
      have hnm2 : ∀ {n : Nat} {J' S' : Store}, St n (o1 :: o2 :: o3 :: .lst (ps.map PageV.d) :: J ++ (.lst (nms.map .str) :: J')) S' → S'[(o1 :: o2 :: o3 :: .lst (ps.map PageV.d) :: J).length + 1 + ([] : Store).length]? = some (.lst (nms.map .str)) := fun p => st_at p 0
      generalize hR : o1 :: o2 :: o3 :: O.lst (ps.map PageV.d) :: J = R at p7 hpg2 hnm2
      walk_at "S"
      obtain ⟨m1, S7, m10, m11, p8, e8⟩ := moment_ok 112 h ho p7 hs0 hs1 (by decide)
      refine wk e8 ?_
      walk_at "S"
      obtain ⟨m2, S8, m20, m21, p9, e9⟩ := moment_ok 112 h ho p8 hs0 hs1 (by decide)
      refine wk e9 ?_
      walk_at "A"
      have f1 := hpg2 p9
      have f2 : S8[R.length + 1 + ([] : Store).length]? = some (.lst (nms.map .str)) := hnm2 p9
      clear p7 p8 p9 hpg2 hnm2
      generalize R.length + 1 + ([] : Store).length = nr at f2 ⊢
      refine wx_for2 ?_
      have g1' : (S8 ++ [O.lst [.int 0, .int h.dark, .int m1, .int m2]])[4]? = some (.lst (ps.map PageV.d)) := by
        rw [List.getElem?_append_left (List.getElem?_eq_some_iff.mp f1).1]; exact f1
      walk_at "S"
      refine r_slice01 (slice_to (lst_ref g1') rfl (by decide)) ?_
      walk_at "S"
      refine ⟨fun i ρ S => ∃ (J' : Store) (b : Nat) (ms : List Int) (u : Option D), S = S8 ++ J' ∧ S[b]? = some (.lst (ms.map .int)) ∧ i ≤ 6 ∧ ms.length ≤ 4 + 3 * i ∧ ρ = [some (.rol (ns.map .int)), some (.ref 0), some (.int sc), some h.d, some (.int (m : Nat)), some (.ref 4), some (.ref nr), u, some (.ref b), none],
        ⟨[O.lst [.int 0, .int h.dark, .int m1, .int m2]], S8.length, [0, h.dark, m1, m2], none, rfl, ap_at0, Nat.zero_le _, Nat.le_refl _, rfl⟩, fun _ _ _ _ => chk_nil, ?_, ?_⟩
      · rintro i d ρ S hi ⟨J', b, ms, u, rfl, hb, hi6, hml, rfl⟩
        have hi2 := (List.getElem?_eq_some_iff.mp hi).1
        rw [List.length_take] at hi2
        have hi7 : i < 6 := Nat.lt_of_lt_of_le hi2 (Nat.min_le_left _ _)
        obtain ⟨p, hp, rfl⟩ := List.mem_map.mp (List.mem_of_mem_take (List.mem_of_getElem? hi))
        obtain ⟨r, er⟩ := page_head p
        rw [er, show h.d = .tup [.tup (h.ws.map WayV.d), .str h.home, .int h.dark] from rfl]
        walk_at "S"
        refine r_add_lst (lstM_ref hb) rfl (by rw [List.length_map]; exact Nat.le_trans (Nat.add_le_add (Nat.le_trans hml (Nat.add_le_add_left (Nat.mul_le_mul_left 3 hi6) 4)) (Nat.le_refl 3)) (by decide)) ?_
        walk_at "S"
        exact ⟨J' ++ [_], _, ms ++ [_, _, _], _, (List.append_assoc _ _ _), (by rw [List.map_append]; exact ap_at0), hi7, by rw [List.length_append]; show ms.length + 3 ≤ _; omega, rfl⟩
      · rintro ρ S ⟨J', b, ms, u, rfl, hb, _, hml, rfl⟩
        have f1' : (S8 ++ J')[4]? = some (.lst (ps.map PageV.d)) := by
          rw [List.getElem?_append_left (List.getElem?_eq_some_iff.mp f1).1]; exact f1
        have f2' : (S8 ++ J')[nr]? = some (.lst (nms.map .str)) := by
          rw [List.getElem?_append_left (List.getElem?_eq_some_iff.mp f2).1]; exact f2
        generalize S8 ++ J' = T at hb f1' f2' ⊢
        walk_at "A"
        refine wx_for2 ?_
        walk_at "S"
        refine wit_ref hb ?_
        refine ⟨fun i ρ S => ∃ (J2 : Store) (q : Option D), S = T ++ J2 ∧ ρ = [some (.rol (ns.map .int)), some (.ref 0), some (.int sc), some h.d, some (.int (m : Nat)), some (.ref 4), some (.ref nr), u, some (.ref b), q], ⟨[], none, (List.append_nil _).symm, rfl⟩, ?_, ?_, ?_⟩
        · rintro i ρ S ⟨J2, q, rfl, _⟩
          refine chk_lst ?_
          rw [List.getElem?_append_left (List.getElem?_eq_some_iff.mp hb).1]; exact hb
        · rintro i d ρ S hi ⟨J2, q, rfl, rfl⟩
          obtain ⟨t, _, rfl⟩ := List.mem_map.mp (List.mem_of_getElem? hi)
          have h1 : (T ++ J2)[4]? = some (.lst (ps.map PageV.d)) := by
            rw [List.getElem?_append_left (List.getElem?_eq_some_iff.mp f1').1]; exact f1'
          have h2 : (T ++ J2)[nr]? = some (.lst (nms.map .str)) := by
            rw [List.getElem?_append_left (List.getElem?_eq_some_iff.mp f2').1]; exact f2'
          walk_at "S"
          refine wk (right_ok 110 h ho h1 h2 (by omega) hpo hnd t) ?_
          walk_at "S"
          refine r_slice10 (slice_from (lst_ref h1) rfl (by decide)) ?_
          walk_at "S"
          have h3 : ((T ++ J2) ++ [O.lst ((ps.map PageV.d).drop 1)])[(T ++ J2).length]? = some (.lst ((ps.drop 1).map PageV.d)) := by
            rw [List.map_drop]; exact ap_at0
          have h4 : ((T ++ J2) ++ [O.lst ((ps.map PageV.d).drop 1)])[nr]? = some (.lst (nms.map .str)) := by
            rw [List.getElem?_append_left (List.getElem?_eq_some_iff.mp h2).1]; exact h2
          refine wk (right_ok 110 h ho h3 h4 (by rw [List.length_drop]; omega) (fun p hp => hpo p (List.mem_of_mem_drop hp)) (by rw [List.map_drop]; exact hnd.sublist (List.drop_sublist _ _)) t) ?_
          walk_at "S"
          exact ⟨J2 ++ [O.lst ((ps.map PageV.d).drop 1)], _, List.append_assoc _ _ _, rfl⟩
        · rintro ρ S ⟨J2, q, rfl, rfl⟩
          walk_at "S"
          rfl
  obtain ⟨o, S', e, rfl⟩ := w.h
  exact ⟨_, (call_rt (r := r20) rfl rfl e).trans (congrArg some (gc_drop (S := []) (S' := []) (J := S') rfl (fun h => h) rfl))⟩
end LK09

open PySem PySem.W PyProof.Rows in
set_option maxRecDepth 100000 in
set_option maxHeartbeats 0 in
theorem PySem.Challenge.cw_homeslopes_k09_what_pages_tell_holds : PySem.Challenge.rw_homeslopes_k09_what_pages_tell.Holds := by
  w_on; o_law; k_head; (case hw => w_witness2)
  k_fill
  refine F.walk (l := PySem.Challenge.rw_homeslopes_k09_what_pages_tell) (gl := LK09.gl) (bl := LK09.bl) (ms := LK09.ms) (fa := LK09.fa) (lm := LK09.lm) (rows := LK09.rows) (li := 20) (r := LK09.r20) (x := "_law_script") rfl rfl (fun w h Y => by first | exact PySem.W.kIn_of Y | exact PySem.W.km_in_of Y) rfl rfl rfl rfl LK09.oks rfl (by decide +kernel) ?modok LK09.law_holds
  case modok =>
    intro w mg h KX G
    refine' LK09.mod_ok KX G ?qa0 ?ql0 ?qc0 ?qk0 ?qa1 ?ql1 ?qc1 ?qk1 ?qa2 ?ql2 ?qc2 ?qk2 ?qa3 ?ql3 ?qc3 ?qk3 ?qa4 ?ql4 ?qc4 ?qk4 ?qa5 ?ql5 ?qc5 ?qk5 ?qa6 ?ql6 ?qc6 ?qk6 ?qa7 ?ql7 ?qc7 ?qk7 ?qa8 ?ql8 ?qc8 ?qk8 ?qa9 ?ql9 ?qc9 ?qk9 ?qa10 ?ql10 ?qc10 ?qk10 ?qa11 ?ql11 ?qc11 ?qk11 ?qa12 ?ql12 ?qc12 ?qk12 ?qa13 ?ql13 ?qc13 ?qk13 ?qa14 ?ql14 ?qc14 ?qk14 ?qa15 ?ql15 ?qc15 ?qk15 ?qa16 ?ql16 ?qc16 ?qk16 ?qa17 ?ql17 ?qc17 ?qk17 ?qa18 ?ql18 ?qc18 ?qk18 ?qa19 ?ql19 ?qc19 ?qk19 ?qa20 ?ql20 ?qc20 ?qk20 ?qz0 ?qz1 ?qz2 ?qz3 ?qz4 ?qz5 ?qz6 ?qz7 ?qz8 ?qz9 ?qz10 ?qz11 ?qtt
    (case qa0 => k_is)
    (case ql0 => k_is)
    (case qc0 => k_is)
    (case qk0 => k_is)
    (case qa1 => k_is)
    (case ql1 => k_is)
    (case qc1 => k_is)
    (case qk1 => k_is)
    (case qa2 => k_is)
    (case ql2 => k_is)
    (case qc2 => k_is)
    (case qk2 => k_is)
    (case qa3 => k_is)
    (case ql3 => k_is)
    (case qc3 => k_is)
    (case qk3 => k_is)
    (case qa4 => k_is)
    (case ql4 => k_is)
    (case qc4 => k_is)
    (case qk4 => k_is)
    (case qa5 => k_is)
    (case ql5 => k_is)
    (case qc5 => k_is)
    (case qk5 => k_is)
    (case qa6 => k_is)
    (case ql6 => k_is)
    (case qc6 => k_is)
    (case qk6 => k_is)
    (case qa7 => k_is)
    (case ql7 => k_is)
    (case qc7 => k_is)
    (case qk7 => k_is)
    (case qa8 => k_is)
    (case ql8 => k_is)
    (case qc8 => k_is)
    (case qk8 => k_is)
    (case qa9 => k_is)
    (case ql9 => k_is)
    (case qc9 => k_is)
    (case qk9 => k_is)
    (case qa10 => k_is)
    (case ql10 => k_is)
    (case qc10 => k_is)
    (case qk10 => k_is)
    (case qa11 => k_is)
    (case ql11 => k_is)
    (case qc11 => k_is)
    (case qk11 => k_is)
    (case qa12 => k_is)
    (case ql12 => k_is)
    (case qc12 => k_is)
    (case qk12 => k_is)
    (case qa13 => k_is)
    (case ql13 => k_is)
    (case qc13 => k_is)
    (case qk13 => k_is)
    (case qa14 => k_is)
    (case ql14 => k_is)
    (case qc14 => k_is)
    (case qk14 => k_is)
    (case qa15 => k_is)
    (case ql15 => k_is)
    (case qc15 => k_is)
    (case qk15 => k_is)
    (case qa16 => k_is)
    (case ql16 => k_is)
    (case qc16 => k_is)
    (case qk16 => k_is)
    (case qa17 => k_is)
    (case ql17 => k_is)
    (case qc17 => k_is)
    (case qk17 => k_is)
    (case qa18 => k_is)
    (case ql18 => k_is)
    (case qc18 => k_is)
    (case qk18 => k_is)
    (case qa19 => k_is)
    (case ql19 => k_is)
    (case qc19 => k_is)
    (case qk19 => k_is)
    (case qa20 => k_is)
    (case ql20 => k_is)
    (case qc20 => k_is)
    (case qk20 => k_is)
    (case qz0 => k_is)
    (case qz1 => k_is)
    (case qz2 => k_is)
    (case qz3 => k_is)
    (case qz4 => k_is)
    (case qz5 => k_is)
    (case qz6 => k_is)
    (case qz7 => k_is)
    (case qz8 => k_is)
    (case qz9 => k_is)
    (case qz10 => k_is)
    (case qz11 => k_is)
    (case qtt => first | kernel_rfl | rfl)
