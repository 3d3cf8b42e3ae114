import PyProof.Rows.All
import PyProof.Rows.SetFrom
import PyProof.FactsAll.subtypes_4
import Wide.All
import OpenK.AllK
import Wide.FinOn
import KE.SortData
import HandS.Base
import HandS.Call
import HandS.List
import HandS.Strs
import HandS.Set
import KE.KExcSuper
import KE.KFromBytes
import HandS.Ends
import HandS.Exc
import HandS.ExcInit
import HandS.ForMost
import HandS.TryOnly
import HandS.WordsExc
import HandS.Defaults
import HandS.TupAny
import HandS.IsInst
import HandS.Conv
import HandS.Style
import HandS.Flow
import HandS.Deep
import HandS.Walk
import KE.KRevSl
import HandS.Codes
import KE.SortKeyHeap
import HandS.SortKw
import HandS.SortOrd
import KE.KStateDown
import HandS.More
import HandS.Words
import HandS.Head0
import HandS.Head1
import HandS.Head2
import HandS.HeadEnd
import HandS.HeadHook1
import HandS.HeadHook2
import PySem.Challenge.RW_shownwright_k01_whole_sayings_of_letters
set_option Elab.async false
set_option linter.all false
set_option maxRecDepth 100000
set_option maxHeartbeats 4000000
/-! Sets of values of one kind (ints | texts), made of a list, a tuple; sorted. -/
namespace SQ
open PySem PySem.Spec PyProof.Rows L2
section
variable {P : Program} {w : World} {K : Type} [DecidableEq K] [BEq K] [LawfulBEq K] {knd : PySem.KeyKind P w K}
def GoodQ (knd : PySem.KeyKind P w K) (e : Int × Value) : Prop := ∃ k, knd.is k e.2 = true ∧ e.1 = knd.hash k ∧ e.2.scannable = true
open Classical in
noncomputable def kq (knd : PySem.KeyKind P w K) (e : Int × Value) : Option K := if h : ∃ k, knd.is k e.2 = true then some h.choose else none
theorem kq_of {e : Int × Value} {k : K} (h : knd.is k e.2 = true) : kq knd e = some k := by
  unfold kq
  have q : ∃ k, knd.is k e.2 = true := ⟨k, h⟩
  rw [dif_pos q]
  exact congrArg some (knd.inj _ _ _ q.choose_spec h)
def SetQ (knd : PySem.KeyKind P w K) (h : Heap) (a : Addr) (S : K → Prop) (n : Nat) : Prop :=
  ∃ o es ep t, h.get? a = some o ∧ o.ExactSet ∧ o.data = .set es ep t ∧ (∀ e ∈ es.toList, GoodQ knd e) ∧ (es.toList.map (kq knd)).Nodup ∧ (∀ k, S k ↔ some k ∈ es.toList.map (kq knd)) ∧
    es.size < scanBound ∧ t.fits es.size = true ∧ es.size = n ∧ Ris t.place.toList ∧ (w.params.followText "set-order" = true ∨ t.led = true)
theorem SetQ.at {h h' : Heap} {a : Addr} {S : K → Prop} {n : Nat} (R : SetQ knd h a S n) (k : ∀ o, h.get? a = some o → h'.get? a = some o) : SetQ knd h' a S n := by
  obtain ⟨o, es, ep, t, ho, r⟩ := R
  exact ⟨o, es, ep, t, k o ho, r⟩
theorem good_elems {l : List (Int × Value)} (g : ∀ e ∈ l, GoodQ knd e) : ElemsOf knd l := fun e he => by
  obtain ⟨k, h1, h2, h3⟩ := g e he
  exact ⟨⟨k, h1, h2⟩, h3⟩
theorem good_is {e : Int × Value} (g : GoodQ knd e) (k : K) : knd.is k e.2 = true ↔ kq knd e = some k := by
  obtain ⟨k0, h1, _⟩ := g
  constructor
  · exact kq_of
  · intro h
    rw [kq_of h1] at h
    cases h; exact h1
theorem good_mem {l : List (Int × Value)} (g : ∀ e ∈ l, GoodQ knd e) (k : K) : some k ∈ l.map (kq knd) ↔ ∃ e ∈ l, knd.is k e.2 = true := by
  rw [List.mem_map]
  constructor
  · rintro ⟨e, he, q⟩
    exact ⟨e, he, (good_is (g e he) k).2 q⟩
  · rintro ⟨e, he, q⟩
    exact ⟨e, he, (good_is (g e he) k).1 q⟩
end
section
variable {P : Program} {w : World} {A : Around} {E : Value → Shared → Prop} {s : Shared} {a : Addr} {K : Type} [DecidableEq K] [BEq K] [LawfulBEq K] {knd : PySem.KeyKind P w K} {S : K → Prop} {n : Nat}
theorem add_tail {g : Bool → Sem Unit} (hg : ∀ (b : Bool) (s₁ : Shared) (Q' : Unit → Shared → Prop), Q' () s₁ → wpAny (model P w) A (g b) Q' E s₁)
    {o : Obj} {es : Array (Int × Value)} {ep : Nat} {t : SetTable} (ho : s.heap.get? a = some o) (hex : o.ExactSet) (hd : o.data = .set es ep t)
    {es1 : Array (Int × Value)} {t2 : SetTable} {S' : K → Prop} (g1 : ∀ e ∈ es1.toList, GoodQ knd e) (nd1 : (es1.toList.map (kq knd)).Nodup) (m1 : ∀ k, S' k ↔ some k ∈ es1.toList.map (kq knd))
    (hb1 : es1.size < scanBound) (hf2 : t2.fits es1.size = true) (hr : Ris t2.place.toList) (hl : w.params.followText "set-order" = true ∨ t2.led = true) {wasDummy : Bool} {R : Option Bool → Shared → Prop}
    (hR : ∀ h', Heap.SameBut a s.heap h' → SetQ knd h' a S' es1.size → R (some true) { s with heap := h' }) :
    wpAny (model P w) A (do
        storeSet a es1 t2
        if (!wasDummy && t2.tooFull) = true then do
            g (relayAll t2 es1 (SetTable.grown es1.size)).2.2
            storeSet a (relayAll t2 es1 (SetTable.grown es1.size)).1 (relayAll t2 es1 (SetTable.grown es1.size)).2.1
            pure (some true)
          else pure (some true)) R E s := by
  refine wpAny_bind (wpAny_storeSet_of ho hd ?_ (fits_of_scanBound hb1))
  have ho1 := L2.store_at (es' := es1) (t' := t2) ho hd
  have sb1 := Heap.SameBut.update s.heap a (Obj.putSet es1 t2)
  split
  · have pm := relayAll_perm t2 es1 (SetTable.grown es1.size)
    have hf3 := relayAll_fits t2 es1 (SetTable.grown es1.size)
    have hr3 := relayAll_ris t2 es1 (SetTable.grown es1.size)
    have hl3 := relayAll_led t2 es1 (SetTable.grown es1.size)
    generalize relayAll t2 es1 (SetTable.grown es1.size) = Z at pm hf3 hr3 hl3 ⊢
    obtain ⟨es2, t3, gave⟩ := Z
    dsimp only at pm hf3 hr3 hl3 ⊢
    have hsz : es2.size = es1.size := by rw [← Array.length_toList, pm.length_eq, Array.length_toList]
    have hb2 : es2.size < scanBound := by rw [hsz]; exact hb1
    refine wpAny_bind (hg _ _ _ ?_)
    refine wpAny_bind (wpAny_storeSet_of ho1 rfl ?_ (fits_of_scanBound hb2))
    have ho2 := L2.store_at (es' := es2) (t' := t3) ho1 rfl
    refine wpAny_pure (hR _ (sb1.trans (Heap.SameBut.update _ a _)) ?_)
    exact ⟨_, es2, _, t3, ho2, hex, rfl, fun e he => g1 e (pm.mem_iff.mp he), (pm.map (kq knd)).nodup_iff.mpr nd1, fun k => (m1 k).trans (pm.map (kq knd)).mem_iff.symm, hb2, hf3, hsz, hr3,
      hl.imp id fun z => by rw [hl3]; exact z⟩
  · exact wpAny_pure (hR _ sb1 ⟨_, es1, _, t2, ho1, hex, rfl, g1, nd1, m1, hb1, hf2, rfl, hr, hl⟩)
theorem add_hashed {k : K} {v : Value} {Q : Bool → Shared → Prop} (hkey : knd.is k v = true) (hsc : v.scannable = true) (R : SetQ knd s.heap a S n) (room : n + 1 < scanBound)
    (hQ : ∀ b h' n', n' ≤ n + 1 → Heap.SameBut a s.heap h' → SetQ knd h' a (fun j => S j ∨ j = k) n' → Q b { s with heap := h' }) :
    wpAny (model P w) A (setAddHashed a v (knd.hash k)) Q E s := by
  obtain ⟨o, es, ep, t, ho, hex, hd, g, nd, hm, hb, hf, hn, hr, hl⟩ := R
  have hel : ElemsOf knd es.toList := good_elems g
  unfold setAddHashed setAddHashedIn
  refine wpAny_holding (wpAny_bind (wpAny_setState_of ho hd hf ?_))
  dsimp only
  rw [byScan_of hsc hb hel]
  simp only [↓reduceIte]
  unfold setAddByScan
  refine wpAny_bind ?_
  refine wpAny_bind (wpAny_rule ?_)
  refine wpAny_bind (wpAny_setScan_of hkey ho hd hf hel ?_)
  cases hfi : List.findIdx? (fun e => knd.is k e.2) es.toList with
  | some j =>
    dsimp only
    obtain ⟨hj, pj, _⟩ := List.findIdx?_eq_some_iff_getElem.mp hfi
    have hSk : S k := (hm k).2 ((good_mem g k).2 ⟨es.toList[j], List.getElem_mem hj, pj⟩)
    refine wpAny_pure (wpAny_pure ?_)
    exact hQ _ s.heap n (Nat.le_succ n) (Heap.SameBut.refl a s.heap) ⟨o, es, ep, t, ho, hex, hd, g, nd, fun i => by
      rw [← hm i]
      exact ⟨fun z => z.elim id (fun e => e ▸ hSk), .inl⟩, hb, hf, hn, hr, hl⟩
  | none =>
    dsimp only
    have hnk : some k ∉ es.toList.map (kq knd) := fun z => by
      obtain ⟨e, he, q⟩ := (good_mem g k).1 z
      have c := List.findIdx?_eq_none_iff.mp hfi e he
      rw [q] at c
      cases c
    have hgw : ∀ (b : Bool) {s₁ : Shared} {Q' : Unit → Shared → Prop}, Q' () s₁ → wpAny (model P w) A (match b with | true => rule "set.scan.the-table-gave-way" | false => pure ()) Q' E s₁ :=
      fun b s₁ Q' q => by cases b <;> first | exact wpAny_pure q | exact wpAny_rule q
    have pm := layNew_perm t es (knd.hash k) v
    have hf1 := layNew_fits t es (knd.hash k) v
    have hr1 := layNew_ris t es (knd.hash k) v hr
    have hl1 := layNew_led t es (knd.hash k) v
    generalize layNew t es (knd.hash k) v = Z at pm hf1 hr1 hl1 ⊢
    obtain ⟨es1, t1, wasDummy, gave⟩ := Z
    dsimp only at pm hf1 hr1 hl1 ⊢
    rw [Array.toList_push] at pm
    have pc : es1.toList.Perm ((knd.hash k, v) :: es.toList) := pm.trans (List.perm_append_singleton _ _)
    have pk : (es1.toList.map (kq knd)).Perm (some k :: es.toList.map (kq knd)) := by
      have := pc.map (kq knd)
      rw [List.map_cons, kq_of (e := (knd.hash k, v)) hkey] at this
      exact this
    have g1 : ∀ e ∈ es1.toList, GoodQ knd e := fun e he => by
      rcases List.mem_cons.mp (pc.mem_iff.mp he) with z | z
      · rw [z]; exact ⟨k, hkey, rfl, hsc⟩
      · exact g e z
    have nd1 : (es1.toList.map (kq knd)).Nodup := pk.nodup_iff.mpr (List.nodup_cons.mpr ⟨hnk, nd⟩)
    have m1 : ∀ i, (S i ∨ i = k) ↔ some i ∈ es1.toList.map (kq knd) := fun i => by
      rw [hm i, pk.mem_iff, List.mem_cons, Option.some.injEq]
      exact Or.comm
    have hsz : es1.size = n + 1 := by rw [← Array.length_toList, pc.length_eq, List.length_cons, Array.length_toList, hn]
    have hb1 : es1.size < scanBound := by rw [hsz]; exact room
    have hled : w.params.followText "set-order" = true ∨ t1.led = true := hl.imp id fun z => by rw [hl1]; exact z
    have fin : ∀ h', Heap.SameBut a s.heap h' → SetQ knd h' a (fun j => S j ∨ j = k) es1.size → Q true { s with heap := h' } := fun h' sb r => hQ _ h' _ (Nat.le_of_eq hsz) sb r
    refine wpAny_bind (hgw _ ?_)
    split
    · refine wpAny_bind ?_
      rw [hashByValue_scannable 8 hsc]
      refine wpAny_pure ?_
      refine add_tail ?_ ho hex hd g1 nd1 m1 hb1 ?_ ?_ ?_ ?_
      · intro b s₁ Q' q; cases b <;> first | exact wpAny_pure q | exact wpAny_rule q
      · first | (split <;> first | exact hf1 | exact SetTable.fits_plain_off hf1) | exact hf1
      · first | (split <;> exact hr1) | exact hr1
      · first | (split <;> exact hled) | exact hled
      · intro h' sb r; dsimp only; exact wpAny_pure (fin h' sb r)
    · refine wpAny_bind (wpAny_pure ?_)
      simp only [↓reduceIte]
      refine add_tail ?_ ho hex hd g1 nd1 m1 hb1 hf1 hr1 hled ?_
      · intro b s₁ Q' q; cases b <;> first | exact wpAny_pure q | exact wpAny_rule q
      · intro h' sb r; dsimp only; exact wpAny_pure (fin h' sb r)
theorem setQ_fresh {h : Heap} (knd : PySem.KeyKind P w K) : SetQ knd (h.push { cls := .type "set", dict := none, data := .set #[] 0 (.fresh 0 0 (!w.params.followText "set-order")) }) h.objs.size (fun _ => False) 0 :=
  ⟨_, #[], 0, _, Heap.get?_push_size _ rfl, ⟨rfl, rfl, rfl⟩, rfl, (fun e he => by simp at he), (by simp), (fun k => by simp), (by decide), (by rfl), rfl, List.Pairwise.nil, by
    show _ ∨ (!w.params.followText "set-order") = true
    cases w.params.followText "set-order"
    · exact .inr rfl
    · exact .inl rfl⟩
theorem code_set_led1 {x : Value} {Q₁ : Value → Shared → Prop}
    (h : Q₁ (.ref s.heap.objs.size) { s with heap := s.heap.push { cls := .type "set", dict := none, data := .set #[] 0 (.fresh 0 0 (!w.params.followText "set-order")) } }) :
    codeAny (model P w) A (.call (.builtin "set.__new__") ⟨[.type "set", x], []⟩) (wants Q₁ E) s := by
  refine codeAny_of_tree ?_
  show wpAny _ A.in1 (do checkBuiltinCall "set.__new__" ⟨[.type "set", x], []⟩; again (.builtin "set.__new__" ⟨[.type "set", x], []⟩)) _ _ s
  refine wpAny_bind (wpAny_of_eq (F.newCall_set_1 x) (wpAny_pure ⟨plainId_quiet F.plain_set_new _, codeAny_builtin F.entry_set_new ?_⟩))
  rw [Around.under_plainId F.plain_set_new _]
  unfold Builtin.«set.__new__» Builtin.Frozenset.newClass
  have hsub := sub_set_self
  obtain ⟨hp, g, d, tk, os⟩ := s
  dsimp only
  wp_walk
  refine wpAny_askSetting (wpAny_pure ?_)
  dsimp only
  simp only [newObj]
  refine wpAny_bind (wpAny_alloc (wpAny_pure ?_))
  exact wpAny_pure h
end

section
variable {P : Program} {w : World} {A : Around} {R : Result → Shared → Prop} {I : Addr} {fp wr : List Addr} {G : Array GenState → Array GenState → Prop} {n : Nat} {Pv : Nat → Value → Prop} {St : Nat → Shared → Prop} {K : Type} [DecidableEq K] [BEq K] [LawfulBEq K] {knd : PySem.KeyKind P w K}
/-- the loop of set(..) -/
theorem upd_loop (W : WalksS P w A.in1 I fp wr G n Pv St) (S : Addr) (hSf : S ∉ fp) (ks : List K) (hn : ks.length = n) (hval : ∀ i v, Pv i v → ∃ k, ks[i]? = some k ∧ knd.is k v = true ∧ v.scannable = true) (hb : n + 1 < scanBound) :
    ∀ (j i : Nat) (s : Shared), n - i = j → i ≤ n → St i s →
      (∃ m, m ≤ i ∧ SetQ knd s.heap S (fun k => k ∈ ks.take i) m) →
      (∀ s', Moved (S :: wr) G s s' → (∃ m, m ≤ n ∧ SetQ knd s'.heap S (fun k => k ∈ ks) m) → R (.ok (.ret .none)) s') →
      codeAny (model P w) A (.builtin "set.update.loop" ⟨[.ref S, .ref I], []⟩) R s := by
  have hSw : S ∉ wr := fun h => hSf (W.sub _ h)
  have hsub : ∀ b ∈ wr, b ∈ S :: wr := fun b hb => List.mem_cons_of_mem _ hb
  intro j
  induction j with
  | zero =>
    intro i s hk hi hst hS hR
    have hin : i = n := by omega
    subst hin
    refine codeAny_builtin F.entry_set_update_loop ?_
    rw [Around.under_plainId F.plain_set_update_loop _]
    show wpAny _ A.in1 (pyNext (.ref I) >>= _) _ _ s
    refine wpAny_bind (W.done s _ _ hst fun s' hm => ?_)
    show wpAny _ A.in1 (ret Value.none) _ _ s'
    refine wpAny_pure (hR s' (hm.mono hsub) ?_)
    obtain ⟨m, hm1, hS⟩ := hS
    refine ⟨m, hm1, hS.at ?_ |> fun z => by rw [show ks.take i = ks from List.take_of_length_le (by omega)] at z; exact z⟩
    exact fun o ho => hm.heap S _ hSw ho
  | succ j ih =>
    intro i s hk hi hst hS hR
    have hlt : i < n := by omega
    refine codeAny_builtin F.entry_set_update_loop ?_
    rw [Around.under_plainId F.plain_set_update_loop _]
    show wpAny _ A.in1 (pyNext (.ref I) >>= _) _ _ s
    refine wpAny_bind (W.item i s _ _ hlt hst fun v s' hP hst' hm => ?_)
    obtain ⟨k, hk1, hk2, hk3⟩ := hval i v hP
    obtain ⟨m, hm1, hS⟩ := hS
    have hS' : SetQ knd s'.heap S (fun k => k ∈ ks.take i) m := hS.at fun o ho => hm.heap S _ hSw ho
    show wpAny _ A.in1 (holding [v] (setAdd S v) >>= _) _ _ s'
    refine wpAny_bind (wpAny_holding ?_)
    unfold setAdd
    refine wpAny_holding ?_
    refine wpAny_bind (knd.pyHash (k := k) hk2 ?_)
    refine add_hashed (s := { s' with toks := s'.toks + 1 }) hk2 hk3 hS' (by omega) fun b h' n' hn' hsb hS2 => ?_
    have e : ∀ x, (x ∈ ks.take i ∨ x = k) ↔ x ∈ ks.take (i + 1) := fun x => by
      rw [List.take_add_one, hk1]
      simp
    have hSi : SetQ knd h' S (fun k => k ∈ ks.take (i + 1)) n' := by
      obtain ⟨o, es, ep, t, h1, h2, h3, h4, h5, h6, h7⟩ := hS2
      exact ⟨o, es, ep, t, h1, h2, h3, h4, h5, fun x => (e x).symm.trans (h6 x), h7⟩
    refine wpAny_pure ⟨plainId_quiet F.plain_set_update_loop _, ih (i + 1) _ (by omega) hlt (W.frame _ s' _ _ hst' (Nat.le_succ _) fun b hb o e => ?_) ⟨n', by omega, hSi⟩ fun s'' hm'' hS'' => ?_⟩
    · rw [hsb.2 b (fun h : b = S => hSf (by rw [← h]; exact hb))]; exact e
    · refine hR s'' (Moved.trans W.gtrans ((hm.mono hsub).then_heap (Nat.le_succ _) fun b o hb e => ?_) hm'') hS''
      rw [hsb.2 b (fun h : b = S => hb (by rw [h]; exact List.mem_cons_self))]; exact e
end
end SQ

set_option Elab.async false
set_option linter.all false
set_option maxRecDepth 100000
set_option maxHeartbeats 4000000
/-! An own exception over ValueError's chain whose __init__ says super().__init__(text) and then self.f = f, ..: made, at the machine's level. -/
namespace PySem
namespace XI
open PySem.W PySem.Calls PyProof.Rows PySem.HandSPX
def supS (T : Expr) (p0 p1 p2 p3 p4 : Pos) : Stmt := .Expr (.Call (.Attribute (.Call (.Name "super" p0) [] [] p1) "__init__" p2) [T] [] p3) p4
def setF (f : Str) (q : Pos × Pos × Pos × Pos) : Stmt := .Assign [.Attribute (.Name "self" q.1) f q.2.1] (.Name f q.2.2.1) q.2.2.2
abbrev xEnv (qual : Str) (scope : Scope) (L f : Addr) (cda cc : Addr) : Env := envX qual scope L f (.ref cda) [("__class__", cc)]
/-- what the written part says of the class and of its __init__ -/
structure XTxt (K : Frag) (prog : Program) (C fI : Addr) (qual : Str) (params : Arguments) (body : List Stmt) (scope : Scope) (fs : List Str) (cda cc : Addr) : Prop where
  cls : ∃ nm q N bs bm sn sub ab col dd k0 k1 k2 k3 k5, K.lookup C = some (excClassObj nm q C N bs bm true sn sub ab col dd k0 k1 k2 k3 k5 "ValueError.__new__") ∧ refsVE bm = true
  sa : findIn K (.ref C) "__setattr__" = some (some (.builtin "object.__setattr__"))
  noN : ∀ f ∈ fs, findIn K (.ref C) f = some none
  iC : findIn K (.ref C) "__init__" = some (some (.ref fI))
  tC : typeIn K (.ref fI) = some (.type "function")
  fn : ∃ (oc : Value) (od : Option Addr) (doc pm : Value) (an : Option Addr) (ct : Value) (osl : Array (Option Value)),
    K.lookup fI = some ⟨oc, od, .func (fnX "__init__" qual params body scope [("__class__", cc)] .none .none doc pm an (.ref cda) ct), osl⟩ ∧ codeIn K (.ref cda) qual = true
  code : ∃ (ccl : Value) (cdd : Option Addr) (vs : Array Value) (ccs : Array (Option Value)) (file : Str) (tf : Tok), K.lookup cda = some ⟨ccl, cdd, .fields vs, ccs⟩ ∧ vs[2]? = some (.str file tf) ∧ ((prog.main.file : Str) == file) = true
  cell : ∃ (cl : Value) (cld : Option Addr) (csl : Array (Option Value)), K.lookup cc = some ⟨cl, cld, .cell (some (.ref C)), csl⟩
  self : mroIn K C (.ref C) = some true
  ve : subIn K (.ref C) (.type "ValueError") = some true
  sup : ks_superIn K C C "__init__" = some (some (.builtin "ValueError.__init__"))
  opq : nsIn K cStatics "thirdparty.any" = some none
section
variable {prog : Program} {w : World} {M : Model} {A : Around} {E : Value → Shared → Prop} {s : Shared} {K : Frag}
/-- ValueError.__init__ bound to x, called -/
theorem call_mw {nm q : Str} {C N u x t0 : Addr} {bs bm : List Value} {hdct : Bool} {sn : List Str} {sub : List Value} {ab : Bool} {col : Option Bool} {dd : Option Addr} {k0 k1 k2 k3 k5 : Option Value} {rest : List Value} {Q : Value → Shared → Prop}
    (hC : s.heap.get? C = some (excClassObj nm q C N bs bm hdct sn sub ab col dd k0 k1 k2 k3 k5 "ValueError.__new__")) (he : s.heap.get? x = some (excO C t0)) (hu : s.heap.get? u = some (kxs_mw "ValueError.__init__" x)) (hz : rest.length ≤ sizeLine)
    (hq : ∀ h' t1, (∀ b o, b ≠ x → s.heap.get? b = some o → h'.get? b = some o) → h'.get? x = some (excO C t1) → Q .none { s with heap := h' }) :
    wpAny (model prog w) A (call (.ref u) rest) Q E s := by
  obtain ⟨hh, g, d, tk, os⟩ := s
  refine wpAny_call (codeAny_of_tree ?_)
  show wpAny _ A.in1 (callAny (.ref u) ⟨rest, []⟩) _ _ _
  simp only [callAny]
  refine wpAny_bind (wpAny_load hu ?_)
  simp only [kxs_mw, show (Value.type "method-wrapper" == Value.type "method" || Value.type "method-wrapper" == Value.type "builtin_function_or_method" || Value.type "method-wrapper" == Value.type "method-wrapper") = true by decide, if_true]
  refine KFB.if_so (by decide) ?_
  refine wpAny_bind (check_bound_init F.excBase_ValueError.toExcCallFacts hC he rfl ?_)
  refine wpAny_bind (wpAny_pure (wpAny_pure ?_))
  refine ⟨plainId_quiet F.excBase_ValueError.init.plain _, codeAny_builtin F.excBase_ValueError.initEntry ?_⟩
  exact exc_init_tree (cls := .ref C) (t0 := t0) (dv := none) (c2 := .none) (c3 := .none) (b4 := .bool false) he hz fun h' k e' _ => hq h' _ k e'
/-- super().__init__(T) -/
theorem sup_step {C fI x t0 L cda cc : Addr} {qual : Str} {params : Arguments} {body bodyE : List Stmt} {scope : Scope} {fs : List Str} {m mg mb : Str → Option Value} {T : Expr} {p0 p1 p2 p3 p4 : Pos} {pl : Sem Bool} {Q : Flow → Shared → Prop}
    (Tx : XTxt K prog C fI qual params body scope fs cda cc) (X : K.In s.heap) (hx : s.heap.get? x = some (excO C t0)) (hn : s.heap.Ns L m) (hxL : x ≠ L) (hself : m "self" = some (.ref x))
    (G : s.heap.Ns mainGlobals mg) (gs : mg "super" = none) (Bl : s.heap.Ns builtinsNs mb) (bs : mb "super" = some (.type "super"))
    (hp : (params.posonlyargs ++ params.args).head?.map (·.arg) = some "self") (hks : scope.names.lookup ("super" : Str) = some .globalImplicit) (hkc : scope.names.lookup ("__class__" : Str) = some .free) (hka : scope.names.lookup ("self" : Str) = some .local) (hk : scope.kind = .function)
    (htop : (prog.main.scope.names.lookup ("super" : Str)).isSome = false)
    (hT : ∀ (s1 : Shared) (Q' : Value → Shared → Prop), s1.heap.Ns L m → s1.heap.Ns mainGlobals mg → s1.heap.Ns builtinsNs mb → (∀ y t h' tk, (∀ b o, s1.heap.get? b = some o → h'.get? b = some o) → Q' (.str y t) { s1 with heap := h', toks := tk }) → wpAny (model prog w) A (eval T (xEnv qual scope L fI cda cc)) Q' E s1)
    (hev : eval (.Call (.Attribute (.Call (.Name "super" p0) [] [] p1) "__init__" p2) [T] [] p3) (xEnv qual scope L fI cda cc) = (do
      let ov ← attributeBase (.Call (.Name "super" p0) [] [] p1) "__init__" (xEnv qual scope L fI cda cc) (eval (.Call (.Name "super" p0) [] [] p1) (xEnv qual scope L fI cda cc))
      standAt p2.atName
      let (f, first) ← holding [ov] (getMethod ov "__init__" pl)
      callWith p3 f first (backTo p3 (starEach [T] (xEnv qual scope L fI cda cc))) []) := by rfl)
    (hst : starEach [T] (xEnv qual scope L fI cda cc) = (false, eval T (xEnv qual scope L fI cda cc)) :: starEach [] (xEnv qual scope L fI cda cc) := by rfl) (hpl : (backTo p3 (starEach [] (xEnv qual scope L fI cda cc))).any (·.1) = false := by rfl)
    (hin : interactive (xEnv qual scope L fI cda cc) = false := by rfl) (hsw : swapsWith (.Call (.Attribute (.Call (.Name "super" p0) [] [] p1) "__init__" p2) [T] [] p3) none p4.line (xEnv qual scope L fI cda cc) = pure false := by rfl)
    (hq : ∀ h' tk t1, (∀ b o, b ≠ x → s.heap.get? b = some o → h'.get? b = some o) → h'.get? x = some (excO C t1) → Q .next { s with heap := h', toks := tk }) :
    _root_.PySem.wpAt (model prog w) A (.func bodyE (xEnv qual scope L fI cda cc)) (exec (supS T p0 p1 p2 p3 p4) (xEnv qual scope L fI cda cc)) Q E s := by
  obtain ⟨nm, q, N, bss, bm, sn, sub, ab, col, dd, k0, k1, k2, k3, k5, hC, hbm⟩ := Tx.cls
  obtain ⟨oc, od, doc, pm, an, ct, osl, ho, hcd⟩ := Tx.fn
  obtain ⟨ccl, cdd, vs, ccs, file, tf, hco, hvs, hfile⟩ := Tx.code
  obtain ⟨cl, cld, csl, hcell⟩ := Tx.cell
  have hcl : clsIn K C = some { name := nm, bases := bss, mro := .ref C :: bm, ns := N, qualname := q, hasDict := true, slotNames := sn, subclasses := sub, abstract := ab, collection := col, hasDel := false } := by unfold clsIn; rw [hC] <;> rfl
  obtain ⟨ar, har, hsn⟩ : ∃ ar, (params.posonlyargs ++ params.args).head? = some ar ∧ ar.arg = "self" := by
    cases h : (params.posonlyargs ++ params.args).head? with
    | none => rw [h] at hp; cases hp
    | some ar => rw [h] at hp; exact ⟨ar, rfl, Option.some.inj hp⟩
  have I : InstAt s.heap x (excO C t0) C none := ⟨hx, rfl, rfl, trivial⟩
  have hI : Looks (model prog w) s.heap (isInstance (.ref x) (.type "ValueError")) true := I.type.andThen (looks_subIn X Tx.ve)
  obtain ⟨hh, g, d, t, os⟩ := s
  unfold supS
  refine ks_wpAt_Expr_any (ks_wpAt_MethodCall ?_ hev) hin hsw
  refine ks_wpAt_super_base (env := xEnv qual scope L fI cda cc) hks hkc (by decide) rfl (X _ _ ho) rfl har rfl (X _ _ hco) rfl hvs hfile htop ?_
  refine ks_loadName_global hk hks (loadGlobal_builtin (env := xEnv qual scope L fI cda cc) G gs Bl bs ⟨rfl, ?_⟩)
  refine wpAny_loadName_free hk hkc rfl ⟨_, X _ _ hcell, rfl⟩ ?_
  rw [hsn]
  refine wpAny_loadName_local hk hka hn hself ?_
  refine ks_wpAny_isType_cls (X _ _ hC) rfl ⟨rfl, ?_⟩
  refine ks_wpAny_call_super (X _ _ hC) rfl hx rfl (fun c e => by cases e) (looks_mroIn X Tx.self) (fun h1 e1 kk1 => ?_)
  have X1 : K.In h1 := X.keeps kk1
  have hx1 := kk1 _ _ hx
  have hsup := Tx.sup
  unfold ks_superIn at hsup
  rw [hcl] at hsup
  refine kxs_getMethod kxs_ValueError e1 (looks_opaque X1 Tx.opq) (l₀ := .ref C :: bm) (fun A Q E s k q => wpAny_bind ((looks_clsIn X1 hcl) A _ E s k (wpAny_pure q))) rfl X1 hsup (hI.keeps kk1) (ks_ne X I hcl) (by decide) ?_
  have kk2 : ∀ b o, hh.get? b = some o → (h1.push (kxs_mw "ValueError.__init__" x)).get? b = some o := fun b o e => Heap.get?_push_of_some _ (kk1 b o e)
  have hu : (h1.push (kxs_mw "ValueError.__init__" x)).get? h1.objs.size = some (kxs_mw "ValueError.__init__" x) := Heap.get?_push_at rfl rfl
  rw [hst] at *
  refine kxs_callWith (i := "ValueError.__init__") (x := x) (by show (false || (backTo p3 (starEach [] (xEnv qual scope L fI cda cc))).any (·.1)) = false; rw [hpl]; rfl) (evalArgs_plain ?_)
  refine Calls.spliced_cons (hT _ _ (hn.at fun o e => kk2 _ _ e) (G.at fun o e => kk2 _ _ e) (Bl.at fun o e => kk2 _ _ e) fun y ty h3 tk3 kk3 => ?_)
  refine Calls.spliced_nil ⟨kk3 _ _ hu, ?_⟩
  refine call_mw (C := C) (kk3 _ _ (kk2 _ _ (X _ _ hC))) (kk3 _ _ (kk2 _ _ hx)) (kk3 _ _ hu) (by show 1 ≤ sizeLine; decide) fun h4 t1 kk4 e4 => ?_
  exact hq h4 _ t1 (fun b o hb e => kk4 b o hb (kk3 b o (kk2 b o e))) e4

theorem kept_but {h h' : Heap} {x : Addr} (X : K.In h) (hx : K.lookup x = none) (k : ∀ b o, b ≠ x → h.get? b = some o → h'.get? b = some o) : K.In h' := fun a o e =>
  k a o (fun z => by rw [z, hx] at e; cases e) (X a o e)
theorem ldX {A : Around} {E : Value → Shared → Prop} {s : Shared} {qual : Str} {scope : Scope} {L f cda cc : Addr} {m : Str → Option Value} {x : Str} {pos : Pos} {v : Value} {Q : Value → Shared → Prop} (hk : scope.kind = .function) (hl : scope.names.lookup x = some .local) (hd : (x == ("__debug__" : Str)) = false) (hn : s.heap.Ns L m) (hv : m x = some v) (h : Q v s) :
    wpAny M A (eval (.Name x pos) (xEnv qual scope L f cda cc)) Q E s := wpAny_Name (wpAny_loadName_local (env := xEnv qual scope L f cda cc) hk hl hn hv h) hd
/-- what __init__ leaves of a fresh exception at x: its dict at dx -/
structure InitEnd (h h' : Heap) (x C dx : Addr) (m : Str → Option Value) : Prop where
  keep : ∀ b o, b ≠ x → h.get? b = some o → h'.get? b = some o
  obj : ∃ t1 : Addr, h'.get? x = some { cls := .ref C, dict := some dx, data := .fields #[.ref t1, .none, .none, .none, .bool false, .none] }
  dbig : h.objs.size ≤ dx
  dne : dx ≠ x
  ns : h'.Ns1 dx m
/-- the text of an __init__ of one field, of two -/
structure XScope (params : Arguments) (scope : Scope) (fs : List Str) : Prop where
  hp : (params.posonlyargs ++ params.args).head?.map (·.arg) = some "self"
  hks : scope.names.lookup ("super" : Str) = some .globalImplicit
  hkc : scope.names.lookup ("__class__" : Str) = some .free
  hka : scope.names.lookup ("self" : Str) = some .local
  hk : scope.kind = .function
  hf : ∀ f ∈ fs, scope.names.lookup f = some .local ∧ (f == ("__debug__" : Str)) = false
  nc : ∀ x ∈ scope.names, x.2 ≠ .cell
  co : scope.isCoroutine = false
  gen : scope.isGenerator = false
/-- the form of super().__init__(T) -/
structure XEv (qual : Str) (scope : Scope) (T : Expr) (p0 p1 p2 p3 p4 : Pos) : Prop where
  ev : ∃ pl : Sem Bool, ∀ (L fI cda cc : Addr), eval (.Call (.Attribute (.Call (.Name "super" p0) [] [] p1) "__init__" p2) [T] [] p3) (xEnv qual scope L fI cda cc) = (do
      let ov ← attributeBase (.Call (.Name "super" p0) [] [] p1) "__init__" (xEnv qual scope L fI cda cc) (eval (.Call (.Name "super" p0) [] [] p1) (xEnv qual scope L fI cda cc))
      standAt p2.atName
      let (f, first) ← holding [ov] (getMethod ov "__init__" pl)
      callWith p3 f first (backTo p3 (starEach [T] (xEnv qual scope L fI cda cc))) [])
  st : ∀ (L fI cda cc : Addr), starEach [T] (xEnv qual scope L fI cda cc) = (false, eval T (xEnv qual scope L fI cda cc)) :: starEach [] (xEnv qual scope L fI cda cc)
  sw : ∀ (L fI cda cc : Addr), swapsWith (.Call (.Attribute (.Call (.Name "super" p0) [] [] p1) "__init__" p2) [T] [] p3) none p4.line (xEnv qual scope L fI cda cc) = pure false
  ia : ∀ (L fI cda cc : Addr), interactive (xEnv qual scope L fI cda cc) = false
/-- what the text expression T of super().__init__(T) wants -/
structure XText (prog : Program) (w : World) (qual : Str) (scope : Scope) (T : Expr) (p0 p1 p2 p3 p4 : Pos) (m : Str → Option Value) (mg mb : Str → Option Value) : Prop extends XEv qual scope T p0 p1 p2 p3 p4 where
  run : ∀ (A : Around) (E : Value → Shared → Prop) (L fI cda cc : Addr) (s1 : Shared) (Q' : Value → Shared → Prop), s1.heap.Ns L m → s1.heap.Ns mainGlobals mg → s1.heap.Ns builtinsNs mb → (∀ y t h' tk, (∀ b o, s1.heap.get? b = some o → h'.get? b = some o) → Q' (.str y t) { s1 with heap := h', toks := tk }) → wpAny (model prog w) A (eval T (xEnv qual scope L fI cda cc)) Q' E s1
/-- __init__(x, v), one field -/
theorem own_init1 {R : Result → Shared → Prop} {C fI x t0 cda cc : Addr} {qual f : Str} {params : Arguments} {scope : Scope} {mg mb : Str → Option Value} {T : Expr} {p0 p1 p2 p3 p4 : Pos} {q : Pos × Pos × Pos × Pos} {v : Value}
    (Tx : XTxt K prog C fI qual params [supS T p0 p1 p2 p3 p4, setF f q] scope [f] cda cc) (Sc : XScope params scope [f]) (hfs : f ≠ "self")
    (hb : ∀ (s : Shared) (doc pm : Value) (an : Option Addr) (ct : Value), BindsTo s (fnX "__init__" qual params [supS T p0 p1 p2 p3 p4, setF f q] scope [("__class__", cc)] .none .none doc pm an (.ref cda) ct) ⟨[.ref x, v], []⟩ [("self", .ref x), (f, v)])
    (Xt : ∀ m : Str → Option Value, m f = some v → XText prog w qual scope T p0 p1 p2 p3 p4 m mg mb)
    (hsw : ∀ (L fI cda cc : Addr), swapsWith (.Name f q.2.2.1) (some (.Attribute (.Name "self" q.1) f q.2.1)) q.2.2.2.line (xEnv qual scope L fI cda cc) = pure false)
    (X : K.In s.heap) (hlim : s.heap.NoLimit) (hx : s.heap.get? x = some (excO C t0)) (hnx : K.lookup x = none) (hroom : A.depth < recursionLimit)
    (G : s.heap.Ns mainGlobals mg) (gs : mg "super" = none) (Bl : s.heap.Ns builtinsNs mb) (bs : mb "super" = some (.type "super")) (htop : (prog.main.scope.names.lookup ("super" : Str)).isSome = false)
    (hq : ∀ h' tk dx, InitEnd s.heap h' x C dx (fun y => if y = f then some v else none) → R (.ok (.ret .none)) { s with heap := h', toks := tk }) :
    codeAny (model prog w) A (.call (.ref fI) ⟨[.ref x, v], []⟩) R s := by
  obtain ⟨nm, qn, N, bss, bm, sn, sub, ab, col, dd, k0, k1, k2, k3, k5, hC, hbm⟩ := Tx.cls
  obtain ⟨oc, od, doc, pm, an, ct, osl, ho, hcd⟩ := Tx.fn
  have hcl : clsIn K C = some { name := nm, bases := bss, mro := .ref C :: bm, ns := N, qualname := qn, hasDict := true, slotNames := sn, subclasses := sub, abstract := ab, collection := col, hasDel := false } := by unfold clsIn; rw [hC] <;> rfl
  refine ks_codeAny_call_defAt (fd := fnX "__init__" qual params [supS T p0 p1 p2 p3 p4, setF f q] scope [("__class__", cc)] .none .none doc pm an (.ref cda) ct) (body := [supS T p0 p1 p2 p3 p4, setF f q]) (binds := [("self", .ref x), (f, v)])
    hroom (X _ _ ho) rfl hlim (codeRec_of X hcd) rfl (hb _ _ _ _ _) Sc.nc (fun y hy => ?_) (fun h₁ hn k => ?_) Sc.co Sc.gen Sc.hk
  · rcases List.mem_cons.mp hy with e | e
    · rw [e]; exact Sc.hka
    · rcases List.mem_cons.mp e with e | e
      · rw [e]; exact (Sc.hf f (by simp)).1
      · cases e
  have hms : (fun y => List.lookup y [((PySem.Str.ofString "self"), Value.ref x), (f, v)].reverse) "self" = some (.ref x) := by
    show List.lookup ("self" : Str) [(f, v), (("self" : Str), Value.ref x)] = _
    have e : (("self" : Str) == f) = false := by simpa using (Ne.symm hfs)
    simp [List.lookup, e]
  have hmf : (fun y => List.lookup y [((PySem.Str.ofString "self"), Value.ref x), (f, v)].reverse) f = some v := by
    show List.lookup f [(f, v), (("self" : Str), Value.ref x)] = _
    simp [List.lookup]
  have hxL : s.heap.objs.size ≠ x := Nat.ne_of_gt (Heap.lt_size hx)
  have X₁ : K.In h₁ := X.keeps k
  have hx₁ := k _ _ hx
  have XT := Xt (fun y => List.lookup y [((PySem.Str.ofString "self"), Value.ref x), (f, v)].reverse) hmf
  obtain ⟨pl, ev⟩ := XT.ev
  refine ks_wpAt_execs_cons ?_
  show _root_.PySem.wpAt _ _ _ (exec (supS T p0 p1 p2 p3 p4) (xEnv qual scope s.heap.objs.size fI cda cc)) _ _ _
  refine sup_step (s := { s with heap := h₁, toks := _ }) (pl := pl) Tx X₁ hx₁ hn (Ne.symm hxL) hms (G.at fun o e => k _ _ e) gs (Bl.at fun o e => k _ _ e) bs Sc.hp Sc.hks Sc.hkc Sc.hka Sc.hk htop (fun s1 Q' => XT.run _ _ _ _ _ _ s1 Q') (ev _ _ _ _) (XT.st _ _ _ _) rfl (XT.ia _ _ _ _) (XT.sw _ _ _ _) fun h2 tk2 t1 kk2 e2 => ?_
  have X2 : K.In h2 := kept_but X₁ hnx kk2
  have hn2 := hn.at fun o e => kk2 _ _ hxL e
  refine wpAt_of_wpAny (wpAny_execs_cons (plainObj_wpAny_Assign_Attribute ?_ (hsw _ _ _ _)))
  refine ldX Sc.hk (Sc.hf f (by simp)).1 (Sc.hf f (by simp)).2 hn2 hmf (ldX Sc.hk Sc.hka (by decide) hn2 hms ?_)
  refine set_plain X2 (ox := excO C t1) (od := none) ⟨e2, rfl, rfl, trivial⟩ Tx.sa ?_
  refine exc_osa X2 e2 hcl (show refsVE (.ref C :: bm) = true from hbm) rfl (Tx.noN f (by simp)) (fun h₃ tk₃ dx k₃ dn dne hx₃ hn₃ => ?_)
  have z : s.heap.objs.size < h2.objs.size := hn2.lt
  exact wpAny_execs_nil (hq h₃ tk₃ dx ⟨fun b o hb e => k₃ b o hb (kk2 b o hb (k b o e)), ⟨t1, hx₃⟩, Nat.le_of_lt (Nat.lt_of_lt_of_le z dn), dne, hn₃⟩)
/-- __init__ run: its end -/
def InitRun (prog : Program) (w : World) (K : Frag) (C fI : Addr) (us : List Value) (m mg mb : Str → Option Value) : Prop :=
  ∀ (A : Around) (R : Result → Shared → Prop) (s : Shared) (x t0 : Addr), K.In s.heap → s.heap.NoLimit → s.heap.get? x = some (excO C t0) → K.lookup x = none → A.depth < recursionLimit → s.heap.Ns mainGlobals mg → s.heap.Ns builtinsNs mb →
    (∀ h' tk dx, InitEnd s.heap h' x C dx m → R (.ok (.ret .none)) { s with heap := h', toks := tk }) → codeAny (model prog w) A (.call (.ref fI) ⟨.ref x :: us, []⟩) R s
structure OwnMade (h h' : Heap) (e C d : Addr) (m : Str → Option Value) : Prop where
  keep : ∀ b o, h.get? b = some o → h'.get? b = some o
  new : h.objs.size ≤ e
  obj : ∃ oe vs, h'.get? e = some oe ∧ oe.cls = .ref C ∧ oe.dict = some d ∧ oe.data = .fields vs ∧ vs[1]? = some .none
  dbig : h.objs.size ≤ d
  dne : d ≠ e
  ns : h'.Ns1 d m
theorem own_made {R : Result → Shared → Prop} {C fI cda cc : Addr} {qual : Str} {params : Arguments} {body : List Stmt} {scope : Scope} {fs : List Str} {us : List Value} {m mg mb : Str → Option Value} (T : XTxt K prog C fI qual params body scope fs cda cc) (hI : InitRun prog w K C fI us m mg mb)
    (X : K.In s.heap) (hlim : s.heap.NoLimit) (hroom : A.depth + 1 < recursionLimit) (hus : us.length ≤ sizeLine) (G : s.heap.Ns mainGlobals mg) (Bl : s.heap.Ns builtinsNs mb)
    (hq : ∀ h' tk e d, OwnMade s.heap h' e C d m → R (.ok (.ret (.ref e))) { s with heap := h', toks := tk }) :
    codeAny (model prog w) A (.call (.ref C) ⟨us, []⟩) R s := by
  obtain ⟨nm, q, N, bs, bm, sn, sub, ab, col, dd, k0, k1, k2, k3, k5, hC, hbm⟩ := T.cls
  obtain ⟨hp, g, dr, tk, os⟩ := s
  have k : ∀ b o, hp.get? b = some o → ((hp.push (kdv_tup us)).push (excO C hp.objs.size)).get? b = some o := fun b o e => Heap.get?_push_of_some _ (Heap.get?_push_of_some _ e)
  have hget : ((hp.push (kdv_tup us)).push (excO C hp.objs.size)).get? (hp.objs.size + 1) = some (excO C hp.objs.size) := by heap_get
  have hnx : K.lookup (hp.objs.size + 1) = none := by
    cases e : K.lookup (hp.objs.size + 1) with
    | none => rfl
    | some o =>
      have z : hp.get? (hp.objs.size + 1) = some o := X _ _ e
      exact absurd (Nat.lt_of_succ_lt (Heap.lt_size z)) (Nat.lt_irrefl _)
  refine HandSPX.call_own F.excBase_ValueError (fun X => refsVE_contains X bm hbm) (X _ _ hC) (looks_findIn X T.iC) (fun self => bind_fn X self T.tC) hus ?_
  refine hI _ _ ⟨(hp.push (kdv_tup us)).push (excO C hp.objs.size), g, dr, tk, os⟩ _ _ (X.keeps k) (hlim.keeps k) hget hnx ?_ (G.at fun o e => k _ _ e) (Bl.at fun o e => k _ _ e) fun h' tk' dx ⟨k', ⟨t1, hx⟩, dn, dne, hns⟩ => ?_
  · show A.depth + 1 < recursionLimit
    exact hroom
  · have old : ∀ b o, hp.get? b = some o → h'.get? b = some o := fun b o e => k' b o (Nat.ne_of_lt (Nat.lt_succ_of_lt (Heap.lt_size e))) (k b o e)
    have z : hp.objs.size + 1 + 1 ≤ dx := by
      first
        | (simpa only [Heap.size_push] using dn)
        | exact dn
        | (have q := dn; rw [Heap.size_push, Heap.size_push] at q; exact q)
    exact ⟨rfl, hq h' tk' (hp.objs.size + 1) dx ⟨old, Nat.le_succ _, ⟨_, _, hx, rfl, rfl, rfl, rfl⟩, Nat.le_trans (Nat.le_trans (Nat.le_succ _) (Nat.le_succ _)) z, dne, hns⟩⟩
end
end XI
end PySem
namespace L2
open PySem PySem.Spec PyProof.Rows
/-- what raising a class x wants: C its class, us ↦ the fields' values -/
structure MkX (X : Cx) (x : Str) (C : Addr) (fs : List Str) (P : List V → Prop) : Prop where
  gC : X.mg x = some (.ref C)
  kC : PySem.W.keepIn X.K (.ref C) = true
  exC : PySem.W.subIn X.K (.ref C) (.type "BaseException") = some true
  tyC : PySem.W.typeIn X.K (.ref C) = some (.type "type")
  made : ∀ (vs : List V) (us : List Value), Vals vs us → vs.length = fs.length → P vs → ∃ m : Str → Option Value, (∀ f, RelO ((fs.zip vs).lookup f) (m f)) ∧
    ∀ (A : Around) (R : Result → Shared → Prop) (s : Shared), X.K.In s.heap → s.heap.NoLimit → A.depth + 1 < recursionLimit → s.heap.Ns mainGlobals X.mg → (∃ mb, s.heap.Ns builtinsNs mb ∧ mb "super" = some (.type "super") ∧ mb "str" = some (.type "str")) →
      (∀ h' tk e d, PySem.XI.OwnMade s.heap h' e C d m → R (.ok (.ret (.ref e))) { s with heap := h', toks := tk }) → codeAny (model X.prog X.w) A (.call (.ref C) ⟨us, []⟩) R s
/-- C(e, ..) -/
def tMkX (C : Addr) (fs : List Str) (P : List V → Prop) (ta : TA) : St → Hp → XK → Prop := fun σ H Q => ta σ H fun vs H1 => vs.length = fs.length ∧ P vs ∧ ∀ d, H1 d = none → Q (.ref C) (some d) (upd H1 d (.xd (fs.zip vs)))
theorem pmk_x {X : Cx} {x : Str} {C : Addr} {fs : List Str} {P : List V → Prop} {a : Expr} {as : List Expr} {ta : TA} {p pos : Pos} {k : Nat} (T : MkX X x C fs P) (hr : Room k X.A) (ha : PA X (a :: as) ta) (hg : Gl X x := by rfl) (hdb : (x == ("__debug__" : Str)) = false := by decide)
    (he : starEach (a :: as) X.env = (false, eval a X.env) :: starEach as X.env := by rfl) (hpl : (backTo pos (starEach as X.env)).any (·.1) = false := by rfl) :
    PMk X (.Call (.Name x p) (a :: as) [] pos) (tMkX C fs P ta) := by
  intro pins s σ H Q I h
  refine wpAny_Call_Name_kw (ld_glob I hg T.gC ?_ hdb)
  refine PySem.W.callWith_K (h₀ := X.base) I.ok.mod.kin T.kC (thn (ha.run pos pins s σ H _ I h) fun us s1 hh => ?_) he hpl
  obtain ⟨vs, H1, I1, r1, hl, hP, q1⟩ := hh
  refine ⟨I1.kIn, ?_⟩
  obtain ⟨m, hm, run⟩ := T.made vs us r1 hl hP
  show wpAny _ _ (call (.ref C) us) _ _ _
  have hlim := I1.nolimit
  have G : s1.heap.Ns mainGlobals X.mg := I1.ok.mod.glob.keeps I1.bk
  have Bl : ∃ mb, s1.heap.Ns builtinsNs mb ∧ mb "super" = some (.type "super") ∧ mb "str" = some (.type "str") := by
    obtain ⟨mb, h1, h2⟩ := I1.mod.blt
    exact ⟨mb, h1.keeps I1.bk, (h2 _ (by decide)).trans (by decide +kernel), (h2 _ (by decide)).trans (by decide +kernel)⟩
  obtain ⟨hp, g, d, t, os⟩ := s1
  refine wpAny_call (run _ _ _ I1.kIn hlim (by have := hr.dp; omega) G Bl fun h' tk' e d M => ?_)
  show MkP X pins σ Q (.ref e) ⟨h', g, _, tk', os⟩
  obtain ⟨oe, fv, hoe, hc, hd, hdat, h1⟩ := M.obj
  have hns := M.ns
  obtain ⟨G', g1, g2⟩ := restrict h' fun b => decide (b ≠ e)
  have gk : ∀ b, b ≠ e → G'.get? b = h'.get? b := fun b hb => g1 b (decide_eq_true hb)
  have ge : G'.get? e = none := g2 e (by simp)
  have old : ∀ b o, hp.get? b = some o → G'.get? b = some o := fun b o q => (gk b (Nat.ne_of_lt (Nat.lt_of_lt_of_le (Heap.lt_size q) M.new))).trans (M.keep b o q)
  have ob : ObjOk X.prog X.w (upd H1 d (.xd (fs.zip vs))) G' d (.xd (fs.zip vs)) :=
    ⟨_, hns.at (fun o q => (gk d M.dne).trans q), hm⟩
  have J : Inv X pins σ (upd H1 d (.xd (fs.zip vs))) ⟨G', g, _, tk', os⟩ := I1.laid (t' := tk') old M.dbig ob
  refine ⟨e, oe, fv, ⟨G', g, _, tk', os⟩, _, .ref C, some d, rfl, J, fun b o q => ?_, ge, hoe, ⟨hc, hd⟩, hdat, h1, ?_, rfl, I1.bare, raises_own T.exC T.tyC, q1 d (I1.hok.fresh M.dbig)⟩
  · by_cases hb : b = e
    · have q' : G'.get? b = some o := q
      rw [hb, ge] at q'; cases q'
    · exact (gk b hb).symm.trans q
  · rw [upd_ne (Ne.symm M.dne)]
    exact I1.hok.fresh M.new
end L2

set_option Elab.async false
set_option linter.all false
set_option maxRecDepth 100000
set_option maxHeartbeats 4000000
/-! Data over the hand layer: what a value stands for (Rp), what of the heap is settled (G), one's own lists (pr), the steps of expressions and statements as plain functions. -/
namespace Dy
open PySem L2

abbrev D := PyData
def hndD : D := .dict [(.none, .none)]
/-- a range object lo, .. below hi -/
def rngD (lo hi : Int) : D := .dict [(.none, .tuple [.int lo, .int hi])]
/-- no dict of the program: a handle, a range -/
def isHnd : List (D × D) → Bool
  | (.none, _) :: _ => true
  | _ => false
/-- the law's own state object, where there is one -/
inductive Gh where
  | off
  | draw (st cs : Addr)
structure S where
  pos : Int
  cells : List Int
def Gh.mut : Gh → List Addr
  | .off => []
  | .draw st cs => [st, cs]
def Gh.hd : Gh → Option Addr
  | .off => none
  | .draw st _ => some st
def StRel : Gh → Hp → S → Prop
  | .off, _, _ => True
  | .draw st cs, H, s => H st = some (.lst [.int s.pos, .ref cs]) ∧ H cs = some (.lst (s.cells.map V.int))
def keyD : Key → D
  | .inl i => .int i
  | .inr x => .str x
mutual
inductive Rp (hd : Option Addr) (G : Hp) : V → D → Prop
  | non : Rp hd G .non .none
  | bl (b : Bool) : Rp hd G (.bl b) (.bool b)
  | int (i : Int) : Rp hd G (.int i) (.int i)
  | str (x : Str) : Rp hd G (.str x) (.str x)
  | lst {a : Addr} {xs : List V} {ds : List D} : G a = some (.lst xs) → RpA hd G xs ds → Rp hd G (.ref a) (.list ds)
  | tup {a : Addr} {xs : List V} {ds : List D} : G a = some (.tup xs) → RpA hd G xs ds → Rp hd G (.ref a) (.tuple ds)
  | dct {a : Addr} {kvs : List (Key × V)} {l : List (D × D)} : G a = some (.dK kvs) → RpK hd G kvs l → Rp hd G (.ref a) (.dict l)
  | hnd {a : Addr} : hd = some a → Rp hd G (.ref a) hndD
  | rng {a : Addr} {lo hi : Int} : G a = some (.rng lo hi) → Rp hd G (.ref a) (rngD lo hi)
inductive RpA (hd : Option Addr) (G : Hp) : List V → List D → Prop
  | nil : RpA hd G [] []
  | cons {v : V} {vs : List V} {d : D} {ds : List D} : Rp hd G v d → RpA hd G vs ds → RpA hd G (v :: vs) (d :: ds)
inductive RpK (hd : Option Addr) (G : Hp) : List (Key × V) → List (D × D) → Prop
  | nil : RpK hd G [] []
  | cons {k : Key} {v : V} {kvs : List (Key × V)} {d : D} {l : List (D × D)} : Rp hd G v d → RpK hd G kvs l → RpK hd G ((k, v) :: kvs) ((keyD k, d) :: l)
end
abbrev Sub (G H : Hp) : Prop := ∀ a o, G a = some o → H a = some o
section
variable {hd : Option Addr} {G G' H : Hp}
mutual
theorem Rp.mono (e : Sub G G') : ∀ (d : D) {v : V}, Rp hd G v d → Rp hd G' v d
  | .none, _, h => by cases h; exact .non
  | .bool b, _, h => by cases h; exact .bl b
  | .int i, _, h => by cases h; exact .int i
  | .str x, _, h => by cases h; exact .str x
  | .list ds, _, h => by
    cases h with
    | lst h r => exact .lst (e _ _ h) (RpA.mono e ds r)
  | .tuple ds, _, h => by
    cases h with
    | tup h r => exact .tup (e _ _ h) (RpA.mono e ds r)
  | .dict l, _, h => by
    cases h with
    | dct h r => exact .dct (e _ _ h) (RpK.mono e l r)
    | hnd h => exact .hnd h
    | rng h => exact .rng (e _ _ h)
theorem RpA.mono (e : Sub G G') : ∀ (ds : List D) {vs : List V}, RpA hd G vs ds → RpA hd G' vs ds
  | [], _, h => by cases h; exact .nil
  | d :: ds, _, h => by
    cases h with
    | cons h r => exact .cons (Rp.mono e d h) (RpA.mono e ds r)
theorem RpK.mono (e : Sub G G') : ∀ (l : List (D × D)) {kvs : List (Key × V)}, RpK hd G kvs l → RpK hd G' kvs l
  | [], _, h => by cases h; exact .nil
  | (k, d) :: l, _, h => by
    cases h with
    | cons h r => exact .cons (Rp.mono e d h) (RpK.mono e l r)
end
theorem RpA.length : ∀ {vs : List V} {ds : List D}, RpA hd G vs ds → vs.length = ds.length
  | _, [], h => by cases h; rfl
  | _, d :: ds, h => by
    cases h with
    | cons h r => simp [RpA.length r]
theorem RpA.get : ∀ {vs : List V} {ds : List D} {i : Nat} {d : D}, RpA hd G vs ds → ds[i]? = some d → ∃ v, vs[i]? = some v ∧ Rp hd G v d
  | _, [], _, _, h, e => by simp at e
  | _, d :: ds, 0, _, h, e => by
    cases h with
    | cons h r => simp at e; subst e; exact ⟨_, rfl, h⟩
  | _, d :: ds, i + 1, _, h, e => by
    cases h with
    | cons h r =>
      obtain ⟨v, h1, h2⟩ := RpA.get (i := i) r (by simpa using e)
      exact ⟨v, by simpa using h1, h2⟩
theorem RpA.app : ∀ {vs : List V} {ds : List D} {ws : List V} {es : List D}, RpA hd G vs ds → RpA hd G ws es → RpA hd G (vs ++ ws) (ds ++ es)
  | _, [], _, _, h, r => by cases h; exact r
  | _, d :: ds, _, _, h, r => by
    cases h with
    | cons h t => exact .cons h (RpA.app t r)
theorem RpA.one {v : V} {d : D} (h : Rp hd G v d) : RpA hd G [v] [d] := .cons h .nil
theorem RpA.take : ∀ {vs : List V} {ds : List D} (n : Nat), RpA hd G vs ds → RpA hd G (vs.take n) (ds.take n)
  | _, _, 0, _ => .nil
  | _, [], n + 1, h => by cases h; exact .nil
  | _, d :: ds, n + 1, h => by
    cases h with
    | cons h t => exact .cons h (RpA.take n t)
theorem RpA.drop : ∀ {vs : List V} {ds : List D} (n : Nat), RpA hd G vs ds → RpA hd G (vs.drop n) (ds.drop n)
  | _, _, 0, h => h
  | _, [], n + 1, h => by cases h; exact .nil
  | _, d :: ds, n + 1, h => by
    cases h with
    | cons h t => exact RpA.drop n t
theorem RpA.set : ∀ {vs : List V} {ds : List D} (n : Nat) {v : V} {d : D}, Rp hd G v d → RpA hd G vs ds → RpA hd G (vs.set n v) (ds.set n d)
  | _, [], n, _, _, _, h => by cases h; exact .nil
  | _, d :: ds, 0, _, _, h1, h => by
    cases h with
    | cons h t => exact .cons h1 t
  | _, d :: ds, n + 1, _, _, h1, h => by
    cases h with
    | cons h t => exact .cons h (RpA.set n h1 t)
theorem RpA.rev : ∀ {vs : List V} {ds : List D}, RpA hd G vs ds → RpA hd G vs.reverse ds.reverse
  | _, [], h => by cases h; exact .nil
  | _, d :: ds, h => by
    cases h with
    | cons h t =>
      rw [List.reverse_cons, List.reverse_cons]
      exact RpA.app (RpA.rev t) (RpA.one h)
end

/-! ### good states, steps -/
structure St0 (Γ : Gh) (G H : Hp) (s : S) : Prop where
  gh : Sub G H
  gm : ∀ a ∈ Γ.mut, G a = none
  st : StRel Γ H s
/-- from (G, H) to (G', H'): all that stood is kept but the state; G grows by what is new -/
structure Step (Γ : Gh) (G H G' H' : Hp) : Prop where
  keep : ∀ a o, H a = some o → a ∉ Γ.mut → H' a = some o
  ex : Sub G G'
  fr : ∀ a o, G' a = some o → G a = some o ∨ H a = none
section
variable {Γ : Gh} {G H G' H' G2 H2 : Hp} {s s' : S}
theorem Step.refl : Step Γ G H G H := ⟨fun _ _ e _ => e, fun _ _ e => e, fun _ _ e => .inl e⟩
theorem Step.trans (a : Step Γ G H G' H') (b : Step Γ G' H' G2 H2) (gm : ∀ x ∈ Γ.mut, G2 x = none) : Step Γ G H G2 H2 :=
  ⟨fun x o e hx => b.keep x o (a.keep x o e hx) hx, fun x o e => b.ex x o (a.ex x o e), fun x o e => by
    rcases b.fr x o e with h | h
    · exact a.fr x o h
    · cases q : H x with
      | none => exact .inr rfl
      | some u =>
        have nm : x ∉ Γ.mut := fun z => by rw [gm x z] at e; cases e
        rw [a.keep x u q nm] at h
        cases h⟩
theorem St0.mut_some (h : St0 Γ G H s) {a : Addr} (ha : a ∈ Γ.mut) : ∃ o, H a = some o := by
  cases Γ with
  | off => cases ha
  | draw st cs =>
    rcases List.mem_cons.mp ha with e | e
    · subst e; exact ⟨_, h.st.1⟩
    · rcases List.mem_cons.mp e with e | e
      · subst e; exact ⟨_, h.st.2⟩
      · cases e
theorem St0.nmut (h : St0 Γ G H s) {p : Addr} (hp : H p = none) : p ∉ Γ.mut := fun z => by
  obtain ⟨o, e⟩ := h.mut_some z
  rw [hp] at e; cases e
theorem St0.gfree (h : St0 Γ G H s) {p : Addr} (hp : H p = none) : G p = none := by
  cases q : G p with
  | none => rfl
  | some o => rw [h.gh p o q] at hp; cases hp
theorem StRel.keep (h : StRel Γ H s) (k : ∀ a ∈ Γ.mut, H' a = H a) : StRel Γ H' s := by
  cases Γ with
  | off => trivial
  | draw st cs => exact ⟨by rw [k st (by simp [Gh.mut])]; exact h.1, by rw [k cs (by simp [Gh.mut])]; exact h.2⟩
/-- a new object that is settled -/
theorem St0.new (h : St0 Γ G H s) {p : Addr} {o : HO} (hp : H p = none) : St0 Γ (upd G p o) (upd H p o) s :=
  ⟨fun a u e => by
    by_cases ha : a = p
    · subst ha; rw [upd_same] at e ⊢; exact e
    · rw [upd_ne ha] at e ⊢; exact h.gh a u e,
   fun a ha => by rw [upd_ne (show a ≠ p from fun z => h.nmut hp (z ▸ ha))]; exact h.gm a ha,
   h.st.keep fun a ha => upd_ne (show a ≠ p from fun z => h.nmut hp (z ▸ ha))⟩
theorem Step.new (h : St0 Γ G H s) {p : Addr} {o : HO} (hp : H p = none) : Step Γ G H (upd G p o) (upd H p o) :=
  ⟨fun a u e _ => by rw [upd_ne (ne_of_none e hp)]; exact e,
   fun a u e => by rw [upd_ne (ne_of_none e (h.gfree hp))]; exact e,
   fun a u e => by
    by_cases ha : a = p
    · subst ha; exact .inr hp
    · rw [upd_ne ha] at e; exact .inl e⟩
/-- a new object of one's own -/
theorem St0.newO (h : St0 Γ G H s) {p : Addr} {o : HO} (hp : H p = none) : St0 Γ G (upd H p o) s :=
  ⟨fun a u e => by rw [upd_ne (ne_of_none e (h.gfree hp))]; exact h.gh a u e, h.gm, h.st.keep fun a ha => upd_ne (show a ≠ p from fun z => h.nmut hp (z ▸ ha))⟩
theorem Step.newO {p : Addr} {o : HO} (hp : H p = none) : Step Γ G H G (upd H p o) :=
  ⟨fun a u e _ => by rw [upd_ne (ne_of_none e hp)]; exact e, fun _ _ e => e, fun _ _ e => .inl e⟩
/-- what stands there becomes settled -/
theorem St0.settle (h : St0 Γ G H s) {p : Addr} {o : HO} (hp : H p = some o) (hm : p ∉ Γ.mut) : St0 Γ (upd G p o) H s :=
  ⟨fun a u e => by
    by_cases ha : a = p
    · subst ha; rw [upd_same] at e; cases e; exact hp
    · rw [upd_ne ha] at e; exact h.gh a u e,
   fun a ha => by rw [upd_ne (show a ≠ p from fun z => hm (z ▸ ha))]; exact h.gm a ha, h.st⟩
theorem Sub.upd {p : Addr} {o : HO} (hp : G p = none) : Sub G (L2.upd G p o) := fun a u e => by rw [upd_ne (ne_of_none e hp)]; exact e
end

/-! ### the frame's slots -/
inductive Ent where
  | un
  | sh (d : D)
  | pr (d : D)
abbrev Env' := List Ent
/-- one's own object: a list, a dict -/
def Pv (hd : Option Addr) (G : Hp) : Option HO → D → Prop
  | some (.lst xs), .list ds => RpA hd G xs ds
  | some (.dK kvs), .dict l => RpK hd G kvs l
  | _, _ => False
theorem Pv.mono {hd : Option Addr} {G G' : Hp} (e : Sub G G') {o : Option HO} {d : D} (h : Pv hd G o d) : Pv hd G' o d := by
  cases o with
  | none => exact h.elim
  | some o =>
    cases o with
    | lst xs => cases d with
      | list ds => exact RpA.mono e ds h
      | _ => exact h.elim
    | dK kvs => cases d with
      | dict l => exact RpK.mono e l h
      | _ => exact h.elim
    | _ => exact h.elim
theorem Pv.some {hd : Option Addr} {G : Hp} {o : Option HO} {d : D} (h : Pv hd G o d) : ∃ u, o = Option.some u := by
  cases o with
  | none => exact h.elim
  | some o => exact ⟨o, rfl⟩
theorem Pv.rp {hd : Option Addr} {G : Hp} {p : Addr} {o : HO} {d : D} (hp : G p = Option.some o) (h : Pv hd G (Option.some o) d) : Rp hd G (.ref p) d := by
  cases o with
  | lst xs => cases d with
    | list ds => exact .lst hp h
    | _ => exact h.elim
  | dK kvs => cases d with
    | dict l => exact .dct hp h
    | _ => exact h.elim
  | _ => exact h.elim
structure Rel (Γ : Gh) (B G0 G H : Hp) (σ : L2.St) (ρ : Env') (s : S) : Prop where
  ok : St0 Γ G H s
  step : Step Γ G0 B G H
  len : σ.length = ρ.length
  sh : ∀ (i : Nat) d, ρ[i]? = some (.sh d) → ∃ v, σ[i]? = some (some v) ∧ Rp Γ.hd G v d
  pr : ∀ (i : Nat) d, ρ[i]? = some (.pr d) → ∃ p, σ[i]? = some (some (.ref p)) ∧ G p = none ∧ B p = none ∧ p ∉ Γ.mut ∧ Pv Γ.hd G (H p) d
  sep : ∀ (i j : Nat) d e p, i ≠ j → ρ[i]? = some (.pr d) → ρ[j]? = some (.pr e) → σ[i]? = some (some (.ref p)) → σ[j]? ≠ some (some (.ref p))
section
variable {Γ : Gh} {B G0 G H G' H' : Hp} {σ : L2.St} {ρ : Env'} {s s' : S}
/-- behind an expression -/
theorem Rel.go (R : Rel Γ B G0 G H σ ρ s) (t : Step Γ G H G' H') (o : St0 Γ G' H' s') : Rel Γ B G0 G' H' σ ρ s' where
  ok := o
  step := R.step.trans t o.gm
  len := R.len
  sh := fun i d e => by
    obtain ⟨v, h1, h2⟩ := R.sh i d e
    exact ⟨v, h1, Rp.mono t.ex d h2⟩
  pr := fun i d e => by
    obtain ⟨p, h1, h2, h3, h4, h5⟩ := R.pr i d e
    obtain ⟨u, hu⟩ := h5.some
    refine ⟨p, h1, ?_, h3, h4, ?_⟩
    · cases q : G' p with
      | none => rfl
      | some o =>
        rcases t.fr p o q with z | z
        · rw [h2] at z; cases z
        · rw [hu] at z; cases z
    · rw [t.keep p u hu h4, ← hu]
      exact h5.mono t.ex
  sep := R.sep
end

/-! ### results -/
abbrev Exn := Str × List (Str × D)
inductive Rs (α : Type) where
  | ok (a : α) (s : S)
  | ex (e : Exn) (s : S)
  | st
abbrev M (α : Type) := Env' → S → Rs α
def bindM {α β : Type} (f : M α) (g : α → M β) : M β := fun ρ s => match f ρ s with
  | .ok a s' => g a ρ s'
  | .ex e s' => .ex e s'
  | .st => .st
def ofO {α : Type} (o : Option α) : M α := fun _ s => match o with
  | some a => .ok a s
  | none => .st
def retM {α : Type} (a : α) : M α := fun _ s => .ok a s
inductive SR where
  | nx (ρ : Env') (s : S)
  | bk (ρ : Env') (s : S)
  | ct (ρ : Env') (s : S)
  | rt (r : Ent) (s : S)
  | ex (e : Exn) (ρ : Env') (s : S)
  | st
abbrev MS := Env' → S → SR

/-- an error as it lies in the heap -/
def toV : D → V
  | .none => .non
  | .bool b => .bl b
  | .int i => .int i
  | .str x => .str x
  | _ => .non
def ExR (mg : Str → Option Value) (e : Exn) (cls : Value) (dd : Option Addr) (H : Hp) : Prop :=
  ∃ C a, cls = .ref C ∧ mg e.1 = some (.ref C) ∧ dd = some a ∧ H a = some (.xd (e.2.map fun p => (p.1, toV p.2)))

/-! ### readings -/
section
variable (mg : Str → Option Value) (W : WX)
def PostX {α : Type} (Γ : Gh) (G H : Hp) (σ : L2.St) (K : α → S → Prop) : Rs α → Prop
  | .ok a s => K a s
  | .ex e s => ∀ cls dd G' H', Step Γ G H G' H' → St0 Γ G' H' s → ExR mg e cls dd H' → W cls dd σ H'
  | .st => False
/-- a settled value -/
def tE (f : M D) : TE := fun σ H Q => ∃ Γ B G0 G ρ s, Rel Γ B G0 G H σ ρ s ∧
  PostX mg W Γ G H σ (fun d s' => ∀ v G' H', Step Γ G H G' H' → St0 Γ G' H' s' → Rp Γ.hd G' v d → Q v H') (f ρ s)
/-- a new list or dict of one's own -/
def tO (f : M D) : TE := fun σ H Q => ∃ Γ B G0 G ρ s, Rel Γ B G0 G H σ ρ s ∧
  PostX mg W Γ G H σ (fun d s' => ∀ p G' H', Step Γ G H G' H' → St0 Γ G' H' s' → H p = none → G' p = none → Pv Γ.hd G' (H' p) d → Q (.ref p) H') (f ρ s)
/-- settled or one's own -/
def Bor (Γ : Gh) (G H : Hp) (v : V) (d : D) : Prop := Rp Γ.hd G v d ∨ ∃ p, v = .ref p ∧ G p = none ∧ p ∉ Γ.mut ∧ Pv Γ.hd G (H p) d
def tB (f : M D) : TE := fun σ H Q => ∃ Γ B G0 G ρ s, Rel Γ B G0 G H σ ρ s ∧
  PostX mg W Γ G H σ (fun d s' => ∀ v G' H', Step Γ G H G' H' → St0 Γ G' H' s' → Bor Γ G' H' v d → Q v H') (f ρ s)
/-- a test -/
def tT (f : M Bool) : TT := fun σ H Q => ∃ Γ B G0 G ρ s, Rel Γ B G0 G H σ ρ s ∧
  PostX mg W Γ G H σ (fun b s' => ∀ G' H', Step Γ G H G' H' → St0 Γ G' H' s' → Q b H') (f ρ s)
/-- arguments: settled | settled or one's own -/
def tAr (f : M (List D)) : TA := fun σ H Q => ∃ Γ B G0 G ρ s, Rel Γ B G0 G H σ ρ s ∧
  PostX mg W Γ G H σ (fun ds s' => ∀ vs G' H', Step Γ G H G' H' → St0 Γ G' H' s' → RpA Γ.hd G' vs ds → Q vs H') (f ρ s)
inductive BorA (Γ : Gh) (G H : Hp) : List V → List D → Prop
  | nil : BorA Γ G H [] []
  | cons {v : V} {vs : List V} {d : D} {ds : List D} : Bor Γ G H v d → BorA Γ G H vs ds → BorA Γ G H (v :: vs) (d :: ds)
def tAb (f : M (List D)) : TA := fun σ H Q => ∃ Γ B G0 G ρ s, Rel Γ B G0 G H σ ρ s ∧
  PostX mg W Γ G H σ (fun ds s' => ∀ vs G' H', Step Γ G H G' H' → St0 Γ G' H' s' → BorA Γ G' H' vs ds → Q vs H') (f ρ s)
def PostS (Γ : Gh) (B G0 : Hp) (E : Ends) : SR → Prop
  | .nx ρ s => ∀ σ G H, Rel Γ B G0 G H σ ρ s → E.nx σ H
  | .bk ρ s => ∀ σ G H, Rel Γ B G0 G H σ ρ s → E.bk σ H
  | .ct ρ s => ∀ σ G H, Rel Γ B G0 G H σ ρ s → E.ct σ H
  | .rt (.sh d) s => ∀ v G H, St0 Γ G H s → Step Γ G0 B G H → Rp Γ.hd G v d → E.rt v H
  | .rt (.pr d) s => ∀ p G H, St0 Γ G H s → Step Γ G0 B G H → G p = none → B p = none → p ∉ Γ.mut → Pv Γ.hd G (H p) d → E.rt (.ref p) H
  | .rt .un _ => False
  | .ex e ρ s => ∀ cls dd σ G H, Rel Γ B G0 G H σ ρ s → ExR mg e cls dd H → W cls dd σ H
  | .st => False
def tSt (g : MS) : TS := fun E σ H => ∃ Γ B G0 G ρ s, Rel Γ B G0 G H σ ρ s ∧ PostS mg W Γ B G0 E (g ρ s)
end
section
variable {mg : Str → Option Value} {W : WX} {α β : Type} {Γ : Gh} {G H G1 H1 : Hp} {σ : L2.St} {K K' : α → S → Prop} {K2 : β → S → Prop} {r : Rs α} {s1 : S} {f : M α} {g : α → M β} {ρ : Env'} {s : S}
theorem PostX.imp (h : PostX mg W Γ G H σ K r) (k : ∀ a s, K a s → K' a s) : PostX mg W Γ G H σ K' r := by
  cases r with
  | ok a s => exact k a s h
  | ex e s => exact h
  | st => exact h
theorem PostX.step (h : PostX mg W Γ G H σ K r) (t : Step Γ G H G1 H1) : PostX mg W Γ G1 H1 σ K r := by
  cases r with
  | ok a s => exact h
  | ex e s => exact fun cls dd G' H' t' o x => h cls dd G' H' (t.trans t' o.gm) o x
  | st => exact h
theorem PostX.bind (h : PostX mg W Γ G H σ K2 (bindM f g ρ s)) : PostX mg W Γ G H σ (fun a s' => PostX mg W Γ G H σ K2 (g a ρ s')) (f ρ s) := by
  unfold bindM at h
  cases q : f ρ s with
  | ok a s => rw [q] at h; exact h
  | ex e s => rw [q] at h; exact h
  | st => rw [q] at h; exact h
theorem PostX.ofO {o : Option α} (h : PostX mg W Γ G H σ K (Dy.ofO o ρ s)) : ∃ a, o = some a ∧ K a s := by
  cases o with
  | none => exact h.elim
  | some a => exact ⟨a, rfl, h⟩
end
theorem _root_.L2.PE.imp {X : Cx} {e : Expr} {t t' : TE} (h : PE X e t) (k : ∀ σ H Q, t' σ H Q → t σ H Q) : PE X e t' := ⟨fun pins s σ H Q I w => h.run pins s σ H Q I (k _ _ _ w)⟩
theorem _root_.L2.PT.imp {X : Cx} {e : Expr} {t t' : TT} (h : PT X e t) (k : ∀ σ H Q, t' σ H Q → t σ H Q) : PT X e t' := ⟨fun pins s σ H Q I w => h.run pins s σ H Q I (k _ _ _ w)⟩
theorem _root_.L2.PW.imp {X : Cx} {e : Expr} {t t' : TT} (h : PW X e t) (k : ∀ σ H Q, t' σ H Q → t σ H Q) : PW X e t' := ⟨fun wh pins s σ H Q I w => h.run wh pins s σ H Q I (k _ _ _ w)⟩
theorem _root_.L2.PA.imp {X : Cx} {e : List Expr} {t t' : TA} (h : PA X e t) (k : ∀ σ H Q, t' σ H Q → t σ H Q) : PA X e t' := ⟨fun pos pins s σ H Q I w => h.run pos pins s σ H Q I (k _ _ _ w)⟩
theorem _root_.L2.PS.imp {X : Cx} {e : Stmt} {t t' : TS} (h : PS X e t) (k : ∀ E σ H, t' E σ H → t E σ H) : PS X e t' := ⟨fun pins s σ H E I w => h.run pins s σ H E I (k _ _ _ w)⟩
theorem _root_.L2.PSs.imp {X : Cx} {e : List Stmt} {t t' : TS} (h : PSs X e t) (k : ∀ E σ H, t' E σ H → t E σ H) : PSs X e t' := ⟨fun pins s σ H E I w => h.run pins s σ H E I (k _ _ _ w)⟩
end Dy

set_option Elab.async false
set_option linter.all false
set_option maxRecDepth 100000
set_option maxHeartbeats 4000000
/-! Expressions. -/
namespace Dy
open PySem L2

section
variable {Γ : Gh} {G H G1 H1 : Hp} {v : V} {d : D} {s s1 : S} {vs : List V} {ds : List D}
theorem Bor.step (h : Bor Γ G H v d) (t : Step Γ G H G1 H1) : Bor Γ G1 H1 v d := by
  rcases h with h | ⟨p, e, h1, h2, h3⟩
  · exact .inl (Rp.mono t.ex d h)
  · obtain ⟨u, hu⟩ := h3.some
    refine .inr ⟨p, e, ?_, h2, ?_⟩
    · cases q : G1 p with
      | none => rfl
      | some o =>
        rcases t.fr p o q with z | z
        · rw [h1] at z; cases z
        · rw [hu] at z; cases z
    · rw [t.keep p u hu h2, ← hu]
      exact h3.mono t.ex
theorem BorA.step : ∀ {vs : List V} {ds : List D}, BorA Γ G H vs ds → Step Γ G H G1 H1 → BorA Γ G1 H1 vs ds
  | _, _, .nil, _ => .nil
  | _, _, .cons h r, t => .cons (h.step t) (BorA.step r t)
theorem BorA.of : ∀ {vs : List V} {ds : List D}, RpA Γ.hd G vs ds → BorA Γ G H vs ds
  | _, [], h => by cases h; exact .nil
  | _, d :: ds, h => by
    cases h with
    | cons h r => exact .cons (.inl h) (BorA.of r)
/-- a list, settled or one's own, as it stands -/
theorem Bor.list (h : Bor Γ G H v (.list ds)) (o : St0 Γ G H s) : ∃ a xs, v = .ref a ∧ H a = some (.lst xs) ∧ RpA Γ.hd G xs ds := by
  rcases h with h | ⟨p, e, h1, h2, h3⟩
  · cases h with
    | lst h r => exact ⟨_, _, rfl, o.gh _ _ h, r⟩
  · subst e
    cases q : H p with
    | none => rw [q] at h3; exact h3.elim
    | some u =>
      rw [q] at h3
      cases u with
      | lst xs => exact ⟨p, xs, rfl, q, h3⟩
      | _ => exact h3.elim
theorem Bor.tup (h : Bor Γ G H v (.tuple ds)) (o : St0 Γ G H s) : ∃ a xs, v = .ref a ∧ G a = some (.tup xs) ∧ H a = some (.tup xs) ∧ RpA Γ.hd G xs ds := by
  rcases h with h | ⟨p, e, h1, h2, h3⟩
  · cases h with
    | tup h r => exact ⟨_, _, rfl, h, o.gh _ _ h, r⟩
  · cases q : H p with
    | none => rw [q] at h3; exact h3.elim
    | some u => rw [q] at h3; cases u <;> exact h3.elim
theorem Bor.dict {l : List (D × D)} (h : Bor Γ G H v (.dict l)) (o : St0 Γ G H s) (hl : isHnd l = false) : ∃ a kvs, v = .ref a ∧ H a = some (.dK kvs) ∧ RpK Γ.hd G kvs l := by
  rcases h with h | ⟨p, e, h1, h2, h3⟩
  · cases h with
    | dct h r => exact ⟨_, _, rfl, o.gh _ _ h, r⟩
    | hnd h => exact absurd hl (by simp [isHnd])
    | rng h => exact absurd hl (by simp [isHnd])
  · subst e
    cases q : H p with
    | none => rw [q] at h3; exact h3.elim
    | some u =>
      rw [q] at h3
      cases u with
      | dK kvs => exact ⟨p, kvs, rfl, q, h3⟩
      | _ => exact h3.elim
theorem Bor.sc (h : Bor Γ G H v d) (hd : (∀ l, d ≠ .list l) ∧ (∀ l, d ≠ .dict l)) : Rp Γ.hd G v d := by
  rcases h with h | ⟨p, e, h1, h2, h3⟩
  · exact h
  · cases q : H p with
    | none => rw [q] at h3; exact h3.elim
    | some u =>
      rw [q] at h3
      cases u with
      | lst xs => cases d with
        | list l => exact absurd rfl (hd.1 l)
        | _ => exact h3.elim
      | dK xs => cases d with
        | dict l => exact absurd rfl (hd.2 l)
        | _ => exact h3.elim
      | _ => exact h3.elim
theorem Bor.int {i : Int} (h : Bor Γ G H v (.int i)) : v = .int i := by
  cases h.sc ⟨fun _ => by simp, fun _ => by simp⟩; rfl
theorem Bor.str {i : Str} (h : Bor Γ G H v (.str i)) : v = .str i := by
  cases h.sc ⟨fun _ => by simp, fun _ => by simp⟩; rfl
theorem Bor.bool {i : Bool} (h : Bor Γ G H v (.bool i)) : v = .bl i := by
  cases h.sc ⟨fun _ => by simp, fun _ => by simp⟩; rfl
theorem Bor.none' (h : Bor Γ G H v .none) : v = .non := by
  cases h.sc ⟨fun _ => by simp, fun _ => by simp⟩; rfl
end

/-! ### leaves, changes of mode -/
section
variable {X : Cx} {W : WX} {e : Expr} {f : M D}
def vS (i : Nat) : M D := fun ρ s => match ρ[i]? with
  | some (.sh d) => .ok d s
  | _ => .st
def vB (i : Nat) : M D := fun ρ s => match ρ[i]? with
  | some (.sh d) => .ok d s
  | some (.pr d) => .ok d s
  | _ => .st
theorem de_var {i : Nat} (h : PE X e (tVar i)) : PE X e (tE X.mg W (vS i)) := h.imp fun σ H Q ⟨Γ, B, G0, G, ρ, s, R, h⟩ => by
  unfold vS at h
  cases q : ρ[i]? with
  | none => rw [q] at h; exact h.elim
  | some x =>
    rw [q] at h
    cases x with
    | sh d =>
      obtain ⟨v, h1, h2⟩ := R.sh i d q
      exact ⟨v, h1, h v G H .refl R.ok h2⟩
    | _ => exact h.elim
theorem db_var {i : Nat} (h : PE X e (tVar i)) : PE X e (tB X.mg W (vB i)) := h.imp fun σ H Q ⟨Γ, B, G0, G, ρ, s, R, h⟩ => by
  unfold vB at h
  cases q : ρ[i]? with
  | none => rw [q] at h; exact h.elim
  | some x =>
    rw [q] at h
    cases x with
    | un => exact h.elim
    | sh d =>
      obtain ⟨v, h1, h2⟩ := R.sh i d q
      exact ⟨v, h1, h v G H .refl R.ok (.inl h2)⟩
    | pr d =>
      obtain ⟨p, h1, h2, h3, h4, h5⟩ := R.pr i d q
      exact ⟨_, h1, h _ G H .refl R.ok (.inr ⟨p, rfl, h2, h4, h5⟩)⟩
/-- scalars -/
def cD : V → Option D
  | .non => some .none
  | .bl b => some (.bool b)
  | .int i => some (.int i)
  | .str x => some (.str x)
  | _ => none
theorem de_c {v : V} {d : D} (h : PE X e (tC v)) (hv : cD v = some d := by rfl) : PE X e (tE X.mg W (retM d)) := h.imp fun σ H Q ⟨Γ, B, G0, G, ρ, s, R, h⟩ => by
  refine h v G H .refl R.ok ?_
  cases v <;> first | (cases hv; constructor) | cases hv
theorem db (h : PE X e (tE X.mg W f)) : PE X e (tB X.mg W f) := h.imp fun σ H Q ⟨Γ, B, G0, G, ρ, s, R, h⟩ =>
  ⟨Γ, B, G0, G, ρ, s, R, h.imp fun d s' k v G' H' t o r => k v G' H' t o (.inl r)⟩
/-- one's own is settled -/
theorem de_do (h : PE X e (tO X.mg W f)) : PE X e (tE X.mg W f) := h.imp fun σ H Q ⟨Γ, B, G0, G, ρ, s, R, h⟩ =>
  ⟨Γ, B, G0, G, ρ, s, R, h.imp fun d s' k p G' H' t o hp hg hv => by
    obtain ⟨u, hu⟩ := hv.some
    have hm := R.ok.nmut hp
    refine k (.ref p) (upd G' p u) H' ⟨t.keep, fun a o e => ?_, fun a o e => ?_⟩ (o.settle hu hm) ?_
    · rw [upd_ne (ne_of_none e (R.ok.gfree hp))]; exact t.ex a o e
    · by_cases ha : a = p
      · subst ha; exact .inr hp
      · rw [upd_ne ha] at e; exact t.fr a o e
    · rw [hu] at hv
      exact Pv.rp upd_same (hv.mono (Sub.upd hg))⟩
theorem db_do (h : PE X e (tO X.mg W f)) : PE X e (tB X.mg W f) := h.imp fun σ H Q ⟨Γ, B, G0, G, ρ, s, R, h⟩ =>
  ⟨Γ, B, G0, G, ρ, s, R, h.imp fun d s' k p G' H' t o hp hg hv => k _ G' H' t o (.inr ⟨p, rfl, hg, R.ok.nmut hp, hv⟩)⟩
end

/-! ### two operands -/
def binD (g : D → D → Option D) (fa fb : M D) : M D := bindM fa fun x => bindM fb fun y => ofO (g x y)
def R2E (r : R2) (g : D → D → Option D) : Prop := ∀ (Γ : Gh) (G H : Hp) (s : S) (x y : V) (dx dy d : D) (Q : VK), St0 Γ G H s → Bor Γ G H x dx → Bor Γ G H y dy → g dx dy = some d →
  (∀ v G' H', Step Γ G H G' H' → St0 Γ G' H' s → Rp Γ.hd G' v d → Q v H') → r x y H Q
def R2O (r : R2) (g : D → D → Option D) : Prop := ∀ (Γ : Gh) (G H : Hp) (s : S) (x y : V) (dx dy d : D) (Q : VK), St0 Γ G H s → Bor Γ G H x dx → Bor Γ G H y dy → g dx dy = some d →
  (∀ p G' H', Step Γ G H G' H' → St0 Γ G' H' s → H p = none → G' p = none → Pv Γ.hd G' (H' p) d → Q (.ref p) H') → r x y H Q
section
variable {X : Cx} {W : WX} {a b : Expr} {fa fb : M D} {g : D → D → Option D} {r : R2} {mg : Str → Option Value}
theorem tOp_E (hr : R2E r g) {σ : L2.St} {H : Hp} {Q : VK} : tE mg W (binD g fa fb) σ H Q → tOp r (tB mg W fa) (tB mg W fb) σ H Q := fun ⟨Γ, B, G0, G, ρ, s, R, h⟩ =>
  ⟨Γ, B, G0, G, ρ, s, R, h.bind.imp fun dx s1 h1 x G1 H1 t1 o1 b1 => ⟨Γ, B, G0, G1, ρ, s1, R.go t1 o1, (h1.bind.step t1).imp fun dy s2 h2 y G2 H2 t2 o2 b2 => by
    obtain ⟨d, hd, k⟩ := h2.ofO
    exact hr Γ G2 H2 s2 x y dx dy d Q o2 (b1.step t2) b2 hd fun v G' H' t o rp => k v G' H' (t1.trans (t2.trans t o.gm) o.gm) o rp⟩⟩
theorem tOp_O (hr : R2O r g) {σ : L2.St} {H : Hp} {Q : VK} : tO mg W (binD g fa fb) σ H Q → tOp r (tB mg W fa) (tB mg W fb) σ H Q := fun ⟨Γ, B, G0, G, ρ, s, R, h⟩ =>
  ⟨Γ, B, G0, G, ρ, s, R, h.bind.imp fun dx s1 h1 x G1 H1 t1 o1 b1 => ⟨Γ, B, G0, G1, ρ, s1, R.go t1 o1, (h1.bind.step t1).imp fun dy s2 h2 y G2 H2 t2 o2 b2 => by
    obtain ⟨d, hd, k⟩ := h2.ofO
    refine hr Γ G2 H2 s2 x y dx dy d Q o2 (b1.step t2) b2 hd fun p G' H' t o hp hg hv => k p G' H' (t1.trans (t2.trans t o.gm) o.gm) o ?_ hg hv
    have t12 := t1.trans t2 o2.gm
    cases q : H p with
    | none => rfl
    | some u => rw [t12.keep p u q (o2.nmut hp)] at hp; cases hp⟩⟩
theorem de_bin {op : Operator} {pos : Pos} (ho : OpR X (binaryOp op) r) (hr : R2E r g) (ha : PE X a (tB X.mg W fa)) (hb : PE X b (tB X.mg W fb)) : PE X (.BinOp a op b pos) (tE X.mg W (binD g fa fb)) := (pe_op ho ha hb).imp fun _ _ _ => tOp_E hr
theorem do_bin {op : Operator} {pos : Pos} (ho : OpR X (binaryOp op) r) (hr : R2O r g) (ha : PE X a (tB X.mg W fa)) (hb : PE X b (tB X.mg W fb)) : PE X (.BinOp a op b pos) (tO X.mg W (binD g fa fb)) := (pe_op ho ha hb).imp fun _ _ _ => tOp_O hr
theorem de_ix {pos : Pos} (ho : IxR X r) (hr : R2E r g) (ha : PE X a (tB X.mg W fa)) (hb : PE X b (tB X.mg W fb)) (hs : PlainIx b) : PE X (.Subscript a b pos) (tE X.mg W (binD g fa fb)) := (pe_ix ho ha hb hs).imp fun _ _ _ => tOp_E hr
theorem de_cmp {op : CmpOp} {pos : Pos} (ho : OpR X (compareOp op) r) (hr : R2E r g) (ha : PE X a (tB X.mg W fa)) (hb : PE X b (tB X.mg W fb)) (hm : behindInMarks op b = false) : PE X (.Compare a [op] [b] pos) (tE X.mg W (binD g fa fb)) := (pe_cmpR ho ha hb hm).imp fun _ _ _ => tOp_E hr
/-- a test of a value that is True or False -/
def boolD : D → Option Bool
  | .bool b => some b
  | _ => none
def tstM (f : M D) : M Bool := bindM f fun d => ofO (boolD d)
theorem boolD_of {d : D} {b : Bool} (h : boolD d = some b) : d = .bool b := by
  cases d <;> first | (cases h; rfl) | cases h
theorem tTest_E {f : M D} {σ : L2.St} {H : Hp} {Q : Bool → Hp → Prop} {t : TE} (k : ∀ σ H Q, tE mg W f σ H Q → t σ H Q) : tT mg W (tstM f) σ H Q → tTest t σ H Q := fun ⟨Γ, B, G0, G, ρ, s, R, h⟩ =>
  k _ _ _ ⟨Γ, B, G0, G, ρ, s, R, h.bind.imp fun d s1 h1 v G' H' t o rp => by
    obtain ⟨b, hb, k⟩ := h1.ofO
    cases boolD_of hb
    cases rp
    exact ⟨b, rfl, k G' H' t o⟩⟩
theorem dt_cmp {op : CmpOp} {pos : Pos} (ho : OpR X (compareOp op) r) (hr : R2E r g) (ha : PE X a (tB X.mg W fa)) (hb : PE X b (tB X.mg W fb)) (hm : behindInMarks op b = false) : PT X (.Compare a [op] [b] pos) (tT X.mg W (tstM (binD g fa fb))) :=
  (pt_cmpR ho ha hb hm).imp fun _ _ _ => tTest_E fun _ _ _ => tOp_E hr
theorem dt_val {e : Expr} {f : M D} (h : PE X e (tE X.mg W f)) (he : ∀ whole, isTrue e X.env whole = (do let v ← whole; standAt e.pos; holding [v] (truthy v)) := by intro _; rfl) : PT X e (tT X.mg W (tstM f)) :=
  (pt_val h he).imp fun σ H Q w => tTest_E (t := tE X.mg W f) (fun _ _ _ z => z) w
end

/-! ### and, or, not, if -/
section
variable {X : Cx} {W : WX} {a b c : Expr} {rest : List Expr} {pos : Pos} {fa fb : M D} {ta tb : M Bool} {mg : Str → Option Value}
def andT (ta tb : M Bool) : M Bool := bindM ta fun x => if x then tb else retM false
def orT (ta tb : M Bool) : M Bool := bindM ta fun x => if x then retM true else tb
def notT (ta : M Bool) : M Bool := bindM ta fun x => retM (!x)
theorem dw_and1 (h : PT X a (tT X.mg W ta)) : PW X (.BoolOp .And [a] pos) (tT X.mg W ta) := pw_and1 h
theorem dw_or1 (h : PT X a (tT X.mg W ta)) : PW X (.BoolOp .Or [a] pos) (tT X.mg W ta) := pw_or1 h
theorem dw_and (h1 : PT X a (tT X.mg W ta)) (h2 : PW X (.BoolOp .And (b :: rest) pos) (tT X.mg W tb)) : PW X (.BoolOp .And (a :: b :: rest) pos) (tT X.mg W (andT ta tb)) := (pw_and h1 h2).imp fun σ H Q ⟨Γ, B, G0, G, ρ, s, R, h⟩ =>
  ⟨Γ, B, G0, G, ρ, s, R, h.bind.imp fun x s1 h1 G1 H1 t1 o1 => by
    cases x with
    | true => exact ⟨Γ, B, G0, G1, ρ, s1, R.go t1 o1, (PostX.step h1 t1).imp fun y s2 h2 G2 H2 t2 o2 => h2 G2 H2 (t1.trans t2 o2.gm) o2⟩
    | false => exact h1 G1 H1 t1 o1⟩
theorem dw_or (h1 : PT X a (tT X.mg W ta)) (h2 : PW X (.BoolOp .Or (b :: rest) pos) (tT X.mg W tb)) : PW X (.BoolOp .Or (a :: b :: rest) pos) (tT X.mg W (orT ta tb)) := (pw_or h1 h2).imp fun σ H Q ⟨Γ, B, G0, G, ρ, s, R, h⟩ =>
  ⟨Γ, B, G0, G, ρ, s, R, h.bind.imp fun x s1 h1 G1 H1 t1 o1 => by
    cases x with
    | true => exact h1 G1 H1 t1 o1
    | false => exact ⟨Γ, B, G0, G1, ρ, s1, R.go t1 o1, (PostX.step h1 t1).imp fun y s2 h2 G2 H2 t2 o2 => h2 G2 H2 (t1.trans t2 o2.gm) o2⟩⟩
theorem dt_w {op : BoolOp} {es : List Expr} (h : PW X (.BoolOp op es pos) (tT X.mg W ta)) : PT X (.BoolOp op es pos) (tT X.mg W ta) := h.pt
theorem dt_not (h1 : PT X a (tT X.mg W ta)) : PT X (.UnaryOp .Not a pos) (tT X.mg W (notT ta)) := (pt_not h1).imp fun σ H Q ⟨Γ, B, G0, G, ρ, s, R, h⟩ =>
  ⟨Γ, B, G0, G, ρ, s, R, h.bind.imp fun x s1 h1 G1 H1 t1 o1 => h1 G1 H1 t1 o1⟩
/-- as values, the operands True or False -/
def andD (fa fb : M D) : M D := bindM fa fun x => bindM (ofO (boolD x)) fun b => if b then fb else retM (.bool false)
def orD (fa fb : M D) : M D := bindM fa fun x => bindM (ofO (boolD x)) fun b => if b then retM (.bool true) else fb
def notD (fa : M D) : M D := bindM fa fun x => bindM (ofO (boolD x)) fun b => retM (.bool (!b))
theorem de_one {op : BoolOp} (h : PE X a (tE X.mg W fa)) : PE X (.BoolOp op [a] pos) (tE X.mg W fa) := pe_one h
theorem de_and (h1 : PE X a (tE X.mg W fa)) (h2 : PE X (.BoolOp .And (b :: rest) pos) (tE X.mg W fb)) : PE X (.BoolOp .And (a :: b :: rest) pos) (tE X.mg W (andD fa fb)) := (pe_and h1 h2).imp fun σ H Q ⟨Γ, B, G0, G, ρ, s, R, h⟩ =>
  ⟨Γ, B, G0, G, ρ, s, R, h.bind.imp fun d s1 h1 v G1 H1 t1 o1 rp => by
    obtain ⟨x, hx, h2⟩ := h1.bind.ofO
    cases boolD_of hx
    cases rp
    refine ⟨x, rfl, ?_⟩
    cases x with
    | true => exact ⟨Γ, B, G0, G1, ρ, s1, R.go t1 o1, (PostX.step h2 t1).imp fun y s2 h2 v G2 H2 t2 o2 => h2 v G2 H2 (t1.trans t2 o2.gm) o2⟩
    | false => exact h2 _ G1 H1 t1 o1 (.bl false)⟩
theorem de_or (h1 : PE X a (tE X.mg W fa)) (h2 : PE X (.BoolOp .Or (b :: rest) pos) (tE X.mg W fb)) : PE X (.BoolOp .Or (a :: b :: rest) pos) (tE X.mg W (orD fa fb)) := (pe_or h1 h2).imp fun σ H Q ⟨Γ, B, G0, G, ρ, s, R, h⟩ =>
  ⟨Γ, B, G0, G, ρ, s, R, h.bind.imp fun d s1 h1 v G1 H1 t1 o1 rp => by
    obtain ⟨x, hx, h2⟩ := h1.bind.ofO
    cases boolD_of hx
    cases rp
    refine ⟨x, rfl, ?_⟩
    cases x with
    | true => exact h2 _ G1 H1 t1 o1 (.bl true)
    | false => exact ⟨Γ, B, G0, G1, ρ, s1, R.go t1 o1, (PostX.step h2 t1).imp fun y s2 h2 v G2 H2 t2 o2 => h2 v G2 H2 (t1.trans t2 o2.gm) o2⟩⟩
theorem de_not (h1 : PE X a (tE X.mg W fa)) : PE X (.UnaryOp .Not a pos) (tE X.mg W (notD fa)) := (pe_not h1).imp fun σ H Q ⟨Γ, B, G0, G, ρ, s, R, h⟩ =>
  ⟨Γ, B, G0, G, ρ, s, R, h.bind.imp fun d s1 h1 v G1 H1 t1 o1 rp => by
    obtain ⟨x, hx, h2⟩ := h1.bind.ofO
    cases boolD_of hx
    cases rp
    exact ⟨x, rfl, h2 _ G1 H1 t1 o1 (.bl _)⟩⟩
def ifM {α : Type} (t : M Bool) (fa fb : M α) : M α := bindM t fun x => if x then fa else fb
theorem de_if (hc : PT X c (tT X.mg W ta)) (h1 : PE X a (tE X.mg W fa)) (h2 : PE X b (tE X.mg W fb)) : PE X (.IfExp c a b pos) (tE X.mg W (ifM ta fa fb)) := (pe_ifExp hc h1 h2).imp fun σ H Q ⟨Γ, B, G0, G, ρ, s, R, h⟩ =>
  ⟨Γ, B, G0, G, ρ, s, R, h.bind.imp fun x s1 h1 G1 H1 t1 o1 => by
    cases x with
    | true => exact ⟨Γ, B, G0, G1, ρ, s1, R.go t1 o1, (PostX.step h1 t1).imp fun y s2 h2 v G2 H2 t2 o2 => h2 v G2 H2 (t1.trans t2 o2.gm) o2⟩
    | false => exact ⟨Γ, B, G0, G1, ρ, s1, R.go t1 o1, (PostX.step h1 t1).imp fun y s2 h2 v G2 H2 t2 o2 => h2 v G2 H2 (t1.trans t2 o2.gm) o2⟩⟩
theorem db_if (hc : PT X c (tT X.mg W ta)) (h1 : PE X a (tB X.mg W fa)) (h2 : PE X b (tB X.mg W fb)) : PE X (.IfExp c a b pos) (tB X.mg W (ifM ta fa fb)) := (pe_ifExp hc h1 h2).imp fun σ H Q ⟨Γ, B, G0, G, ρ, s, R, h⟩ =>
  ⟨Γ, B, G0, G, ρ, s, R, h.bind.imp fun x s1 h1 G1 H1 t1 o1 => by
    cases x with
    | true => exact ⟨Γ, B, G0, G1, ρ, s1, R.go t1 o1, (PostX.step h1 t1).imp fun y s2 h2 v G2 H2 t2 o2 => h2 v G2 H2 (t1.trans t2 o2.gm) o2⟩
    | false => exact ⟨Γ, B, G0, G1, ρ, s1, R.go t1 o1, (PostX.step h1 t1).imp fun y s2 h2 v G2 H2 t2 o2 => h2 v G2 H2 (t1.trans t2 o2.gm) o2⟩⟩
end

/-! ### arguments, displays -/
section
variable {X : Cx} {W : WX} {e : Expr} {es : List Expr} {pos : Pos} {f : M D} {fs : M (List D)} {mg : Str → Option Value}
def consM (f : M D) (fs : M (List D)) : M (List D) := bindM f fun x => bindM fs fun xs => retM (x :: xs)
theorem da_nil : PA X [] (tAr X.mg W (retM [])) := pa_nil.imp fun σ H Q ⟨Γ, B, G0, G, ρ, s, R, h⟩ => h [] G H .refl R.ok .nil
theorem da_cons (h1 : PE X e (tE X.mg W f)) (h2 : PA X es (tAr X.mg W fs)) (hs : starEach (e :: es) X.env = (false, eval e X.env) :: starEach es X.env := by rfl) : PA X (e :: es) (tAr X.mg W (consM f fs)) := (pa_cons h1 h2 hs).imp fun σ H Q ⟨Γ, B, G0, G, ρ, s, R, h⟩ =>
  ⟨Γ, B, G0, G, ρ, s, R, h.bind.imp fun x s1 h1 v G1 H1 t1 o1 r1 => ⟨Γ, B, G0, G1, ρ, s1, R.go t1 o1, (h1.bind.step t1).imp fun xs s2 h2 vs G2 H2 t2 o2 r2 => h2 (v :: vs) G2 H2 (t1.trans t2 o2.gm) o2 (.cons (Rp.mono t2.ex _ r1) r2)⟩⟩
theorem dab_nil : PA X [] (tAb X.mg W (retM [])) := pa_nil.imp fun σ H Q ⟨Γ, B, G0, G, ρ, s, R, h⟩ => h [] G H .refl R.ok .nil
theorem dab_cons (h1 : PE X e (tB X.mg W f)) (h2 : PA X es (tAb X.mg W fs)) (hs : starEach (e :: es) X.env = (false, eval e X.env) :: starEach es X.env := by rfl) : PA X (e :: es) (tAb X.mg W (consM f fs)) := (pa_cons h1 h2 hs).imp fun σ H Q ⟨Γ, B, G0, G, ρ, s, R, h⟩ =>
  ⟨Γ, B, G0, G, ρ, s, R, h.bind.imp fun x s1 h1 v G1 H1 t1 o1 r1 => ⟨Γ, B, G0, G1, ρ, s1, R.go t1 o1, (h1.bind.step t1).imp fun xs s2 h2 vs G2 H2 t2 o2 r2 => h2 (v :: vs) G2 H2 (t1.trans t2 o2.gm) o2 (.cons (r1.step t2) r2)⟩⟩
def lenOk {α : Type} (xs : List α) : Bool := decide (xs.length ≤ sizeLine)
def tupM (fs : M (List D)) : M D := bindM fs fun xs => if lenOk xs then retM (.tuple xs) else fun _ _ => .st
def lstM (fs : M (List D)) : M D := bindM fs fun xs => if lenOk xs then retM (.list xs) else fun _ _ => .st
theorem de_tup {x1} (h : PA X es (tAr X.mg W fs)) : PE X (.Tuple es x1 pos) (tE X.mg W (tupM fs)) := (pe_tup h).imp fun σ H Q ⟨Γ, B, G0, G, ρ, s, R, h⟩ =>
  ⟨Γ, B, G0, G, ρ, s, R, h.bind.imp fun xs s1 h1 vs G1 H1 t1 o1 r1 => by
    by_cases hz : lenOk xs = true
    · rw [if_pos hz] at h1
      refine ⟨by rw [r1.length]; exact of_decide_eq_true hz, fun p hp => h1 _ _ _ (t1.trans (Step.new o1 hp) (o1.new hp).gm) (o1.new hp) (.tup upd_same (RpA.mono (Sub.upd (o1.gfree hp)) _ r1))⟩
    · rw [if_neg hz] at h1; exact h1.elim⟩
theorem do_lst (h : PA X es (tAr X.mg W fs)) : PE X (.List es pos) (tO X.mg W (lstM fs)) := (pe_lst h).imp fun σ H Q ⟨Γ, B, G0, G, ρ, s, R, h⟩ =>
  ⟨Γ, B, G0, G, ρ, s, R, h.bind.imp fun xs s1 h1 vs G1 H1 t1 o1 r1 => by
    by_cases hz : lenOk xs = true
    · rw [if_pos hz] at h1
      refine ⟨by rw [r1.length]; exact of_decide_eq_true hz, fun p hp => h1 p _ _ (t1.trans (Step.newO hp) o1.gm) (o1.newO hp) ?_ (o1.gfree hp) ?_⟩
      · cases q : H p with
        | none => rfl
        | some u => rw [t1.keep p u q (o1.nmut hp)] at hp; cases hp
      · rw [upd_same]; exact r1
    · rw [if_neg hz] at h1; exact h1.elim⟩
end
end Dy

set_option Elab.async false
set_option linter.all false
set_option maxRecDepth 100000
set_option maxHeartbeats 4000000
/-! Operators, comparisons, items. -/
namespace Dy
open PySem L2

/-! ### plain data, for ==, in -/
section
variable {K : PySem.W.Frag} {hd : Option Addr} {G : Hp}
mutual
theorem Rp.dp : ∀ (d : D) {v : V}, Rp hd G v d → d.canLay0 = true → Dp K G v d
  | .none, _, h, _ => by cases h; exact .non
  | .bool b, _, h, _ => by cases h; exact .bl b
  | .int i, _, h, _ => by cases h; exact .int i
  | .str x, _, h, _ => by cases h; exact .str x
  | .list ds, _, h, c => by
    cases h with
    | lst h r => exact .lst (SqL.of h) (RpA.dp ds r (by simpa [PyData.canLay0] using c))
  | .tuple ds, _, h, c => by
    cases h with
    | tup h r => exact .tup (SqT.of h) (RpA.dp ds r (by simpa [PyData.canLay0] using c))
  | .dict l, _, h, c => by simp [PyData.canLay0] at c
theorem RpA.dp : ∀ (ds : List D) {vs : List V}, RpA hd G vs ds → PyData.canLayAll0 ds = true → DpAll K G vs ds
  | [], _, h, _ => by cases h; exact .nil
  | d :: ds, _, h, c => by
    have c' : d.canLay0 = true ∧ PyData.canLayAll0 ds = true := by simpa [PyData.canLayAll0] using c
    cases h with
    | cons h r => exact .cons (Rp.dp d h c'.1) (RpA.dp ds r c'.2)
end
end
theorem Bor.dp {K : PySem.W.Frag} {Γ : Gh} {G H : Hp} {v : V} {d : D} {s : S} (h : Bor Γ G H v d) (o : St0 Γ G H s) (c : SeqAt.shaped d = true) : Dp K H v d := by
  have c0 := SeqAt.canLay_of_shaped c
  rcases h with h | ⟨p, e, h1, h2, h3⟩
  · exact Rp.dp d (Rp.mono o.gh d h) c0
  · subst e
    obtain ⟨u, hu⟩ := h3.some
    rw [hu] at h3
    exact Rp.dp d (Pv.rp (hd := Γ.hd) hu (h3.mono o.gh)) c0

def one1 (b : Bool) : Option D := if b then some (.bool true) else some (.bool false)
/-- a scalar answer, the heap as it is -/
theorem fin0 {Γ : Gh} {G H : Hp} {s : S} {d : D} {v : V} {Q : VK} (k : ∀ v G' H', Step Γ G H G' H' → St0 Γ G' H' s → Rp Γ.hd G' v d → Q v H') (o : St0 Γ G H s) (r : Rp Γ.hd G v d) : Q v H := k v G H .refl o r
/-- a new tuple -/
theorem finT {Γ : Gh} {G H : Hp} {s : S} {ds : List D} {xs : List V} {Q : VK} (k : ∀ v G' H', Step Γ G H G' H' → St0 Γ G' H' s → Rp Γ.hd G' v (.tuple ds) → Q v H') (o : St0 Γ G H s) (r : RpA Γ.hd G xs ds) {p : Addr} (hp : H p = none) : Q (.ref p) (upd H p (.tup xs)) :=
  k _ _ _ (Step.new o hp) (o.new hp) (.tup upd_same (RpA.mono (Sub.upd (o.gfree hp)) _ r))
/-- a new list, settled; one's own -/
theorem finL {Γ : Gh} {G H : Hp} {s : S} {ds : List D} {xs : List V} {Q : VK} (k : ∀ v G' H', Step Γ G H G' H' → St0 Γ G' H' s → Rp Γ.hd G' v (.list ds) → Q v H') (o : St0 Γ G H s) (r : RpA Γ.hd G xs ds) {p : Addr} (hp : H p = none) : Q (.ref p) (upd H p (.lst xs)) :=
  k _ _ _ (Step.new o hp) (o.new hp) (.lst upd_same (RpA.mono (Sub.upd (o.gfree hp)) _ r))
theorem finLO {Γ : Gh} {G H : Hp} {s : S} {ds : List D} {xs : List V} {Q : VK} (k : ∀ p G' H', Step Γ G H G' H' → St0 Γ G' H' s → H p = none → G' p = none → Pv Γ.hd G' (H' p) (.list ds) → Q (.ref p) H') (o : St0 Γ G H s) (r : RpA Γ.hd G xs ds) {p : Addr} (hp : H p = none) : Q (.ref p) (upd H p (.lst xs)) :=
  k p _ _ (Step.newO hp) (o.newO hp) hp (o.gfree hp) (by rw [upd_same]; exact r)
theorem finDO {Γ : Gh} {G H : Hp} {s : S} {l : List (D × D)} {kvs : List (Key × V)} {Q : VK} (k : ∀ p G' H', Step Γ G H G' H' → St0 Γ G' H' s → H p = none → G' p = none → Pv Γ.hd G' (H' p) (.dict l) → Q (.ref p) H') (o : St0 Γ G H s) (r : RpK Γ.hd G kvs l) {p : Addr} (hp : H p = none) : Q (.ref p) (upd H p (.dK kvs)) :=
  k p _ _ (Step.newO hp) (o.newO hp) hp (o.gfree hp) (by rw [upd_same]; exact r)

/-! ### + - * -/
def lenOk2 (m n : Nat) : Bool := decide (m + n ≤ sizeLine)
def addD : D → D → Option D
  | .int a, .int b => some (.int (a + b))
  | .str a, .str b => if lenOk2 a.length b.length then some (.str (a ++ b)) else none
  | .tuple a, .tuple b => if lenOk2 a.length b.length then some (.tuple (a ++ b)) else none
  | .list a, .list b => if lenOk2 a.length b.length then some (.list (a ++ b)) else none
  | _, _ => none
def addL : D → D → Option D
  | .list a, .list b => if lenOk2 a.length b.length then some (.list (a ++ b)) else none
  | _, _ => none
def rAddU (K : PySem.W.Frag) : R2 := fun x y H Q => rI0 (fun i j => .int (i + j)) x y H Q ∨ (∃ i j, x = .str i ∧ y = .str j ∧ i.length + j.length ≤ sizeLine ∧ Q (.str (i ++ j)) H) ∨ rCatA K x y H Q ∨ rCat x y H Q
theorem op_addU {X : Cx} : OpR X (binaryOp .Add) (rAddU X.K) := op_add.or (op_add_str.or (op_catA.or op_cat))
theorem r_addU {K : PySem.W.Frag} : R2E (rAddU K) addD := by
  intro Γ G H s x y dx dy d Q o bx hy e k
  cases dx with
  | int a => cases dy with
    | int b =>
      cases e
      exact .inl ⟨a, b, bx.int, hy.int, fin0 k o (.int _)⟩
    | _ => cases e
  | str a => cases dy with
    | str b =>
      simp only [addD] at e
      split at e
      · rename_i hz
        cases e
        exact .inr (.inl ⟨a, b, bx.str, hy.str, of_decide_eq_true hz, fin0 k o (.str _)⟩)
      · cases e
    | _ => cases e
  | tuple a => cases dy with
    | tuple b =>
      simp only [addD] at e
      split at e
      · rename_i hz
        cases e
        obtain ⟨p, xs, rfl, g1, h1, r1⟩ := bx.tup o
        obtain ⟨q, ys, rfl, g2, h2, r2⟩ := hy.tup o
        refine .inr (.inr (.inl ⟨p, q, xs, ys, rfl, rfl, SqT.of h1, SqT.of h2, by rw [r1.length, r2.length]; exact of_decide_eq_true hz, fun e => ?_, fun e1 e2 => ?_, fun _ _ z hz => finT k o (r1.app r2) hz⟩))
        · subst e
          cases a with
          | nil => exact fin0 k o (.tup g2 r2)
          | cons d ds => cases r1
        · subst e2
          cases b with
          | nil => exact fin0 k o (.tup g1 (by rw [List.append_nil]; exact r1))
          | cons d ds => cases r2
      · cases e
    | _ => cases e
  | list a => cases dy with
    | list b =>
      simp only [addD] at e
      split at e
      · rename_i hz
        cases e
        obtain ⟨p, xs, rfl, h1, r1⟩ := bx.list o
        obtain ⟨q, ys, rfl, h2, r2⟩ := hy.list o
        exact .inr (.inr (.inr ⟨p, q, xs, ys, rfl, rfl, h1, h2, by rw [r1.length, r2.length]; exact of_decide_eq_true hz, fun z hz => finL k o (r1.app r2) hz⟩))
      · cases e
    | _ => cases e
  | _ => cases e
theorem r_addL : R2O rCat addL := by
  intro Γ G H s x y dx dy d Q o bx hy e k
  cases dx with
  | list a => cases dy with
    | list b =>
      simp only [addL] at e
      split at e
      · rename_i hz
        cases e
        obtain ⟨p, xs, rfl, h1, r1⟩ := bx.list o
        obtain ⟨q, ys, rfl, h2, r2⟩ := hy.list o
        exact ⟨p, q, xs, ys, rfl, rfl, h1, h2, by rw [r1.length, r2.length]; exact of_decide_eq_true hz, fun z hz => finLO k o (r1.app r2) hz⟩
      · cases e
    | _ => cases e
  | _ => cases e
/-- two ints -/
def intD (C : Int → Int → Bool) (g : Int → Int → D) : D → D → Option D
  | .int a, .int b => if C a b then some (g a b) else none
  | _, _ => none
theorem r_int {C' : Int → Int → Prop} {C : Int → Int → Bool} {g : Int → Int → D} {g' : Int → Int → V} (hC : ∀ i j, C i j = true → C' i j) (hg : ∀ hd G i j, Rp hd G (g' i j) (g i j)) : R2E (rI C' g') (intD C g) := by
  intro Γ G H s x y dx dy d Q o bx hy e k
  cases dx with
  | int a => cases dy with
    | int b =>
      simp only [intD] at e
      split at e
      · rename_i hc
        cases e
        exact ⟨a, b, bx.int, hy.int, hC _ _ hc, fin0 k o (hg _ _ _ _)⟩
      · cases e
    | _ => cases e
  | _ => cases e
theorem r_int0 {g : Int → Int → D} {g' : Int → Int → V} (hg : ∀ hd G i j, Rp hd G (g' i j) (g i j)) : R2E (rI0 g') (intD (fun _ _ => true) g) := by
  intro Γ G H s x y dx dy d Q o bx hy e k
  cases dx with
  | int a => cases dy with
    | int b =>
      simp only [intD] at e
      cases e
      exact ⟨a, b, bx.int, hy.int, fin0 k o (hg _ _ _ _)⟩
    | _ => cases e
  | _ => cases e
def subD : D → D → Option D := intD (fun _ _ => true) fun a b => .int (a - b)
def modD : D → D → Option D := intD (fun _ b => decide (0 < b)) fun a b => .int (a % b)
def fdivD : D → D → Option D := intD (fun _ b => decide (0 < b) && decide (b < 1073741824)) fun a b => .int (a / b)
def powOk (a b : Int) : Bool := decide (0 ≤ b) && decide (b ≤ 1000000) && decide (a.natAbs < 2 ^ 64)
def shlD : D → D → Option D := intD powOk fun a b => .int (a * 2 ^ b.toNat)
def shrD : D → D → Option D := intD (fun _ b => decide (0 ≤ b)) fun a b => .int (a / 2 ^ b.toNat)
def bandD : D → D → Option D := intD (fun _ _ => true) fun a b => .int (Builtin.bitAnd a b)
def mulOk (a b : Int) : Bool := (decide (-(2 ^ 64) < a) && decide (a < 2 ^ 64)) || (decide (-(2 ^ 64) < b) && decide (b < 2 ^ 64))
/-- int * int, list * int -/
def mulD : D → D → Option D
  | .int a, .int b => if mulOk a b then some (.int (a * b)) else none
  | .list a, .int b => if decide (-(2 ^ 63) ≤ b) && decide (b < 2 ^ 63) && decide (a.length * b.toNat ≤ sizeLine) then some (.list (List.replicate b.toNat a).flatten) else none
  | _, _ => none
theorem RpA.rep {hd : Option Addr} {G : Hp} {xs : List V} {ds : List D} (r : RpA hd G xs ds) : ∀ n, RpA hd G (List.replicate n xs).flatten (List.replicate n ds).flatten
  | 0 => .nil
  | n + 1 => by
    rw [List.replicate_succ, List.replicate_succ, List.flatten_cons, List.flatten_cons]
    exact r.app (RpA.rep r n)
section
variable {X : Cx} {W : WX} {a b : Expr} {fa fb : M D} {pos : Pos}
theorem de_add (ha : PE X a (tB X.mg W fa)) (hb : PE X b (tB X.mg W fb)) : PE X (.BinOp a .Add b pos) (tE X.mg W (binD addD fa fb)) := de_bin op_addU r_addU ha hb
theorem do_add (ha : PE X a (tB X.mg W fa)) (hb : PE X b (tB X.mg W fb)) : PE X (.BinOp a .Add b pos) (tO X.mg W (binD addL fa fb)) := do_bin op_cat r_addL ha hb
theorem de_sub (ha : PE X a (tB X.mg W fa)) (hb : PE X b (tB X.mg W fb)) : PE X (.BinOp a .Sub b pos) (tE X.mg W (binD subD fa fb)) := de_bin op_sub (r_int0 fun _ _ _ _ => .int _) ha hb
theorem de_mod (ha : PE X a (tB X.mg W fa)) (hb : PE X b (tB X.mg W fb)) : PE X (.BinOp a .Mod b pos) (tE X.mg W (binD modD fa fb)) := de_bin op_mod (r_int (fun _ _ h => of_decide_eq_true h) fun _ _ _ _ => .int _) ha hb
theorem de_fdiv (ha : PE X a (tB X.mg W fa)) (hb : PE X b (tB X.mg W fb)) : PE X (.BinOp a .FloorDiv b pos) (tE X.mg W (binD fdivD fa fb)) :=
  de_bin op_fdiv (r_int (fun _ _ h => by simpa [CDiv] using h) fun _ _ _ _ => .int _) ha hb
theorem de_shl (ha : PE X a (tB X.mg W fa)) (hb : PE X b (tB X.mg W fb)) : PE X (.BinOp a .LShift b pos) (tE X.mg W (binD shlD fa fb)) :=
  de_bin op_shl (r_int (fun _ _ h => by simp only [powOk, Bool.and_eq_true, decide_eq_true_eq] at h; exact ⟨h.1.1, h.1.2, h.2⟩) fun _ _ _ _ => .int _) ha hb
theorem de_shr (ha : PE X a (tB X.mg W fa)) (hb : PE X b (tB X.mg W fb)) : PE X (.BinOp a .RShift b pos) (tE X.mg W (binD shrD fa fb)) := de_bin op_shr (r_int (fun _ _ h => of_decide_eq_true h) fun _ _ _ _ => .int _) ha hb
theorem de_band (ha : PE X a (tB X.mg W fa)) (hb : PE X b (tB X.mg W fb)) : PE X (.BinOp a .BitAnd b pos) (tE X.mg W (binD bandD fa fb)) := de_bin op_and (r_int0 fun _ _ _ _ => .int _) ha hb
def rMulU : R2 := fun x y H Q => rI CMul (fun i j => .int (i * j)) x y H Q ∨ rRep x y H Q
theorem de_mul (ha : PE X a (tB X.mg W fa)) (hb : PE X b (tB X.mg W fb)) : PE X (.BinOp a .Mult b pos) (tE X.mg W (binD mulD fa fb)) := de_bin (r := rMulU) (op_mul.or op_rep) (by
  intro Γ G H s x y dx dy d Q o bx hy e k
  cases dy with
  | int b =>
    cases dx with
    | int a =>
      simp only [mulD] at e
      split at e
      · rename_i hc
        cases e
        exact .inl ⟨a, b, bx.int, hy.int, by simpa [mulOk, CMul] using hc, fin0 k o (.int _)⟩
      · cases e
    | list a =>
      simp only [mulD] at e
      split at e
      · rename_i hc
        cases e
        simp only [Bool.and_eq_true, decide_eq_true_eq] at hc
        obtain ⟨p, xs, rfl, h1, r1⟩ := bx.list o
        exact .inr ⟨p, b, xs, rfl, hy.int, h1, hc.1.1, hc.1.2, by rw [r1.length]; exact hc.2, fun z hz => finL k o (r1.rep _) hz⟩
      · cases e
    | _ => cases e
  | _ => cases dx <;> cases e) ha hb
end

/-! ### comparisons -/
def eqD (x y : D) : Option D := if SeqAt.shaped x && SeqAt.shaped y then some (.bool (PyData.eqv x y)) else none
def neD (x y : D) : Option D := if SeqAt.shaped x && SeqAt.shaped y then some (.bool (!PyData.eqv x y)) else none
theorem r_eqD {K : PySem.W.Frag} : R2E (rEqD K) eqD := by
  intro Γ G H s x y dx dy d Q o bx hy e k
  unfold eqD at e
  split at e
  · rename_i hc
    rw [Bool.and_eq_true] at hc
    cases e
    exact ⟨dx, dy, bx.dp o hc.1, hy.dp o hc.2, hc.1, hc.2, fin0 k o (.bl _)⟩
  · cases e
theorem r_neD {K : PySem.W.Frag} : R2E (rNeD K) neD := by
  intro Γ G H s x y dx dy d Q o bx hy e k
  unfold neD at e
  split at e
  · rename_i hc
    rw [Bool.and_eq_true] at hc
    cases e
    exact ⟨dx, dy, bx.dp o hc.1, hy.dp o hc.2, hc.1, hc.2, fin0 k o (.bl _)⟩
  · cases e
/-- ints, texts -/
def ordD (pi : Int → Int → Bool) (ps : Str → Str → Bool) : D → D → Option D
  | .int a, .int b => some (.bool (pi a b))
  | .str a, .str b => some (.bool (ps a b))
  | _, _ => none
def strLt (a b : Str) : Bool := decide (a.cps.toList < b.cps.toList)
def ltD := ordD (fun a b => decide (a < b)) strLt
def leD := ordD (fun a b => decide (a ≤ b)) fun a b => !strLt b a
def gtD := ordD (fun a b => decide (b < a)) fun a b => strLt b a
def geD := ordD (fun a b => decide (b ≤ a)) fun a b => !strLt a b
def rOrd (pi : Int → Int → Bool) (ps : Str → Str → Bool) : R2 := fun x y H Q => rI0 (fun i j => .bl (pi i j)) x y H Q ∨ ∃ i j, x = .str i ∧ y = .str j ∧ Q (.bl (ps i j)) H
theorem r_ord {pi : Int → Int → Bool} {ps : Str → Str → Bool} : R2E (rOrd pi ps) (ordD pi ps) := by
  intro Γ G H s x y dx dy d Q o bx hy e k
  cases dx with
  | int a => cases dy with
    | int b => cases e; exact .inl ⟨a, b, bx.int, hy.int, fin0 k o (.bl _)⟩
    | _ => cases e
  | str a => cases dy with
    | str b => cases e; exact .inr ⟨a, b, bx.str, hy.str, fin0 k o (.bl _)⟩
    | _ => cases e
  | _ => cases e
/-- in, not in -/
def keyOf : D → Option Key
  | .int i => some (.inl i)
  | .str x => some (.inr x)
  | _ => none
theorem keyOf_eq {d : D} {k : Key} (h : keyOf d = some k) : d = keyD k := by
  cases d <;> first | (cases h; rfl) | cases h
theorem eqv_key (a b : Key) : PyData.eqv (keyD a) (keyD b) = decide (a = b) := by
  cases a <;> cases b <;> simp [keyD, PyData.eqv, Bool.beq_eq_decide_eq]
def dlook (l : List (D × D)) (k : D) : Option D := (l.find? fun p => PyData.eqv p.1 k).map (·.2)
def dput (l : List (D × D)) (k d : D) : List (D × D) := if l.any (fun p => PyData.eqv p.1 k) then l.map (fun p => if PyData.eqv p.1 k then (p.1, d) else p) else l ++ [(k, d)]
def RpO (hd : Option Addr) (G : Hp) : Option V → Option D → Prop
  | some v, some d => Rp hd G v d
  | none, none => True
  | _, _ => False
theorem RpK.look {hd : Option Addr} {G : Hp} : ∀ {kvs : List (Key × V)} {l : List (D × D)} (k : Key), RpK hd G kvs l → RpO hd G (valV kvs k) (dlook l (keyD k))
  | _, [], k, h => by cases h; trivial
  | _, (_, d) :: l, k, h => by
    cases h with
    | @cons k' v kvs _ _ h r =>
      by_cases e : k' = k
      · have e1 : valV ((k', v) :: kvs) k = some v := valV_pos e
        have e2 : dlook ((keyD k', d) :: l) (keyD k) = some d := by unfold dlook; rw [List.find?_cons, eqv_key, decide_eq_true e]; rfl
        rw [e1, e2]; exact h
      · have e1 : valV ((k', v) :: kvs) k = valV kvs k := valV_neg e
        have e2 : dlook ((keyD k', d) :: l) (keyD k) = dlook l (keyD k) := by unfold dlook; rw [List.find?_cons, eqv_key, decide_eq_false e]
        rw [e1, e2]; exact RpK.look k r
theorem RpO.isSome {hd : Option Addr} {G : Hp} {v : Option V} {d : Option D} (h : RpO hd G v d) : v.isSome = d.isSome := by
  cases v <;> cases d <;> first | rfl | exact h.elim
theorem RpK.length {hd : Option Addr} {G : Hp} : ∀ {kvs : List (Key × V)} {l : List (D × D)}, RpK hd G kvs l → kvs.length = l.length
  | _, [], h => by cases h; rfl
  | _, (_, d) :: l, h => by
    cases h with
    | cons h r => simp [RpK.length r]
theorem Rp.key {hd : Option Addr} {G : Hp} {v : V} {k : Key} (h : Rp hd G v (keyD k)) : v = kV k := by
  cases k <;> (cases h; rfl)
theorem Bor.key {Γ : Gh} {G H : Hp} {v : V} {k : Key} (h : Bor Γ G H v (keyD k)) : v = kV k := by
  cases k
  · exact h.int
  · exact h.str
theorem RpK.any {hd : Option Addr} {G : Hp} : ∀ {kvs : List (Key × V)} {l : List (D × D)} (k : Key), RpK hd G kvs l → (kvs.any fun kv => decide (kv.1 = k)) = l.any fun p => PyData.eqv p.1 (keyD k)
  | _, [], k, h => by cases h; rfl
  | _, (_, d) :: l, k, h => by
    cases h with
    | cons h r => rw [List.any_cons, List.any_cons, RpK.any k r, eqv_key]
theorem RpK.map {hd : Option Addr} {G : Hp} {v : V} {d : D} (hv : Rp hd G v d) : ∀ {kvs : List (Key × V)} {l : List (D × D)} (k : Key), RpK hd G kvs l →
    RpK hd G (kvs.map fun kv => if kv.1 = k then (kv.1, v) else kv) (l.map fun p => if PyData.eqv p.1 (keyD k) then (p.1, d) else p)
  | _, [], k, h => by cases h; exact .nil
  | _, (_, d') :: l, k, h => by
    cases h with
    | @cons k' v' kvs _ _ h r =>
      rw [List.map_cons, List.map_cons]
      have t := RpK.map hv k r
      by_cases e : k' = k
      · have e1 : (if k' = k then (k', v) else (k', v')) = (k', v) := if_pos e
        have e2 : (if PyData.eqv (keyD k') (keyD k) = true then (keyD k', d) else (keyD k', d')) = (keyD k', d) := by rw [eqv_key, decide_eq_true e]; rfl
        show RpK hd G ((if k' = k then (k', v) else (k', v')) :: _) ((if PyData.eqv (keyD k') (keyD k) = true then (keyD k', d) else (keyD k', d')) :: _)
        rw [e1, e2]; exact .cons hv t
      · have e1 : (if k' = k then (k', v) else (k', v')) = (k', v') := if_neg e
        have e2 : (if PyData.eqv (keyD k') (keyD k) = true then (keyD k', d) else (keyD k', d')) = (keyD k', d') := by rw [eqv_key, decide_eq_false e]; rfl
        show RpK hd G ((if k' = k then (k', v) else (k', v')) :: _) ((if PyData.eqv (keyD k') (keyD k) = true then (keyD k', d) else (keyD k', d')) :: _)
        rw [e1, e2]; exact .cons h t
theorem RpK.snoc {hd : Option Addr} {G : Hp} {v : V} {d : D} (hv : Rp hd G v d) (k : Key) : ∀ {kvs : List (Key × V)} {l : List (D × D)}, RpK hd G kvs l → RpK hd G (kvs ++ [(k, v)]) (l ++ [(keyD k, d)])
  | _, [], h => by cases h; exact .cons hv .nil
  | _, (_, d') :: l, h => by
    cases h with
    | cons h r => exact .cons h (RpK.snoc hv k r)
theorem RpK.put {hd : Option Addr} {G : Hp} {v : V} {d : D} (hv : Rp hd G v d) {kvs : List (Key × V)} {l : List (D × D)} (k : Key) (r : RpK hd G kvs l) : RpK hd G (putK kvs k v) (dput l (keyD k) d) := by
  unfold putK dput
  rw [RpK.any k r]
  split
  · exact RpK.map hv k r
  · exact RpK.snoc hv k r
def subS (x y : Str) : Bool := !(Builtin.Str.occurrences y x 0 y.length 1).isEmpty
def inD (neg : Bool) (x : D) : D → Option D
  | .str y => match x with
    | .str z => some (.bool (if neg then !subS z y else subS z y))
    | _ => none
  | .list ds => if SeqAt.shaped x && SeqAt.shaped (.list ds) then some (.bool (if neg then !ds.any fun z => PyData.eqv z x else ds.any fun z => PyData.eqv z x)) else none
  | .tuple ds => if SeqAt.shaped x && SeqAt.shaped (.tuple ds) then some (.bool (if neg then !ds.any fun z => PyData.eqv z x else ds.any fun z => PyData.eqv z x)) else none
  | .dict l => if isHnd l then none else match keyOf x with
    | some k => some (.bool (if neg then !(dlook l x).isSome else (dlook l x).isSome))
    | none => none
  | _ => none
def rInTD (K : PySem.W.Frag) (neg : Bool) : R2 := fun x y H Q => ∃ d ds, Dp K H x d ∧ Dp K H y (.tuple ds) ∧ SeqAt.shaped d = true ∧ SeqAt.shaped (.tuple ds) = true ∧ Q (.bl (if neg then !ds.any fun z => PyData.eqv z d else ds.any fun z => PyData.eqv z d)) H
theorem op_inTD {X : Cx} (hu : X.A.units + 65 < cLine) : OpR X (compareOp .In) (rInTD X.K false) := by
  intro pins s σ H x y v u Q I rx ry h
  obtain ⟨d, ds, hd, he, sd, se, q⟩ := h
  obtain ⟨as, r1⟩ := Dp.reads I d x v hd rx
  obtain ⟨bs, r2⟩ := Dp.reads I (.tuple ds) y u he ry
  exact SeqAt.in_tuple_reads r2 r1 (SeqAt.canLay_of_shaped se) (SeqAt.canLay_of_shaped sd) (PyProof.Rows.room_in_shaped sd hu) ⟨.bl _, H, I, rfl, q⟩
theorem op_notInTD {X : Cx} (hu : X.A.units + 65 < cLine) : OpR X (compareOp .NotIn) (rInTD X.K true) := by
  intro pins s σ H x y v u Q I rx ry h
  obtain ⟨d, ds, hd, he, sd, se, q⟩ := h
  obtain ⟨as, r1⟩ := Dp.reads I d x v hd rx
  obtain ⟨bs, r2⟩ := Dp.reads I (.tuple ds) y u he ry
  exact SeqAt.notIn_tuple_reads r2 r1 (SeqAt.canLay_of_shaped se) (SeqAt.canLay_of_shaped sd) (PyProof.Rows.room_in_shaped sd hu) ⟨.bl _, H, I, rfl, q⟩
def rDIn (neg : Bool) : R2 := fun y x H Q => ∃ a o, x = .ref a ∧ DGet H a y o ∧ Q (.bl (if neg then !o.isSome else o.isSome)) H
theorem op_dIn {X : Cx} (hu : X.A.units + 1 < cLine) : OpR X (compareOp .In) (rDIn false) := by
  intro pins s σ H y x iv u Q I ry rx h
  obtain ⟨a, o, rfl, g, q⟩ := h
  obtain rfl : u = Value.ref a := rx
  exact d_in hu I g ry fun s3 I3 => ⟨.bl o.isSome, H, I3, rfl, q⟩
theorem op_dNotIn {X : Cx} (hu : X.A.units + 1 < cLine) : OpR X (compareOp .NotIn) (rDIn true) := by
  intro pins s σ H y x iv u Q I ry rx h
  obtain ⟨a, o, rfl, g, q⟩ := h
  obtain rfl : u = Value.ref a := rx
  exact d_notIn hu I g ry fun s3 I3 => ⟨.bl (!o.isSome), H, I3, rfl, q⟩
def rInU (K : PySem.W.Frag) (neg : Bool) : R2 := fun x y H Q =>
  (∃ i j, x = .str i ∧ y = .str j ∧ Q (.bl (if neg then !subS i j else subS i j)) H) ∨
  (∃ d ds, Dp K H x d ∧ Dp K H y (.list ds) ∧ SeqAt.shaped d = true ∧ SeqAt.shaped (.list ds) = true ∧ Q (.bl (if neg then !ds.any fun z => PyData.eqv z d else ds.any fun z => PyData.eqv z d)) H) ∨ rInTD K neg x y H Q ∨ rDIn neg x y H Q
theorem r_inU {K : PySem.W.Frag} {neg : Bool} : R2E (rInU K neg) (inD neg) := by
  intro Γ G H s x y dx dy d Q o bx hy e k
  cases dy with
  | str j => cases dx with
    | str i => cases e; exact .inl ⟨i, j, bx.str, hy.str, fin0 k o (.bl _)⟩
    | _ => cases e
  | list ds =>
    simp only [inD] at e
    split at e
    · rename_i hc
      rw [Bool.and_eq_true] at hc
      cases e
      exact .inr (.inl ⟨dx, ds, bx.dp o hc.1, hy.dp o hc.2, hc.1, hc.2, fin0 k o (.bl _)⟩)
    · cases e
  | tuple ds =>
    simp only [inD] at e
    split at e
    · rename_i hc
      rw [Bool.and_eq_true] at hc
      cases e
      exact .inr (.inr (.inl ⟨dx, ds, bx.dp o hc.1, hy.dp o hc.2, hc.1, hc.2, fin0 k o (.bl _)⟩))
    · cases e
  | dict l =>
    simp only [inD] at e
    split at e
    · cases e
    · rename_i hh
      cases q : keyOf dx with
      | none => rw [q] at e; cases e
      | some kk =>
        rw [q] at e
        cases e
        obtain rfl := keyOf_eq q
        obtain ⟨a, kvs, rfl, h1, r1⟩ := hy.dict o (by simpa using hh)
        refine .inr (.inr (.inr ⟨a, valV kvs kk, rfl, ?_, ?_⟩))
        · rw [bx.key]; exact DGet.k h1
        · rw [(r1.look kk).isSome]; exact fin0 k o (.bl _)
  | _ => cases e
/-- is, is not: None, True, False -/
def isD (neg : Bool) : D → D → Option D
  | .none, .none => some (.bool (!neg))
  | .bool a, .bool b => some (.bool (if neg then !decide (a = b) else decide (a = b)))
  | .none, .bool _ => none
  | _, .bool _ => none
  | .bool _, .none => some (.bool neg)
  | .int _, .none => some (.bool neg)
  | .str _, .none => some (.bool neg)
  | .list _, .none => some (.bool neg)
  | .tuple _, .none => some (.bool neg)
  | .dict _, .none => some (.bool neg)
  | _, _ => none
def rIsU (neg : Bool) : R2 := fun x y H Q => (y = .non ∧ Q (.bl (if neg then !decide (x = .non) else decide (x = .non))) H) ∨ ∃ a b : Bool, x = .bl a ∧ y = .bl b ∧ Q (.bl (if neg then !decide (a = b) else decide (a = b))) H
theorem Bor.ref_of {Γ : Gh} {G H : Hp} {v : V} {d : D} (h : Bor Γ G H v d) (hd : (∃ l, d = .list l) ∨ (∃ l, d = .tuple l) ∨ ∃ l, d = .dict l) : v ≠ .non := by
  rcases h with h | ⟨p, e, _⟩
  · rcases hd with ⟨l, rfl⟩ | ⟨l, rfl⟩ | ⟨l, rfl⟩ <;> (cases h <;> simp)
  · subst e; simp
theorem r_isU {neg : Bool} : R2E (rIsU neg) (isD neg) := by
  intro Γ G H s x y dx dy d Q o bx hy e k
  have dn : ∀ z : V, z ≠ .non → (if neg then !decide (z = .non) else decide (z = .non)) = neg := fun z hz => by cases neg <;> simp [hz]
  cases dy with
  | none =>
    have hy' := hy.none'
    cases dx with
    | none => cases e; refine .inl ⟨hy', ?_⟩; rw [bx.none']; have e2 : (if neg then !decide (V.non = V.non) else decide (V.non = V.non)) = !neg := by cases neg <;> simp
              rw [e2]; exact fin0 k o (.bl _)
    | bool b => cases e; refine .inl ⟨hy', ?_⟩; rw [bx.bool, dn _ (by simp)]; exact fin0 k o (.bl _)
    | int b => cases e; refine .inl ⟨hy', ?_⟩; rw [bx.int, dn _ (by simp)]; exact fin0 k o (.bl _)
    | str b => cases e; refine .inl ⟨hy', ?_⟩; rw [bx.str, dn _ (by simp)]; exact fin0 k o (.bl _)
    | list b => cases e; refine .inl ⟨hy', ?_⟩; rw [dn _ (bx.ref_of (.inl ⟨_, rfl⟩))]; exact fin0 k o (.bl _)
    | tuple b => cases e; refine .inl ⟨hy', ?_⟩; rw [dn _ (bx.ref_of (.inr (.inl ⟨_, rfl⟩)))]; exact fin0 k o (.bl _)
    | dict b => cases e; refine .inl ⟨hy', ?_⟩; rw [dn _ (bx.ref_of (.inr (.inr ⟨_, rfl⟩)))]; exact fin0 k o (.bl _)
  | bool b => cases dx with
    | bool a => cases e; exact .inr ⟨a, b, bx.bool, hy.bool, fin0 k o (.bl _)⟩
    | _ => cases e
  | _ => cases dx <;> cases e

/-! ### items -/
def ixD : D → D → Option D
  | .list ds, .int i => atI ds i
  | .tuple ds, .int i => atI ds i
  | .str z, .int i => if decide (z.length ≤ sizeLine) then (atI z.cps.toList i).map fun c => .str ⟨#[c]⟩ else none
  | .dict l, x => if isHnd l then none else match keyOf x with
    | some _ => dlook l x
    | none => none
  | _, _ => none
theorem RpA.atI {hd : Option Addr} {G : Hp} {xs : List V} {ds : List D} {i : Int} {d : D} (r : RpA hd G xs ds) (h : L2.atI ds i = some d) : ∃ v, L2.atI xs i = some v ∧ Rp hd G v d := by
  unfold L2.atI at h ⊢
  rw [r.length]
  cases q : ixN ds.length i with
  | none => rw [q] at h; cases h
  | some j =>
    rw [q] at h
    exact r.get h
def rIxD : R2 := fun x y H Q => ∃ a v, x = .ref a ∧ DGet H a y (some v) ∧ Q v H
theorem ix_dict {X : Cx} (hu : X.A.units + 1 < cLine) : IxR X rIxD := by
  intro value slice pins s σ H x y v u Q I rx ry h hs
  obtain ⟨a, w', rfl, g, q⟩ := h
  obtain rfl : v = Value.ref a := rx
  unfold PyProof.Rows.subscriptTail
  refine wpAny_bind ?_
  rw [getitemInPython_of_ne (dict_typeIs I g).not_modules]
  refine wpAny_bind (wpAny_specialOf (dict_typeIs I g) PySem.F.slot_dict_getitem.lookup ?_)
  have fin : wpAny (model X.prog X.w) X.A (subscripted slice false (.ref a) u) (fun r s₃ => wpAny (model X.prog X.w) X.A (letTemporaryGo value (.ref a) r >>= fun _ => pure r) (EP X pins σ Q) X.xe s₃) X.xe s := by
    rw [hs]
    exact wpAny_operating (wpAny_mono (d_getItem hu I g ry fun w'' s3 I3 rw' => (show EP X pins σ Q w'' s3 from ⟨w', H, I3, rw', q⟩)) (fun r s₃ h₃ => wpAny_bind (wpAny_letTemporaryGo (wpAny_pure h₃))) fun _ _ x => x)
  first
    | exact wpAny_pure (wpAny_bind fin)
    | exact wpAny_bind (wpAny_pure (wpAny_bind fin))
    | exact wpAny_bind fin
def rIxU (K : PySem.W.Frag) : R2 := fun x y H Q => rIx K x y H Q ∨ rIxD x y H Q
theorem r_ixU {K : PySem.W.Frag} : R2E (rIxU K) ixD := by
  intro Γ G H s x y dx dy d Q o bx hy e k
  cases dx with
  | list ds => cases dy with
    | int i =>
      obtain ⟨p, xs, rfl, h1, r1⟩ := bx.list o
      obtain ⟨v, hv, rv⟩ := r1.atI e
      exact .inl (.inl ⟨p, xs, i, v, rfl, hy.int, SqL.of h1, hv, fin0 k o rv⟩)
    | _ => cases e
  | tuple ds => cases dy with
    | int i =>
      obtain ⟨p, xs, rfl, g1, h1, r1⟩ := bx.tup o
      obtain ⟨v, hv, rv⟩ := r1.atI e
      exact .inl (.inr (.inl ⟨p, xs, i, v, rfl, hy.int, SqT.of h1, hv, fin0 k o rv⟩))
    | _ => cases e
  | str z => cases dy with
    | int i =>
      simp only [ixD] at e
      split at e
      · rename_i hz
        obtain ⟨c, hc, rfl⟩ := Option.map_eq_some_iff.mp e
        exact .inl (.inr (.inr ⟨z, i, c, bx.str, hy.int, of_decide_eq_true hz, hc, fin0 k o (.str _)⟩))
      · cases e
    | _ => cases e
  | dict l =>
    simp only [ixD] at e
    split at e
    · cases e
    · rename_i hh
      cases q : keyOf dy with
      | none => rw [q] at e; cases e
      | some kk =>
        rw [q] at e
        obtain rfl := keyOf_eq q
        obtain ⟨a, kvs, rfl, h1, r1⟩ := bx.dict o (by simpa using hh)
        have hl := r1.look kk
        have e' : dlook l (keyD kk) = some d := e
        rw [e'] at hl
        cases q2 : valV kvs kk with
        | none => rw [q2] at hl; exact hl.elim
        | some v =>
          rw [q2] at hl
          refine .inr ⟨a, v, rfl, ?_, fin0 k o hl⟩
          rw [hy.key, ← q2]; exact DGet.k h1
  | _ => cases e

section
variable {X : Cx} {W : WX} {a b : Expr} {fa fb : M D} {pos : Pos}
abbrev Ur (X : Cx) : Prop := X.A.units + 100 < cLine
theorem op_eqU {X : Cx} (hu : Ur X) : OpR X (compareOp .Eq) (rEqD X.K) := op_eqD (Nat.lt_of_le_of_lt (Nat.add_le_add_left (by decide) _) hu)
theorem op_neU {X : Cx} (hu : Ur X) : OpR X (compareOp .NotEq) (rNeD X.K) := op_neD (Nat.lt_of_le_of_lt (Nat.add_le_add_left (by decide) _) hu)
theorem op_inU {X : Cx} (hu : Ur X) : OpR X (compareOp .In) (rInU X.K false) := by
  have h1 : X.A.units + 65 < cLine := Nat.lt_of_le_of_lt (Nat.add_le_add_left (by decide) _) hu
  have h2 : X.A.units + 1 < cLine := Nat.lt_of_le_of_lt (Nat.add_le_add_left (by decide) _) hu
  have o1 : OpR X (compareOp .In) _ := op_in_str.or ((op_inD h1).or ((op_inTD h1).or (op_dIn h2)))
  exact o1
theorem op_notInU {X : Cx} (hu : Ur X) : OpR X (compareOp .NotIn) (rInU X.K true) := by
  have h1 : X.A.units + 65 < cLine := Nat.lt_of_le_of_lt (Nat.add_le_add_left (by decide) _) hu
  have h2 : X.A.units + 1 < cLine := Nat.lt_of_le_of_lt (Nat.add_le_add_left (by decide) _) hu
  have o1 : OpR X (compareOp .NotIn) _ := op_notIn_str.or ((op_notInD h1).or ((op_notInTD h1).or (op_dNotIn h2)))
  exact o1
theorem de_eq (hu : Ur X) (ha : PE X a (tB X.mg W fa)) (hb : PE X b (tB X.mg W fb)) : PE X (.Compare a [.Eq] [b] pos) (tE X.mg W (binD eqD fa fb)) := de_cmp (op_eqU hu) r_eqD ha hb (nomark _)
theorem dt_eq (hu : Ur X) (ha : PE X a (tB X.mg W fa)) (hb : PE X b (tB X.mg W fb)) : PT X (.Compare a [.Eq] [b] pos) (tT X.mg W (tstM (binD eqD fa fb))) := dt_cmp (op_eqU hu) r_eqD ha hb (nomark _)
theorem de_ne (hu : Ur X) (ha : PE X a (tB X.mg W fa)) (hb : PE X b (tB X.mg W fb)) : PE X (.Compare a [.NotEq] [b] pos) (tE X.mg W (binD neD fa fb)) := de_cmp (op_neU hu) r_neD ha hb (nomark _)
theorem dt_ne (hu : Ur X) (ha : PE X a (tB X.mg W fa)) (hb : PE X b (tB X.mg W fb)) : PT X (.Compare a [.NotEq] [b] pos) (tT X.mg W (tstM (binD neD fa fb))) := dt_cmp (op_neU hu) r_neD ha hb (nomark _)
theorem op_ltU : OpR X (compareOp .Lt) (rOrd (fun a b => decide (a < b)) strLt) := op_lt.or op_lt_str
theorem op_leU : OpR X (compareOp .LtE) (rOrd (fun a b => decide (a ≤ b)) fun a b => !strLt b a) := op_le.or op_le_str
theorem op_gtU : OpR X (compareOp .Gt) (rOrd (fun a b => decide (b < a)) fun a b => strLt b a) := op_gt.or op_gt_str
theorem op_geU : OpR X (compareOp .GtE) (rOrd (fun a b => decide (b ≤ a)) fun a b => !strLt a b) := op_ge.or op_ge_str
theorem de_lt (ha : PE X a (tB X.mg W fa)) (hb : PE X b (tB X.mg W fb)) : PE X (.Compare a [.Lt] [b] pos) (tE X.mg W (binD ltD fa fb)) := de_cmp op_ltU r_ord ha hb (nomark _)
theorem dt_lt (ha : PE X a (tB X.mg W fa)) (hb : PE X b (tB X.mg W fb)) : PT X (.Compare a [.Lt] [b] pos) (tT X.mg W (tstM (binD ltD fa fb))) := dt_cmp op_ltU r_ord ha hb (nomark _)
theorem de_le (ha : PE X a (tB X.mg W fa)) (hb : PE X b (tB X.mg W fb)) : PE X (.Compare a [.LtE] [b] pos) (tE X.mg W (binD leD fa fb)) := de_cmp op_leU r_ord ha hb (nomark _)
theorem dt_le (ha : PE X a (tB X.mg W fa)) (hb : PE X b (tB X.mg W fb)) : PT X (.Compare a [.LtE] [b] pos) (tT X.mg W (tstM (binD leD fa fb))) := dt_cmp op_leU r_ord ha hb (nomark _)
theorem de_gt (ha : PE X a (tB X.mg W fa)) (hb : PE X b (tB X.mg W fb)) : PE X (.Compare a [.Gt] [b] pos) (tE X.mg W (binD gtD fa fb)) := de_cmp op_gtU r_ord ha hb (nomark _)
theorem dt_gt (ha : PE X a (tB X.mg W fa)) (hb : PE X b (tB X.mg W fb)) : PT X (.Compare a [.Gt] [b] pos) (tT X.mg W (tstM (binD gtD fa fb))) := dt_cmp op_gtU r_ord ha hb (nomark _)
theorem de_ge (ha : PE X a (tB X.mg W fa)) (hb : PE X b (tB X.mg W fb)) : PE X (.Compare a [.GtE] [b] pos) (tE X.mg W (binD geD fa fb)) := de_cmp op_geU r_ord ha hb (nomark _)
theorem dt_ge (ha : PE X a (tB X.mg W fa)) (hb : PE X b (tB X.mg W fb)) : PT X (.Compare a [.GtE] [b] pos) (tT X.mg W (tstM (binD geD fa fb))) := dt_cmp op_geU r_ord ha hb (nomark _)
theorem de_in (hu : Ur X) (ha : PE X a (tB X.mg W fa)) (hb : PE X b (tB X.mg W fb)) (hm : behindInMarks .In b = false := by rfl) : PE X (.Compare a [.In] [b] pos) (tE X.mg W (binD (inD false) fa fb)) := de_cmp (op_inU hu) r_inU ha hb hm
theorem dt_in (hu : Ur X) (ha : PE X a (tB X.mg W fa)) (hb : PE X b (tB X.mg W fb)) (hm : behindInMarks .In b = false := by rfl) : PT X (.Compare a [.In] [b] pos) (tT X.mg W (tstM (binD (inD false) fa fb))) := dt_cmp (op_inU hu) r_inU ha hb hm
theorem de_notin (hu : Ur X) (ha : PE X a (tB X.mg W fa)) (hb : PE X b (tB X.mg W fb)) (hm : behindInMarks .NotIn b = false := by rfl) : PE X (.Compare a [.NotIn] [b] pos) (tE X.mg W (binD (inD true) fa fb)) := de_cmp (op_notInU hu) r_inU ha hb hm
theorem dt_notin (hu : Ur X) (ha : PE X a (tB X.mg W fa)) (hb : PE X b (tB X.mg W fb)) (hm : behindInMarks .NotIn b = false := by rfl) : PT X (.Compare a [.NotIn] [b] pos) (tT X.mg W (tstM (binD (inD true) fa fb))) := dt_cmp (op_notInU hu) r_inU ha hb hm
theorem op_isU : OpR X (compareOp .Is) (rIsU false) := op_isN.or op_isBl
theorem op_isnotU : OpR X (compareOp .IsNot) (rIsU true) := op_notN.or op_notBl
theorem de_is (ha : PE X a (tB X.mg W fa)) (hb : PE X b (tB X.mg W fb)) : PE X (.Compare a [.Is] [b] pos) (tE X.mg W (binD (isD false) fa fb)) := de_cmp op_isU r_isU ha hb (nomark _)
theorem dt_is (ha : PE X a (tB X.mg W fa)) (hb : PE X b (tB X.mg W fb)) : PT X (.Compare a [.Is] [b] pos) (tT X.mg W (tstM (binD (isD false) fa fb))) := dt_cmp op_isU r_isU ha hb (nomark _)
theorem de_isnot (ha : PE X a (tB X.mg W fa)) (hb : PE X b (tB X.mg W fb)) : PE X (.Compare a [.IsNot] [b] pos) (tE X.mg W (binD (isD true) fa fb)) := de_cmp op_isnotU r_isU ha hb (nomark _)
theorem dt_isnot (ha : PE X a (tB X.mg W fa)) (hb : PE X b (tB X.mg W fb)) : PT X (.Compare a [.IsNot] [b] pos) (tT X.mg W (tstM (binD (isD true) fa fb))) := dt_cmp op_isnotU r_isU ha hb (nomark _)
theorem de_sub' (hu : Ur X) (ha : PE X a (tB X.mg W fa)) (hb : PE X b (tB X.mg W fb)) (hs : PlainIx b := by exact fun _ _ => rfl) : PE X (.Subscript a b pos) (tE X.mg W (binD ixD fa fb)) :=
  de_ix (ix_seq.or (ix_dict (Nat.lt_of_le_of_lt (Nat.add_le_add_left (by decide) _) hu))) r_ixU ha hb hs
end
end Dy

set_option Elab.async false
set_option linter.all false
set_option maxRecDepth 100000
set_option maxHeartbeats 4000000
/-! Slices, calls of what is built in, calls of defs. -/
namespace Dy
open PySem L2

/-! ### slices -/
theorem _root_.L2.PO.imp {X : Cx} {e : Option Expr} {t t' : TO} (h : PO X e t) (k : ∀ σ H Q, t' σ H Q → t σ H Q) : PO X e t' := ⟨fun pins s σ H Q I w => h.run pins s σ H Q I (k _ _ _ w)⟩
def tPo (mg : Str → Option Value) (W : WX) (f : M (Option Int)) : TO := fun σ H Q => ∃ Γ B G0 G ρ s, Rel Γ B G0 G H σ ρ s ∧
  PostX mg W Γ G H σ (fun o s' => ∀ G' H', Step Γ G H G' H' → St0 Γ G' H' s' → Q o H') (f ρ s)
def intOf : D → Option Int
  | .int i => some i
  | _ => none
theorem intOf_eq {d : D} {i : Int} (h : intOf d = some i) : d = .int i := by
  cases d <;> first | (cases h; rfl) | cases h
def partM (f : M D) : M (Option Int) := bindM f fun d => bindM (ofO (intOf d)) fun i => retM (some i)
def cutD {α : Type} (xs : List α) (lo hi : Option Int) : List α := (xs.drop (HT.sIx xs.length 0 lo)).take (HT.sIx xs.length xs.length hi - HT.sIx xs.length 0 lo)
theorem RpA.cut {hd : Option Addr} {G : Hp} {xs : List V} {ds : List D} (r : RpA hd G xs ds) (lo hi : Option Int) : RpA hd G (cutV xs lo hi) (cutD ds lo hi) := by
  unfold cutV cutD
  rw [r.length]
  exact RpA.take _ (RpA.drop _ r)
def slD : D → Option Int → Option Int → Option D
  | .list ds, lo, hi => some (.list (cutD ds lo hi))
  | .tuple ds, lo, hi => some (.tuple (cutD ds lo hi))
  | .str z, lo, hi => if decide (z.length ≤ sizeLine) then some (.str (cutS z lo hi)) else none
  | _, _, _ => none
def slL : D → Option Int → Option Int → Option D
  | .list ds, lo, hi => some (.list (cutD ds lo hi))
  | _, _, _ => none
def slM (g : D → Option Int → Option Int → Option D) (f : M D) (l h : M (Option Int)) : M D := bindM f fun x => bindM l fun lo => bindM h fun hi => ofO (g x lo hi)
theorem cut_whole {α : Type} {xs : List α} {lo hi : Option Int} (h : HT.sIx xs.length 0 lo = 0 ∧ HT.sIx xs.length xs.length hi = xs.length) : cutD xs lo hi = xs := by
  unfold cutD
  rw [h.1, h.2, Nat.sub_zero, List.drop_zero, List.take_length]
section
variable {X : Cx} {W : WX} {e a : Expr} {f fa : M D} {pos p2 : Pos} {lo hi : Option Expr} {fl fh : M (Option Int)}
theorem dp_none : PO X none (tPo X.mg W (retM none)) := po_none.imp fun σ H Q ⟨Γ, B, G0, G, ρ, s, R, h⟩ => h G H .refl R.ok
theorem dp_some (h : PE X e (tE X.mg W f)) : PO X (some e) (tPo X.mg W (partM f)) := (po_some h).imp fun σ H Q ⟨Γ, B, G0, G, ρ, s, R, h⟩ =>
  ⟨Γ, B, G0, G, ρ, s, R, h.bind.imp fun d s1 h1 v G1 H1 t1 o1 r1 => by
    obtain ⟨i, hi, k⟩ := h1.bind.ofO
    cases intOf_eq hi
    cases r1
    exact ⟨i, rfl, k G1 H1 t1 o1⟩⟩
def rSlU (K : PySem.W.Frag) : V → Option Int → Option Int → Hp → VK → Prop := fun x l h H Q => rSlL K x l h H Q ∨ rSlA K x l h H Q ∨ rSlS x l h H Q
theorem de_slice (he : PE X e (tB X.mg W f)) (hl : PO X lo (tPo X.mg W fl)) (hh : PO X hi (tPo X.mg W fh)) : PE X (.Subscript e (.Slice lo hi none p2) pos) (tE X.mg W (slM slD f fl fh)) :=
  (pe_slice (r := rSlU X.K) (sl_list.or (sl_tupA.or sl_str)) he hl hh).imp fun σ H Q ⟨Γ, B, G0, G, ρ, s, R, h⟩ =>
  ⟨Γ, B, G0, G, ρ, s, R, h.bind.imp fun d s1 h1 v G1 H1 t1 o1 r1 => ⟨Γ, B, G0, G1, ρ, s1, R.go t1 o1, (h1.bind.step t1).imp fun lo s2 h2 G2 H2 t2 o2 =>
    ⟨Γ, B, G0, G2, ρ, s2, (R.go t1 o1).go t2 o2, (h2.bind.step (t1.trans t2 o2.gm)).imp fun hi s3 h3 G3 H3 t3 o3 => by
      obtain ⟨d', hd, k0⟩ := h3.ofO
      have t03 := t1.trans (t2.trans t3 o3.gm) o3.gm
      have k : ∀ v G' H', Step Γ G3 H3 G' H' → St0 Γ G' H' s3 → Rp Γ.hd G' v d' → Q v H' := fun v G' H' t o r => k0 v G' H' (t03.trans t o.gm) o r
      have b3 := (r1.step t2).step t3
      cases d with
      | list ds =>
        cases hd
        obtain ⟨p, xs, rfl, hp, rp⟩ := b3.list o3
        exact .inl ⟨p, xs, rfl, SqL.of hp, fun z hz => finL k o3 (rp.cut _ _) hz⟩
      | tuple ds =>
        cases hd
        obtain ⟨p, xs, rfl, gp, hp, rp⟩ := b3.tup o3
        refine .inr (.inl ⟨p, xs, rfl, SqT.of hp, fun hw => ?_, fun _ z hz => finT k o3 (rp.cut _ _) hz⟩)
        rw [rp.length] at hw
        rw [cut_whole hw] at k
        exact fin0 k o3 (.tup gp rp)
      | str z =>
        simp only [slD] at hd
        split at hd
        · rename_i hz
          cases hd
          have e := b3.str
          subst e
          exact .inr (.inr ⟨z, rfl, of_decide_eq_true hz, fin0 k o3 (.str _)⟩)
        · cases hd
      | _ => cases hd⟩⟩⟩
theorem do_slice (he : PE X e (tB X.mg W f)) (hl : PO X lo (tPo X.mg W fl)) (hh : PO X hi (tPo X.mg W fh)) : PE X (.Subscript e (.Slice lo hi none p2) pos) (tO X.mg W (slM slL f fl fh)) :=
  (pe_slice (r := rSlL X.K) sl_list he hl hh).imp fun σ H Q ⟨Γ, B, G0, G, ρ, s, R, h⟩ =>
  ⟨Γ, B, G0, G, ρ, s, R, h.bind.imp fun d s1 h1 v G1 H1 t1 o1 r1 => ⟨Γ, B, G0, G1, ρ, s1, R.go t1 o1, (h1.bind.step t1).imp fun lo s2 h2 G2 H2 t2 o2 =>
    ⟨Γ, B, G0, G2, ρ, s2, (R.go t1 o1).go t2 o2, (h2.bind.step (t1.trans t2 o2.gm)).imp fun hi s3 h3 G3 H3 t3 o3 => by
      obtain ⟨d', hd, k0⟩ := h3.ofO
      have t03 := t1.trans (t2.trans t3 o3.gm) o3.gm
      have b3 := (r1.step t2).step t3
      cases d with
      | list ds =>
        cases hd
        obtain ⟨p, xs, rfl, hp, rp⟩ := b3.list o3
        refine ⟨p, xs, rfl, SqL.of hp, fun z hz => k0 z _ _ (t03.trans (Step.newO hz) o3.gm) (o3.newO hz) ?_ (o3.gfree hz) (by rw [upd_same]; exact rp.cut _ _)⟩
        cases q : H z with
        | none => rfl
        | some u => rw [t03.keep z u q (o3.nmut hz)] at hz; cases hz
      | _ => cases hd⟩⟩⟩
/-- [::-1], [-2::-1] of a list -/
def revD : D → Option D
  | .list ds => some (.list ds.reverse)
  | _ => none
def call1 (g : D → Option D) (f : M D) : M D := bindM f fun x => ofO (g x)
theorem do_rev {k : Nat} {p1 p2 p3 pos : Pos} (he : PE X e (tB X.mg W f)) : PE X (.Subscript e (.Slice none none (some (.UnaryOp .USub (.Constant (.int 1) k p1) p2)) p3) pos) (tO X.mg W (call1 revD f)) :=
  (pe_revL he).imp fun σ H Q ⟨Γ, B, G0, G, ρ, s, R, h⟩ => ⟨Γ, B, G0, G, ρ, s, R, h.bind.imp fun d s1 h1 v G1 H1 t1 o1 r1 => by
    obtain ⟨d', hd, k0⟩ := h1.ofO
    cases d with
    | list ds =>
      cases hd
      obtain ⟨p, xs, rfl, hp, rp⟩ := r1.list o1
      refine ⟨p, xs, rfl, SqL.of hp, fun z hz => k0 z _ _ (t1.trans (Step.newO hz) o1.gm) (o1.newO hz) ?_ (o1.gfree hz) (by rw [upd_same]; exact rp.rev)⟩
      cases q : H z with
      | none => rfl
      | some u => rw [t1.keep z u q (o1.nmut hz)] at hz; cases hz
    | _ => cases hd⟩
end

/-! ### calls of what is built in -/
def R1E (r : List V → Hp → VK → Prop) (g : D → Option D) : Prop := ∀ (Γ : Gh) (G H : Hp) (s : S) (x : V) (dx d : D) (Q : VK), St0 Γ G H s → Bor Γ G H x dx → g dx = some d →
  (∀ v G' H', Step Γ G H G' H' → St0 Γ G' H' s → Rp Γ.hd G' v d → Q v H') → r [x] H Q
def R1O (r : List V → Hp → VK → Prop) (g : D → Option D) : Prop := ∀ (Γ : Gh) (G H : Hp) (s : S) (x : V) (dx d : D) (Q : VK), St0 Γ G H s → Bor Γ G H x dx → g dx = some d →
  (∀ p G' H', Step Γ G H G' H' → St0 Γ G' H' s → H p = none → G' p = none → Pv Γ.hd G' (H' p) d → Q (.ref p) H') → r [x] H Q
def R2c (r : List V → Hp → VK → Prop) (g : D → D → Option D) : Prop := ∀ (Γ : Gh) (G H : Hp) (s : S) (x y : V) (dx dy d : D) (Q : VK), St0 Γ G H s → Bor Γ G H x dx → Bor Γ G H y dy → g dx dy = some d →
  (∀ v G' H', Step Γ G H G' H' → St0 Γ G' H' s → Rp Γ.hd G' v d → Q v H') → r [x, y] H Q
section
variable {mg : Str → Option Value} {W : WX} {f fb : M D} {r : List V → Hp → VK → Prop} {g : D → Option D} {g2 : D → D → Option D} {σ : L2.St} {H : Hp} {Q : VK}
theorem tCB1_E (hr : R1E r g) : tE mg W (call1 g f) σ H Q → tCB r (tCons (tB mg W f) tNil) σ H Q := fun ⟨Γ, B, G0, G, ρ, s, R, h⟩ =>
  ⟨Γ, B, G0, G, ρ, s, R, h.bind.imp fun dx s1 h1 x G1 H1 t1 o1 b1 => by
    obtain ⟨d, hd, k⟩ := h1.ofO
    exact hr Γ G1 H1 s1 x dx d Q o1 b1 hd fun v G' H' t o rp => k v G' H' (t1.trans t o.gm) o rp⟩
theorem tCB1_O (hr : R1O r g) : tO mg W (call1 g f) σ H Q → tCB r (tCons (tB mg W f) tNil) σ H Q := fun ⟨Γ, B, G0, G, ρ, s, R, h⟩ =>
  ⟨Γ, B, G0, G, ρ, s, R, h.bind.imp fun dx s1 h1 x G1 H1 t1 o1 b1 => by
    obtain ⟨d, hd, k⟩ := h1.ofO
    refine hr Γ G1 H1 s1 x dx d Q o1 b1 hd fun p G' H' t o hp hg hv => k p G' H' (t1.trans t o.gm) o ?_ hg hv
    cases q : H p with
    | none => rfl
    | some u => rw [t1.keep p u q (o1.nmut hp)] at hp; cases hp⟩
theorem tCB2_E (hr : R2c r g2) : tE mg W (binD g2 f fb) σ H Q → tCB r (tCons (tB mg W f) (tCons (tB mg W fb) tNil)) σ H Q := fun ⟨Γ, B, G0, G, ρ, s, R, h⟩ =>
  ⟨Γ, B, G0, G, ρ, s, R, h.bind.imp fun dx s1 h1 x G1 H1 t1 o1 b1 => ⟨Γ, B, G0, G1, ρ, s1, R.go t1 o1, (h1.bind.step t1).imp fun dy s2 h2 y G2 H2 t2 o2 b2 => by
    obtain ⟨d, hd, k⟩ := h2.ofO
    exact hr Γ G2 H2 s2 x y dx dy d Q o2 (b1.step t2) b2 hd fun v G' H' t o rp => k v G' H' (t1.trans (t2.trans t o.gm) o.gm) o rp⟩⟩
end
section
variable {X : Cx} {W : WX} {e e2 : Expr} {f f2 : M D} {r : List V → Hp → VK → Prop} {g : D → Option D} {g2 : D → D → Option D} {x : Str} {id T : String} {p pos : Pos}
theorem de_b1 (hc : CallR X (.builtin id) r) (hr : R1E r g) (hg : Gl X x) (hm : X.mg x = none) (hv : bootBuiltins x = some (.builtin id)) (ha : PE X e (tB X.mg W f)) (hn : x ≠ "__name__" := by decide) (hdb : (x == ("__debug__" : Str)) = false := by decide)
    (he : starEach [e] X.env = (false, eval e X.env) :: starEach [] X.env := by rfl) (hpl : (backTo pos (starEach [] X.env)).any (·.1) = false := by rfl) : PE X (.Call (.Name x p) [e] [] pos) (tE X.mg W (call1 g f)) :=
  (pe_callB hc hg hm hv (pa_cons ha pa_nil he) hn hdb he hpl).imp fun _ _ _ => tCB1_E hr
theorem do_b1 (hc : CallR X (.builtin id) r) (hr : R1O r g) (hg : Gl X x) (hm : X.mg x = none) (hv : bootBuiltins x = some (.builtin id)) (ha : PE X e (tB X.mg W f)) (hn : x ≠ "__name__" := by decide) (hdb : (x == ("__debug__" : Str)) = false := by decide)
    (he : starEach [e] X.env = (false, eval e X.env) :: starEach [] X.env := by rfl) (hpl : (backTo pos (starEach [] X.env)).any (·.1) = false := by rfl) : PE X (.Call (.Name x p) [e] [] pos) (tO X.mg W (call1 g f)) :=
  (pe_callB hc hg hm hv (pa_cons ha pa_nil he) hn hdb he hpl).imp fun _ _ _ => tCB1_O hr
theorem de_t1 (hc : CallR X (.type T) r) (hr : R1E r g) (hg : Gl X x) (hm : X.mg x = none) (hv : bootBuiltins x = some (.type T)) (ha : PE X e (tB X.mg W f)) (hn : x ≠ "__name__" := by decide) (hdb : (x == ("__debug__" : Str)) = false := by decide)
    (he : starEach [e] X.env = (false, eval e X.env) :: starEach [] X.env := by rfl) (hpl : (backTo pos (starEach [] X.env)).any (·.1) = false := by rfl) : PE X (.Call (.Name x p) [e] [] pos) (tE X.mg W (call1 g f)) :=
  (pe_callTy hc hg hm hv (pa_cons ha pa_nil he) hn hdb he hpl).imp fun _ _ _ => tCB1_E hr
theorem do_t1 (hc : CallR X (.type T) r) (hr : R1O r g) (hg : Gl X x) (hm : X.mg x = none) (hv : bootBuiltins x = some (.type T)) (ha : PE X e (tB X.mg W f)) (hn : x ≠ "__name__" := by decide) (hdb : (x == ("__debug__" : Str)) = false := by decide)
    (he : starEach [e] X.env = (false, eval e X.env) :: starEach [] X.env := by rfl) (hpl : (backTo pos (starEach [] X.env)).any (·.1) = false := by rfl) : PE X (.Call (.Name x p) [e] [] pos) (tO X.mg W (call1 g f)) :=
  (pe_callTy hc hg hm hv (pa_cons ha pa_nil he) hn hdb he hpl).imp fun _ _ _ => tCB1_O hr
theorem de_b2 (hc : CallR X (.builtin id) r) (hr : R2c r g2) (hg : Gl X x) (hm : X.mg x = none) (hv : bootBuiltins x = some (.builtin id)) (ha : PE X e (tB X.mg W f)) (hb : PE X e2 (tB X.mg W f2)) (hn : x ≠ "__name__" := by decide) (hdb : (x == ("__debug__" : Str)) = false := by decide)
    (he : starEach [e, e2] X.env = (false, eval e X.env) :: starEach [e2] X.env := by rfl) (he2 : starEach [e2] X.env = (false, eval e2 X.env) :: starEach [] X.env := by rfl) (hpl : (backTo pos (starEach [e2] X.env)).any (·.1) = false := by rfl) : PE X (.Call (.Name x p) [e, e2] [] pos) (tE X.mg W (binD g2 f f2)) :=
  (pe_callB hc hg hm hv (pa_cons ha (pa_cons hb pa_nil he2) he) hn hdb he hpl).imp fun _ _ _ => tCB2_E hr
end

/-! ### which -/
def lenD : D → Option D
  | .str z => if decide (z.length ≤ sizeLine) then some (.int z.length) else none
  | .list ds => some (.int ds.length)
  | .tuple ds => some (.int ds.length)
  | .dict l => if isHnd l then none else some (.int l.length)
  | _ => none
def rLenU (K : PySem.W.Frag) : List V → Hp → VK → Prop := fun xs H Q => (∃ x n, xs = [x] ∧ LenV K x H n ∧ Q (.int n) H) ∨ ∃ a kvs, xs = [.ref a] ∧ H a = some (.dK kvs) ∧ Q (.int kvs.length) H
theorem call_lenDK {X : Cx} : CallR X (.builtin "len") (fun xs H Q => ∃ a kvs, xs = [.ref a] ∧ H a = some (.dK kvs) ∧ Q (.int kvs.length) H) := by
  have h := @call_lenD X
  intro pins s σ H xs us Q I r hh
  obtain ⟨a, kvs, rfl, hd, q⟩ := hh
  exact h pins s σ H _ us Q I r ⟨a, kvs, rfl, hd, q⟩
theorem r_len {K : PySem.W.Frag} : R1E (rLenU K) lenD := by
  intro Γ G H s x dx d Q o bx e k
  cases dx with
  | str z =>
    simp only [lenD] at e
    split at e
    · rename_i hz
      cases e
      have e2 := bx.str
      subst e2
      exact .inl ⟨_, z.length, rfl, ⟨of_decide_eq_true hz, rfl⟩, fin0 k o (.int _)⟩
    · cases e
  | list ds =>
    cases e
    obtain ⟨p, xs, rfl, h1, r1⟩ := bx.list o
    exact .inl ⟨_, ds.length, rfl, .inl ⟨xs, SqL.of h1, r1.length.symm⟩, fin0 k o (.int _)⟩
  | tuple ds =>
    cases e
    obtain ⟨p, xs, rfl, g1, h1, r1⟩ := bx.tup o
    exact .inl ⟨_, ds.length, rfl, .inr ⟨xs, SqT.of h1, r1.length.symm⟩, fin0 k o (.int _)⟩
  | dict l =>
    simp only [lenD] at e
    split at e
    · cases e
    · rename_i hh
      cases e
      obtain ⟨p, xs, rfl, h1, r1⟩ := bx.dict o (by simpa using hh)
      refine .inr ⟨p, xs, rfl, h1, ?_⟩
      rw [r1.length]
      exact fin0 k o (.int _)
  | _ => cases e
def absD : D → Option D
  | .int i => some (.int (if i < 0 then -i else i))
  | _ => none
def maxD : D → D → Option D := intD (fun _ _ => true) fun i j => .int (if j > i then j else i)
def minD : D → D → Option D := intD (fun _ _ => true) fun i j => .int (if j < i then j else i)
def intC : D → Option D
  | .int i => some (.int i)
  | .bool k => some (.int (if k then 1 else 0))
  | .str a => match PySem.intText? a with
    | some n => if decide (a.length ≤ 640) then some (.int n) else none
    | none => none
  | _ => none
def strC : D → Option D
  | .int i => if decide (i.natAbs.log2 < 1920) then some (.str (toString i)) else none
  | _ => none
/-- bools, ints of a list -/
def boolsOf : List D → Option (List Bool)
  | [] => some []
  | .bool b :: ds => (boolsOf ds).map (b :: ·)
  | _ :: _ => none
def intsOf : List D → Option (List Int)
  | [] => some []
  | .int b :: ds => (intsOf ds).map (b :: ·)
  | _ :: _ => none
theorem RpA.bools {hd : Option Addr} {G : Hp} : ∀ {xs : List V} {ds : List D} {bs : List Bool}, RpA hd G xs ds → boolsOf ds = some bs → xs = bs.map V.bl
  | _, [], bs, h, e => by cases h; cases e; rfl
  | _, d :: ds, bs, h, e => by
    cases h with
    | cons h r =>
      cases d with
      | bool b =>
        obtain ⟨cs, hc, rfl⟩ := Option.map_eq_some_iff.mp e
        cases h
        rw [RpA.bools r hc]; rfl
      | _ => cases e
theorem RpA.ints {hd : Option Addr} {G : Hp} : ∀ {xs : List V} {ds : List D} {bs : List Int}, RpA hd G xs ds → intsOf ds = some bs → xs = bs.map V.int
  | _, [], bs, h, e => by cases h; cases e; rfl
  | _, d :: ds, bs, h, e => by
    cases h with
    | cons h r =>
      cases d with
      | int b =>
        obtain ⟨cs, hc, rfl⟩ := Option.map_eq_some_iff.mp e
        cases h
        rw [RpA.ints r hc]; rfl
      | _ => cases e
def allD : D → Option D
  | .list ds => (boolsOf ds).map fun bs => .bool (bs.all id)
  | _ => none
def anyD : D → Option D
  | .list ds => (boolsOf ds).map fun bs => .bool (bs.any id)
  | _ => none
def sumD : D → Option D
  | .list ds => (intsOf ds).map fun ns => .int ns.sum
  | _ => none
def maxL : List Int → Int
  | [] => 0
  | x :: xs => xs.foldl (fun a b => if b > a then b else a) x
def minL : List Int → Int
  | [] => 0
  | x :: xs => xs.foldl (fun a b => if b < a then b else a) x
theorem foldl_max (xs : List Int) : ∀ x, xs.foldl (fun a b => if b > a then b else a) x ∈ x :: xs ∧ ∀ y ∈ x :: xs, y ≤ xs.foldl (fun a b => if b > a then b else a) x := by
  induction xs with
  | nil => intro x; simp
  | cons z zs ih =>
    intro x
    obtain ⟨h1, h2⟩ := ih (if z > x then z else x)
    rw [List.foldl_cons]
    refine ⟨?_, fun y hy => ?_⟩
    · rcases List.mem_cons.mp h1 with e | e
      · rw [e]; split <;> simp
      · simp [e]
    · have hm := h2 (if z > x then z else x) List.mem_cons_self
      rcases List.mem_cons.mp hy with e | e
      · rw [e]; exact Int.le_trans (by split <;> omega) hm
      · rcases List.mem_cons.mp e with e | e
        · rw [e]; exact Int.le_trans (by split <;> omega) hm
        · exact h2 y (List.mem_cons_of_mem _ e)
theorem foldl_min (xs : List Int) : ∀ x, xs.foldl (fun a b => if b < a then b else a) x ∈ x :: xs ∧ ∀ y ∈ x :: xs, xs.foldl (fun a b => if b < a then b else a) x ≤ y := by
  induction xs with
  | nil => intro x; simp
  | cons z zs ih =>
    intro x
    obtain ⟨h1, h2⟩ := ih (if z < x then z else x)
    rw [List.foldl_cons]
    refine ⟨?_, fun y hy => ?_⟩
    · rcases List.mem_cons.mp h1 with e | e
      · rw [e]; split <;> simp
      · simp [e]
    · have hm := h2 (if z < x then z else x) List.mem_cons_self
      rcases List.mem_cons.mp hy with e | e
      · rw [e]; exact Int.le_trans hm (by split <;> omega)
      · rcases List.mem_cons.mp e with e | e
        · rw [e]; exact Int.le_trans hm (by split <;> omega)
        · exact h2 y (List.mem_cons_of_mem _ e)
theorem maxL_mem {ns : List Int} (h : 0 < ns.length) : maxL ns ∈ ns ∧ ∀ y ∈ ns, y ≤ maxL ns := by
  cases ns with
  | nil => simp at h
  | cons x xs => exact foldl_max xs x
theorem minL_mem {ns : List Int} (h : 0 < ns.length) : minL ns ∈ ns ∧ ∀ y ∈ ns, minL ns ≤ y := by
  cases ns with
  | nil => simp at h
  | cons x xs => exact foldl_min xs x
def maxLD : D → Option D
  | .list ds => match intsOf ds with
    | some ns => if decide (0 < ns.length) then some (.int (maxL ns)) else none
    | none => none
  | _ => none
def minLD : D → Option D
  | .list ds => match intsOf ds with
    | some ns => if decide (0 < ns.length) then some (.int (minL ns)) else none
    | none => none
  | _ => none
def listC : D → Option D
  | .list ds => some (.list ds)
  | .tuple ds => some (.list ds)
  | _ => none
def tupC : D → Option D
  | .list ds => some (.tuple ds)
  | .tuple ds => some (.tuple ds)
  | _ => none
theorem r_all {K : PySem.W.Frag} : R1E (rAll K) allD := by
  intro Γ G H s x dx d Q o bx e k
  cases dx with
  | list ds =>
    obtain ⟨bs, hb, rfl⟩ := Option.map_eq_some_iff.mp e
    obtain ⟨p, xs, rfl, h1, r1⟩ := bx.list o
    exact ⟨p, bs, rfl, by rw [← r1.bools hb]; exact SqL.of h1, fin0 k o (.bl _)⟩
  | _ => cases e
theorem r_any {K : PySem.W.Frag} : R1E (rAny K) anyD := by
  intro Γ G H s x dx d Q o bx e k
  cases dx with
  | list ds =>
    obtain ⟨bs, hb, rfl⟩ := Option.map_eq_some_iff.mp e
    obtain ⟨p, xs, rfl, h1, r1⟩ := bx.list o
    exact ⟨p, bs, rfl, by rw [← r1.bools hb]; exact SqL.of h1, fin0 k o (.bl _)⟩
  | _ => cases e
theorem r_sum {K : PySem.W.Frag} : R1E (rSum K) sumD := by
  intro Γ G H s x dx d Q o bx e k
  cases dx with
  | list ds =>
    obtain ⟨bs, hb, rfl⟩ := Option.map_eq_some_iff.mp e
    obtain ⟨p, xs, rfl, h1, r1⟩ := bx.list o
    exact ⟨p, bs, rfl, by rw [← r1.ints hb]; exact SqL.of h1, fin0 k o (.int _)⟩
  | _ => cases e
theorem r_maxL {K : PySem.W.Frag} : R1E (rMax K) maxLD := by
  intro Γ G H s x dx d Q o bx e k
  cases dx with
  | list ds =>
    simp only [maxLD] at e
    cases q : intsOf ds with
    | none => rw [q] at e; cases e
    | some ns =>
      rw [q] at e
      simp only at e
      split at e
      · rename_i hz
        cases e
        have hz' := of_decide_eq_true hz
        obtain ⟨p, xs, rfl, h1, r1⟩ := bx.list o
        refine ⟨p, ns, rfl, by rw [← r1.ints q]; exact SqL.of h1, hz', fun m hm hle => ?_⟩
        obtain ⟨m1, m2⟩ := maxL_mem hz'
        have e : m = maxL ns := Int.le_antisymm (m2 m hm) (hle _ m1)
        rw [e]; exact fin0 k o (.int _)
      · cases e
  | _ => cases e
theorem r_minL {K : PySem.W.Frag} : R1E (rMin K) minLD := by
  intro Γ G H s x dx d Q o bx e k
  cases dx with
  | list ds =>
    simp only [minLD] at e
    cases q : intsOf ds with
    | none => rw [q] at e; cases e
    | some ns =>
      rw [q] at e
      simp only at e
      split at e
      · rename_i hz
        cases e
        have hz' := of_decide_eq_true hz
        obtain ⟨p, xs, rfl, h1, r1⟩ := bx.list o
        refine ⟨p, ns, rfl, by rw [← r1.ints q]; exact SqL.of h1, hz', fun m hm hle => ?_⟩
        obtain ⟨m1, m2⟩ := minL_mem hz'
        have e : m = minL ns := Int.le_antisymm (hle _ m1) (m2 m hm)
        rw [e]; exact fin0 k o (.int _)
      · cases e
  | _ => cases e
section
variable {X : Cx} {W : WX} {e e2 : Expr} {f f2 : M D} {p pos : Pos}
theorem de_len (hm : X.mg "len" = none) (ha : PE X e (tB X.mg W f)) (hg : Gl X "len" := by rfl)
    (he : starEach [e] X.env = (false, eval e X.env) :: starEach [] X.env := by rfl) (hpl : (backTo pos (starEach [] X.env)).any (·.1) = false := by rfl) : PE X (.Call (.Name "len" p) [e] [] pos) (tE X.mg W (call1 lenD f)) :=
  de_b1 (call_len.or call_lenDK) r_len hg hm PySem.boot_len ha (by decide) (by decide) he hpl
theorem de_abs (hm : X.mg "abs" = none) (ha : PE X e (tB X.mg W f)) (hg : Gl X "abs" := by rfl)
    (he : starEach [e] X.env = (false, eval e X.env) :: starEach [] X.env := by rfl) (hpl : (backTo pos (starEach [] X.env)).any (·.1) = false := by rfl) : PE X (.Call (.Name "abs" p) [e] [] pos) (tE X.mg W (call1 absD f)) :=
  de_b1 call_abs (by
    intro Γ G H s x dx d Q o bx e k
    cases dx with
    | int i => cases e; exact ⟨i, by rw [bx.int], fin0 k o (.int _)⟩
    | _ => cases e) hg hm (by decide +kernel) ha (by decide) (by decide) he hpl
theorem de_max2 (hc : X.calm = true) (hm : X.mg "max" = none) (ha : PE X e (tB X.mg W f)) (hb : PE X e2 (tB X.mg W f2)) (hg : Gl X "max" := by rfl)
    (he : starEach [e, e2] X.env = (false, eval e X.env) :: starEach [e2] X.env := by rfl) (he2 : starEach [e2] X.env = (false, eval e2 X.env) :: starEach [] X.env := by rfl) (hpl : (backTo pos (starEach [e2] X.env)).any (·.1) = false := by rfl) : PE X (.Call (.Name "max" p) [e, e2] [] pos) (tE X.mg W (binD maxD f f2)) :=
  de_b2 (call_max2 hc) (by
    intro Γ G H s x y dx dy d Q o bx hy e k
    cases dx with
    | int i => cases dy with
      | int j => cases e; exact ⟨i, j, by rw [bx.int, hy.int], fin0 k o (.int _)⟩
      | _ => cases e
    | _ => cases e) hg hm PyProof.Rows.boot_max ha hb (by decide) (by decide) he he2 hpl
theorem de_min2 (hc : X.calm = true) (hm : X.mg "min" = none) (ha : PE X e (tB X.mg W f)) (hb : PE X e2 (tB X.mg W f2)) (hg : Gl X "min" := by rfl)
    (he : starEach [e, e2] X.env = (false, eval e X.env) :: starEach [e2] X.env := by rfl) (he2 : starEach [e2] X.env = (false, eval e2 X.env) :: starEach [] X.env := by rfl) (hpl : (backTo pos (starEach [e2] X.env)).any (·.1) = false := by rfl) : PE X (.Call (.Name "min" p) [e, e2] [] pos) (tE X.mg W (binD minD f f2)) :=
  de_b2 (call_min2 hc) (by
    intro Γ G H s x y dx dy d Q o bx hy e k
    cases dx with
    | int i => cases dy with
      | int j => cases e; exact ⟨i, j, by rw [bx.int, hy.int], fin0 k o (.int _)⟩
      | _ => cases e
    | _ => cases e) hg hm PyProof.Rows.boot_min ha hb (by decide) (by decide) he he2 hpl
theorem de_int (hm : X.mg "int" = none) (ha : PE X e (tB X.mg W f)) (hg : Gl X "int" := by rfl)
    (he : starEach [e] X.env = (false, eval e X.env) :: starEach [] X.env := by rfl) (hpl : (backTo pos (starEach [] X.env)).any (·.1) = false := by rfl) : PE X (.Call (.Name "int" p) [e] [] pos) (tE X.mg W (call1 intC f)) :=
  de_t1 (call_int1.or call_int_str) (by
    intro Γ G H s x dx d Q o bx e k
    cases dx with
    | int i => cases e; exact .inl (.inl ⟨i, by rw [bx.int], fin0 k o (.int _)⟩)
    | bool i => cases e; exact .inl (.inr ⟨i, by rw [bx.bool], fin0 k o (.int _)⟩)
    | str a =>
      simp only [intC] at e
      cases q : PySem.intText? a with
      | none => rw [q] at e; cases e
      | some n =>
        rw [q] at e
        simp only at e
        split at e
        · rename_i hz
          cases e
          exact .inr ⟨a, n, by rw [bx.str], q, of_decide_eq_true hz, fin0 k o (.int _)⟩
        · cases e
    | _ => cases e) hg hm PyProof.Rows.boot_int ha (by decide) (by decide) he hpl
theorem de_str (hm : X.mg "str" = none) (ha : PE X e (tB X.mg W f)) (hg : Gl X "str" := by rfl)
    (he : starEach [e] X.env = (false, eval e X.env) :: starEach [] X.env := by rfl) (hpl : (backTo pos (starEach [] X.env)).any (·.1) = false := by rfl) : PE X (.Call (.Name "str" p) [e] [] pos) (tE X.mg W (call1 strC f)) :=
  de_t1 call_str_int (by
    intro Γ G H s x dx d Q o bx e k
    cases dx with
    | int i =>
      simp only [strC] at e
      split at e
      · rename_i hz
        cases e
        exact ⟨i, by rw [bx.int], of_decide_eq_true hz, fin0 k o (.str _)⟩
      · cases e
    | _ => cases e) hg hm PyProof.Rows.boot_str ha (by decide) (by decide) he hpl
theorem de_all (hc : X.calm = true) (hm : X.mg "all" = none) (ha : PE X e (tB X.mg W f)) (hg : Gl X "all" := by rfl)
    (he : starEach [e] X.env = (false, eval e X.env) :: starEach [] X.env := by rfl) (hpl : (backTo pos (starEach [] X.env)).any (·.1) = false := by rfl) : PE X (.Call (.Name "all" p) [e] [] pos) (tE X.mg W (call1 allD f)) :=
  de_b1 (cr_all hc) r_all hg hm PyProof.Rows.boot_all ha (by decide) (by decide) he hpl
theorem de_any (hc : X.calm = true) (hm : X.mg "any" = none) (ha : PE X e (tB X.mg W f)) (hg : Gl X "any" := by rfl)
    (he : starEach [e] X.env = (false, eval e X.env) :: starEach [] X.env := by rfl) (hpl : (backTo pos (starEach [] X.env)).any (·.1) = false := by rfl) : PE X (.Call (.Name "any" p) [e] [] pos) (tE X.mg W (call1 anyD f)) :=
  de_b1 (cr_any hc) r_any hg hm PyProof.Rows.boot_any ha (by decide) (by decide) he hpl
theorem de_sum (hc : X.calm = true) (hm : X.mg "sum" = none) (ha : PE X e (tB X.mg W f)) (hg : Gl X "sum" := by rfl)
    (he : starEach [e] X.env = (false, eval e X.env) :: starEach [] X.env := by rfl) (hpl : (backTo pos (starEach [] X.env)).any (·.1) = false := by rfl) : PE X (.Call (.Name "sum" p) [e] [] pos) (tE X.mg W (call1 sumD f)) :=
  de_b1 (cr_sum hc) r_sum hg hm PyProof.Rows.boot_sum ha (by decide) (by decide) he hpl
theorem de_max (hc : X.calm = true) (hm : X.mg "max" = none) (ha : PE X e (tB X.mg W f)) (hg : Gl X "max" := by rfl)
    (he : starEach [e] X.env = (false, eval e X.env) :: starEach [] X.env := by rfl) (hpl : (backTo pos (starEach [] X.env)).any (·.1) = false := by rfl) : PE X (.Call (.Name "max" p) [e] [] pos) (tE X.mg W (call1 maxLD f)) :=
  de_b1 (cr_max hc) r_maxL hg hm PyProof.Rows.boot_max ha (by decide) (by decide) he hpl
theorem de_min (hc : X.calm = true) (hm : X.mg "min" = none) (ha : PE X e (tB X.mg W f)) (hg : Gl X "min" := by rfl)
    (he : starEach [e] X.env = (false, eval e X.env) :: starEach [] X.env := by rfl) (hpl : (backTo pos (starEach [] X.env)).any (·.1) = false := by rfl) : PE X (.Call (.Name "min" p) [e] [] pos) (tE X.mg W (call1 minLD f)) :=
  de_b1 (cr_min hc) r_minL hg hm PyProof.Rows.boot_min ha (by decide) (by decide) he hpl
theorem do_list (hm : X.mg "list" = none) (ha : PE X e (tB X.mg W f)) (hg : Gl X "list" := by rfl)
    (he : starEach [e] X.env = (false, eval e X.env) :: starEach [] X.env := by rfl) (hpl : (backTo pos (starEach [] X.env)).any (·.1) = false := by rfl) : PE X (.Call (.Name "list" p) [e] [] pos) (tO X.mg W (call1 listC f)) :=
  do_t1 call_list_of (by
    intro Γ G H s x dx d Q o bx e k
    cases dx with
    | list ds =>
      cases e
      obtain ⟨p, xs, rfl, h1, r1⟩ := bx.list o
      exact ⟨p, xs, rfl, .inl (SqL.of h1), fun z hz => finLO k o r1 hz⟩
    | tuple ds =>
      cases e
      obtain ⟨p, xs, rfl, g1, h1, r1⟩ := bx.tup o
      exact ⟨p, xs, rfl, .inr (SqT.of h1), fun z hz => finLO k o r1 hz⟩
    | _ => cases e) hg hm PyProof.Rows.boot_list ha (by decide) (by decide) he hpl
theorem de_tuple (hm : X.mg "tuple" = none) (ha : PE X e (tB X.mg W f)) (hg : Gl X "tuple" := by rfl)
    (he : starEach [e] X.env = (false, eval e X.env) :: starEach [] X.env := by rfl) (hpl : (backTo pos (starEach [] X.env)).any (·.1) = false := by rfl) : PE X (.Call (.Name "tuple" p) [e] [] pos) (tE X.mg W (call1 tupC f)) :=
  de_t1 call_tuple_of (by
    intro Γ G H s x dx d Q o bx e k
    cases dx with
    | list ds =>
      cases e
      obtain ⟨p, xs, rfl, h1, r1⟩ := bx.list o
      exact ⟨p, xs, rfl, .inl ⟨SqL.of h1, fun z hz => finT k o r1 hz⟩⟩
    | tuple ds =>
      cases e
      obtain ⟨p, xs, rfl, g1, h1, r1⟩ := bx.tup o
      exact ⟨p, xs, rfl, .inr ⟨SqT.of h1, fin0 k o (.tup g1 r1)⟩⟩
    | _ => cases e) hg hm PyProof.Rows.boot_tuple ha (by decide) (by decide) he hpl
/-- isinstance(x, T) -/
def isiD (T : String) : D → Option D
  | .none => (kitB "NoneType" T).map .bool
  | .bool _ => (kitB "bool" T).map .bool
  | .int _ => (kitB "int" T).map .bool
  | .str _ => (kitB "str" T).map .bool
  | .list _ => (kitB "list" T).map .bool
  | .tuple _ => (kitB "tuple" T).map .bool
  | .dict l => if isHnd l then none else (kitB "dict" T).map .bool
theorem de_isi {T x : String} {p2 : Pos} (hm : X.mg "isinstance" = none) (hmT : X.mg (Str.ofString x) = none) (hvT : bootBuiltins (Str.ofString x) = some (.type T)) (ha : PE X e (tB X.mg W f)) (hg : Gl X "isinstance" := by rfl) (hgT : Gl X (Str.ofString x) := by rfl)
    (hn2 : Str.ofString x ≠ "__name__" := by decide) (hd2 : (Str.ofString x == ("__debug__" : Str)) = false := by decide)
    (he : starEach [e, .Name (Str.ofString x) p2] X.env = (false, eval e X.env) :: starEach [.Name (Str.ofString x) p2] X.env := by rfl) (hpl : (backTo pos (starEach [.Name (Str.ofString x) p2] X.env)).any (·.1) = false := by rfl) :
    PE X (.Call (.Name "isinstance" p) [e, .Name (Str.ofString x) p2] [] pos) (tE X.mg W (call1 (isiD T) f)) :=
  (pe_callB call_isi hg hm PyProof.Rows.boot_isinstance (pa_cons ha (pa_cons (pe_bltn (v := .ty T) hgT hmT hvT rfl hn2 hd2) pa_nil) he) (by decide) (by decide) he hpl).imp fun σ H Q ⟨Γ, B, G0, G, ρ, s, R, h⟩ =>
  ⟨Γ, B, G0, G, ρ, s, R, h.bind.imp fun dx s1 h1 x G1 H1 t1 o1 b1 => by
    obtain ⟨d, hd, k0⟩ := h1.ofO
    have k : ∀ v G' H', Step Γ G1 H1 G' H' → St0 Γ G' H' s1 → Rp Γ.hd G' v d → Q v H' := fun v G' H' t o r => k0 v G' H' (t1.trans t o.gm) o r
    cases dx with
    | none => obtain ⟨b, hb, rfl⟩ := Option.map_eq_some_iff.mp hd; exact ⟨_, _, _, _, b, rfl, .ty T, .base (by rw [b1.none']; exact .non), kit_ty hb, fin0 k o1 (.bl _)⟩
    | bool i => obtain ⟨b, hb, rfl⟩ := Option.map_eq_some_iff.mp hd; exact ⟨_, _, _, _, b, rfl, .ty T, .base (by rw [b1.bool]; exact .bl _), kit_ty hb, fin0 k o1 (.bl _)⟩
    | int i => obtain ⟨b, hb, rfl⟩ := Option.map_eq_some_iff.mp hd; exact ⟨_, _, _, _, b, rfl, .ty T, .base (by rw [b1.int]; exact .int _), kit_ty hb, fin0 k o1 (.bl _)⟩
    | str i => obtain ⟨b, hb, rfl⟩ := Option.map_eq_some_iff.mp hd; exact ⟨_, _, _, _, b, rfl, .ty T, .base (by rw [b1.str]; exact .str _), kit_ty hb, fin0 k o1 (.bl _)⟩
    | list ds =>
      obtain ⟨b, hb, rfl⟩ := Option.map_eq_some_iff.mp hd
      obtain ⟨p, xs, rfl, h1, r1⟩ := b1.list o1
      exact ⟨_, _, _, _, b, rfl, .ty T, .base (.lst h1), kit_ty hb, fin0 k o1 (.bl _)⟩
    | tuple ds =>
      obtain ⟨b, hb, rfl⟩ := Option.map_eq_some_iff.mp hd
      obtain ⟨p, xs, rfl, g1, h1, r1⟩ := b1.tup o1
      exact ⟨_, _, _, _, b, rfl, .ty T, .base (.tup h1), kit_ty hb, fin0 k o1 (.bl _)⟩
    | dict l =>
      simp only [isiD] at hd
      split at hd
      · cases hd
      · rename_i hh
        obtain ⟨b, hb, rfl⟩ := Option.map_eq_some_iff.mp hd
        obtain ⟨p, xs, rfl, h1, r1⟩ := b1.dict o1 (by simpa using hh)
        exact ⟨_, _, _, _, b, rfl, .ty T, .base (.dK h1), kit_ty hb, fin0 k o1 (.bl _)⟩⟩
end
end Dy

set_option Elab.async false
set_option linter.all false
set_option maxRecDepth 100000
set_option maxHeartbeats 4000000
/-! Defs and their calls; statements. -/
namespace Dy
open PySem PySem.Spec PyProof.Rows L2

/-! ### defs -/
inductive FR where
  | ok (r : Ent) (s : S)
  | ex (e : Exn) (s : S)
  | st
abbrev Fn := List D → S → FR
def PostF (mg : Str → Option Value) (Γ : Gh) (G H : Hp) (Q : VK) (E : XK) : FR → Prop
  | .ok (.sh d) s => ∀ v G' H', Step Γ G H G' H' → St0 Γ G' H' s → Rp Γ.hd G' v d → Q v H'
  | .ok (.pr d) s => ∀ p G' H', Step Γ G H G' H' → St0 Γ G' H' s → H p = none → G' p = none → Pv Γ.hd G' (H' p) d → Q (.ref p) H'
  | .ok .un _ => False
  | .ex e s => ∀ cls dd G' H', Step Γ G H G' H' → St0 Γ G' H' s → ExR mg e cls dd H' → E cls dd H'
  | .st => False
def spD (mg : Str → Option Value) (F : Fn) : Sp := fun vs H Q E => ∃ Γ G ds s, St0 Γ G H s ∧ RpA Γ.hd G vs ds ∧ PostF mg Γ G H Q E (F ds s)
def finS : SR → FR
  | .nx _ s => .ok (.sh .none) s
  | .rt r s => .ok r s
  | .ex e _ s => .ex e s
  | _ => .st
def startE (n N : Nat) (ds : List D) : Env' := ds.map .sh ++ List.replicate (N - n) .un
def fnM (n N : Nat) (g : MS) : Fn := fun ds s => if ds.length = n then finS (g (startE n N ds) s) else .st
structure Cd (P : Program) (w : World) (K : PySem.W.Frag) (mg : Str → Option Value) (base : Heap) (x : Str) (k : Nat) (F : Fn) : Prop where
  ex : ∃ f fd ps, FnOk P w K mg base (L2.CX P w) k f fd ps (spD mg F) ∧ mg x = some (.ref f) ∧ PySem.W.keepIn K (.ref f) = true ∧ Binds K fd ps []
theorem Rel.start {Γ : Gh} {G H : Hp} {s : S} {vs : List V} {ds : List D} {N : List Str} {NN : Nat} (hN : N.length = NN) (o : St0 Γ G H s) (r : RpA Γ.hd G vs ds) : Rel Γ H G G H (L2.start N vs) (startE ds.length NN ds) s where
  ok := o
  step := .refl
  len := by
    have := r.length
    unfold L2.start startE
    rw [List.length_append, List.length_append, List.length_map, List.length_map, List.length_replicate, List.length_replicate, hN, this]
  sh := fun i d e => by
    unfold startE at e
    by_cases hi : i < ds.length
    · rw [List.getElem?_append_left (by rw [List.length_map]; exact hi), List.getElem?_map] at e
      cases q : ds[i]? with
      | none => rw [q] at e; cases e
      | some d' =>
        rw [q] at e
        cases e
        obtain ⟨v, h1, h2⟩ := r.get q
        refine ⟨v, ?_, h2⟩
        unfold L2.start
        rw [List.getElem?_append_left (by rw [List.length_map, r.length]; exact hi), List.getElem?_map, h1]
        rfl
    · rw [List.getElem?_append_right (by rw [List.length_map]; omega), List.getElem?_replicate] at e
      split at e <;> cases e
  pr := fun i d e => by
    unfold startE at e
    by_cases hi : i < ds.length
    · rw [List.getElem?_append_left (by rw [List.length_map]; exact hi), List.getElem?_map] at e
      cases q : ds[i]? with
      | none => rw [q] at e; cases e
      | some d' => rw [q] at e; cases e
    · rw [List.getElem?_append_right (by rw [List.length_map]; omega), List.getElem?_replicate] at e
      split at e <;> cases e
  sep := fun i j d e p _ h _ => by
    unfold startE at h
    by_cases hi : i < ds.length
    · rw [List.getElem?_append_left (by rw [List.length_map]; exact hi), List.getElem?_map] at h
      cases q : ds[i]? with
      | none => rw [q] at h; cases h
      | some d' => rw [q] at h; cases h
    · rw [List.getElem?_append_right (by rw [List.length_map]; omega), List.getElem?_replicate] at h
      split at h <;> cases h
section
variable {P : Program} {w : World} {K : PySem.W.Frag} {mg : Str → Option Value} {base : Heap}
theorem spD_len {n N : Nat} {g : MS} {vs : List V} {H : Hp} {Q : VK} {E : XK} (h : spD mg (fnM n N g) vs H Q E) : vs.length = n := by
  obtain ⟨Γ, G, ds, s, o, r, p⟩ := h
  unfold fnM at p
  split at p
  · rename_i e; rw [r.length, e]
  · exact p.elim
/-- THE RULE for a def -/
theorem fn_ok {x qual : Str} {params : Arguments} {body : List Stmt} {scope : Scope} {f : Addr} {fd : FuncData} {N ps : List Str} {k n NN : Nat} {g : MS} (F : FunD K x qual params body scope [] [] f fd) (Sc : FnScope N ps scope) (hn : ps.length = n) (hN : N.length = NN)
    (hb : ∀ (cdv : Value) (A : Around) (outer : List Env) (s : Shared) (H : Hp) (E : XK), Room k (A.deeper (envOfC qual scope s.heap.objs.size f cdv)) →
      PSs (cxOf (L2.CX P w) P w K mg base N qual scope f cdv A outer s H E) body (tSt mg (fun cls d _ H => E cls d H) g)) : FnOk P w K mg base (L2.CX P w) (k + 1) f fd ps (spD mg (fnM n NN g)) := by
  refine F.ok Sc (fun vs H Q E h => (spD_len h).trans hn.symm) fun cdv A outer s H vs Q E hr h => ⟨_, hb cdv A outer s H E hr, ?_⟩
  obtain ⟨Γ, G, ds, s1, o, r, p⟩ := h
  unfold fnM at p
  split at p
  · rename_i e
    subst e
    refine ⟨Γ, H, G, G, startE ds.length NN ds, s1, Rel.start hN o r, ?_⟩
    revert p
    cases g (startE ds.length NN ds) s1 with
    | nx ρ s => exact fun p σ G' H' R => p .non G' H' R.step R.ok .non
    | bk ρ s => exact fun p => p.elim
    | ct ρ s => exact fun p => p.elim
    | rt r s =>
      cases r with
      | un => exact fun p => p
      | sh d => exact fun p v G' H' o t rp => p v G' H' t o rp
      | pr d => exact fun p q G' H' o t g b m v => p q G' H' t o b g v
    | ex e ρ s => exact fun p cls dd σ G' H' R x => p cls dd G' H' R.step R.ok x
    | st => exact fun p => p
  · exact p.elim
end

/-! ### calls -/
def frD (r : FR) : Rs D := match r with
  | .ok (.sh d) s => .ok d s
  | .ok (.pr d) s => .ok d s
  | .ok .un _ => .st
  | .ex e s => .ex e s
  | .st => .st
def frO (r : FR) : Rs D := match r with
  | .ok (.pr d) s => .ok d s
  | .ok _ _ => .st
  | .ex e s => .ex e s
  | .st => .st
def callM (F : Fn) (fs : M (List D)) : M D := bindM fs fun ds _ s => frD (F ds s)
def callO (F : Fn) (fs : M (List D)) : M D := bindM fs fun ds _ s => frO (F ds s)
section
variable {X : Cx} {W : WX} {k j : Nat} {F : Fn} {x : Str} {p pos : Pos} {e : Expr} {es : List Expr} {fs : M (List D)}
theorem settle_step {Γ : Gh} {G H G' H' : Hp} {s s' : S} {q : Addr} {u : HO} (o0 : St0 Γ G H s) (t : Step Γ G H G' H') (o : St0 Γ G' H' s') (hp : H q = none) (hu : H' q = some u) : Step Γ G H (upd G' q u) H' ∧ St0 Γ (upd G' q u) H' s' :=
  ⟨⟨t.keep, fun a o e => by rw [upd_ne (ne_of_none e (o0.gfree hp))]; exact t.ex a o e, fun a o e => by
      by_cases ha : a = q
      · subst ha; exact .inr hp
      · rw [upd_ne ha] at e; exact t.fr a o e⟩, o.settle hu (o0.nmut hp)⟩
theorem call_E {mg : Str → Option Value} {Γ : Gh} {G H G1 H1 : Hp} {σ : L2.St} {Q : VK} {s s1 : S} {r : FR} (o0 : St0 Γ G H s) (t1 : Step Γ G H G1 H1) (o1 : St0 Γ G1 H1 s1)
    (h : PostX mg W Γ G H σ (fun d s' => ∀ v G' H', Step Γ G H G' H' → St0 Γ G' H' s' → Rp Γ.hd G' v d → Q v H') (frD r)) : PostF mg Γ G1 H1 Q (WE W σ) r := by
  cases r with
  | ok r s2 =>
    cases r with
    | un => exact h
    | sh d => exact fun v G' H' t o rp => h v G' H' (t1.trans t o.gm) o rp
    | pr d =>
        intro q G' H' t o hp hg hv
        obtain ⟨u, hu⟩ := hv.some
        obtain ⟨t2, o2⟩ := settle_step o1 t o hp hu
        rw [hu] at hv
        exact h _ _ _ (t1.trans t2 o2.gm) o2 (Pv.rp upd_same (hv.mono (Sub.upd hg)))
  | ex e s2 => exact fun cls dd G' H' t o x => h cls dd G' H' (t1.trans t o.gm) o x
  | st => exact h
theorem call_Ow {mg : Str → Option Value} {Γ : Gh} {G H G1 H1 : Hp} {σ : L2.St} {Q : VK} {s1 : S} {r : FR} (t1 : Step Γ G H G1 H1) (o1 : St0 Γ G1 H1 s1)
    (h : PostX mg W Γ G H σ (fun d s' => ∀ p G' H', Step Γ G H G' H' → St0 Γ G' H' s' → H p = none → G' p = none → Pv Γ.hd G' (H' p) d → Q (.ref p) H') (frO r)) : PostF mg Γ G1 H1 Q (WE W σ) r := by
  cases r with
  | ok r s2 =>
    cases r with
    | un => exact h
    | sh d => exact h.elim
    | pr d => exact fun q G' H' t o hp hg hv => h q G' H' (t1.trans t o.gm) o (by
        cases z : H q with
        | none => rfl
        | some u => rw [t1.keep q u z (o1.nmut hp)] at hp; cases hp) hg hv
  | ex e s2 => exact fun cls dd G' H' t o x => h cls dd G' H' (t1.trans t o.gm) o x
  | st => exact h
theorem de_call (c : Cd X.prog X.w X.K X.mg X.base x k F) (hr : Room j X.A) (hk : k ≤ j) (tk : Takes X W) (ha : PA X (e :: es) (tAr X.mg W fs)) (hg : Gl X x := by rfl) (hdb : (x == ("__debug__" : Str)) = false := by decide)
    (he : starEach (e :: es) X.env = (false, eval e X.env) :: starEach es X.env := by rfl) (hpl : (backTo pos (starEach es X.env)).any (·.1) = false := by rfl) : PE X (.Call (.Name x p) (e :: es) [] pos) (tE X.mg W (callM F fs)) := by
  obtain ⟨f, fd, ps, hF, hm, hk2, hb⟩ := c.ex
  exact (pe_callS hF (hr.mono hk) hg hm hk2 hb (passAt tk) ha hdb he hpl).imp fun σ H Q ⟨Γ, B, G0, G, ρ, s, R, h⟩ =>
    ⟨Γ, B, G0, G, ρ, s, R, h.bind.imp fun ds s1 h1 vs G1 H1 t1 o1 r1 => ⟨Γ, G1, ds, s1, o1, r1, call_E R.ok t1 o1 h1⟩⟩
theorem do_call (c : Cd X.prog X.w X.K X.mg X.base x k F) (hr : Room j X.A) (hk : k ≤ j) (tk : Takes X W) (ha : PA X (e :: es) (tAr X.mg W fs)) (hg : Gl X x := by rfl) (hdb : (x == ("__debug__" : Str)) = false := by decide)
    (he : starEach (e :: es) X.env = (false, eval e X.env) :: starEach es X.env := by rfl) (hpl : (backTo pos (starEach es X.env)).any (·.1) = false := by rfl) : PE X (.Call (.Name x p) (e :: es) [] pos) (tO X.mg W (callO F fs)) := by
  obtain ⟨f, fd, ps, hF, hm, hk2, hb⟩ := c.ex
  exact (pe_callS hF (hr.mono hk) hg hm hk2 hb (passAt tk) ha hdb he hpl).imp fun σ H Q ⟨Γ, B, G0, G, ρ, s, R, h⟩ =>
    ⟨Γ, B, G0, G, ρ, s, R, h.bind.imp fun ds s1 h1 vs G1 H1 t1 o1 r1 => ⟨Γ, G1, ds, s1, o1, r1, call_Ow t1 o1 h1⟩⟩
/-- f() -/
theorem de_call0 (c : Cd X.prog X.w X.K X.mg X.base x k F) (hr : Room j X.A) (hk : k ≤ j) (tk : Takes X W) (hg : Gl X x := by rfl) (hdb : (x == ("__debug__" : Str)) = false := by decide) : PE X (.Call (.Name x p) [] [] pos) (tE X.mg W (callM F (retM []))) := by
  obtain ⟨f, fd, ps, hF, hm, hk2, hb⟩ := c.ex
  refine ⟨fun pins s σ H Q I h => ?_⟩
  obtain ⟨Γ, B, G0, G, ρ, s1, R, h⟩ := h
  refine wpAny_Call_Name_kw (ld_glob I hg hm ?_ hdb)
  exact PySem.W.callWith_K0 I.kIn hk2 (run_fnS (E := WE W) hF (hr.mono hk) hb (passAt tk σ) I .nil ⟨Γ, G, [], s1, R.ok, .nil, call_E R.ok .refl R.ok h⟩)
/-! borrowed arguments; the answer holds no list, no dict -/
mutual
def noL : D → Bool
  | .list _ => false
  | .dict _ => false
  | .tuple ds => noLs ds
  | _ => true
def noLs : List D → Bool
  | [] => true
  | d :: ds => noL d && noLs ds
end
mutual
theorem Rp.less {hd : Option Addr} {G G' : Hp} (h : ∀ a xs, G a = some (.tup xs) → G' a = some (.tup xs)) : ∀ (d : D) {v : V}, noL d = true → Rp hd G v d → Rp hd G' v d
  | .none, _, _, r => by cases r; exact .non
  | .bool b, _, _, r => by cases r; exact .bl b
  | .int i, _, _, r => by cases r; exact .int i
  | .str x, _, _, r => by cases r; exact .str x
  | .list ds, _, n, r => by simp [noL] at n
  | .dict l, _, n, r => by simp [noL] at n
  | .tuple ds, _, n, r => by
    cases r with
    | tup g r => exact .tup (h _ _ g) (RpA.less h ds (by simpa [noL] using n) r)
theorem RpA.less {hd : Option Addr} {G G' : Hp} (h : ∀ a xs, G a = some (.tup xs) → G' a = some (.tup xs)) : ∀ (ds : List D) {vs : List V}, noLs ds = true → RpA hd G vs ds → RpA hd G' vs ds
  | [], _, _, r => by cases r; exact .nil
  | d :: ds, _, n, r => by
    have n' : noL d = true ∧ noLs ds = true := by simpa [noLs] using n
    cases r with
    | cons r t => exact .cons (Rp.less h d n'.1 r) (RpA.less h ds n'.2 t)
end
def frB (r : FR) : Rs D := match r with
  | .ok (.sh d) s => if noL d then .ok d s else .st
  | .ok _ _ => .st
  | _ => .st
def callB (F : Fn) (fs : M (List D)) : M D := bindM fs fun ds _ s => frB (F ds s)
/-- what is borrowed is settled for the call -/
theorem BorA.lend {Γ : Gh} {H : Hp} {s : S} : ∀ {vs : List V} {ds : List D} {G : Hp}, St0 Γ G H s → BorA Γ G H vs ds → ∃ G', St0 Γ G' H s ∧ Sub G G' ∧ RpA Γ.hd G' vs ds ∧ ∀ a xs, G' a = some (.tup xs) → G a = some (.tup xs)
  | _, _, G, o, .nil => ⟨G, o, fun _ _ e => e, .nil, fun _ _ e => e⟩
  | _, _, G, o, .cons h r => by
    obtain ⟨G', o', e', r', n'⟩ := BorA.lend o r
    rcases h with h | ⟨p, e, h1, h2, h3⟩
    · exact ⟨G', o', e', .cons (Rp.mono e' _ h) r', n'⟩
    · subst e
      obtain ⟨u, hu⟩ := h3.some
      have nt : ∀ xs, u ≠ .tup xs := fun xs z => by
        subst z
        rw [hu] at h3
        exact h3.elim
      rw [hu] at h3
      have ne : Sub G' (upd G' p u) := fun a o2 e2 => by
        by_cases ha : a = p
        · subst ha
          have z := o'.gh _ _ e2
          rw [hu] at z; cases z
          exact upd_same
        · rw [upd_ne ha]; exact e2
      refine ⟨upd G' p u, o'.settle hu h2, fun a o2 e2 => ne a o2 (e' a o2 e2), .cons (Pv.rp upd_same (h3.mono fun a o2 e2 => ne a o2 (e' a o2 e2))) (RpA.mono ne _ r'), fun a xs e2 => ?_⟩
      by_cases ha : a = p
      · subst ha; rw [upd_same] at e2; cases e2; exact absurd rfl (nt xs)
      · rw [upd_ne ha] at e2; exact n' a xs e2
theorem de_callB (c : Cd X.prog X.w X.K X.mg X.base x k F) (hr : Room j X.A) (hk : k ≤ j) (tk : Takes X W) (ha : PA X (e :: es) (tAb X.mg W fs)) (hg : Gl X x := by rfl) (hdb : (x == ("__debug__" : Str)) = false := by decide)
    (he : starEach (e :: es) X.env = (false, eval e X.env) :: starEach es X.env := by rfl) (hpl : (backTo pos (starEach es X.env)).any (·.1) = false := by rfl) : PE X (.Call (.Name x p) (e :: es) [] pos) (tE X.mg W (callB F fs)) := by
  obtain ⟨f, fd, ps, hF, hm, hk2, hb⟩ := c.ex
  refine (pe_callS hF (hr.mono hk) hg hm hk2 hb (passAt tk) ha hdb he hpl).imp fun σ H Q ⟨Γ, B, G0, G, ρ, s, R, h⟩ =>
    ⟨Γ, B, G0, G, ρ, s, R, h.bind.imp fun ds s1 h1 vs G1 H1 t1 o1 r1 => ?_⟩
  obtain ⟨G2, o2, e2, r2, n2⟩ := BorA.lend o1 r1
  refine ⟨Γ, G2, ds, s1, o2, r2, ?_⟩
  revert h1
  cases F ds s1 with
  | ok r s2 =>
    cases r with
    | un => exact fun h1 => h1.elim
    | pr d => exact fun h1 => h1.elim
    | sh d =>
      intro h1 v G3 H3 t3 o3 r3
      have h1 : PostX X.mg W Γ G H σ _ (if noL d then .ok d s2 else .st) := h1
      split at h1
      · rename_i hn
        -- what is new, over what was settled
        refine h1 v (fun a => match G1 a with | some u => some u | none => (match H1 a with | some _ => none | none => G3 a)) H3 (t1.trans ⟨t3.keep, fun a u e => by simp only [e], fun a u e => ?_⟩ ?_) ⟨fun a u e => ?_, ?_, o3.st⟩ (Rp.less (fun a xs e => ?_) d hn r3)
        · cases q : G1 a with
          | some u' => simp only [q] at e; exact .inl e
          | none =>
            cases q2 : H1 a with
            | some u' => simp only [q, q2] at e; cases e
            | none => exact .inr rfl
        · intro a ha
          cases q : G1 a with
          | some u' => rw [o1.gm a ha] at q; cases q
          | none =>
            obtain ⟨u, hu⟩ := o1.mut_some ha
            simp only [q, hu]
        · cases q : G1 a with
          | some u' => simp only [q] at e; cases e; exact o3.gh _ _ (t3.ex _ _ (e2 _ _ q))
          | none =>
            cases q2 : H1 a with
            | some u' => simp only [q, q2] at e; cases e
            | none => simp only [q, q2] at e; exact o3.gh _ _ e
        · intro a ha
          cases q : G1 a with
          | some u' => rw [o1.gm a ha] at q; cases q
          | none =>
            obtain ⟨u, hu⟩ := o1.mut_some ha
            simp only [q, hu]
        · rcases t3.fr a _ e with z | z
          · simp only [n2 a xs z]
          · cases q : G1 a with
            | some u' => rw [o1.gh _ _ q] at z; cases z
            | none => simp only [q, z]; exact e
      · exact h1.elim
  | ex e s2 => exact fun h1 => h1.elim
  | st => exact fun h1 => h1.elim
end

/-! ### statements -/
section
variable {Γ : Gh} {B G0 G H : Hp} {σ : L2.St} {ρ : Env'} {s : S}
theorem getElem?_set' {α : Type} (l : List α) (i j : Nat) (x : α) : (l.set i x)[j]? = if i = j then (if i < l.length then some x else none) else l[j]? := by
  by_cases h : i = j
  · subst h
    rw [if_pos rfl]
    split
    · rename_i hi; exact List.getElem?_set_self hi
    · rename_i hi; exact List.getElem?_eq_none (by rw [List.length_set]; omega)
  · rw [if_neg h, List.getElem?_set_ne h]
/-- a settled value is stored -/
theorem Rel.set (R : Rel Γ B G0 G H σ ρ s) (i : Nat) {v : V} {d : D} (r : Rp Γ.hd G v d) : Rel Γ B G0 G H (σ.set i (some v)) (ρ.set i (.sh d)) s where
  ok := R.ok
  step := R.step
  len := by rw [List.length_set, List.length_set, R.len]
  sh := fun j d' e => by
    rw [getElem?_set'] at e ⊢
    by_cases h : i = j
    · rw [if_pos h] at e ⊢
      rw [R.len]
      split at e
      · rename_i hi; rw [if_pos hi]; cases e; exact ⟨v, rfl, r⟩
      · cases e
    · rw [if_neg h] at e ⊢; exact R.sh j d' e
  pr := fun j d' e => by
    rw [getElem?_set'] at e ⊢
    by_cases h : i = j
    · rw [if_pos h] at e; split at e <;> cases e
    · rw [if_neg h] at e ⊢; exact R.pr j d' e
  sep := fun j l d' e' p hne h1 h2 h3 h4 => by
    rw [getElem?_set'] at h1 h2 h3 h4
    by_cases h : i = j
    · rw [if_pos h] at h1; split at h1 <;> cases h1
    · by_cases h' : i = l
      · rw [if_pos h'] at h2; split at h2 <;> cases h2
      · rw [if_neg h] at h1 h3; rw [if_neg h'] at h2 h4; exact R.sep j l d' e' p hne h1 h2 h3 h4
/-- one's own is stored: no other slot holds it -/
theorem Rel.setO (R : Rel Γ B G0 G H σ ρ s) (i : Nat) {p : Addr} {d : D} (hg : G p = none) (hb : B p = none) (hm : p ∉ Γ.mut) (hv : Pv Γ.hd G (H p) d) (hf : ∀ j d', j ≠ i → ρ[j]? = some (.pr d') → σ[j]? ≠ some (some (.ref p))) :
    Rel Γ B G0 G H (σ.set i (some (.ref p))) (ρ.set i (.pr d)) s where
  ok := R.ok
  step := R.step
  len := by rw [List.length_set, List.length_set, R.len]
  sh := fun j d' e => by
    rw [getElem?_set'] at e ⊢
    by_cases h : i = j
    · rw [if_pos h] at e; split at e <;> cases e
    · rw [if_neg h] at e ⊢; exact R.sh j d' e
  pr := fun j d' e => by
    rw [getElem?_set'] at e ⊢
    by_cases h : i = j
    · rw [if_pos h] at e ⊢
      rw [R.len]
      split at e
      · rename_i hi; rw [if_pos hi]; cases e; exact ⟨p, rfl, hg, hb, hm, hv⟩
      · cases e
    · rw [if_neg h] at e ⊢; exact R.pr j d' e
  sep := fun j l d1 d2 q hne h1 h2 h3 h4 => by
    rw [getElem?_set'] at h1 h2 h3 h4
    by_cases h : i = j
    · have h' : ¬ i = l := fun z => hne (h.symm.trans z)
      rw [if_neg h'] at h2 h4
      rw [if_pos h] at h3
      split at h3
      · cases h3; exact hf l d2 (fun z => h' z.symm) h2 h4
      · cases h3
    · by_cases h' : i = l
      · rw [if_neg h] at h1 h3
        rw [if_pos h'] at h4
        split at h4
        · cases h4; exact hf j d1 (fun z => h z.symm) h1 h3
        · cases h4
      · rw [if_neg h] at h1 h3; rw [if_neg h'] at h2 h4; exact R.sep j l d1 d2 q hne h1 h2 h3 h4
/-- .. that is new -/
theorem Rel.bfree (R : Rel Γ B G0 G H σ ρ s) {p : Addr} (hp : H p = none) : B p = none := by
  cases q : B p with
  | none => rfl
  | some u => rw [R.step.keep p u q (R.ok.nmut hp)] at hp; cases hp
theorem Rel.fresh (R : Rel Γ B G0 G H σ ρ s) {p : Addr} (hp : H p = none) {j : Nat} {d' : D} (h : ρ[j]? = some (.pr d')) : σ[j]? ≠ some (some (.ref p)) := fun z => by
  obtain ⟨q, h1, h2, h3, h4, h5⟩ := R.pr j d' h
  rw [h1] at z; cases z
  obtain ⟨u, hu⟩ := h5.some
  rw [hp] at hu; cases hu
/-- one's own object is written -/
theorem Rel.write (R : Rel Γ B G0 G H σ ρ s) {i : Nat} {p : Addr} {d0 d : D} {o : HO} (hi : ρ[i]? = some (.pr d0)) (hp : σ[i]? = some (some (.ref p))) (hv : Pv Γ.hd G (some o) d) : Rel Γ B G0 G (upd H p o) σ (ρ.set i (.pr d)) s := by
  obtain ⟨q, h1, h2, h3, h4, h5⟩ := R.pr i d0 hi
  rw [hp] at h1; cases h1
  have ok' : St0 Γ G (upd H p o) s := ⟨fun a u e => by rw [upd_ne (ne_of_none e h2)]; exact R.ok.gh a u e, R.ok.gm, R.ok.st.keep fun a ha => upd_ne (show a ≠ p from fun z => h4 (z ▸ ha))⟩
  refine ⟨ok', ⟨fun a u e hm => by rw [upd_ne (ne_of_none e h3)]; exact R.step.keep a u e hm, R.step.ex, R.step.fr⟩, by rw [List.length_set]; exact R.len, fun j d' e => ?_, fun j d' e => ?_, fun j l d1 d2 q hne e1 e2 e3 => ?_⟩
  · rw [getElem?_set'] at e
    by_cases h : i = j
    · rw [if_pos h] at e; split at e <;> cases e
    · rw [if_neg h] at e; exact R.sh j d' e
  · rw [getElem?_set'] at e
    by_cases h : i = j
    · subst h
      rw [if_pos rfl] at e
      split at e
      · cases e; exact ⟨p, hp, h2, h3, h4, by rw [upd_same]; exact hv⟩
      · cases e
    · rw [if_neg h] at e
      obtain ⟨q, k1, k2, k3, k4, k5⟩ := R.pr j d' e
      refine ⟨q, k1, k2, k3, k4, ?_⟩
      have : q ≠ p := fun z => R.sep i j d0 d' p h hi e hp (by rw [k1, z])
      rw [upd_ne this]; exact k5
  · rw [getElem?_set'] at e1 e2
    have l1 : ∃ d, ρ[j]? = some (.pr d) := by
      by_cases h : i = j
      · subst h; exact ⟨d0, hi⟩
      · rw [if_neg h] at e1; exact ⟨_, e1⟩
    have l2 : ∃ d, ρ[l]? = some (.pr d) := by
      by_cases h : i = l
      · subst h; exact ⟨d0, hi⟩
      · rw [if_neg h] at e2; exact ⟨_, e2⟩
    obtain ⟨_, l1⟩ := l1
    obtain ⟨_, l2⟩ := l2
    exact R.sep j l _ _ q hne l1 l2 e3
/-- one's own is settled -/
theorem Rel.freeze (R : Rel Γ B G0 G H σ ρ s) {i : Nat} {d : D} (hi : ρ[i]? = some (.pr d)) : ∃ G', Rel Γ B G0 G' H σ (ρ.set i (.sh d)) s := by
  obtain ⟨p, h1, h2, h3, h4, h5⟩ := R.pr i d hi
  obtain ⟨u, hu⟩ := h5.some
  have hS : Sub G (upd G p u) := Sub.upd h2
  rw [hu] at h5
  refine ⟨upd G p u, R.ok.settle hu h4, ⟨R.step.keep, fun a o e => hS a o (R.step.ex a o e), fun a o e => ?_⟩, by rw [List.length_set]; exact R.len, fun j d' e => ?_, fun j d' e => ?_, fun j l d1 d2 q hne e1 e2 e3 => ?_⟩
  · by_cases ha : a = p
    · subst ha; exact .inr h3
    · rw [upd_ne ha] at e; exact R.step.fr a o e
  · rw [getElem?_set'] at e
    by_cases h : i = j
    · subst h
      rw [if_pos rfl] at e
      split at e
      · cases e; exact ⟨_, h1, Pv.rp upd_same (h5.mono hS)⟩
      · cases e
    · rw [if_neg h] at e
      obtain ⟨v, k1, k2⟩ := R.sh j d' e
      exact ⟨v, k1, Rp.mono hS _ k2⟩
  · rw [getElem?_set'] at e
    by_cases h : i = j
    · rw [if_pos h] at e; split at e <;> cases e
    · rw [if_neg h] at e
      obtain ⟨q, k1, k2, k3, k4, k5⟩ := R.pr j d' e
      have : q ≠ p := fun z => R.sep i j d d' p h hi e h1 (by rw [k1, z])
      exact ⟨q, k1, by rw [upd_ne this]; exact k2, k3, k4, k5.mono hS⟩
  · rw [getElem?_set'] at e1 e2
    by_cases h : i = j
    · rw [if_pos h] at e1; split at e1 <;> cases e1
    · by_cases h' : i = l
      · rw [if_pos h'] at e2; split at e2 <;> cases e2
      · rw [if_neg h] at e1; rw [if_neg h'] at e2; exact R.sep j l d1 d2 q hne e1 e2 e3
end
def liftE {α : Type} (f : M α) (k : α → MS) : MS := fun ρ s => match f ρ s with
  | .ok a s' => k a ρ s'
  | .ex e s' => .ex e ρ s'
  | .st => .st
def setS (i : Nat) (f : M D) : MS := liftE f fun d ρ s => .nx (ρ.set i (.sh d)) s
def setO (i : Nat) (f : M D) : MS := liftE f fun d ρ s => .nx (ρ.set i (.pr d)) s
def retS (f : M D) : MS := liftE f fun d _ s => .rt (.sh d) s
def retO (f : M D) : MS := liftE f fun d _ s => .rt (.pr d) s
/-- return x, x one's own -/
def retV (i : Nat) : MS := fun ρ s => match ρ[i]? with
  | some (.pr d) => .rt (.pr d) s
  | some (.sh d) => .rt (.sh d) s
  | _ => .st
def dropS (f : M D) : MS := liftE f fun _ ρ s => .nx ρ s
def ifS (t : M Bool) (g h : MS) : MS := liftE t fun b ρ s => if b then g ρ s else h ρ s
def skipS : MS := fun ρ s => .nx ρ s
def seqS (g h : MS) : MS := fun ρ s => match g ρ s with
  | .nx ρ' s' => h ρ' s'
  | r => r
def frzS (i : Nat) (g : MS) : MS := fun ρ s => match ρ[i]? with
  | some (.pr d) => g (ρ.set i (.sh d)) s
  | _ => g ρ s
section
variable {mg : Str → Option Value} {W : WX} {Γ : Gh} {B G0 G H : Hp} {σ : L2.St} {ρ : Env'} {s : S} {E : Ends} {α : Type} {f : M α} {k : α → MS}
theorem PostS.lift (R : Rel Γ B G0 G H σ ρ s) (h : PostS mg W Γ B G0 E (liftE f k ρ s)) : PostX mg W Γ G H σ (fun a s' => PostS mg W Γ B G0 E (k a ρ s')) (f ρ s) := by
  unfold liftE at h
  cases q : f ρ s with
  | ok a s' => rw [q] at h; exact h
  | ex e s' => rw [q] at h; exact fun cls dd G' H' t o x => h cls dd σ G' H' (R.go t o) x
  | st => rw [q] at h; exact h
end
section
variable {X : Cx} {W : WX} {e : Expr} {st : Stmt} {rest sts sts' : List Stmt} {f : M D} {g h : MS} {t : M Bool} {pos pos' : Pos} {i : Nat} {x : Str}
theorem dss_nil : PSs X [] (tSt X.mg W skipS) := pss_nil.imp fun E σ H ⟨Γ, B, G0, G, ρ, s, R, h⟩ => h σ G H R
theorem seq_t {tg th : TS} {mg : Str → Option Value} (h1 : ∀ E σ H, tSt mg W g E σ H → tg E σ H) (h2 : ∀ E σ H, tSt mg W h E σ H → th E σ H) : ∀ E σ H, tSt mg W (seqS g h) E σ H → tSeq tg th E σ H := fun E σ H ⟨Γ, B, G0, G, ρ, s, R, p⟩ => by
  refine h1 _ _ _ ⟨Γ, B, G0, G, ρ, s, R, ?_⟩
  unfold seqS at p
  revert p
  cases g ρ s with
  | nx ρ' s' => exact fun p σ' G' H' R' => h2 _ _ _ ⟨Γ, B, G0, G', ρ', s', R', p⟩
  | rt r s' => cases r <;> exact fun p => p
  | _ => exact fun p => p
theorem dss_cons (h1 : PS X st (tSt X.mg W g)) (h2 : PSs X rest (tSt X.mg W h)) : PSs X (st :: rest) (tSt X.mg W (seqS g h)) := (pss_cons h1 h2).imp (seq_t (fun _ _ _ z => z) fun _ _ _ z => z)
theorem dss_one (h1 : PS X st (tSt X.mg W g)) : PSs X [st] (tSt X.mg W g) := pss_one h1
/-- ahead of a block: one's own is settled -/
theorem dss_frz (i : Nat) (h1 : PSs X sts (tSt X.mg W g)) : PSs X sts (tSt X.mg W (frzS i g)) := h1.imp fun E σ H ⟨Γ, B, G0, G, ρ, s, R, p⟩ => by
  unfold frzS at p
  cases q : ρ[i]? with
  | none => rw [q] at p; exact ⟨Γ, B, G0, G, ρ, s, R, p⟩
  | some x =>
    rw [q] at p
    cases x with
    | pr d =>
      obtain ⟨G', R'⟩ := R.freeze q
      exact ⟨Γ, B, G0, G', _, s, R', p⟩
    | _ => exact ⟨Γ, B, G0, G, ρ, s, R, p⟩
theorem ds_doc {z j p1 p2} : PS X (.Expr (.Constant (.str z) j p1) p2) (tSt X.mg W skipS) := ps_doc.imp fun E σ H ⟨Γ, B, G0, G, ρ, s, R, h⟩ => h σ G H R
theorem ds_pass : PS X (.Pass pos) (tSt X.mg W skipS) := ps_pass.imp fun E σ H ⟨Γ, B, G0, G, ρ, s, R, h⟩ => h σ G H R
theorem ds_break : PS X (.Break pos) (tSt X.mg W fun ρ s => .bk ρ s) := ps_break.imp fun E σ H ⟨Γ, B, G0, G, ρ, s, R, h⟩ => h σ G H R
theorem ds_continue : PS X (.Continue pos) (tSt X.mg W fun ρ s => .ct ρ s) := ps_continue.imp fun E σ H ⟨Γ, B, G0, G, ρ, s, R, h⟩ => h σ G H R
/-- a reading stored at a name -/
theorem asg_E {te : TE} (k : ∀ σ H Q, tE X.mg W f σ H Q → te σ H Q) : ∀ E σ H, tSt X.mg W (setS i f) E σ H → tAsg te (gName i) E σ H := fun E σ H ⟨Γ, B, G0, G, ρ, s, R, h⟩ =>
  k _ _ _ ⟨Γ, B, G0, G, ρ, s, R, (PostS.lift R h).imp fun d s1 h1 v G1 H1 t1 o1 r1 => h1 _ G1 H1 ((R.go t1 o1).set i r1)⟩
theorem asg_O {te : TE} (k : ∀ σ H Q, tO X.mg W f σ H Q → te σ H Q) : ∀ E σ H, tSt X.mg W (setO i f) E σ H → tAsg te (gName i) E σ H := fun E σ H ⟨Γ, B, G0, G, ρ, s, R, h⟩ =>
  k _ _ _ ⟨Γ, B, G0, G, ρ, s, R, (PostS.lift R h).imp fun d s1 h1 p G1 H1 t1 o1 hp hg hv => h1 _ G1 H1 ((R.go t1 o1).setO i hg (R.bfree hp) (R.ok.nmut hp) hv fun j d' _ e => R.fresh hp e)⟩
theorem ds_set (hN : X.N.Nodup) (hi : X.N[i]? = some x) (hx : Loc X.env.scope x) (he : PE X e (tE X.mg W f)) (hs : swapsWith e (some (.Name x pos')) pos.line X.env = pure false := by rfl) (hf : X.fn x = true ∨ X.env.scope.names.lookup x = some .local := by first | exact .inl rfl | exact .inr rfl | assumption) :
    PS X (.Assign [.Name x pos'] e pos) (tSt X.mg W (setS i f)) := (ps_set hN hi hx he hs hf).imp (asg_E fun _ _ _ z => z)
theorem ds_setO (hN : X.N.Nodup) (hi : X.N[i]? = some x) (hx : Loc X.env.scope x) (he : PE X e (tO X.mg W f)) (hs : swapsWith e (some (.Name x pos')) pos.line X.env = pure false := by rfl) (hf : X.fn x = true ∨ X.env.scope.names.lookup x = some .local := by first | exact .inl rfl | exact .inr rfl | assumption) :
    PS X (.Assign [.Name x pos'] e pos) (tSt X.mg W (setO i f)) := (ps_set hN hi hx he hs hf).imp (asg_O fun _ _ _ z => z)
theorem ds_ret (he : PE X e (tE X.mg W f)) : PS X (.Return (some e) pos) (tSt X.mg W (retS f)) := (ps_ret he).imp fun E σ H ⟨Γ, B, G0, G, ρ, s, R, h⟩ =>
  ⟨Γ, B, G0, G, ρ, s, R, (PostS.lift R h).imp fun d s1 h1 v G1 H1 t1 o1 r1 => h1 v G1 H1 o1 (R.go t1 o1).step r1⟩
theorem ds_retO (he : PE X e (tO X.mg W f)) : PS X (.Return (some e) pos) (tSt X.mg W (retO f)) := (ps_ret he).imp fun E σ H ⟨Γ, B, G0, G, ρ, s, R, h⟩ =>
  ⟨Γ, B, G0, G, ρ, s, R, (PostS.lift R h).imp fun d s1 h1 p G1 H1 t1 o1 hp hg hv => h1 p G1 H1 o1 (R.go t1 o1).step hg (R.bfree hp) (R.ok.nmut hp) hv⟩
theorem ds_retV {i : Nat} (he : PE X e (tVar i)) : PS X (.Return (some e) pos) (tSt X.mg W (retV i)) := (ps_ret he).imp fun E σ H ⟨Γ, B, G0, G, ρ, s, R, h⟩ => by
  unfold retV at h
  cases q : ρ[i]? with
  | none => rw [q] at h; exact h.elim
  | some x =>
    rw [q] at h
    cases x with
    | un => exact h.elim
    | sh d =>
      obtain ⟨v, h1, h2⟩ := R.sh i d q
      exact ⟨v, h1, h v G H R.ok R.step h2⟩
    | pr d =>
      obtain ⟨p, h1, h2, h3, h4, h5⟩ := R.pr i d q
      exact ⟨_, h1, h p G H R.ok R.step h2 h3 h4 h5⟩
theorem ds_drop (he : PE X e (tE X.mg W f)) (hs : swapsWith e none pos.line X.env = pure false := by rfl) : PS X (.Expr e pos) (tSt X.mg W (dropS f)) := (ps_expr he hs).imp fun E σ H ⟨Γ, B, G0, G, ρ, s, R, h⟩ =>
  ⟨Γ, B, G0, G, ρ, s, R, (PostS.lift R h).imp fun d s1 h1 v G1 H1 t1 o1 r1 => h1 σ G1 H1 (R.go t1 o1)⟩
theorem ds_if {c : Expr} (hc : PT X c (tT X.mg W t)) (h1 : PSs X sts (tSt X.mg W g)) (h2 : PSs X sts' (tSt X.mg W h)) : PS X (.If c sts sts' pos) (tSt X.mg W (ifS t g h)) := (ps_if hc h1 h2).imp fun E σ H ⟨Γ, B, G0, G, ρ, s, R, p⟩ =>
  ⟨Γ, B, G0, G, ρ, s, R, (PostS.lift R p).imp fun b s1 h1 G1 H1 t1 o1 => by
    cases b with
    | true => exact ⟨Γ, B, G0, G1, ρ, s1, R.go t1 o1, h1⟩
    | false => exact ⟨Γ, B, G0, G1, ρ, s1, R.go t1 o1, h1⟩⟩

/-! ### one's own lists and dicts written -/
def lsz (xs : List D) : Bool := decide (xs.length < sizeLine)
/-- a method of one's own list at a slot, one settled argument: the list is looked at ahead of the argument -/
def ownS (i : Nat) (f : M D) (g : List D → D → Option (List D)) : MS := fun ρ s => match ρ[i]? with
  | some (.pr (.list ds)) => liftE f (fun d ρ s => match g ds d with
    | some es => .nx (ρ.set i (.pr (.list es))) s
    | none => .st) ρ s
  | _ => .st
def appS (i : Nat) (f : M D) : MS := ownS i f fun ds d => if lsz ds then some (ds ++ [d]) else none
def extD : List D → D → Option (List D)
  | ds, .list es => if lenOk2 ds.length es.length then some (ds ++ es) else none
  | _, _ => none
/-- the list of a slot, one's own -/
theorem Rel.own {Γ : Gh} {B G0 G H : Hp} {σ : L2.St} {ρ : Env'} {s : S} (R : Rel Γ B G0 G H σ ρ s) {i : Nat} {ds : List D} (h : ρ[i]? = some (.pr (.list ds))) : ∃ p xs, σ[i]? = some (some (.ref p)) ∧ H p = some (.lst xs) ∧ RpA Γ.hd G xs ds := by
  obtain ⟨p, h1, h2, h3, h4, h5⟩ := R.pr i _ h
  cases q : H p with
  | none => rw [q] at h5; exact h5.elim
  | some o =>
    rw [q] at h5
    cases o with
    | lst xs => exact ⟨p, xs, h1, q, h5⟩
    | _ => exact h5.elim
theorem Rel.ownD {Γ : Gh} {B G0 G H : Hp} {σ : L2.St} {ρ : Env'} {s : S} (R : Rel Γ B G0 G H σ ρ s) {i : Nat} {ds : List (D × D)} (h : ρ[i]? = some (.pr (.dict ds))) : ∃ p xs, σ[i]? = some (some (.ref p)) ∧ H p = some (.dK xs) ∧ RpK Γ.hd G xs ds := by
  obtain ⟨p, h1, h2, h3, h4, h5⟩ := R.pr i _ h
  cases q : H p with
  | none => rw [q] at h5; exact h5.elim
  | some o =>
    rw [q] at h5
    cases o with
    | dK xs => exact ⟨p, xs, h1, q, h5⟩
    | _ => exact h5.elim
theorem tyV_list {K : PySem.W.Frag} {p : Addr} {H : Hp} {xs : List V} (h : H p = some (.lst xs)) : tyV K "list" (.ref p) H := .inl ⟨rfl, xs, SqL.of h⟩
end
section
variable {X : Cx} {W : WX} {e e2 : Expr} {f f2 : M D} {pos pos' apos cpos : Pos} {i : Nat} {x : Str} {o : Expr}
theorem own_t {r : V → List V → Hp → VK → Prop} {g : List D → D → Option (List D)} {mg : Str → Option Value} {K : PySem.W.Frag}
    (hr : ∀ (Γ : Gh) (G H : Hp) (s : S) (l : Addr) (xs : List V) (v : V) (ds : List D) (d : D) (es : List D) (Q : VK), St0 Γ G H s → H l = some (.lst xs) → RpA Γ.hd G xs ds → Rp Γ.hd G v d → g ds d = some es →
      (∀ ys, RpA Γ.hd G ys es → Q .non (upd H l (.lst ys))) → r (.ref l) [v] H Q) : ∀ E σ H, tSt mg W (ownS i f g) E σ H → tDrop (tBM K "list" r (tVar i) (tCons (tE mg W f) tNil)) E σ H := fun E σ H ⟨Γ, B, G0, G, ρ, s, R, h⟩ => by
  unfold ownS at h
  split at h
  · rename_i ds hi
    obtain ⟨p, xs, k1, k2, k3⟩ := R.own hi
    refine ⟨.ref p, k1, tyV_list k2, ⟨Γ, B, G0, G, ρ, s, R, (PostS.lift R h).imp fun d s1 h1 v G1 H1 t1 o1 r1 => ?_⟩⟩
    have R1 := R.go t1 o1
    obtain ⟨p', xs1, l1, l2, l3⟩ := R1.own hi
    rw [k1] at l1; cases l1
    have h1 : PostS mg W Γ B G0 E (match g ds d with | some es => .nx (ρ.set i (.pr (.list es))) s1 | none => .st) := h1
    split at h1
    · rename_i es he
      exact hr Γ G1 H1 s1 p xs1 v ds d es _ o1 l2 l3 r1 he fun ys ry => h1 σ G1 _ (R1.write (o := .lst ys) hi k1 ry)
    · exact h1.elim
  · exact h.elim
theorem ds_append (ho : PE X o (tVar i)) (he : PE X e (tE X.mg W f)) (hs : swapsWith (.Call (.Attribute o "append" apos) [e] [] cpos) none pos.line X.env = pure false := by rfl)
    (hbase : attributeBase o "append" X.env (eval o X.env) = eval o X.env := by rfl)
    (hfew : ((backTo cpos (starEach [e] X.env)).all (fun x => !x.1) && (backToKw cpos (keywordEach [] X.env)).all (fun x => x.1.isSome)
      && decide (([e] : List Expr).length + ([] : List Keyword).length + (if ([] : List Keyword).isEmpty then 0 else 1) < 30)) = true := by rfl)
    (hline : (apos.endLine == cpos.line) = true := by rfl) (hst : starEach [e] X.env = (false, eval e X.env) :: starEach [] X.env := by rfl) (hplain : (backTo cpos (starEach [] X.env)).any (·.1) = false := by rfl) :
    PS X (.Expr (.Call (.Attribute o "append" apos) [e] [] cpos) pos) (tSt X.mg W (appS i f)) :=
  (ps_expr (pe_bm PySem.F.plainAttrs_list PySem.F.slot_list_append PySem.F.type_list_append mt_append ho (pa_cons he pa_nil hst) hbase hfew hline hst hplain) hs).imp (own_t fun Γ G H s l xs v ds d es Q o h1 h2 h3 h4 k => by
    split at h4
    · rename_i hz
      cases h4
      exact ⟨l, xs, v, rfl, rfl, h1, by rw [h2.length]; exact of_decide_eq_true hz, k _ (h2.app (.one h3))⟩
    · cases h4)
theorem ds_extend (ho : PE X o (tVar i)) (he : PE X e (tE X.mg W f)) (hs : swapsWith (.Call (.Attribute o "extend" apos) [e] [] cpos) none pos.line X.env = pure false := by rfl)
    (hbase : attributeBase o "extend" X.env (eval o X.env) = eval o X.env := by rfl)
    (hfew : ((backTo cpos (starEach [e] X.env)).all (fun x => !x.1) && (backToKw cpos (keywordEach [] X.env)).all (fun x => x.1.isSome)
      && decide (([e] : List Expr).length + ([] : List Keyword).length + (if ([] : List Keyword).isEmpty then 0 else 1) < 30)) = true := by rfl)
    (hline : (apos.endLine == cpos.line) = true := by rfl) (hst : starEach [e] X.env = (false, eval e X.env) :: starEach [] X.env := by rfl) (hplain : (backTo cpos (starEach [] X.env)).any (·.1) = false := by rfl) :
    PS X (.Expr (.Call (.Attribute o "extend" apos) [e] [] cpos) pos) (tSt X.mg W (ownS i f extD)) :=
  (ps_expr (pe_bm PySem.F.plainAttrs_list PySem.F.slot_list_extend PySem.F.type_list_extend mt_extend ho (pa_cons he pa_nil hst) hbase hfew hline hst hplain) hs).imp (own_t fun Γ G H s l xs v ds d es Q o h1 h2 h3 h4 k => by
    cases d with
    | list zs =>
      simp only [extD] at h4
      split at h4
      · rename_i hz
        cases h4
        cases h3 with
        | lst g r3 => exact ⟨l, _, xs, _, rfl, rfl, h1, o.gh _ _ g, by rw [h2.length, r3.length]; exact of_decide_eq_true hz, k _ (h2.app r3)⟩
      · cases h4
    | _ => cases h4)
end
end Dy

set_option Elab.async false
set_option linter.all false
set_option maxRecDepth 100000
set_option maxHeartbeats 4000000
/-! Targets, walks, for, while, comprehensions. -/
namespace Dy
open PySem PySem.Spec PyProof.Rows L2

/-! ### targets -/
structure Tg where
  f : D → Env' → Option Env'
  vs : List Nat
structure Tgs where
  f : List D → Env' → Option Env'
  vs : List Nat
def Off (σ σ' : L2.St) (vs : List Nat) : Prop := σ'.length = σ.length ∧ ∀ j, j ∉ vs → σ'[j]? = σ[j]?
theorem Off.wipe {σ σ' : L2.St} {vs ws : List Nat} (h : Off σ σ' vs) (hv : ∀ i ∈ vs, i ∈ ws) : L2.wipe σ' ws = L2.wipe σ ws := by
  apply List.ext_getElem?
  have key : ∀ (τ : L2.St) (ws : List Nat) (j : Nat), (L2.wipe τ ws)[j]? = if j ∈ ws then (τ[j]?.map fun _ => none) else τ[j]? := by
    intro τ ws j
    induction ws with
    | nil => simp [L2.wipe]
    | cons w ws ih =>
      unfold L2.wipe
      rw [getElem?_set']
      by_cases e : w = j
      · subst e
        rw [if_pos rfl, wipe_length, if_pos (List.mem_cons_self ..)]
        by_cases hl : w < τ.length
        · rw [if_pos hl, List.getElem?_eq_getElem hl]; rfl
        · rw [if_neg hl, List.getElem?_eq_none (by omega)]; rfl
      · rw [if_neg e, ih]
        by_cases e2 : j ∈ ws
        · rw [if_pos e2, if_pos (by simp [e2])]
        · rw [if_neg e2, if_neg (by simp [e2, Ne.symm e])]
  intro j
  rw [key, key]
  by_cases e : j ∈ ws
  · rw [if_pos e, if_pos e]
    have hl := h.1
    by_cases l : j < σ.length
    · have l' : j < σ'.length := by omega
      rw [List.getElem?_eq_getElem l, List.getElem?_eq_getElem l']; rfl
    · have l' : σ'.length ≤ j := by omega
      have l2 : σ.length ≤ j := by omega
      rw [List.getElem?_eq_none l', List.getElem?_eq_none l2]
  · rw [if_neg e, if_neg e]
    exact h.2 j fun z => e (hv j z)
theorem Off.trans {σ σ' σ2 : L2.St} {vs ws : List Nat} (h : Off σ σ' vs) (k : Off σ' σ2 ws) : Off σ σ2 (vs ++ ws) :=
  ⟨k.1.trans h.1, fun j hj => (k.2 j fun z => hj (List.mem_append_right _ z)).trans (h.2 j fun z => hj (List.mem_append_left _ z))⟩
def tG (T : Tg) : TG := fun x σ H Q => ∃ Γ B G0 G ρ s d ρ', Rel Γ B G0 G H σ ρ s ∧ Rp Γ.hd G x d ∧ T.f d ρ = some ρ' ∧ ∀ σ', Rel Γ B G0 G H σ' ρ' s → Off σ σ' T.vs → Q σ' H
def tGs (T : Tgs) : TGs := fun xs σ H Q => ∃ Γ B G0 G ρ s ds ρ', Rel Γ B G0 G H σ ρ s ∧ RpA Γ.hd G xs ds ∧ T.f ds ρ = some ρ' ∧ ∀ σ', Rel Γ B G0 G H σ' ρ' s → Off σ σ' T.vs → Q σ' H
def nmT (i : Nat) : Tg := ⟨fun d ρ => some (ρ.set i (.sh d)), [i]⟩
def nilT : Tgs := ⟨fun ds ρ => match ds with | [] => some ρ | _ => none, []⟩
def consT (t : Tg) (u : Tgs) : Tgs := ⟨fun ds ρ => match ds with | d :: ds => (t.f d ρ).bind (u.f ds) | [] => none, t.vs ++ u.vs⟩
def tupT (n : Nat) (u : Tgs) : Tg := ⟨fun d ρ => match d with | .tuple ds => if ds.length = n then u.f ds ρ else none | _ => none, u.vs⟩
section
variable {X : Cx} {pos : Pos} {e : Expr} {es : List Expr} {t : Tg} {u : Tgs}
theorem dg_name {i : Nat} {x : Str} (hN : X.N.Nodup) (hi : X.N[i]? = some x) (hx : Loc X.env.scope x) (hf : X.fn x = true ∨ X.env.scope.names.lookup x = some .local := by first | exact .inl rfl | exact .inr rfl | assumption) : PG X (.Name x pos) (tG (nmT i)) :=
  ⟨fun pins s σ H v w Q I r ⟨Γ, B, G0, G, ρ, s1, d, ρ', R, rp, hT, h⟩ => (pg_name hN hi hx hf).run pins s σ H v w Q I r (by
    cases hT
    exact h _ (R.set i rp) ⟨by rw [List.length_set], fun j hj => by rw [List.getElem?_set_ne (fun z => hj (by subst z; exact List.mem_cons_self ..))]⟩)⟩
theorem dgs_nil : PGs X [] (tGs nilT) :=
  ⟨fun pins s σ H vs us Q I r ⟨Γ, B, G0, G, ρ, s1, ds, ρ', R, rp, hT, h⟩ => pgs_nil.run pins s σ H vs us Q I r (by
    cases ds with
    | nil => cases hT; cases rp; exact ⟨rfl, h σ R ⟨rfl, fun _ _ => rfl⟩⟩
    | cons _ _ => cases hT)⟩
theorem dgs_cons (h1 : PG X e (tG t)) (h2 : PGs X es (tGs u)) (hs : (assignEach (e :: es) X.env).map (·.2) = assign e X.env :: (assignEach es X.env).map (·.2) := by rfl) : PGs X (e :: es) (tGs (consT t u)) :=
  ⟨fun pins s σ H vs us Q I r ⟨Γ, B, G0, G, ρ, s1, ds, ρ', R, rp, hT, h⟩ => (pgs_cons h1 h2 hs).run pins s σ H vs us Q I r (by
    cases ds with
    | nil => cases hT
    | cons d ds =>
      cases rp with
      | cons r1 r2 =>
        have hT : (t.f d ρ).bind (u.f ds) = some ρ' := hT
        cases q : t.f d ρ with
        | none => rw [q] at hT; cases hT
        | some ρ1 =>
          rw [q] at hT
          exact ⟨_, _, rfl, Γ, B, G0, G, ρ, s1, d, ρ1, R, r1, q, fun σ1 R1 o1 => ⟨Γ, B, G0, G, ρ1, s1, ds, ρ', R1, r2, hT, fun σ2 R2 o2 => h σ2 R2 (o1.trans o2)⟩⟩)⟩
theorem dg_tup {k n : Nat} (hc : X.calm = true) (h : PGs X es (tGs u)) (hn : (assignEach es X.env).length = n := by rfl) (hst : (assignEach es X.env).findIdx? (·.1) = none := by rfl) : PG X (.Tuple es k pos) (tG (tupT n u)) :=
  ⟨fun pins s σ H v w Q I r ⟨Γ, B, G0, G, ρ, s1, d, ρ', R, rp, hT, h1⟩ => (pg_tup (n := n) hc h hn hst).run pins s σ H v w Q I r (by
    cases d with
    | tuple ds =>
      have hT : (if ds.length = n then u.f ds ρ else none) = some ρ' := hT
      split at hT
      · rename_i hl
        cases rp with
        | tup g r2 => exact ⟨_, _, rfl, SqT.of (R.ok.gh _ _ g), by rw [r2.length, hl], Γ, B, G0, G, ρ, s1, ds, ρ', R, r2, hT, h1⟩
      · cases hT
    | _ => cases hT)⟩
end

/-! ### what is walked -/
structure WalkD (hd : Option Addr) (G : Hp) (J : It) (ds : List D) : Prop where
  w : Walk J ds.length (fun H => Sub G H) (fun i H x H' => H' = H ∧ ∃ d, ds[i]? = some d ∧ Rp hd G x d)
def tIt (mg : Str → Option Value) (W : WX) (f : M (List D)) : TI := fun σ H R => ∃ Γ B G0 G ρ s, Rel Γ B G0 G H σ ρ s ∧
  PostX mg W Γ G H σ (fun ds s' => ∀ J G' H', Step Γ G H G' H' → St0 Γ G' H' s' → WalkD Γ.hd G' J ds → R J H') (f ρ s)
def chD (c : Nat) : D := .str ⟨#[c]⟩
def iterD : D → Option (List D)
  | .list ds => some ds
  | .tuple ds => some ds
  | .str x => some (x.cps.toList.map fun c => .str ⟨#[c]⟩)
  | _ => none
def itM (f : M D) : M (List D) := bindM f fun d => ofO (iterD d)
theorem walkD_list {K : PySem.W.Frag} {hd : Option Addr} {G : Hp} {a : Addr} {xs : List V} {ds : List D} (h : G a = some (.lst xs)) (r : RpA hd G xs ds) : WalkD hd G (Itl K a) ds :=
  ⟨by rw [← r.length]; exact walk_list.mono (fun H e => SqL.of (e _ _ h)) fun i H x H' _ _ y => ⟨y.1, by
    have y2 : xs[i]? = some x := y.2
    have hi : i < xs.length := by
      rcases Nat.lt_or_ge i xs.length with z | z
      · exact z
      · rw [List.getElem?_eq_none z] at y2; cases y2
    have hj : i < ds.length := by rw [← r.length]; exact hi
    obtain ⟨v, h1, h2⟩ := r.get (List.getElem?_eq_getElem hj)
    rw [y2] at h1; cases h1
    exact ⟨_, List.getElem?_eq_getElem hj, h2⟩⟩⟩
theorem walkD_tup {K : PySem.W.Frag} {hd : Option Addr} {G : Hp} {a : Addr} {xs : List V} {ds : List D} (h : G a = some (.tup xs)) (r : RpA hd G xs ds) : WalkD hd G (Itt K a) ds :=
  ⟨by rw [← r.length]; exact walk_tup.mono (fun H e => SqT.of (e _ _ h)) fun i H x H' _ _ y => ⟨y.1, by
    have y2 : xs[i]? = some x := y.2
    have hi : i < xs.length := by
      rcases Nat.lt_or_ge i xs.length with z | z
      · exact z
      · rw [List.getElem?_eq_none z] at y2; cases y2
    have hj : i < ds.length := by rw [← r.length]; exact hi
    obtain ⟨v, h1, h2⟩ := r.get (List.getElem?_eq_getElem hj)
    rw [y2] at h1; cases h1
    exact ⟨_, List.getElem?_eq_getElem hj, h2⟩⟩⟩
theorem walkD_str {hd : Option Addr} {G : Hp} {z : Str} : WalkD hd G (Its z) (z.cps.toList.map fun c => .str ⟨#[c]⟩) :=
  ⟨by
    rw [List.length_map, Array.length_toList]
    refine walk_str.mono (fun _ _ => trivial) fun i H x H' hi _ y => ⟨y.1, ?_⟩
    obtain ⟨c, h1, rfl⟩ := y.2
    exact ⟨_, by rw [List.getElem?_map, Array.getElem?_toList, h1]; rfl, .str _⟩⟩
def rngL (lo : Int) (n : Nat) : List D := (List.range n).map fun i => .int (lo + (i : Nat))
theorem walkD_range {hd : Option Addr} {G : Hp} {lo : Int} {n : Nat} : WalkD hd G (Itr lo n) (rngL lo n) :=
  ⟨by
    unfold rngL
    rw [List.length_map, List.length_range]
    exact walk_range.mono (fun _ _ => trivial) fun i H x H' hi _ y => ⟨y.1, _, by rw [List.getElem?_map, List.getElem?_range hi]; rfl, by rw [y.2]; exact .int _⟩⟩
section
variable {X : Cx} {W : WX} {tg e : Expr} {f : M D} {fs : M (List D)} {p pos : Pos}
theorem di_E (he : PE X e (tE X.mg W f)) : PI X tg e (tIt X.mg W (itM f)) := by
  refine ⟨fun pins s σ H R I h => ?_⟩
  obtain ⟨Γ, B, G0, G, ρ, s1, Rl, h⟩ := h
  have h := h.bind
  cases q : f ρ s1 with
  | ex x s2 => exact (pi_list he).run pins s σ H R I ⟨Γ, B, G0, G, ρ, s1, Rl, by rw [q] at h ⊢; exact h⟩
  | st => rw [q] at h; exact h.elim
  | ok d s2 =>
    rw [q] at h
    obtain ⟨ds, hd, k⟩ := PostX.ofO h
    cases d with
    | list es =>
      cases hd
      exact (pi_list he).run pins s σ H R I ⟨Γ, B, G0, G, ρ, s1, Rl, by
        rw [q]
        intro v G' H' t o rp
        cases rp with
        | lst g r => exact ⟨_, rfl, ⟨_, SqL.of (o.gh _ _ g)⟩, k _ G' H' t o (walkD_list g r)⟩⟩
    | tuple es =>
      cases hd
      exact (pi_tup he).run pins s σ H R I ⟨Γ, B, G0, G, ρ, s1, Rl, by
        rw [q]
        intro v G' H' t o rp
        cases rp with
        | tup g r => exact ⟨_, rfl, ⟨_, SqT.of (o.gh _ _ g)⟩, k _ G' H' t o (walkD_tup g r)⟩⟩
    | str x =>
      cases hd
      exact (pi_str he).run pins s σ H R I ⟨Γ, B, G0, G, ρ, s1, Rl, by
        rw [q]
        intro v G' H' t o rp
        cases rp
        exact ⟨_, rfl, k _ G' H' t o walkD_str⟩⟩
    | _ => cases hd

def okR (j : Int) : Bool := decide (-(2 ^ 62) ≤ j) && decide (j < 2 ^ 62)
def rng1D : List D → Option (List D)
  | [.int j] => if okR j then some (rngL 0 j.toNat) else none
  | _ => none
def rng2D : List D → Option (List D)
  | [.int i, .int j] => if okR i && okR j then some (rngL i (j - i).toNat) else none
  | _ => none
def rng1M (fs : M (List D)) : M (List D) := bindM fs fun ds => ofO (rng1D ds)
def rng2M (fs : M (List D)) : M (List D) := bindM fs fun ds => ofO (rng2D ds)
theorem di_range1 {a : Expr} (ha : PA X [a] (tAr X.mg W fs)) (hg : Gl X "range" := by rfl) (hm : X.mg "range" = none := by rfl) (hs : starEach [a] X.env = [(false, eval a X.env)] := by rfl) : PI X tg (.Call (.Name "range" p) [a] [] pos) (tIt X.mg W (rng1M fs)) := by
  refine ⟨fun pins s σ H R I ⟨Γ, B, G0, G, ρ, s1, Rl, h⟩ => (pi_range1 hg hm ha hs).run pins s σ H R I ⟨Γ, B, G0, G, ρ, s1, Rl, h.bind.imp fun ds s2 h2 vs G1 H1 t1 o1 r1 => ?_⟩⟩
  obtain ⟨es, he, k⟩ := h2.ofO
  unfold rng1D at he
  split at he
  · split at he
    · rename_i hz
      cases he
      simp only [okR, Bool.and_eq_true, decide_eq_true_eq] at hz
      cases r1 with
      | cons r r' =>
        cases r; cases r'
        exact ⟨_, rfl, hz.1, hz.2, k _ G1 H1 t1 o1 walkD_range⟩
    · cases he
  · cases he
theorem di_range2 {a b : Expr} (ha : PA X [a, b] (tAr X.mg W fs)) (hg : Gl X "range" := by rfl) (hm : X.mg "range" = none := by rfl) (hs : starEach [a, b] X.env = [(false, eval a X.env), (false, eval b X.env)] := by rfl) (hs2 : starEach [b] X.env = [(false, eval b X.env)] := by rfl) :
    PI X tg (.Call (.Name "range" p) [a, b] [] pos) (tIt X.mg W (rng2M fs)) := by
  refine ⟨fun pins s σ H R I ⟨Γ, B, G0, G, ρ, s1, Rl, h⟩ => (pi_range2 hg hm ha hs hs2).run pins s σ H R I ⟨Γ, B, G0, G, ρ, s1, Rl, h.bind.imp fun ds s2 h2 vs G1 H1 t1 o1 r1 => ?_⟩⟩
  obtain ⟨es, he, k⟩ := h2.ofO
  unfold rng2D at he
  split at he
  · split at he
    · rename_i hz
      cases he
      simp only [okR, Bool.and_eq_true, decide_eq_true_eq] at hz
      cases r1 with
      | cons r r' =>
        cases r; cases r' with
        | cons r r' =>
          cases r; cases r'
          exact ⟨_, _, rfl, ⟨hz.1.1, hz.1.2, hz.2.1, hz.2.2⟩, k _ G1 H1 t1 o1 walkD_range⟩
    · cases he
  · cases he
end

/-! ### for, while -/
def loopD (T : Tg) (body : MS) : List D → MS
  | [], ρ, s => .nx ρ s
  | d :: ds, ρ, s => match T.f d ρ with
    | none => .st
    | some ρ1 => match body ρ1 s with
      | .nx ρ2 s2 => loopD T body ds ρ2 s2
      | .ct ρ2 s2 => loopD T body ds ρ2 s2
      | .bk ρ2 s2 => .nx ρ2 s2
      | r => r
def forS (src : M (List D)) (T : Tg) (body : MS) : MS := liftE src fun ds => loopD T body ds
def whileD (c : M Bool) (body : MS) : Nat → MS
  | 0, _, _ => .st
  | n + 1, ρ, s => match c ρ s with
    | .ok true s1 => match body ρ s1 with
      | .nx ρ2 s2 => whileD c body n ρ2 s2
      | .ct ρ2 s2 => whileD c body n ρ2 s2
      | .bk ρ2 s2 => .nx ρ2 s2
      | r => r
    | .ok false s1 => .nx ρ s1
    | .ex e s1 => .ex e ρ s1
    | .st => .st
/-! another base -/
structure Reb (Γ : Gh) (B G0 B' G1 : Hp) : Prop where
  st : ∀ G H, Step Γ G1 B' G H → Step Γ G0 B G H
  fr : ∀ p, B' p = none → B p = none
theorem Rel.base {Γ : Gh} {B G0 B' G1 G H : Hp} {σ : L2.St} {ρ : Env'} {s : S} (b : Reb Γ B G0 B' G1) (R : Rel Γ B' G1 G H σ ρ s) : Rel Γ B G0 G H σ ρ s :=
  ⟨R.ok, b.st _ _ R.step, R.len, R.sh, fun i d e => by
    obtain ⟨p, h1, h2, h3, h4⟩ := R.pr i d e
    exact ⟨p, h1, h2, b.fr p h3, h4⟩, R.sep⟩
theorem Rel.rebase {Γ : Gh} {B G0 G H : Hp} {σ : L2.St} {ρ : Env'} {s : S} (R : Rel Γ B G0 G H σ ρ s) : ∃ B', Rel Γ B' G G H σ ρ s ∧ Reb Γ B G0 B' G := by
  classical
  let own : Addr → Prop := fun p => ∃ (i : Nat) (d : D), ρ[i]? = some (.pr d) ∧ σ[i]? = some (some (.ref p))
  have bo : ∀ p, own p → B p = none := by
    rintro p ⟨i, d, h1, h2⟩
    obtain ⟨q, k1, _, k3, _⟩ := R.pr i d h1
    rw [h2] at k1; cases k1; exact k3
  refine ⟨fun a => if own a then none else H a, ⟨R.ok, ⟨fun a o e _ => ?_, fun _ _ e => e, fun _ _ e => .inl e⟩, R.len, R.sh, fun i d e => ?_, R.sep⟩, ⟨fun G2 H2 t => ⟨fun a o e hm => ?_, fun a o e => t.ex a o (R.step.ex a o e), fun a o e => ?_⟩, fun p hp => ?_⟩⟩
  · have e : (if own a then none else H a) = some o := e
    split at e
    · cases e
    · exact e
  · obtain ⟨p, h1, h2, h3, h4⟩ := R.pr i d e
    exact ⟨p, h1, h2, if_pos ⟨i, d, e, h1⟩, h4⟩
  · refine t.keep a o ?_ hm
    show (if own a then none else H a) = some o
    rw [if_neg (fun z => by rw [bo a z] at e; cases e)]
    exact R.step.keep a o e hm
  · rcases t.fr a o e with z | z
    · exact R.step.fr a o z
    · have z : (if own a then none else H a) = none := z
      split at z
      · rename_i w; exact .inr (bo a w)
      · exact .inr (R.bfree z)
  · have z : (if own p then none else H p) = none := hp
    split at z
    · rename_i w; exact bo p w
    · exact R.bfree z
theorem PostS.base {mg : Str → Option Value} {W : WX} {Γ : Gh} {B G0 B' G1 : Hp} {E : Ends} {r : SR} (b : Reb Γ B G0 B' G1) (h : PostS mg W Γ B G0 E r) : PostS mg W Γ B' G1 E r := by
  cases r with
  | nx ρ s => exact fun σ G H R => h σ G H (R.base b)
  | ct ρ s => exact fun σ G H R => h σ G H (R.base b)
  | bk ρ s => exact fun σ G H R => h σ G H (R.base b)
  | rt r s => cases r with
    | un => exact h
    | sh d => exact fun v G H o t => h v G H o (b.st _ _ t)
    | pr d => exact fun p G H o t hg hb => h p G H o (b.st _ _ t) hg (b.fr p hb)
  | ex e ρ s => exact fun cls dd σ G H R => h cls dd σ G H (R.base b)
  | st => exact h
section
variable {X : Cx} {W : WX} {tg iter c : Expr} {sts : List Stmt} {src : M (List D)} {T : Tg} {g : MS} {t : M Bool} {pos : Pos}
theorem loop_post {mg : Str → Option Value} {Γ : Gh} {B G0 : Hp} {E : Ends} {N : L2.St → Hp → Prop} {r : SR} {k : Env' → S → SR}
    (hN : ∀ ρ s σ G H, Rel Γ B G0 G H σ ρ s → PostS mg W Γ B G0 E (k ρ s) → N σ H)
    (h : PostS mg W Γ B G0 E (match r with | .nx ρ s => k ρ s | .ct ρ s => k ρ s | .bk ρ s => .nx ρ s | r => r)) : PostS mg W Γ B G0 { E with nx := N, ct := N, bk := E.nx } r := by
  cases r with
  | nx ρ s => exact fun σ G H R => hN ρ s σ G H R h
  | ct ρ s => exact fun σ G H R => hN ρ s σ G H R h
  | bk ρ s => exact h
  | rt r s => cases r <;> exact h
  | ex e ρ s => exact h
  | st => exact h
theorem ds_for (hp : PassesOwn (model X.prog X.w) X.A X.env X.xe) (hc : X.calm = true) (hi : PI X tg iter (tIt X.mg W src)) (hg : PG X tg (tG T)) (hb : PSs X sts (tSt X.mg W g))
    (hs : ∀ x, foldedSetIterable iter X.env x = pure x := by intro _; rfl) : PS X (.For tg iter sts [] pos) (tSt X.mg W (forS src T g)) := (ps_for hp hc hi hg hb hs).imp fun E σ H ⟨Γ, B, G0, G, ρ, s, R, h⟩ =>
  ⟨Γ, B, G0, G, ρ, s, R, (PostS.lift R h).imp fun ds s1 h1 J G1 H1 t1 o1 w => by
    obtain ⟨B', R1, rb⟩ := (R.go t1 o1).rebase
    refine for_it w.w (fun i σ Hc => ∃ Gc ρc sc, Rel Γ B' G1 Gc Hc σ ρc sc ∧ PostS X.mg W Γ B' G1 E (loopD T g (ds.drop i) ρc sc))
      ⟨G1, ρ, s1, R1, h1.base rb⟩ (fun i σ Hc _ ⟨Gc, ρc, sc, Rc, _⟩ a o e => Rc.ok.gh a o (Rc.step.ex a o e)) ?_ ?_
    · rintro i x σ Hc H' hi ⟨Gc, ρc, sc, Rc, p⟩ ⟨rfl, d, hd, rp⟩
      rw [List.drop_eq_getElem_cons hi] at p
      have ed : ds[i] = d := by rw [List.getElem?_eq_getElem hi] at hd; exact Option.some.inj hd
      rw [ed] at p
      unfold loopD at p
      cases q : T.f d ρc with
      | none => rw [q] at p; exact p.elim
      | some ρ1 =>
        simp only [q] at p
        refine ⟨Γ, B', G1, Gc, ρc, sc, d, ρ1, Rc, Rp.mono Rc.step.ex d rp, q, fun σ' R' _ => ⟨Γ, B', G1, Gc, ρ1, sc, R', loop_post (k := loopD T g (ds.drop (i + 1))) (fun ρ s σ G H R p => ⟨G, ρ, s, R, p⟩) ?_⟩⟩
        revert p
        cases g ρ1 sc <;> exact fun p => p
    · rintro σ Hc ⟨Gc, ρc, sc, Rc, p⟩
      rw [List.drop_length] at p
      exact p σ Gc Hc Rc⟩
theorem ds_while (n : Nat) (hp : PassesOwn (model X.prog X.w) X.A X.env X.xe) (hc : PT X c (tT X.mg W t)) (hb : PSs X sts (tSt X.mg W g)) : PS X (.While c sts [] pos) (tSt X.mg W (whileD t g n)) := (ps_while hp hc hb).imp fun E σ H ⟨Γ, B, G0, G, ρ, s, R, h⟩ => by
  refine ⟨fun m σ H => ∃ G ρ s, Rel Γ B G0 G H σ ρ s ∧ PostS X.mg W Γ B G0 E (whileD t g m ρ s), ⟨n, G, ρ, s, R, h⟩, ?_⟩
  rintro m σ H ⟨G, ρ, s, R, h⟩
  cases m with
  | zero => exact h.elim
  | succ m =>
    refine ⟨Γ, B, G0, G, ρ, s, R, ?_⟩
    unfold whileD at h
    revert h
    cases t ρ s with
    | st => exact fun h => h
    | ex e s1 => exact fun h cls dd G' H' t o x => h cls dd σ G' H' (R.go t o) x
    | ok b s1 =>
      cases b with
      | false => exact fun h G' H' t o => h σ G' H' (R.go t o)
      | true =>
        intro h G' H' t1 o1
        rw [if_pos rfl]
        refine ⟨fun σ' H' => ∃ G ρ s, Rel Γ B G0 G H' σ' ρ s ∧ PostS X.mg W Γ B G0 E (whileD t g m ρ s), fun σ' H' ⟨G, ρ, s, R, p⟩ => ⟨m, Nat.lt_succ_self m, G, ρ, s, R, p⟩, Γ, B, G0, G', ρ, s1, R.go t1 o1, loop_post (k := whileD t g m) (fun ρ s σ G H R p => ⟨G, ρ, s, R, p⟩) ?_⟩
        revert h
        show PostS X.mg W Γ B G0 E (match g ρ s1 with | .nx ρ2 s2 => whileD t g m ρ2 s2 | .ct ρ2 s2 => whileD t g m ρ2 s2 | .bk ρ2 s2 => .nx ρ2 s2 | r => r) → _
        cases g ρ s1 <;> exact fun p => p
end

/-! ### comprehensions -/
def wipeE (ρ : Env') : List Nat → Env'
  | [] => ρ
  | v :: vs => (wipeE ρ vs).set v .un
theorem Rel.un {Γ : Gh} {B G0 G H : Hp} {σ : L2.St} {ρ : Env'} {s : S} (R : Rel Γ B G0 G H σ ρ s) (i : Nat) : Rel Γ B G0 G H (σ.set i none) (ρ.set i .un) s where
  ok := R.ok
  step := R.step
  len := by rw [List.length_set, List.length_set, R.len]
  sh := fun j d' e => by
    rw [getElem?_set'] at e ⊢
    by_cases h : i = j
    · rw [if_pos h] at e; split at e <;> cases e
    · rw [if_neg h] at e ⊢; exact R.sh j d' e
  pr := fun j d' e => by
    rw [getElem?_set'] at e ⊢
    by_cases h : i = j
    · rw [if_pos h] at e; split at e <;> cases e
    · rw [if_neg h] at e ⊢; exact R.pr j d' e
  sep := fun j l d' e' p hne h1 h2 h3 h4 => by
    rw [getElem?_set'] at h1 h2 h3 h4
    by_cases h : i = j
    · rw [if_pos h] at h1; split at h1 <;> cases h1
    · by_cases h' : i = l
      · rw [if_pos h'] at h2; split at h2 <;> cases h2
      · rw [if_neg h] at h1 h3; rw [if_neg h'] at h2 h4; exact R.sep j l d' e' p hne h1 h2 h3 h4
theorem Rel.wipe {Γ : Gh} {B G0 G H : Hp} {σ : L2.St} {ρ : Env'} {s : S} (R : Rel Γ B G0 G H σ ρ s) : ∀ vs : List Nat, Rel Γ B G0 G H (L2.wipe σ vs) (wipeE ρ vs) s
  | [] => R
  | v :: vs => (Rel.wipe R vs).un v
def lcD (T : Tg) (tt : M Bool) (te : M D) : List D → List D → Env' → S → Rs (List D)
  | [], acc, _, s => .ok acc s
  | d :: ds, acc, ρ, s => match T.f d ρ with
    | none => .st
    | some ρ2 => match tt ρ2 s with
      | .ok true s2 => match te ρ2 s2 with
        | .ok y s3 => if lsz acc then lcD T tt te ds (acc ++ [y]) ρ s3 else .st
        | _ => .st
      | .ok false s2 => lcD T tt te ds acc ρ s2
      | _ => .st
def lcFin : Rs (List D) → Rs D
  | .ok xs s => .ok (.list xs) s
  | _ => .st
def lcM (src : M (List D)) (vs : List Nat) (T : Tg) (tt : M Bool) (te : M D) : M D := bindM src fun ds ρ s => lcFin (lcD T tt te ds [] (wipeE ρ vs) s)
abbrev W0 : WX := fun _ _ _ _ => False
theorem Step.putO {Γ : Gh} {G H G' H' : Hp} {p : Addr} {o : HO} (t : Step Γ G H G' H') (hp : H p = none) : Step Γ G H G' (upd H' p o) :=
  ⟨fun a u e hm => by rw [upd_ne (ne_of_none e hp)]; exact t.keep a u e hm, t.ex, t.fr⟩
theorem St0.putO {Γ : Gh} {G H : Hp} {s : S} {p : Addr} {o : HO} (h : St0 Γ G H s) (hp : G p = none) (hm : p ∉ Γ.mut) : St0 Γ G (upd H p o) s :=
  ⟨fun a u e => by rw [upd_ne (ne_of_none e hp)]; exact h.gh a u e, h.gm, h.st.keep fun a ha => upd_ne (show a ≠ p from fun z => hm (z ▸ ha))⟩
theorem lc_t {mg : Str → Option Value} {W : WX} {src : M (List D)} {T : Tg} {tt : M Bool} {te : M D} {vs : List Nat} (hv : ∀ i ∈ T.vs, i ∈ vs) {σ : L2.St} {H : Hp} {Q : VK} :
    tO mg W (lcM src vs T tt te) σ H Q → tLc (tIt mg W src) (tG T) (tT mg W0 tt) (tE mg W0 te) vs σ H Q := fun ⟨Γ, B, G0, G, ρ, s, R, h⟩ =>
  ⟨Γ, B, G0, G, ρ, s, R, h.bind.imp fun ds s1 h1 J G1 H1 t1 o1 w D hD => by
    have hG1 := o1.gfree hD
    have hm := o1.nmut hD
    refine lc_it w.w (fun i Hc => ∃ Gc sc acc accV, St0 Γ Gc Hc sc ∧ Step Γ G1 H1 Gc Hc ∧ Hc D = some (.lst accV) ∧ RpA Γ.hd Gc accV acc ∧ Gc D = none ∧
        PostX mg W Γ G H σ _ (lcFin (lcD T tt te (ds.drop i) acc (wipeE ρ vs) sc)))
      ⟨G1, s1, [], [], o1.newO hD, Step.newO hD, upd_same, .nil, hG1, h1⟩ (fun i Hc _ ⟨Gc, sc, acc, accV, o, t, _⟩ a u e => o.gh a u (t.ex a u e)) ?_ ?_
    · rintro i x Hc H' hi ⟨Gc, sc, acc, accV, oc, tc, hDc, ra, gD, p⟩ ⟨rfl, d, hd, rp⟩
      rw [List.drop_eq_getElem_cons hi] at p
      have ed : ds[i] = d := by rw [List.getElem?_eq_getElem hi] at hd; exact Option.some.inj hd
      rw [ed] at p
      unfold lcD at p
      cases q : T.f d (wipeE ρ vs) with
      | none => rw [q] at p; exact p.elim
      | some ρ2 =>
        simp only [q] at p
        have Rc := (R.go (t1.trans tc oc.gm) oc).wipe vs
        refine ⟨Γ, B, G0, Gc, _, sc, d, ρ2, Rc, Rp.mono tc.ex d rp, q, fun σ2 R2 off => ⟨?_, Γ, B, G0, Gc, ρ2, sc, R2, ?_⟩⟩
        · rw [off.wipe hv]
          exact Off.wipe (vs := vs) ⟨wipe_length .., fun j hj => by
            have : ∀ (ws : List Nat), (∀ k ∈ ws, k ∈ vs) → (L2.wipe σ ws)[j]? = σ[j]? := by
              intro ws
              induction ws with
              | nil => intro _; rfl
              | cons w ws ih =>
                intro hw
                unfold L2.wipe
                rw [List.getElem?_set_ne (fun z : w = j => hj (z ▸ hw w (List.mem_cons_self ..)))]
                exact ih fun k hk => hw k (List.mem_cons_of_mem _ hk)
            exact this vs fun _ h => h⟩ fun _ h => h
        cases qt : tt ρ2 sc with
        | ex e s2 => simp only [qt] at p; exact p.elim
        | st => simp only [qt] at p; exact p.elim
        | ok b s2 =>
          simp only [qt] at p
          intro G3 H3 t3 o3
          have D3 : H3 D = some (.lst accV) := t3.keep D _ hDc hm
          have g3 : G3 D = none := by
            cases z : G3 D with
            | none => rfl
            | some u =>
              rcases t3.fr D u z with y | y
              · rw [gD] at y; cases y
              · rw [hDc] at y; cases y
          cases b with
          | false =>
            rw [if_neg (by simp)]
            exact ⟨G3, s2, acc, accV, o3, tc.trans t3 o3.gm, D3, RpA.mono t3.ex _ ra, g3, p⟩
          | true =>
            rw [if_pos rfl]
            refine ⟨Γ, B, G0, G3, ρ2, s2, R2.go t3 o3, ?_⟩
            cases qe : te ρ2 s2 with
            | ex e s3 => simp only [qe] at p; exact p.elim
            | st => simp only [qe] at p; exact p.elim
            | ok y s3 =>
              simp only [qe] at p
              intro v G4 H4 t4 o4 ry
              have D4 : H4 D = some (.lst accV) := t4.keep D _ D3 hm
              have g4 : G4 D = none := by
                cases z : G4 D with
                | none => rfl
                | some u =>
                  rcases t4.fr D u z with y | y
                  · rw [g3] at y; cases y
                  · rw [D3] at y; cases y
              split at p
              · rename_i hz
                refine ⟨accV, D4, ?_, G4, s3, acc ++ [y], accV ++ [v], o4.putO g4 hm, ((tc.trans t3 o3.gm).trans t4 o4.gm).putO hD, upd_same, (RpA.mono t4.ex _ (RpA.mono t3.ex _ ra)).app (.one ry), g4, p⟩
                rw [ra.length]
                exact of_decide_eq_true hz
              · exact p.elim
    · rintro Hc ⟨Gc, sc, acc, accV, oc, tc, hDc, ra, gD, p⟩
      rw [List.drop_length] at p
      refine p D Gc Hc (t1.trans tc oc.gm) oc ?_ gD (by rw [hDc]; exact ra)
      cases z : H D with
      | none => rfl
      | some u => rw [t1.keep D u z hm] at hD; cases hD⟩
section
variable {X : Cx} {W : WX} {elt tg iter : Expr} {ifs : List Expr} {scope : Scope} {own : List (Str × Nat)} {pos spos : Pos} {src : M (List D)} {T : Tg} {tt : M Bool} {te : M D}
theorem do_lc (hc : X.calm = true) (hN : X.N.Nodup) (hi : PI X tg iter (tIt X.mg W src)) (ok : BlkOk X.N X.env.scope scope own)
    (hg : ∀ (s : Shared) (H : Hp) (C : Addr) (cl : List (Str × Addr)) (fp : List Addr), PG (X.blk s H scope (compEnvC scope cl C X.env) fp) tg (tG T)) (ht : ∀ (s : Shared) (H : Hp) (C : Addr) (cl : List (Str × Addr)) (fp : List Addr), PTs (X.blk s H scope (compEnvC scope cl C X.env) fp) ifs (tT X.mg W0 tt))
    (he : ∀ (s : Shared) (H : Hp) (C : Addr) (cl : List (Str × Addr)) (fp : List Addr), PE (X.blk s H scope (compEnvC scope cl C X.env) fp) elt (tE X.mg W0 te)) (hv : ∀ i ∈ T.vs, i ∈ own.map (·.2) := by decide) (hs : ∀ x, foldedSetIterable iter X.env x = pure x := by intro _; rfl) :
    PE X (.ListComp elt [⟨tg, iter, ifs, 0⟩] scope pos) (tO X.mg W (lcM src (own.map (·.2)) T tt te)) := (pe_lc hc hN hi ok hg ht he hs).imp fun σ H Q => lc_t hv
theorem ds_setLc {i : Nat} {y : Str} {py : Pos} (hc : X.calm = true) (hN : X.N.Nodup) (hy : X.N[i]? = some y) (hyl : X.env.scope.names.lookup y = some .local)
    (hsw : swapsWith (.ListComp elt [⟨tg, iter, ifs, 0⟩] scope pos) (some (.Name y py)) spos.line X.env = pure true) (hi : PI X tg iter (tIt X.mg W src)) (ok : BlkOk X.N X.env.scope scope own)
    (hg : ∀ (s : Shared) (H : Hp) (C : Addr) (cl : List (Str × Addr)) (fp : List Addr), PG (X.blk s H scope (compEnvC scope cl C X.env) fp) tg (tG T)) (ht : ∀ (s : Shared) (H : Hp) (C : Addr) (cl : List (Str × Addr)) (fp : List Addr), PTs (X.blk s H scope (compEnvC scope cl C X.env) fp) ifs (tT X.mg W0 tt))
    (he : ∀ (s : Shared) (H : Hp) (C : Addr) (cl : List (Str × Addr)) (fp : List Addr), PE (X.blk s H scope (compEnvC scope cl C X.env) fp) elt (tE X.mg W0 te)) (hv : ∀ i ∈ T.vs, i ∈ own.map (·.2) := by decide) (hs : ∀ x, foldedSetIterable iter X.env x = pure x := by intro _; rfl) :
    PS X (.Assign [.Name y py] (.ListComp elt [⟨tg, iter, ifs, 0⟩] scope pos) spos) (tSt X.mg W (setO i (lcM src (own.map (·.2)) T tt te))) := (ps_setLc hc hN hy hyl hsw hi ok hg ht he hs).imp (asg_O fun _ _ _ => lc_t hv)
end
end Dy

set_option Elab.async false
set_option linter.all false
set_option maxRecDepth 100000
set_option maxHeartbeats 4000000
/-! Own exceptions over the data layer: raise, try. -/
namespace PySem
namespace XI
open PySem.W PySem.Calls PyProof.Rows PySem.HandSPX
section
variable {prog : Program} {w : World} {K : Frag}
/-- the text c + f -/
theorem text1 {qual f : Str} {scope : Scope} {c : Str} {kc : Nat} {c1 c2 c3 p0 p1 p2 p3 p4 : Pos} {m mg mb : Str → Option Value} {y : Str} {ty : Tok} (hm : m f = some (.str y ty)) (hk : scope.kind = .function) (hf : scope.names.lookup f = some .local) (hfd : (f == ("__debug__" : Str)) = false) (hl : c.length + y.length ≤ sizeLine)
    (ev : XEv qual scope (.BinOp (.Constant (.str c) kc c1) .Add (.Name f c2) c3) p0 p1 p2 p3 p4) :
    XText prog w qual scope (.BinOp (.Constant (.str c) kc c1) .Add (.Name f c2) c3) p0 p1 p2 p3 p4 m mg mb where
  run := fun A E L fI cda cc s1 Q' hn G Bl h => wpAny_BinOp (Calls.Constant_str (ldX hk hf hfd hn hm (PyProof.Rows.add_str (fun t' tk => h _ _ _ _ fun _ _ e => e) hl)))
  toXEv := ev
end
end XI
end PySem
namespace L2
open PySem PySem.Spec PyProof.Rows
def PStr : List V → Prop := fun vs => ∃ y : Str, vs = [.str y] ∧ y.length ≤ 1000
theorem mkx1 {X : Cx} {x f qual c : Str} {kc : Nat} {C fI cda cc : Addr} {params : Arguments} {scope : Scope} {c1 c2 c3 p0 p1 p2 p3 p4 : Pos} {q : Pos × Pos × Pos × Pos}
    (gC : X.mg x = some (.ref C)) (kC : PySem.W.keepIn X.K (.ref C) = true) (exC : PySem.W.subIn X.K (.ref C) (.type "BaseException") = some true) (tyC : PySem.W.typeIn X.K (.ref C) = some (.type "type"))
    (Tx : PySem.XI.XTxt X.K X.prog C fI qual params [PySem.XI.supS (.BinOp (.Constant (.str c) kc c1) .Add (.Name f c2) c3) p0 p1 p2 p3 p4, PySem.XI.setF f q] scope [f] cda cc) (Sc : PySem.XI.XScope params scope [f]) (hfs : f ≠ "self") (hc : c.length ≤ 1000)
    (hb : ∀ (s : Shared) (x : Addr) (v : Value) (doc pm : Value) (an : Option Addr) (ct : Value), BindsTo s (PySem.W.fnX "__init__" qual params [PySem.XI.supS (.BinOp (.Constant (.str c) kc c1) .Add (.Name f c2) c3) p0 p1 p2 p3 p4, PySem.XI.setF f q] scope [("__class__", cc)] .none .none doc pm an (.ref cda) ct) ⟨[.ref x, v], []⟩ [("self", .ref x), (f, v)])
    (ev : PySem.XI.XEv qual scope (.BinOp (.Constant (.str c) kc c1) .Add (.Name f c2) c3) p0 p1 p2 p3 p4)
    (hsw : ∀ (L fI cda cc : Addr), swapsWith (.Name f q.2.2.1) (some (.Attribute (.Name "self" q.1) f q.2.1)) q.2.2.2.line (PySem.XI.xEnv qual scope L fI cda cc) = pure false)
    (gs : X.mg "super" = none) (htop : (X.prog.main.scope.names.lookup ("super" : Str)).isSome = false) : MkX X x C [f] PStr where
  gC := gC
  kC := kC
  exC := exC
  tyC := tyC
  made := fun vs us r hl ⟨y, e, hy⟩ => by
    subst e
    obtain ⟨u, rfl, t, rfl⟩ := vals1 r
    refine ⟨fun g => if g = f then some (.str y t) else none, fun g => ?_, fun A R s X1 hlim hroom G ⟨mb, B1, B2, B3⟩ hq => ?_⟩
    · show RelO (List.lookup g [(f, V.str y)]) _
      rw [lookup_put]
      show RelO _ (if g = f then some (.str y t) else none)
      by_cases e : g = f
      · rw [if_pos e, if_pos e]; exact ⟨t, rfl⟩
      · rw [if_neg e, if_neg e]; trivial
    · have h1 := line63
      have hz : c.length + y.length ≤ sizeLine := by rw [sizeLine_eq]; omega
      exact PySem.XI.own_made Tx (fun A R s x t0 X2 hl2 hx hnx hr G2 B4 hq2 => PySem.XI.own_init1 Tx Sc hfs (fun s doc pm an ct => hb s _ _ doc pm an ct) (fun m hm => PySem.XI.text1 hm Sc.hk (Sc.hf f (by simp)).1 (Sc.hf f (by simp)).2 hz ev) hsw X2 hl2 hx hnx hr G2 gs B4 B2 htop hq2) X1 hlim hroom (by show 1 ≤ sizeLine; decide) G B1 hq
end L2

set_option Elab.async false
set_option linter.all false
set_option maxRecDepth 100000
set_option maxHeartbeats 4000000
/-! raise, try over the data layer. -/
namespace Dy
open PySem PySem.Spec PyProof.Rows L2

/-- what the values of a raise must be -/
structure XOk (P : List V → Prop) (p : List D → Bool) (n : Nat) : Prop where
  ok : ∀ hd G vs ds, RpA hd G vs ds → p ds = true → P vs ∧ vs = ds.map toV ∧ ds.length = n
def pStr : List D → Bool
  | [.str y] => decide (y.length ≤ 1000)
  | _ => false
theorem xok_str : XOk PStr pStr 1 := ⟨fun hd G vs ds r h => by
  unfold pStr at h
  split at h
  · cases r with
    | cons r r' => cases r; cases r'; exact ⟨⟨_, rfl, of_decide_eq_true h⟩, rfl, rfl⟩
  · cases h⟩
def raiseS (x : Str) (fs : List Str) (p : List D → Bool) (fa : M (List D)) : MS := liftE fa fun ds ρ s => if p ds then .ex (x, fs.zip ds) ρ s else .st
theorem zip_toV (fs : List Str) (ds : List D) : (fs.zip ds).map (fun p => (p.1, toV p.2)) = fs.zip (ds.map toV) := by
  induction fs generalizing ds with
  | nil => rfl
  | cons f fs ih => cases ds with
    | nil => rfl
    | cons d ds => simp [ih]
section
variable {X : Cx} {W : WX} {x : Str} {C : Addr} {fs : List Str} {P : List V → Prop} {q : List D → Bool} {a : Expr} {as : List Expr} {fa : M (List D)} {p pos pos' : Pos} {k : Nat}
theorem ds_raise (hc : X.calm = true) (tk : Takes X W) (T : MkX X x C fs P) (hp : XOk P q fs.length) (hr : Room k X.A) (ha : PA X (a :: as) (tAr X.mg W fa)) (hg : Gl X x := by rfl) (hdb : (x == ("__debug__" : Str)) = false := by decide)
    (he : starEach (a :: as) X.env = (false, eval a X.env) :: starEach as X.env := by rfl) (hpl : (backTo pos (starEach as X.env)).any (·.1) = false := by rfl) :
    PS X (.Raise (some (.Call (.Name x p) (a :: as) [] pos)) none pos') (tSt X.mg W (raiseS x fs q fa)) := (ps_raise hc tk (pmk_x T hr ha hg hdb he hpl)).imp fun E σ H ⟨Γ, B, G0, G, ρ, s, R, h⟩ =>
  ⟨Γ, B, G0, G, ρ, s, R, (PostS.lift R h).imp fun ds s1 h1 vs G1 H1 t1 o1 r1 => by
    have h1 : PostS X.mg W Γ B G0 E (if q ds = true then .ex (x, fs.zip ds) ρ s1 else .st) := h1
    split at h1
    · rename_i hq
      obtain ⟨hP, e, hl⟩ := hp.ok _ _ _ _ r1 hq
      refine ⟨by rw [r1.length, hl], hP, fun d hd => ?_⟩
      refine h1 _ _ σ G1 _ ((R.go t1 o1).go (Step.newO hd) (o1.newO hd)) ⟨C, d, rfl, T.gC, rfl, ?_⟩
      rw [upd_same]
      show some (HO.xd (fs.zip vs)) = some (HO.xd ((fs.zip ds).map fun p => (p.1, toV p.2)))
      rw [zip_toV, ← e]
    · exact h1.elim⟩
end

/-! ### try -/
def unS (i : Nat) : SR → SR
  | .nx ρ s => .nx (ρ.set i .un) s
  | .bk ρ s => .bk (ρ.set i .un) s
  | .ct ρ s => .ct (ρ.set i .un) s
  | r => r
/-- try: g; except x as slot i: h; xs the classes that are known -/
def tryAs (g : MS) (xs : List Str) (x : Str) (i : Nat) (h : Exn → MS) : MS := fun ρ s => match g ρ s with
  | .ex e ρ' s' => if xs.contains e.1 && decide (i < ρ'.length) then (if e.1 = x then unS i (h e (ρ'.set i .un) s') else .ex e ρ' s') else .st
  | r => r
def tryOnly (g : MS) (xs : List Str) (x : Str) (h : Exn → MS) : MS := fun ρ s => match g ρ s with
  | .ex e ρ' s' => if xs.contains e.1 then (if e.1 = x then h e ρ' s' else .ex e ρ' s') else .st
  | r => r
/-- the classes as the heap tells them, of the one that an except clause names -/
def Exm (X : Cx) (xs : List Str) (x : Str) (c : Value) : Prop := ∀ y ∈ xs, ∀ C, X.mg y = some (.ref C) → PySem.W.exmOne X.K (.ref C) c = some (decide (y = x))
theorem Rel.xslot {Γ : Gh} {B G0 G H : Hp} {σ : L2.St} {ρ : Env'} {s : S} (R : Rel Γ B G0 G H σ ρ s) (i : Nat) (v : V) : Rel Γ B G0 G H (σ.set i (some v)) (ρ.set i .un) s where
  ok := R.ok
  step := R.step
  len := by rw [List.length_set, List.length_set, R.len]
  sh := fun j d' e => by
    rw [getElem?_set'] at e ⊢
    by_cases h : i = j
    · rw [if_pos h] at e; split at e <;> cases e
    · rw [if_neg h] at e ⊢; exact R.sh j d' e
  pr := fun j d' e => by
    rw [getElem?_set'] at e ⊢
    by_cases h : i = j
    · rw [if_pos h] at e; split at e <;> cases e
    · rw [if_neg h] at e ⊢; exact R.pr j d' e
  sep := fun j l d' e' p hne h1 h2 h3 h4 => by
    rw [getElem?_set'] at h1 h2 h3 h4
    by_cases h : i = j
    · rw [if_pos h] at h1; split at h1 <;> cases h1
    · by_cases h' : i = l
      · rw [if_pos h'] at h2; split at h2 <;> cases h2
      · rw [if_neg h] at h1 h3; rw [if_neg h'] at h2 h4; exact R.sep j l d' e' p hne h1 h2 h3 h4
/-- the exception that a suite holds: at a, its class, its dict -/
def Held (mg : Str → Option Value) (e : Exn) (cls : Value) (dd : Option Addr) (H : Hp) : Prop := ExR mg e cls dd H
section
variable {X : Cx} {Wout : WX} {x n : Str} {c : Value} {i : Nat} {body suite : List Stmt} {b₀ : Stmt} {np pos pos' : Pos} {g : MS} {h : Exn → MS} {xs : List Str} {ts : Addr → Value → Option Addr → TS}
theorem ds_try_as (hs : X.stack = X.env :: X.outer) (hf : X.env.frame = some X.env.locals) (hN : X.N.Nodup) (hi : X.N[i]? = some n) (hln : X.env.kindOf n = some .local) (hc : Names X x c) (tk : Takes X Wout) (hx : Exm X xs x c)
    (hb : ∀ (W : WX) (pn : List (Addr × Obj)) (xe : Value → Shared → Prop), Takes (X.tr pn xe) W → PassesOwn (model X.prog X.w) X.A X.env xe → PSs (X.tr pn xe) body (tSt X.mg W g))
    (hsu : ∀ (a : Addr) (oe : Obj) (cls : Value) (d : Option Addr) (pn : List (Addr × Obj)), Zc cls d oe → (∃ vs, oe.data = .fields vs) → PSs (X.suite a ((a, oe) :: pn)) (b₀ :: suite) (ts a cls d))
    (ht : ∀ (Γ : Gh) (B G0 G H : Hp) (σ : L2.St) (ρ : Env') (s : S) (e : Exn) (a : Addr) (cls : Value) (dd : Option Addr) (D : Ends), Rel Γ B G0 G H (σ.set i (some (.ref a))) (ρ.set i .un) s → i < σ.length → ExR X.mg e cls dd H → e.1 = x → PostS X.mg Wout Γ B G0 D (h e (ρ.set i .un) s) → ts a cls dd D (σ.set i (some (.ref a))) H) :
    PS X (.Try body [.ExceptHandler (some (.Name x np)) (some n) (b₀ :: suite) pos'] [] [] pos) (tSt X.mg Wout (tryAs g xs x i h)) := (ps_try_as (tb := fun W => tSt X.mg W g) hs hf hN hi hln hc tk hb hsu).imp fun D σ H ⟨Γ, B, G0, G, ρ, s, R, p⟩ => by
  refine ⟨Γ, B, G0, G, ρ, s, R, ?_⟩
  unfold tryAs at p
  revert p
  cases g ρ s with
  | ex e ρ' s' =>
    intro p cls dd σ' G' H' R' hx'
    have p : PostS X.mg Wout Γ B G0 D (if (xs.contains e.1 && decide (i < ρ'.length)) = true then (if e.1 = x then unS i (h e (ρ'.set i .un) s') else .ex e ρ' s') else .st) := p
    split at p
    · rename_i hm
      obtain ⟨hm, hil⟩ := Bool.and_eq_true_iff.mp hm
      obtain ⟨C, a, rfl, gC, rfl, hH⟩ := hx'
      refine ⟨_, hx _ (List.contains_iff_mem.mp hm) C gC, fun hb a2 ha2 => ?_, fun hb => ?_⟩
      · have ex : e.1 = x := of_decide_eq_true hb
        rw [if_pos ex] at p
        have hl : i < σ'.length := by rw [R'.len]; exact of_decide_eq_true hil
        · refine ht Γ B G0 G' H' σ' ρ' s' e a2 _ _ _ (R'.xslot i _) hl ⟨C, a, rfl, gC, rfl, hH⟩ ex ?_
          revert p
          cases h e (ρ'.set i .un) s' with
          | nx ρ2 s2 => exact fun p σ2 G2 H2 R2 => p _ _ _ (R2.un i)
          | bk ρ2 s2 => exact fun p σ2 G2 H2 R2 => p _ _ _ (R2.un i)
          | ct ρ2 s2 => exact fun p σ2 G2 H2 R2 => p _ _ _ (R2.un i)
          | rt r s2 => cases r <;> exact fun p => p
          | ex e2 ρ2 s2 => exact fun p => p
          | st => exact fun p => p
      · have ex : ¬ e.1 = x := of_decide_eq_false hb
        rw [if_neg ex] at p
        exact p _ _ σ' G' H' R' ⟨C, a, rfl, gC, rfl, hH⟩
    · exact p.elim
  | nx ρ s => exact fun p => p
  | bk ρ s => exact fun p => p
  | ct ρ s => exact fun p => p
  | rt r s => cases r <;> exact fun p => p
  | st => exact fun p => p
theorem ds_try_only (hs : X.stack = X.env :: X.outer) (hf : X.env.frame = some X.env.locals) (hc : Names X x c) (tk : Takes X Wout) (hx : Exm X xs x c)
    (hb : ∀ (W : WX) (pn : List (Addr × Obj)) (xe : Value → Shared → Prop), Takes (X.tr pn xe) W → PassesOwn (model X.prog X.w) X.A X.env xe → PSs (X.tr pn xe) body (tSt X.mg W g))
    (hsu : ∀ (a : Addr) (oe : Obj) (cls : Value) (d : Option Addr) (pn : List (Addr × Obj)), Zc cls d oe → (∃ vs, oe.data = .fields vs) → PSs (X.suite a ((a, oe) :: pn)) (b₀ :: suite) (ts a cls d))
    (ht : ∀ (Γ : Gh) (B G0 G H : Hp) (σ : L2.St) (ρ : Env') (s : S) (e : Exn) (a : Addr) (cls : Value) (dd : Option Addr) (D : Ends), Rel Γ B G0 G H σ ρ s → ExR X.mg e cls dd H → e.1 = x → PostS X.mg Wout Γ B G0 D (h e ρ s) → ts a cls dd D σ H) :
    PS X (.Try body [.ExceptHandler (some (.Name x np)) none (b₀ :: suite) pos'] [] [] pos) (tSt X.mg Wout (tryOnly g xs x h)) := (ps_try_only (tb := fun W => tSt X.mg W g) hs hf hc tk hb hsu).imp fun D σ H ⟨Γ, B, G0, G, ρ, s, R, p⟩ => by
  refine ⟨Γ, B, G0, G, ρ, s, R, ?_⟩
  unfold tryOnly at p
  revert p
  cases g ρ s with
  | ex e ρ' s' =>
    intro p cls dd σ' G' H' R' hx'
    have p : PostS X.mg Wout Γ B G0 D (if xs.contains e.1 = true then (if e.1 = x then h e ρ' s' else .ex e ρ' s') else .st) := p
    split at p
    · rename_i hm
      obtain ⟨C, a, rfl, gC, rfl, hH⟩ := hx'
      refine ⟨_, hx _ (List.contains_iff_mem.mp hm) C gC, fun hb a2 ha2 => ?_, fun hb => ?_⟩
      · have ex : e.1 = x := of_decide_eq_true hb
        rw [if_pos ex] at p
        exact ht Γ B G0 G' H' σ' ρ' s' e a2 _ _ _ R' ⟨C, a, rfl, gC, rfl, hH⟩ ex p
      · have ex : ¬ e.1 = x := of_decide_eq_false hb
        rw [if_neg ex] at p
        exact p _ _ σ' G' H' R' ⟨C, a, rfl, gC, rfl, hH⟩
    · exact p.elim
  | nx ρ s => exact fun p => p
  | bk ρ s => exact fun p => p
  | ct ρ s => exact fun p => p
  | rt r s => cases r <;> exact fun p => p
  | st => exact fun p => p
end
end Dy

set_option Elab.async false
set_option linter.all false
set_option maxRecDepth 100000
set_option maxHeartbeats 4000000
/-! set(list | tuple), sorted(set). -/
namespace SQ
open PySem PySem.Spec PyProof.Rows L2
section
variable {P : Program} {w : World} {A : Around} {E : Value → Shared → Prop} {s : Shared} {K : Type} [DecidableEq K] [BEq K] [LawfulBEq K]
set_option maxHeartbeats 8000000 in
theorem call_set_list (knd : PySem.KeyKind P w K) {l : Addr} {items : Array Value} {ks : List K} {Q : Value → Shared → Prop}
    (hh : A.handled = none) (hl : s.heap.IsList l items) (hn : ks.length = items.size) (hi : ∀ (i : Nat) (v : Value), items[i]? = some v → ∃ k, ks[i]? = some k ∧ knd.is k v = true ∧ v.scannable = true) (hb : items.size + 1 < scanBound)
    (h : ∀ (h' : Heap) (tk m : Nat), m ≤ items.size → SetQ knd h' s.heap.objs.size (fun k => k ∈ ks) m →
      (∀ b o, b < s.heap.objs.size → s.heap.get? b = some o → h'.get? b = some o) → Q (.ref s.heap.objs.size) { s with heap := h', toks := tk }) :
    wpAny (model P w) A (call (.type "set") [.ref l]) Q E s := by
  obtain ⟨c, tl, hmro⟩ := F.called_set.mro
  have hmade := F.called_set.made
  have hsub := F.called_set.sub
  refine wpAny_call (codeAny_of_tree ?_)
  show wpAny _ _ (callAny (.type "set") _) _ _ _
  refine wpAny_pure ⟨Code.quiet_builtin _ (by decide +kernel), codeAny_builtin F.entry_type_call ?_⟩
  rw [Around.under_plain (weight_type_call_type "set" [.ref l] []) rfl]
  have h1 := F.called_set.notType
  have h2 := F.called_set.canCreate
  have hct := F.typeCall_set_1 (.ref l)
  repeat (any_goals (first | assumption | wp_step))
  refine codeAny_mono (code_set_led1 (x := .ref l) (E := E) (Q₁ := fun obj s₁ => obj = .ref s.heap.objs.size ∧ s₁ = { s with heap := s.heap.push { cls := .type "set", dict := none, data := .set #[] 0 (.fresh 0 0 (!w.params.followText "set-order")) } }) ⟨rfl, rfl⟩) fun r s₁ hr => ?_
  cases r with
  | error e => exact hr
  | ok fl =>
    cases fl with
    | ret obj =>
      obtain ⟨rfl, rfl⟩ := hr
      generalize hled : (!w.params.followText "set-order") = led at *
      have hS : (s.heap.push { cls := .type "set", dict := none, data := .set #[] 0 (.fresh 0 0 led) }).get? s.heap.objs.size = some { cls := .type "set", dict := none, data := .set #[] 0 (.fresh 0 0 led) } := Heap.get?_push_size _ rfl
      have hT : Shared.TypeIs { s with heap := s.heap.push { cls := .type "set", dict := none, data := .set #[] 0 (.fresh 0 0 led) } } (.ref s.heap.objs.size) "set" := ⟨_, hS, rfl⟩
      have hli := F.called_set.init.lookup
      have hbi := F.called_set.init.bind (.ref s.heap.objs.size)
      repeat (any_goals (first | assumption | wp_step))
      refine codeAny_mono (codeAny_call_builtin (R := wants (fun r s₂ => r = .none ∧ ∃ h' tk m, s₂ = { s with heap := h', toks := tk } ∧ m ≤ items.size ∧
          SetQ knd h' s.heap.objs.size (fun k => k ∈ ks) m ∧
          (∀ b o, b < s.heap.objs.size → s.heap.get? b = some o → h'.get? b = some o)) E) F.called_set.init.plain F.entry_set_init (PySem.check_set_init_1 hT ?_)) fun r₂ s₂ hr₂ => ?_
      · obtain ⟨ol, hol, hcl, nl, hdl⟩ := hl
        obtain ⟨ocls, odict, odata, oslots⟩ := ol
        simp only at hcl hdl
        subst hcl; subst hdl
        have hol' : (s.heap.push { cls := .type "set", dict := none, data := .set #[] 0 (.fresh 0 0 led) }).get? l = some { cls := .type "list", dict := odict, data := .seq items nl, slots := oslots } := Heap.get?_push_of_some _ hol
        have hsls := F.sub_list_set
        have hslf := F.sub_list_frozenset
        have hne : (Value.type "list" == Value.type "dict") = false := by decide
        have hl1 : (s.heap.push { cls := .type "set", dict := none, data := .set #[] 0 (.fresh 0 0 led) }).IsList l items := ⟨_, hol', rfl, nl, rfl⟩
        unfold Builtin.«set.__init__» noKeywords Builtin.Frozenset.updateFrom
        generalize hPI : pyIter = PI
        wp_walk
        subst hPI
        refine wpAny_pyIter_list hl1 ?_
        refine wpAny_bind (wpAny_runValue ?_)
        have hlS : l < s.heap.objs.size := Heap.lt_size hol
        have hh3 : A.in1.in1.in1.handled = none := by simp [hh]
        have hneI : l ≠ (s.heap.push { cls := .type "set", dict := none, data := .set #[] 0 (.fresh 0 0 led) }).objs.size := by
          rw [Heap.size_push]; exact Nat.ne_of_lt (Nat.lt_succ_of_lt hlS)
        have hSf : s.heap.objs.size ∉ [(s.heap.push { cls := .type "set", dict := none, data := .set #[] 0 (.fresh 0 0 led) }).objs.size, l] := by
          rw [Heap.size_push]; simp only [List.mem_cons, List.mem_singleton, List.not_mem_nil, or_false, not_or]
          exact ⟨Nat.ne_of_lt (Nat.lt_succ_self _), Nat.ne_of_gt hlS⟩
        refine upd_loop (knd := knd) ((Walks.list hh3 _ l hneI items).toS) s.heap.objs.size hSf ks hn hi hb (items.size - 0) 0 _ (by omega) (Nat.zero_le _)
          ⟨⟨_, Heap.get?_push_size _ rfl, rfl, rfl⟩, (hl1.push _)⟩ ?hS0 ?hR
        case hS0 =>
          refine ⟨0, Nat.le_refl _, ?_⟩
          have z := setQ_fresh (h := s.heap) knd
          rw [hled] at z
          have z2 := z.at (h' := (s.heap.push { cls := .type "set", dict := none, data := .set #[] 0 (.fresh 0 0 led) }).push { cls := .type "list_iterator", data := .fields #[.ref l, .int 0 0] }) fun o e => Heap.get?_push_of_some _ e
          obtain ⟨o, es, ep, t, h1, h2, h3, h4, h5, h6, h7⟩ := z2
          exact ⟨o, es, ep, t, h1, h2, h3, h4, h5, fun x => by rw [← h6 x]; simp, h7⟩
        case hR =>
          intro s' hm ⟨m, hm1, hS'⟩
          obtain ⟨h', g', d', tk', os'⟩ := s'
          have eg : g' = s.gens := hm.gens
          have ed : d' = s.drawn := hm.drawn
          have eo : os' = s.os := hm.os
          subst eg; subst ed; subst eo
          show wpAny _ _ _ _ _ _
          refine wpAny_pure ?_
          show wpAny _ _ (ret Value.none) _ _ _
          refine wpAny_pure ⟨rfl, h', tk', m, rfl, hm1, hS', fun b o hb e => ?_⟩
          have hb1 : b ≠ s.heap.objs.size := Nat.ne_of_lt hb
          have hb2 : b ≠ (s.heap.push { cls := .type "set", dict := none, data := .set #[] 0 (.fresh 0 0 led) }).objs.size := by
            rw [Heap.size_push]; exact Nat.ne_of_lt (Nat.lt_succ_of_lt hb)
          exact hm.heap b o (by simp only [List.mem_cons, List.mem_singleton, List.not_mem_nil, or_false, not_or]; exact ⟨hb1, hb2⟩) (Heap.get?_push_of_some _ (Heap.get?_push_of_some _ e))
      · cases r₂ with
        | error e => exact hr₂
        | ok fl₂ =>
          cases fl₂ with
          | ret r =>
            obtain ⟨rfl, h', tk, m, rfl, hm1, hS', hk'⟩ := hr₂
            repeat (any_goals (first | assumption | wp_step))
            exact h _ _ _ hm1 hS' hk'
          | _ => exact hr₂.elim
    | _ => exact hr.elim
set_option maxHeartbeats 8000000 in
theorem call_set_tuple (knd : PySem.KeyKind P w K) {l : Addr} {items : Array Value} {ks : List K} {Q : Value → Shared → Prop}
    (hh : A.handled = none) (hl : s.heap.IsTuple l items) (hn : ks.length = items.size) (hi : ∀ (i : Nat) (v : Value), items[i]? = some v → ∃ k, ks[i]? = some k ∧ knd.is k v = true ∧ v.scannable = true) (hb : items.size + 1 < scanBound)
    (h : ∀ (h' : Heap) (tk m : Nat), m ≤ items.size → SetQ knd h' s.heap.objs.size (fun k => k ∈ ks) m →
      (∀ b o, b < s.heap.objs.size → s.heap.get? b = some o → h'.get? b = some o) → Q (.ref s.heap.objs.size) { s with heap := h', toks := tk }) :
    wpAny (model P w) A (call (.type "set") [.ref l]) Q E s := by
  obtain ⟨c, tl, hmro⟩ := F.called_set.mro
  have hmade := F.called_set.made
  have hsub := F.called_set.sub
  refine wpAny_call (codeAny_of_tree ?_)
  show wpAny _ _ (callAny (.type "set") _) _ _ _
  refine wpAny_pure ⟨Code.quiet_builtin _ (by decide +kernel), codeAny_builtin F.entry_type_call ?_⟩
  rw [Around.under_plain (weight_type_call_type "set" [.ref l] []) rfl]
  have h1 := F.called_set.notType
  have h2 := F.called_set.canCreate
  have hct := F.typeCall_set_1 (.ref l)
  repeat (any_goals (first | assumption | wp_step))
  refine codeAny_mono (code_set_led1 (x := .ref l) (E := E) (Q₁ := fun obj s₁ => obj = .ref s.heap.objs.size ∧ s₁ = { s with heap := s.heap.push { cls := .type "set", dict := none, data := .set #[] 0 (.fresh 0 0 (!w.params.followText "set-order")) } }) ⟨rfl, rfl⟩) fun r s₁ hr => ?_
  cases r with
  | error e => exact hr
  | ok fl =>
    cases fl with
    | ret obj =>
      obtain ⟨rfl, rfl⟩ := hr
      generalize hled : (!w.params.followText "set-order") = led at *
      have hS : (s.heap.push { cls := .type "set", dict := none, data := .set #[] 0 (.fresh 0 0 led) }).get? s.heap.objs.size = some { cls := .type "set", dict := none, data := .set #[] 0 (.fresh 0 0 led) } := Heap.get?_push_size _ rfl
      have hT : Shared.TypeIs { s with heap := s.heap.push { cls := .type "set", dict := none, data := .set #[] 0 (.fresh 0 0 led) } } (.ref s.heap.objs.size) "set" := ⟨_, hS, rfl⟩
      have hli := F.called_set.init.lookup
      have hbi := F.called_set.init.bind (.ref s.heap.objs.size)
      repeat (any_goals (first | assumption | wp_step))
      refine codeAny_mono (codeAny_call_builtin (R := wants (fun r s₂ => r = .none ∧ ∃ h' tk m, s₂ = { s with heap := h', toks := tk } ∧ m ≤ items.size ∧
          SetQ knd h' s.heap.objs.size (fun k => k ∈ ks) m ∧
          (∀ b o, b < s.heap.objs.size → s.heap.get? b = some o → h'.get? b = some o)) E) F.called_set.init.plain F.entry_set_init (PySem.check_set_init_1 hT ?_)) fun r₂ s₂ hr₂ => ?_
      · obtain ⟨ol, hol, hcl, nl, hdl⟩ := hl
        obtain ⟨ocls, odict, odata, oslots⟩ := ol
        simp only at hcl hdl
        subst hcl; subst hdl
        have hol' : (s.heap.push { cls := .type "set", dict := none, data := .set #[] 0 (.fresh 0 0 led) }).get? l = some { cls := .type "tuple", dict := odict, data := .seq items nl, slots := oslots } := Heap.get?_push_of_some _ hol
        have hsls := F.sub_tuple_set
        have hslf := F.sub_tuple_frozenset
        have hne : (Value.type "tuple" == Value.type "dict") = false := by decide
        have hl1 : (s.heap.push { cls := .type "set", dict := none, data := .set #[] 0 (.fresh 0 0 led) }).IsTuple l items := ⟨_, hol', rfl, nl, rfl⟩
        unfold Builtin.«set.__init__» noKeywords Builtin.Frozenset.updateFrom
        generalize hPI : pyIter = PI
        wp_walk
        subst hPI
        refine wpAny_pyIter_tuple hl1 ?_
        refine wpAny_bind (wpAny_runValue ?_)
        have hlS : l < s.heap.objs.size := Heap.lt_size hol
        have hh3 : A.in1.in1.in1.handled = none := by simp [hh]
        have hneI : l ≠ (s.heap.push { cls := .type "set", dict := none, data := .set #[] 0 (.fresh 0 0 led) }).objs.size := by
          rw [Heap.size_push]; exact Nat.ne_of_lt (Nat.lt_succ_of_lt hlS)
        have hSf : s.heap.objs.size ∉ [(s.heap.push { cls := .type "set", dict := none, data := .set #[] 0 (.fresh 0 0 led) }).objs.size, l] := by
          rw [Heap.size_push]; simp only [List.mem_cons, List.mem_singleton, List.not_mem_nil, or_false, not_or]
          exact ⟨Nat.ne_of_lt (Nat.lt_succ_self _), Nat.ne_of_gt hlS⟩
        refine upd_loop (knd := knd) ((Walks.tuple hh3 _ l hneI items).toS) s.heap.objs.size hSf ks hn hi hb (items.size - 0) 0 _ (by omega) (Nat.zero_le _)
          ⟨⟨_, Heap.get?_push_size _ rfl, rfl, rfl⟩, (hl1.push _)⟩ ?hS0 ?hR
        case hS0 =>
          refine ⟨0, Nat.le_refl _, ?_⟩
          have z := setQ_fresh (h := s.heap) knd
          rw [hled] at z
          have z2 := z.at (h' := (s.heap.push { cls := .type "set", dict := none, data := .set #[] 0 (.fresh 0 0 led) }).push { cls := .type "tuple_iterator", data := .fields #[.ref l, .int 0 0] }) fun o e => Heap.get?_push_of_some _ e
          obtain ⟨o, es, ep, t, h1, h2, h3, h4, h5, h6, h7⟩ := z2
          exact ⟨o, es, ep, t, h1, h2, h3, h4, h5, fun x => by rw [← h6 x]; simp, h7⟩
        case hR =>
          intro s' hm ⟨m, hm1, hS'⟩
          obtain ⟨h', g', d', tk', os'⟩ := s'
          have eg : g' = s.gens := hm.gens
          have ed : d' = s.drawn := hm.drawn
          have eo : os' = s.os := hm.os
          subst eg; subst ed; subst eo
          show wpAny _ _ _ _ _ _
          refine wpAny_pure ?_
          show wpAny _ _ (ret Value.none) _ _ _
          refine wpAny_pure ⟨rfl, h', tk', m, rfl, hm1, hS', fun b o hb e => ?_⟩
          have hb1 : b ≠ s.heap.objs.size := Nat.ne_of_lt hb
          have hb2 : b ≠ (s.heap.push { cls := .type "set", dict := none, data := .set #[] 0 (.fresh 0 0 led) }).objs.size := by
            rw [Heap.size_push]; exact Nat.ne_of_lt (Nat.lt_succ_of_lt hb)
          exact hm.heap b o (by simp only [List.mem_cons, List.mem_singleton, List.not_mem_nil, or_false, not_or]; exact ⟨hb1, hb2⟩) (Heap.get?_push_of_some _ (Heap.get?_push_of_some _ e))
      · cases r₂ with
        | error e => exact hr₂
        | ok fl₂ =>
          cases fl₂ with
          | ret r =>
            obtain ⟨rfl, h', tk, m, rfl, hm1, hS', hk'⟩ := hr₂
            repeat (any_goals (first | assumption | wp_step))
            exact h _ _ _ hm1 hS' hk'
          | _ => exact hr₂.elim
    | _ => exact hr.elim

/-- sorted(the set at a): enc what the values read as -/
theorem sorted_setQ (knd : PySem.KeyKind P w K) {a : Addr} {S : K → Prop} {n : Nat} {enc : K → PyData} {Q : Value → Shared → Prop} (R : SetQ knd s.heap a S n) (hh : A.handled = none) (hu : ∀ k, S k → A.units + 4 + (enc k).depth < cLine)
    (hr : ∀ (h : Heap) (k : K) (v : Value), knd.is k v = true → PySem.Reads h v (enc k) []) (hal : ∀ k k', S k → S k' → PySem.W.alike (enc k) (enc k') = true) (hsk : ∀ ks : List K, (∀ k ∈ ks, S k) → PySem.W.Sortable (ks.map enc))
    (hQ : ∀ s' p (out : List Value) (c : Nat) (ks : List K), (∀ b o, s.heap.get? b = some o → s'.heap.get? b = some o) → s'.gens = s.gens → s'.os = s.os → s.heap.objs.size ≤ p →
      s'.heap.get? p = some (seqObj "list" out.toArray c) → ks.Nodup → (∀ k, k ∈ ks ↔ S k) → ks.length = n → PySem.W.EachIs (fun v k => knd.is k v = true) out (ks.mergeSort (PySem.W.dataLe false enc)) → Q (.ref p) s') :
    wpAny (model P w) A (call (.builtin "sorted") [.ref a]) Q E s := by
  obtain ⟨o, es, ep, t, ho, hex, hd, g, nd, hm, hb, hf, hn, hri, hl⟩ := R
  refine Calls.call_function_entry kind_sorted plain_sorted entry_sorted (args_sorted1 _) ?_
  unfold Builtin.«sorted»
  refine wpAny_bind (m := checkCount "sorted" 1 1 _) (wpAny_pure ?_)
  refine wpAny_bind (collect_set (A := A.in1) hh ⟨o, ho, hex.1, hd⟩ hf hb hri hl fun s1 vs k1 hz g1 o1 pm => ?_)
  have hvl : vs.length = n := by rw [pm.length_eq, List.length_map, Array.length_toList]; exact hn
  -- the members in the order met
  obtain ⟨ks, e1, e2⟩ : ∃ ks : List K, PySem.W.EachIs (fun v k => knd.is k v = true) vs ks ∧ ks.map some = vs.map fun v => kq knd ((0 : Int), v) := by
    have hv : ∀ v ∈ vs, ∃ k, knd.is k v = true := fun v hv => by
      obtain ⟨e, he, q⟩ := List.mem_map.mp (pm.mem_iff.mp hv)
      obtain ⟨k, h1, _⟩ := g e he
      exact ⟨k, by rw [← q]; exact h1⟩
    clear pm hvl
    induction vs with
    | nil => exact ⟨[], .nil, rfl⟩
    | cons v vs ih =>
      obtain ⟨k, hk⟩ := hv v (by simp)
      obtain ⟨ks, e1, e2⟩ := ih fun u hu => hv u (by simp [hu])
      exact ⟨k :: ks, .cons hk e1, by rw [List.map_cons, List.map_cons, e2, kq_of (e := ((0 : Int), v)) hk]⟩
  have kqs : ∀ l : List (Int × Value), (l.map (·.2)).map (fun v => kq knd ((0 : Int), v)) = l.map (kq knd) := fun l => by
    rw [List.map_map]
    apply List.map_congr_left
    intro e _
    rfl
  have pk : (ks.map some).Perm (es.toList.map (kq knd)) := by
    rw [e2, ← kqs]
    exact pm.map _
  have hmem : ∀ k, k ∈ ks ↔ S k := fun k => by
    rw [hm k, ← pk.mem_iff, List.mem_map]
    constructor
    · intro h; exact ⟨k, h, rfl⟩
    · rintro ⟨k', h, e⟩; cases e; exact h
  have hnd : ks.Nodup := by
    have := pk.nodup_iff.mpr nd
    exact (List.pairwise_map.mp this).imp fun h e => h (by rw [e])
  have hkl : ks.length = n := by rw [← e1.length]; exact hvl
  have hz2 : vs.length ≤ sizeLine := by
    rw [hvl, ← hn]
    exact fits_of_scanBound hb
  refine wpAny_bind (wpAny_newList ?_ hz2)
  have hoL : (s1.heap.push (seqObj "list" vs.toArray 0)).get? s1.heap.objs.size = some (seqObj "list" vs.toArray 0) := Heap.get?_push_size _ rfl
  refine wpAny_bind (wpAny_holding (PySem.W.list_sort_data (s := { s1 with heap := s1.heap.push (seqObj "list" vs.toArray 0) }) (enc := enc) hoL e1 (PySem.W.EachIs.mono (fun v k h => ⟨[], hr _ k v h, by simp⟩) e1) ?_ (hsk ks fun k h => (hmem k).mp h) ?_ ?_ fun out ho' eo => ?_))
  · intro d hd d' hd'
    obtain ⟨k, hk, rfl⟩ := List.mem_map.mp hd
    obtain ⟨k', hk', rfl⟩ := List.mem_map.mp hd'
    exact hal k k' ((hmem k).mp hk) ((hmem k').mp hk')
  · rw [hkl, ← hn]; exact fits_of_scanBound hb
  · intro k hk
    have := hu k ((hmem k).mp hk)
    show A.in1.units + 1 + _ < _
    have e : A.in1.units = A.units + 1 := rfl
    omega
  obtain ⟨c, hc⟩ := sortedHeap_at (vs := vs) (out := out.toArray) hoL
  refine wpAny_pure ⟨_, rfl, hQ _ s1.heap.objs.size out c ks (fun b u e => ?_) g1 o1 hz hc hnd hmem hkl eo⟩
  have q := k1 b u e
  have hlt := Heap.lt_size q
  show (sortedHeap (s1.heap.push (seqObj "list" vs.toArray 0)) s1.heap.objs.size vs out.toArray).get? b = some u
  rw [sortedHeap_old (Nat.ne_of_lt hlt) (by rw [size_push']; exact Nat.lt_succ_of_lt hlt)]
  exact Heap.get?_push_of_some _ q
end
end SQ

set_option Elab.async false
set_option linter.all false
set_option maxRecDepth 100000
set_option maxHeartbeats 4000000
/-! sorted, sorted(set). -/
namespace Dy
open PySem PySem.Spec PyProof.Rows L2
open PySem.W (alike dataLe Sortable AllAlike EachIs keyToks)

/-! ### the order of data -/
def leS : D → D → Bool := dataLe false id
def sortL (ds : List D) : List D := ds.mergeSort leS
theorem leS_trans {a b c : D} (h1 : leS a b = true) (h2 : leS b c = true) : leS a c = true := (PySem.W.sortLe_total (PyProof.Rows.listOrd PyProof.Rows.itemOrd) false fun b : D => keyToks (id b)).trans _ _ _ h1 h2
theorem leS_total (a b : D) : leS a b = true ∨ leS b a = true := (PySem.W.sortLe_total (PyProof.Rows.listOrd PyProof.Rows.itemOrd) false fun b : D => keyToks (id b)).total _ _
theorem leS_anti {a b : D} (h1 : leS a b = true) (h2 : leS b a = true) : keyToks a = keyToks b := by
  have h1 : (!PyProof.Rows.lexLt PyProof.Rows.itemOrd (keyToks b) (keyToks a)) = true := h1
  have h2 : (!PyProof.Rows.lexLt PyProof.Rows.itemOrd (keyToks a) (keyToks b)) = true := h2
  rw [Bool.not_eq_true'] at h1 h2
  exact (PyProof.Rows.listOrd PyProof.Rows.itemOrd).total _ _ h2 h1
theorem sortL_perm (ds : List D) : (sortL ds).Perm ds := List.mergeSort_perm _ _
theorem sortL_sorted (ds : List D) : (sortL ds).Pairwise fun a b => leS a b = true := PySem.W.sort_pairwise (PySem.W.sortLe_total (PyProof.Rows.listOrd PyProof.Rows.itemOrd) false fun b : D => keyToks (id b)) ds
/-- the sorted list is one -/
theorem sortL_unique {as bs : List D} (hp : as.Perm bs) (hs : as.Pairwise fun a b => leS a b = true) (hi : ∀ a ∈ as, ∀ b ∈ as, keyToks a = keyToks b → a = b) : as = sortL bs :=
  List.Perm.eq_of_pairwise (le := fun a b => leS a b = true) (fun a b ha hb h1 h2 => hi a ha b ((hp.trans (sortL_perm bs).symm).mem_iff.mpr hb) (leS_anti h1 h2)) hs (sortL_sorted bs) (hp.trans (sortL_perm bs).symm)

/-! ### sorted(list) -/
def alikeB (ds : List D) : Bool := ds.all fun x => ds.all fun y => alike x y
def sortableB (ds : List D) : Bool := (ds.all fun d => match d with | .tuple (_ :: _) => true | _ => false) || ds.all fun d => match d with | .none => false | .tuple _ => false | _ => true
theorem alikeB_ok {ds : List D} (h : alikeB ds = true) : AllAlike (ds.map id) := by
  rw [List.map_id]
  unfold alikeB at h
  intro x hx y hy
  exact List.all_eq_true.mp (List.all_eq_true.mp h x hx) y hy
theorem sortableB_ok {ds : List D} (h : sortableB ds = true) : Sortable (ds.map id) := by
  rw [List.map_id]
  unfold sortableB at h
  rcases Bool.or_eq_true_iff.mp h with h | h
  · refine .inl fun d hd => ?_
    have := List.all_eq_true.mp h d hd
    split at this
    · exact ⟨_, _, rfl⟩
    · cases this
  · refine .inr fun d hd => ?_
    have := List.all_eq_true.mp h d hd
    split at this
    · cases this
    · cases this
    · rename_i h1 h2
      exact ⟨h1, h2⟩
def depthB (ds : List D) : Bool := ds.all fun d => decide (d.depth ≤ 90)
def sortOkB (ds : List D) : Bool := alikeB ds && sortableB ds && depthB ds && lenOk ds && ds.all SeqAt.shaped
def sortD : D → Option D
  | .list ds => if sortOkB ds then some (.list (sortL ds)) else none
  | _ => none
def rSortD (K : PySem.W.Frag) : List V → Hp → VK → Prop := fun vs H Q => ∃ (a : Addr) (bs : List (V × D)), vs = [V.ref a] ∧ SqL K H a (bs.map (·.1)) ∧ (∀ b ∈ bs, Dp K H b.1 b.2) ∧ sortOkB (bs.map (·.2)) = true ∧
  ∀ p, H p = none → Q (.ref p) (upd H p (.lst ((bs.mergeSort (dataLe false (·.2))).map (·.1))))
theorem eachIs_of {α β γ : Type} {R : α → β → Prop} {f : γ → α} {g : γ → β} : ∀ {l : List γ}, (∀ x ∈ l, R (f x) (g x)) → EachIs R (l.map f) (l.map g)
  | [], _ => .nil
  | x :: l, h => .cons (h x (by simp)) (eachIs_of fun y hy => h y (by simp [hy]))
theorem vals_each {β : Type} {f : β → V} : ∀ {bs : List β} {us : List Value}, Vals (bs.map f) us → EachIs (fun u b => RelV (f b) u) us bs
  | [], _, h => by cases h; exact .nil
  | b :: bs, _, h => by
    cases h with
    | cons r t => exact .cons r (vals_each t)
theorem each_vals {β : Type} {f : β → V} : ∀ {bs : List β} {us : List Value}, EachIs (fun u b => RelV (f b) u) us bs → Vals (bs.map f) us
  | _, _, .nil => .nil
  | _, _, .cons r t => .cons r (each_vals t)
theorem cr_sortD {X : Cx} (hu : Ur X) : CallR X (.builtin "sorted") (rSortD X.K) := by
  intro pins s σ H vs us Q I r h
  obtain ⟨a, bs, rfl, hs, hd, ho, q⟩ := h
  obtain rfl := Vals.ref1 r
  obtain ⟨its, rv, hl, hz⟩ := I.list hs
  have hv : EachIs (fun u b => RelV b.1 u) its bs := vals_each rv
  have hbs : bs.length ≤ sizeLine := by rw [← List.length_map (f := (·.1))]; exact hz
  simp only [sortOkB, Bool.and_eq_true] at ho
  obtain ⟨⟨⟨⟨h1, h2⟩, h3⟩, h4⟩, h5⟩ := ho
  have hal := alikeB_ok h1
  have hsk := sortableB_ok h2
  rw [List.map_id] at hal hsk
  refine PySem.W.sorted_data (enc := fun b : V × D => b.2) (R := fun u b => RelV b.1 u) hl.isList hv ?_ hal hsk hbs (fun b hb => ?_) fun out ho eo => ?_
  · have : EachIs (fun u b => RelV b.1 u ∧ b ∈ bs) its bs := PySem.W.each_mem hv
    exact PySem.W.EachIs.mono (fun u b ⟨r, hb⟩ => (hd b hb).reads I _ _ _ r) this
  · have z := of_decide_eq_true (List.all_eq_true.mp h3 b.2 (List.mem_map.mpr ⟨b, hb, rfl⟩))
    have z2 : X.A.units + 100 < cLine := hu
    omega
  · have rv2 := each_vals (f := fun b : V × D => b.1) eo
    obtain ⟨ep, he'⟩ := PyProof.Rows.sortedAll_at s.heap its out.toArray
    have hlen : ((bs.mergeSort (dataLe false fun b : V × D => b.2)).map (·.1)).length ≤ sizeLine := by rw [List.length_map, List.length_mergeSort]; exact hbs
    exact ⟨.ref _, upd H (s.heap.objs.size + 1) (.lst ((bs.mergeSort (dataLe false fun b : V × D => b.2)).map (·.1))), I.laid (t' := s.toks) (fun _ _ => PyProof.Rows.sortedAll_old) (Nat.le_succ _) ⟨hlen, _, ep, rv2, by simpa using he'⟩, rfl, q _ (I.hok.fresh (Nat.le_succ _))⟩
theorem RpA.zip {hd : Option Addr} {G : Hp} : ∀ {xs : List V} {ds : List D}, RpA hd G xs ds → ∃ bs : List (V × D), bs.map (·.1) = xs ∧ bs.map (·.2) = ds ∧ ∀ b ∈ bs, Rp hd G b.1 b.2
  | _, [], h => by cases h; exact ⟨[], rfl, rfl, by simp⟩
  | _, d :: ds, h => by
    cases h with
    | cons h r =>
      obtain ⟨bs, h1, h2, h3⟩ := RpA.zip r
      exact ⟨(_, d) :: bs, by rw [List.map_cons, h1], by rw [List.map_cons, h2], fun b hb => by
        rcases List.mem_cons.mp hb with e | e
        · rw [e]; exact h
        · exact h3 b e⟩
theorem RpA.unzip {hd : Option Addr} {G : Hp} : ∀ (bs : List (V × D)), (∀ b ∈ bs, Rp hd G b.1 b.2) → RpA hd G (bs.map (·.1)) (bs.map (·.2))
  | [], _ => .nil
  | b :: bs, h => .cons (h b (by simp)) (RpA.unzip bs fun c hc => h c (by simp [hc]))
theorem r_sort {K : PySem.W.Frag} : R1O (rSortD K) sortD := by
  intro Γ G H s x dx d Q o bx e k
  cases dx with
  | list ds =>
    simp only [sortD] at e
    split at e
    · rename_i hok
      cases e
      obtain ⟨a, xs, rfl, hH, r⟩ := bx.list o
      obtain ⟨bs, rfl, rfl, hb⟩ := r.zip
      refine ⟨a, bs, rfl, SqL.of hH, fun b hb' => Rp.dp _ (Rp.mono o.gh _ (hb b hb')) ?_, hok, fun p hp => ?_⟩
      · simp only [sortOkB, Bool.and_eq_true] at hok
        exact SeqAt.canLay_of_shaped (List.all_eq_true.mp hok.2 b.2 (List.mem_map.mpr ⟨b, hb', rfl⟩))
      · refine finLO (ds := sortL (bs.map (·.2))) k o ?_ hp
        have e : sortL (bs.map (·.2)) = (bs.mergeSort (dataLe false (·.2))).map (·.2) := by
          unfold sortL
          exact (List.map_mergeSort (f := fun b : V × D => b.2) (r := dataLe false fun b : V × D => b.2) (s := leS) (l := bs) fun a _ b _ => rfl).symm
        rw [e]
        exact RpA.unzip _ fun b hb' => hb b (List.mem_mergeSort.mp hb')
    · cases e
  | _ => cases e
section
variable {X : Cx} {W : WX} {e : Expr} {f : M D} {p pos : Pos}
theorem do_sorted (hu : Ur X) (hm : X.mg "sorted" = none) (ha : PE X e (tB X.mg W f)) (hg : Gl X "sorted" := by rfl)
    (he : starEach [e] X.env = (false, eval e X.env) :: starEach [] X.env := by rfl) (hpl : (backTo pos (starEach [] X.env)).any (·.1) = false := by rfl) : PE X (.Call (.Name "sorted" p) [e] [] pos) (tO X.mg W (call1 sortD f)) :=
  do_b1 (cr_sortD hu) r_sort hg hm (by rfl) ha (by decide) (by decide) he hpl
end
end Dy

set_option Elab.async false
set_option linter.all false
set_option maxRecDepth 100000
set_option maxHeartbeats 4000000
/-! sorted(set(..)) of texts, of ints. -/
namespace Dy
open PySem PySem.Spec PyProof.Rows L2
open PySem.W (alike dataLe Sortable AllAlike EachIs keyToks)

/-- a kind of keys over the layer -/
structure Kd {P : Program} {w : World} {K : Type} [DecidableEq K] [BEq K] [LawfulBEq K] (knd : PySem.KeyKind P w K) (toV' : K → V) (enc : K → D) : Prop where
  is_of : ∀ k u, RelV (toV' k) u → knd.is k u = true ∧ u.scannable = true
  rel : ∀ k u, knd.is k u = true → RelV (toV' k) u
  reads : ∀ (h : Heap) (k : K) (v : Value), knd.is k v = true → PySem.Reads h v (enc k) []
  al : ∀ k k', alike (enc k) (enc k') = true
  sortable : ∀ ks : List K, Sortable (ks.map enc)
  dep : ∀ k, (enc k).depth ≤ 1
  inj : ∀ k k', keyToks (enc k) = keyToks (enc k') → k = k'
  rp : ∀ hd G k, Rp hd G (toV' k) (enc k)
theorem kd_str {P : Program} {w : World} : Kd (PySem.strKind P w) V.str PyData.str where
  is_of := fun k u ⟨t, e⟩ => by subst e; exact ⟨by simp [PySem.strKind, Value.isStrOf], rfl⟩
  rel := fun k u h => by obtain ⟨t, e⟩ := Value.isStrOf_shape h; exact ⟨t, e⟩
  reads := fun h k v hv => by obtain ⟨t, rfl⟩ := Value.isStrOf_shape hv; exact .str k t
  al := fun _ _ => rfl
  sortable := fun ks => .inr fun d hd => by
    obtain ⟨k, _, rfl⟩ := List.mem_map.mp hd
    exact ⟨by simp, by simp⟩
  dep := fun k => by simp [PyData.depth]
  inj := fun k k' h => by
    have h2 : [(Sum.inr k.cps.toList : Int ⊕ List Nat)] = [Sum.inr k'.cps.toList] := h
    have h3 : k.cps.toList = k'.cps.toList := by simpa using h2
    exact PySem.W.str_of_cps h3
  rp := fun _ _ k => .str k
theorem kd_int {P : Program} {w : World} : Kd (PySem.intKind P w) V.int PyData.int where
  is_of := fun k u ⟨t, e⟩ => by subst e; exact ⟨PySem.intKind_is P w k t, rfl⟩
  rel := fun k u h => by obtain ⟨t, e⟩ := Value.isInt_shape h; exact ⟨t, e⟩
  reads := fun h k v hv => by obtain ⟨t, rfl⟩ := Value.isInt_shape hv; exact .int k t
  al := fun _ _ => rfl
  sortable := fun ks => .inr fun d hd => by
    obtain ⟨k, _, rfl⟩ := List.mem_map.mp hd
    exact ⟨by simp, by simp⟩
  dep := fun k => by simp [PyData.depth]
  inj := fun k k' h => by
    have h2 : [(Sum.inl k : Int ⊕ List Nat)] = [Sum.inl k'] := h
    simpa using h2
  rp := fun _ _ k => .int k

/-- the set at a -/
def SetHO {P : Program} {w : World} {K : Type} [DecidableEq K] [BEq K] [LawfulBEq K] (knd : PySem.KeyKind P w K) (a : Addr) (S : K → Prop) (n : Nat) : HO := .ext fun h => SQ.SetQ knd h a S n
section
variable {X : Cx} {K : Type} [DecidableEq K] [BEq K] [LawfulBEq K]
theorem setHO_new {P : Program} {w : World} {knd : PySem.KeyKind P w K} {H : Hp} {h : Heap} {a : Addr} {S : K → Prop} {n : Nat} (R : SQ.SetQ knd h a S n) : ObjOk P w H h a (SetHO knd a S n) := by
  have ⟨o, _, _, _, ho, _⟩ := R
  exact ⟨R, ⟨o, ho⟩, fun h1 h2 p k => SQ.SetQ.at p k⟩
theorem setHO_get {knd : PySem.KeyKind X.prog X.w K} {pins : List (Addr × Obj)} {σ : L2.St} {H : Hp} {s : Shared} {a : Addr} {S : K → Prop} {n : Nat} (I : Inv X pins σ H s) (ha : H a = some (SetHO knd a S n)) : SQ.SetQ knd s.heap a S n := (I.hok a _ ha).1
def rSetMk (Kf : PySem.W.Frag) {P : Program} {w : World} (knd : PySem.KeyKind P w K) (toV' : K → V) : List V → Hp → VK → Prop := fun xs H Q => ∃ (l : Addr) (ks : List K), xs = [V.ref l] ∧ (SqL Kf H l (ks.map toV') ∨ SqT Kf H l (ks.map toV')) ∧ ks.length ≤ 4000 ∧
  ∀ a n, H a = none → n ≤ ks.length → Q (.ref a) (upd H a (SetHO knd a (fun k => k ∈ ks) n))
theorem each_at {R : Value → K → Prop} : ∀ {us : List Value} {ks : List K}, EachIs R us ks → ∀ (i : Nat) (v : Value), us[i]? = some v → ∃ k, ks[i]? = some k ∧ R v k
  | _, _, .nil, _, _, h => by simp at h
  | _, _, .cons r t, 0, _, h => by simp at h; subst h; exact ⟨_, rfl, r⟩
  | _, _, .cons r t, i + 1, v, h => by simpa using each_at t i v (by simpa using h)
theorem cr_setMk {knd : PySem.KeyKind X.prog X.w K} {toV' : K → V} {enc : K → D} (hc : X.calm = true) (kd : Kd knd toV' enc) : CallR X (.type "set") (rSetMk X.K knd toV') := by
  intro pins s σ H xs us Q I r h
  obtain ⟨l, ks, rfl, hl, hz, q⟩ := h
  obtain rfl := Vals.ref1 r
  have hn : H s.heap.objs.size = none := I.hok.fresh (Nat.le_refl _)
  have key : ∀ {its : List Value}, Vals (ks.map toV') its → ks.length = its.length ∧ ∀ (i : Nat) (v : Value), its.toArray[i]? = some v → ∃ k, ks[i]? = some k ∧ knd.is k v = true ∧ v.scannable = true := fun {its} rv => by
    refine ⟨by rw [← rv.length, List.length_map], fun i v hv => ?_⟩
    obtain ⟨k, h1, h2⟩ := each_at (vals_each rv) i v (by simpa using hv)
    exact ⟨k, h1, kd.is_of k v h2⟩
  have fin : ∀ (h' : Heap) (tk m : Nat), m ≤ ks.length → SQ.SetQ knd h' s.heap.objs.size (fun k => k ∈ ks) m → (∀ b o, b < s.heap.objs.size → s.heap.get? b = some o → h'.get? b = some o) → EP X pins σ Q (.ref s.heap.objs.size) { s with heap := h', toks := tk } := fun h' tk m hm R k =>
    ⟨.ref s.heap.objs.size, upd H s.heap.objs.size (SetHO knd s.heap.objs.size (fun k => k ∈ ks) m), I.laid (t' := tk) (fun b o e => k b o (Heap.lt_size e) e) (Nat.le_refl _) (setHO_new R), rfl, q _ m hn hm⟩
  rcases hl with hl | hl
  · obtain ⟨its, rv, pl, hz2⟩ := I.list hl
    obtain ⟨e1, e2⟩ := key rv
    refine SQ.call_set_list knd (ks := ks) (I.ok.hd hc) pl.isList (by simpa using e1) e2 (by simp only [List.size_toArray, ← e1]; unfold scanBound; omega) fun h' tk m hm R k => fin h' tk m (by rw [e1]; simpa using hm) R k
  · obtain ⟨its, rv, pl, hz2⟩ := I.tuple hl
    obtain ⟨e1, e2⟩ := key rv
    refine SQ.call_set_tuple knd (ks := ks) (I.ok.hd hc) (show s.heap.IsTuple l its.toArray from pl) (by simpa using e1) e2 (by simp only [List.size_toArray, ← e1]; unfold scanBound; omega) fun h' tk m hm R k => fin h' tk m (by rw [e1]; simpa using hm) R k
def rSortSet {P : Program} {w : World} (knd : PySem.KeyKind P w K) (toV' : K → V) (enc : K → D) : List V → Hp → VK → Prop := fun vs H Q => ∃ (a : Addr) (S : K → Prop) (n : Nat), vs = [V.ref a] ∧ H a = some (SetHO knd a S n) ∧ n ≤ 4000 ∧
  ∀ (ks : List K) (p : Addr), ks.Nodup → (∀ k, k ∈ ks ↔ S k) → H p = none → Q (.ref p) (upd H p (.lst ((ks.mergeSort (dataLe false enc)).map toV')))
theorem cr_sortSet {knd : PySem.KeyKind X.prog X.w K} {toV' : K → V} {enc : K → D} (hc : X.calm = true) (hu : Ur X) (kd : Kd knd toV' enc) : CallR X (.builtin "sorted") (rSortSet knd toV' enc) := by
  intro pins s σ H vs us Q I r h
  obtain ⟨a, S, n, rfl, ha, hn, q⟩ := h
  have R := setHO_get I ha
  obtain rfl := Vals.ref1 r
  have hu2 : X.A.units + 100 < cLine := hu
  refine SQ.sorted_setQ knd (enc := enc) R (I.ok.hd hc) (fun k _ => by have := kd.dep k; omega) kd.reads (fun k k' _ _ => kd.al k k') (fun ks _ => kd.sortable ks) fun s' p out c ks k g o hp hg hnd hm hl eo => ?_
  have hlen : ((ks.mergeSort (dataLe false enc)).map toV').length ≤ sizeLine := by rw [List.length_map, List.length_mergeSort, hl, sizeLine_eq]; omega
  have hn' : H p = none := I.hok.fresh hp
  have rv : Vals ((ks.mergeSort (dataLe false enc)).map toV') out := each_vals (PySem.W.EachIs.mono (fun u k h => kd.rel k u h) eo)
  have J : Inv X pins σ (upd H p (.lst ((ks.mergeSort (dataLe false enc)).map toV'))) { s with heap := s'.heap, gens := s'.gens, drawn := s'.drawn, toks := s'.toks } :=
    I.call (ch := []) (Un.laid k hp hn') (I.hok.laid k hp ⟨hlen, out, c, rv, hg⟩) (by rw [g]; exact I.bare) (fun _ z => nomatch z)
  have e : s' = { s with heap := s'.heap, gens := s'.gens, drawn := s'.drawn, toks := s'.toks } := by
    cases s'
    cases s
    cases o
    rfl
  rw [e]
  exact ⟨.ref p, _, J, rfl, q ks p hnd hm hn'⟩
end

/-! ### as data -/
def strsOf : List D → Option (List Str)
  | [] => some []
  | .str x :: r => (strsOf r).map (x :: ·)
  | _ => none
theorem RpA.strs {hd : Option Addr} {G : Hp} : ∀ {xs : List V} {ds : List D} {bs : List Str}, RpA hd G xs ds → strsOf ds = some bs → xs = bs.map V.str ∧ ds = bs.map PyData.str
  | _, [], _, h, e => by cases h; cases e; exact ⟨rfl, rfl⟩
  | _, d :: ds, bs, h, e => by
    cases h with
    | cons h r =>
      cases d with
      | str x =>
        simp only [strsOf, Option.map_eq_some_iff] at e
        obtain ⟨cs, h1, rfl⟩ := e
        obtain ⟨e1, e2⟩ := RpA.strs r h1
        cases h
        exact ⟨by rw [e1]; rfl, by rw [e2]; rfl⟩
      | _ => cases e
theorem RpA.ints2 {hd : Option Addr} {G : Hp} : ∀ {xs : List V} {ds : List D} {bs : List Int}, RpA hd G xs ds → intsOf ds = some bs → xs = bs.map V.int ∧ ds = bs.map PyData.int
  | _, [], _, h, e => by cases h; cases e; exact ⟨rfl, rfl⟩
  | _, d :: ds, bs, h, e => by
    cases h with
    | cons h r =>
      cases d with
      | int x =>
        simp only [intsOf, Option.map_eq_some_iff] at e
        obtain ⟨cs, h1, rfl⟩ := e
        obtain ⟨e1, e2⟩ := RpA.ints2 r h1
        cases h
        exact ⟨by rw [e1]; rfl, by rw [e2]; rfl⟩
      | _ => cases e
/-- each once, the first kept -/
def once {K : Type} [DecidableEq K] (l : List K) : List K := l.foldl (fun acc k => if k ∈ acc then acc else acc ++ [k]) []
theorem once_go {K : Type} [DecidableEq K] : ∀ (l acc : List K), acc.Nodup → (l.foldl (fun acc k => if k ∈ acc then acc else acc ++ [k]) acc).Nodup ∧ ∀ k, k ∈ l.foldl (fun acc k => if k ∈ acc then acc else acc ++ [k]) acc ↔ k ∈ acc ∨ k ∈ l
  | [], acc, h => ⟨h, fun k => by simp⟩
  | x :: l, acc, h => by
    rw [List.foldl_cons]
    by_cases hx : x ∈ acc
    · rw [if_pos hx]
      obtain ⟨h1, h2⟩ := once_go l acc h
      refine ⟨h1, fun k => (h2 k).trans ?_⟩
      constructor
      · rintro (a | a)
        · exact .inl a
        · exact .inr (List.mem_cons_of_mem _ a)
      · rintro (a | a)
        · exact .inl a
        · rcases List.mem_cons.mp a with e | e
          · exact .inl (e ▸ hx)
          · exact .inr e
    · rw [if_neg hx]
      obtain ⟨h1, h2⟩ := once_go l (acc ++ [x]) (by
        rw [List.nodup_append]
        refine ⟨h, by simp, fun a ha b hb e => hx ?_⟩
        simp at hb
        subst hb
        exact e ▸ ha)
      refine ⟨h1, fun k => (h2 k).trans ?_⟩
      simp only [List.mem_append, List.mem_cons, List.not_mem_nil, or_false, or_assoc]
theorem once_nodup {K : Type} [DecidableEq K] (l : List K) : (once l).Nodup := (once_go l [] List.nodup_nil).1
theorem mem_once {K : Type} [DecidableEq K] {l : List K} {k : K} : k ∈ once l ↔ k ∈ l := by
  have := (once_go l [] List.nodup_nil).2 k
  unfold once
  rw [this]; simp
def sortSetL (ds : List D) : Option D := if decide (ds.length ≤ 4000) then (match strsOf ds with
    | some ys => some (.list (sortL ((once ys).map PyData.str)))
    | none => match intsOf ds with
      | some ys => some (.list (sortL ((once ys).map PyData.int)))
      | none => none) else none
def sortSetD : D → Option D
  | .list ds => sortSetL ds
  | .tuple ds => sortSetL ds
  | _ => none
/-- sorted(set(..)) -/
theorem sorted_once {P : Program} {w : World} {K : Type} [DecidableEq K] [BEq K] [LawfulBEq K] {knd : PySem.KeyKind P w K} {toV' : K → V} {enc : K → D} (kd : Kd knd toV' enc) {ys ks : List K} (hnd : ks.Nodup) (hm : ∀ k, k ∈ ks ↔ k ∈ ys) : (ks.mergeSort (dataLe false enc)).map enc = sortL ((once ys).map enc) := by
  have e : (ks.mergeSort (dataLe false enc)).map enc = sortL (ks.map enc) := List.map_mergeSort (f := enc) (r := dataLe false enc) (s := leS) (l := ks) fun a _ b _ => rfl
  rw [e]
  have pm : ks.Perm (once ys) := (List.perm_ext_iff_of_nodup hnd (once_nodup ys)).mpr fun k => (hm k).trans mem_once.symm
  refine sortL_unique ((sortL_perm _).trans (pm.map enc)) (sortL_sorted _) fun a ha b hb h => ?_
  obtain ⟨k, _, rfl⟩ := List.mem_map.mp ((sortL_perm _).mem_iff.mp ha)
  obtain ⟨k', _, rfl⟩ := List.mem_map.mp ((sortL_perm _).mem_iff.mp hb)
  rw [kd.inj k k' h]
section
variable {X : Cx} {W : WX} {e : Expr} {f : M D} {p p2 pos pos2 : Pos}
/-- what set(..) leaves, between -/
def tSet (mg : Str → Option Value) (W : WX) (Kf : PySem.W.Frag) (P : Program) (w : World) (f : M D) : TE := fun σ H Q => tB mg W f σ H fun v H1 => rSetMk Kf (PySem.strKind P w) V.str [v] H1 Q ∨ rSetMk Kf (PySem.intKind P w) V.int [v] H1 Q
theorem do_sortset (hc : X.calm = true) (hu : Ur X) (hm : X.mg "sorted" = none) (hms : X.mg "set" = none) (ha : PE X e (tB X.mg W f)) (hg : Gl X "sorted" := by rfl) (hgs : Gl X "set" := by rfl)
    (he : starEach [e] X.env = (false, eval e X.env) :: starEach [] X.env := by rfl) (hpl : (backTo pos2 (starEach [] X.env)).any (·.1) = false := by rfl)
    (he2 : starEach [.Call (.Name "set" p2) [e] [] pos2] X.env = (false, eval (.Call (.Name "set" p2) [e] [] pos2) X.env) :: starEach [] X.env := by rfl) (hpl2 : (backTo pos (starEach [] X.env)).any (·.1) = false := by rfl) :
    PE X (.Call (.Name "sorted" p) [.Call (.Name "set" p2) [e] [] pos2] [] pos) (tO X.mg W (call1 sortSetD f)) := by
  have h1 : PE X (.Call (.Name "set" p2) [e] [] pos2) (tCB (fun xs H Q => rSetMk X.K (PySem.strKind X.prog X.w) V.str xs H Q ∨ rSetMk X.K (PySem.intKind X.prog X.w) V.int xs H Q) (tCons (tB X.mg W f) tNil)) :=
    pe_callTy (fun pins s σ H xs us Q I r h => h.elim (cr_setMk hc kd_str pins s σ H xs us Q I r) (cr_setMk hc kd_int pins s σ H xs us Q I r)) hgs hms (by rfl) (pa_cons ha pa_nil he) (by decide) (by decide) he hpl
  refine (pe_callB (r := fun xs H Q => rSortSet (PySem.strKind X.prog X.w) V.str PyData.str xs H Q ∨ rSortSet (PySem.intKind X.prog X.w) V.int PyData.int xs H Q)
    (fun pins s σ H xs us Q I r h => h.elim (cr_sortSet hc hu kd_str pins s σ H xs us Q I r) (cr_sortSet hc hu kd_int pins s σ H xs us Q I r)) hg hm (by rfl) (pa_cons h1 pa_nil he2) (by decide) (by decide) he2 hpl2).imp fun σ H Q ⟨Γ, B, G0, G, ρ, s, R, h⟩ => ?_
  refine ⟨Γ, B, G0, G, ρ, s, R, h.bind.imp fun d s1 h1 v G1 H1 t1 o1 b1 => ?_⟩
  obtain ⟨d', hd, k0⟩ := h1.ofO
  have seq : ∀ ds, (d = .list ds ∨ d = .tuple ds) → ∃ l xs, v = .ref l ∧ (SqL X.K H1 l xs ∨ SqT X.K H1 l xs) ∧ RpA Γ.hd G1 xs ds := fun ds e => by
    rcases e with e | e
    · subst e
      obtain ⟨a, xs, h1, h2, h3⟩ := b1.list o1
      exact ⟨a, xs, h1, .inl (SqL.of h2), h3⟩
    · subst e
      obtain ⟨a, xs, h1, h2, h3, h4⟩ := b1.tup o1
      exact ⟨a, xs, h1, .inr (SqT.of h3), h4⟩
  have main : ∀ ds, (d = .list ds ∨ d = .tuple ds) → sortSetL ds = some d' → (rSetMk X.K (PySem.strKind X.prog X.w) V.str [v] H1 fun v2 H2 => rSortSet (PySem.strKind X.prog X.w) V.str PyData.str [v2] H2 Q ∨ rSortSet (PySem.intKind X.prog X.w) V.int PyData.int [v2] H2 Q) ∨
      (rSetMk X.K (PySem.intKind X.prog X.w) V.int [v] H1 fun v2 H2 => rSortSet (PySem.strKind X.prog X.w) V.str PyData.str [v2] H2 Q ∨ rSortSet (PySem.intKind X.prog X.w) V.int PyData.int [v2] H2 Q) := fun ds e hs => by
    obtain ⟨l, xs, rfl, hsq, r⟩ := seq ds e
    have fin : ∀ {a : Addr} {o : HO} {p : Addr} {vs : List V} {es : List D}, H1 a = none → d' = .list es → (upd H1 a o) p = none → RpA Γ.hd G1 vs es → Q (.ref p) (upd (upd H1 a o) p (.lst vs)) := fun {a o p vs es} hn e hp rr => by
      subst e
      have o2 := o1.newO (o := o) hn
      refine k0 p G1 _ ((t1.trans (Step.newO hn) o2.gm).trans (Step.newO hp) o2.gm) (o2.newO hp) ?_ (o2.gfree hp) (by rw [upd_same]; exact rr)
      have hp1 : H1 p = none := by
        by_cases e : p = a
        · rw [e]; exact hn
        · rw [upd_ne e] at hp; exact hp
      cases q : H p with
      | none => rfl
      | some u => rw [t1.keep p u q (o1.nmut hp1)] at hp1; cases hp1
    unfold sortSetL at hs
    split at hs
    · rename_i hl
      have hl := of_decide_eq_true hl
      cases q : strsOf ds with
      | some ys =>
        rw [q] at hs
        cases hs
        obtain ⟨rfl, rfl⟩ := r.strs q
        rw [List.length_map] at hl
        refine .inl ⟨l, ys, rfl, hsq, hl, fun a n hn hle => .inl ⟨a, _, n, rfl, upd_same, by omega, fun ks p hnd hm hp => fin hn rfl hp ?_⟩⟩
        rw [← sorted_once (kd_str (P := X.prog) (w := X.w)) hnd hm]
        generalize ks.mergeSort (dataLe false PyData.str) = zs
        induction zs with
        | nil => exact .nil
        | cons z zs ih => exact .cons (.str z) ih
      | none =>
        rw [q] at hs
        cases q2 : intsOf ds with
        | some ys =>
          rw [q2] at hs
          cases hs
          obtain ⟨rfl, rfl⟩ := r.ints2 q2
          rw [List.length_map] at hl
          refine .inr ⟨l, ys, rfl, hsq, hl, fun a n hn hle => .inr ⟨a, _, n, rfl, upd_same, by omega, fun ks p hnd hm hp => fin hn rfl hp ?_⟩⟩
          rw [← sorted_once (kd_int (P := X.prog) (w := X.w)) hnd hm]
          generalize ks.mergeSort (dataLe false PyData.int) = zs
          induction zs with
          | nil => exact .nil
          | cons z zs ih => exact .cons (.int z) ih
        | none => rw [q2] at hs; cases hs
    · cases hs
  show rSetMk _ _ _ _ _ _ ∨ rSetMk _ _ _ _ _ _
  cases d with
  | list ds => exact main ds (.inl rfl) hd
  | tuple ds => exact main ds (.inr rfl) hd
  | _ => cases hd
end
end Dy

set_option Elab.async false
set_option linter.all false
set_option maxRecDepth 100000
set_option maxHeartbeats 4000000
/-! Globals; a, b = ..; x[i] = ..; comparisons in a row; list(range); xs[-2::-1]. -/
namespace Dy
open PySem PySem.Spec PyProof.Rows L2

/-! ### a module's constants -/
section
variable {X : Cx} {W : WX} {pos : Pos} {x : Str}
theorem de_gint {i : Int} (hm : ∃ t, X.mg x = some (.int i t)) (hg : Gl X x := by rfl) (hd : (x == ("__debug__" : Str)) = false := by decide) : PE X (.Name x pos) (tE X.mg W (retM (.int i))) := by
  obtain ⟨t, hm⟩ := hm
  exact de_c (pe_glob (v := .int i) hg hm ⟨t, rfl⟩ hd)
theorem de_gstr {z : Str} (hm : ∃ t, X.mg x = some (.str z t)) (hg : Gl X x := by rfl) (hd : (x == ("__debug__" : Str)) = false := by decide) : PE X (.Name x pos) (tE X.mg W (retM (.str z))) := by
  obtain ⟨t, hm⟩ := hm
  exact de_c (pe_glob (v := .str z) hg hm ⟨t, rfl⟩ hd)
end

/-! ### a, b = .. -/
def parS (i j : Nat) (fs : M (List D)) : MS := liftE fs fun ds ρ s => match ds with
  | [a, b] => .nx ((ρ.set i (.sh a)).set j (.sh b)) s
  | _ => .st
def parS3 (i j l : Nat) (fs : M (List D)) : MS := liftE fs fun ds ρ s => match ds with
  | [a, b, c] => .nx (((ρ.set i (.sh a)).set j (.sh b)).set l (.sh c)) s
  | _ => .st
def asgS (f : M D) (T : Tg) : MS := liftE f fun d ρ s => match T.f d ρ with
  | some ρ' => .nx ρ' s
  | none => .st
section
variable {X : Cx} {W : WX} {a b c tg e : Expr} {fs : M (List D)} {f : M D} {T : Tg} {i j l : Nat} {x y z : Str} {px py pz pt pos : Pos} {kt k2 : Nat} {pt2 : Pos}
theorem ds_par (hc : X.calm = true) (hN : X.N.Nodup) (hi : X.N[i]? = some x) (hj : X.N[j]? = some y) (hij : i ≠ j)
    (hx : X.env.scope.names.lookup x = some .local) (hy : X.env.scope.names.lookup y = some .local) (ha : PA X [a, b] (tAr X.mg W fs))
    (hw : swappedStores [.Tuple [.Name x px, .Name y py] kt pt] (.Tuple [a, b] k2 pt2) X.env = pure (some [x, y]))
    (hs : swapsWithSole [.Tuple [.Name x px, .Name y py] kt pt] (.Tuple [a, b] k2 pt2) pos.line X.env = pure false := by rfl) :
    PS X (.Assign [.Tuple [.Name x px, .Name y py] kt pt] (.Tuple [a, b] k2 pt2) pos) (tSt X.mg W (parS i j fs)) := (ps_par hc hN hi hj hij hx hy ha hw hs).imp fun E σ H ⟨Γ, B, G0, G, ρ, s, R, h⟩ =>
  ⟨Γ, B, G0, G, ρ, s, R, (PostS.lift R h).imp fun ds s1 h1 vs G1 H1 t1 o1 r1 => by
    rcases ds with _ | ⟨a, _ | ⟨b, _ | ⟨c, ds⟩⟩⟩
    · exact h1.elim
    · exact h1.elim
    · cases r1 with
      | cons ra r1 => cases r1 with
        | cons rb r1 =>
          cases r1
          exact ⟨_, _, rfl, h1 _ G1 H1 (((R.go t1 o1).set i ra).set j rb)⟩
    · exact h1.elim⟩
theorem ds_par3 (hc : X.calm = true) (hN : X.N.Nodup) (hi : X.N[i]? = some x) (hj : X.N[j]? = some y) (hl : X.N[l]? = some z) (hij : i ≠ j) (hil : i ≠ l) (hjl : j ≠ l)
    (hx : X.env.scope.names.lookup x = some .local) (hy : X.env.scope.names.lookup y = some .local) (hz : X.env.scope.names.lookup z = some .local) (ha : PA X [a, b, c] (tAr X.mg W fs))
    (hw : swappedStores [.Tuple [.Name x px, .Name y py, .Name z pz] kt pt] (.Tuple [a, b, c] k2 pt2) X.env = pure (some [x, y, z]))
    (hs : swapsWithSole [.Tuple [.Name x px, .Name y py, .Name z pz] kt pt] (.Tuple [a, b, c] k2 pt2) pos.line X.env = pure false := by rfl) :
    PS X (.Assign [.Tuple [.Name x px, .Name y py, .Name z pz] kt pt] (.Tuple [a, b, c] k2 pt2) pos) (tSt X.mg W (parS3 i j l fs)) := (ps_par3 hc hN hi hj hl hij hil hjl hx hy hz ha hw hs).imp fun E σ H ⟨Γ, B, G0, G, ρ, s, R, h⟩ =>
  ⟨Γ, B, G0, G, ρ, s, R, (PostS.lift R h).imp fun ds s1 h1 vs G1 H1 t1 o1 r1 => by
    rcases ds with _ | ⟨a, _ | ⟨b, _ | ⟨c, _ | ⟨d, ds⟩⟩⟩⟩
    · exact h1.elim
    · exact h1.elim
    · exact h1.elim
    · cases r1 with
      | cons ra r1 => cases r1 with
        | cons rb r1 => cases r1 with
          | cons rc r1 =>
            cases r1
            exact ⟨_, _, _, rfl, h1 _ G1 H1 ((((R.go t1 o1).set i ra).set j rb).set l rc)⟩
    · exact h1.elim⟩
theorem ds_asg (he : PE X e (tE X.mg W f)) (hg : PG X tg (tG T)) (hs : swapsWithSole [tg] e pos.line X.env = pure false := by rfl) (hw : swappedStores [tg] e X.env = pure none := by rfl)
    (h1 : (assignEach [tg] X.env).map (·.2) = [assign tg X.env] := by rfl) : PS X (.Assign [tg] e pos) (tSt X.mg W (asgS f T)) := (ps_asg he hg hs hw h1).imp fun E σ H ⟨Γ, B, G0, G, ρ, s, R, h⟩ =>
  ⟨Γ, B, G0, G, ρ, s, R, (PostS.lift R h).imp fun d s1 h1 v G1 H1 t1 o1 r1 => by
    have h1 : PostS X.mg W Γ B G0 E (match T.f d ρ with | some ρ' => .nx ρ' s1 | none => .st) := h1
    split at h1
    · rename_i ρ' q
      exact ⟨Γ, B, G0, G1, ρ, s1, d, ρ', R.go t1 o1, r1, q, fun σ' R' _ => h1 σ' G1 H1 R'⟩
    · exact h1.elim⟩
end

/-! ### own[i] = e -/
def setI (k : Nat) (fi f : M D) : MS := liftE f fun d ρ s => match ρ[k]? with
  | some (.pr (.list ds)) => liftE fi (fun ix ρ s => match ix with
    | .int i => (match ixN ds.length i with
      | some j => .nx (ρ.set k (.pr (.list (ds.set j d)))) s
      | none => .st)
    | _ => .st) ρ s
  | _ => .st
section
variable {X : Cx} {W : WX} {o i e : Expr} {fi f : M D} {k : Nat} {pos pos' : Pos}
theorem ds_setitem (ho : PE X o (tVar k)) (hi : PE X i (tE X.mg W fi)) (he : PE X e (tE X.mg W f))
    (ha : ∀ v, assign (.Subscript o i pos) X.env v = (do
      let ov ← holding [v] (eval o X.env)
      let iv ← holding [v, ov] (eval i X.env)
      standAt pos
      holding [v, ov, iv] (setItem ov iv v)
      release [v, ov, iv] []) := by intro _; rfl) (hs : swapsWithSole [.Subscript o i pos] e pos'.line X.env = pure false := by rfl) (hw : swappedStores [.Subscript o i pos] e X.env = pure none := by rfl)
    (h1 : (assignEach [.Subscript o i pos] X.env).map (·.2) = [assign (.Subscript o i pos) X.env] := by rfl) : PS X (.Assign [.Subscript o i pos] e pos') (tSt X.mg W (setI k fi f)) := (ps_asg he (pg_sub ho hi set_list ha) hs hw h1).imp fun E σ H ⟨Γ, B, G0, G, ρ, s, R, h⟩ =>
  ⟨Γ, B, G0, G, ρ, s, R, (PostS.lift R h).imp fun d s1 h1 v G1 H1 t1 o1 r1 => by
    have R1 := R.go t1 o1
    have h1 : PostS X.mg W Γ B G0 E (match ρ[k]? with
      | some (.pr (.list ds)) => liftE fi (fun ix ρ s => match ix with
        | .int i => (match ixN ds.length i with
          | some j => .nx (ρ.set k (.pr (.list (ds.set j d)))) s
          | none => .st)
        | _ => .st) ρ s1
      | _ => .st) := h1
    split at h1
    · rename_i ds hk
      obtain ⟨p, xs, k1, k2, k3⟩ := R1.own hk
      refine ⟨.ref p, k1, Γ, B, G0, G1, ρ, s1, R1, (PostS.lift R1 h1).imp fun ix s2 h2 vi G2 H2 t2 o2 r2 => ?_⟩
      have R2 := R1.go t2 o2
      obtain ⟨p', xs2, l1, l2, l3⟩ := R2.own hk
      rw [k1] at l1; cases l1
      cases ix with
      | int ii =>
        cases r2
        have h2 : PostS X.mg W Γ B G0 E (match ixN ds.length ii with
          | some j => .nx (ρ.set k (.pr (.list (ds.set j d)))) s2
          | none => .st) := h2
        split at h2
        · rename_i j hj
          refine ⟨p, xs2, ii, j, rfl, rfl, l2, by rw [l3.length]; exact hj, ?_⟩
          exact h2 σ G2 _ (R2.write (o := .lst (xs2.set j v)) hk k1 (RpA.set j (Rp.mono t2.ex _ r1) l3))
        · exact h2.elim
      | _ => exact h2.elim
    · exact h1.elim⟩
end

/-! ### a < b < c -/
def chainD (g g' : D → D → Option D) (fa fb fc : M D) : M D := bindM fa fun x => bindM fb fun y => bindM (ofO (g x y)) fun z => bindM (ofO (boolD z)) fun k => if k then bindM fc fun w => ofO (g' y w) else retM (.bool false)
section
variable {X : Cx} {W : WX} {a b c : Expr} {fa fb fc : M D} {g g' : D → D → Option D} {r r' : R2} {op op' : CmpOp} {pos : Pos} {mg : Str → Option Value}
theorem chain_t (hr : R2E r g) (hr' : R2E r' g') {σ : L2.St} {H : Hp} {Q : VK} : tE mg W (chainD g g' fa fb fc) σ H Q → tChain r r' (tB mg W fa) (tB mg W fb) (tB mg W fc) σ H Q := fun ⟨Γ, B, G0, G, ρ, s, R, h⟩ =>
  ⟨Γ, B, G0, G, ρ, s, R, h.bind.imp fun dx s1 h1 x G1 H1 t1 o1 b1 => ⟨Γ, B, G0, G1, ρ, s1, R.go t1 o1, (h1.bind.step t1).imp fun dy s2 h2 y G2 H2 t2 o2 b2 => by
    obtain ⟨z, hz, h3⟩ := h2.bind.ofO
    obtain ⟨k, hk, h4⟩ := h3.bind.ofO
    cases boolD_of hk
    refine hr Γ G2 H2 s2 x y dx dy _ _ o2 (b1.step t2) b2 hz fun v G3 H3 t3 o3 rv => ?_
    cases rv
    have t03 := t1.trans (t2.trans t3 o3.gm) o3.gm
    refine ⟨k, rfl, ?_⟩
    cases k with
    | true =>
      rw [if_pos rfl]
      have h4 : PostX mg W Γ G H σ _ (bindM fc (fun w => ofO (g' dy w)) ρ s2) := h4
      refine ⟨Γ, B, G0, G3, ρ, s2, R.go t03 o3, (h4.bind.step t03).imp fun dw s4 h5 w G4 H4 t4 o4 b4 => ?_⟩
      obtain ⟨d, hd, k5⟩ := h5.ofO
      exact hr' Γ G4 H4 s4 y w dy dw d Q o4 ((b2.step t3).step t4) b4 hd fun v G' H' t o rp => k5 v G' H' (t03.trans (t4.trans t o.gm) o.gm) o rp
    | false =>
      rw [if_neg (by simp)]
      exact h4 _ G3 H3 t03 o3 (.bl false)⟩⟩
theorem de_chain (ho : OpR X (compareOp op) r) (ho' : OpR X (compareOp op') r') (hr : R2E r g) (hr' : R2E r' g') (ha : PE X a (tB X.mg W fa)) (hb : PE X b (tB X.mg W fb)) (hc : PE X c (tB X.mg W fc))
    (hm : lastMarks [op, op'] [b, c] = false := by with_unfolding_all rfl) : PE X (.Compare a [op, op'] [b, c] pos) (tE X.mg W (chainD g g' fa fb fc)) := (pe_chain ho ho' ha hb hc hm).imp fun _ _ _ => chain_t hr hr'
theorem dt_chain (ho : OpR X (compareOp op) r) (ho' : OpR X (compareOp op') r') (hr : R2E r g) (hr' : R2E r' g') (ha : PE X a (tB X.mg W fa)) (hb : PE X b (tB X.mg W fb)) (hc : PE X c (tB X.mg W fc))
    (hm : lastMarks [op, op'] [b, c] = false := by with_unfolding_all rfl) : PT X (.Compare a [op, op'] [b, c] pos) (tT X.mg W (tstM (chainD g g' fa fb fc))) := (pt_chain ho ho' ha hb hc hm).imp fun _ _ _ => tTest_E fun _ _ _ => chain_t hr hr'
end

/-! ### list(range(..)) -/
def rgB (a b : Int) : Bool := decide (-(2 ^ 62) ≤ a) && decide (a < 2 ^ 62) && decide (-(2 ^ 62) ≤ b) && decide (b < 2 ^ 62) && decide ((b - a).toNat ≤ 2 ^ 24)
theorem rgB_ok {a b : Int} (h : rgB a b = true) : RgOk a b := by
  simp only [rgB, Bool.and_eq_true, decide_eq_true_eq] at h
  exact ⟨h.1.1.1.1, h.1.1.1.2, h.1.1.2, h.1.2, h.2⟩
theorem rgV_rp {hd : Option Addr} {G : Hp} (a b : Int) : RpA hd G (rgV a b) (rngL a (b - a).toNat) := by
  unfold rgV rngL
  generalize List.range (b - a).toNat = l
  induction l with
  | nil => exact .nil
  | cons x l ih => exact .cons (.int _) ih
def lrng1 : D → Option D
  | .int n => if rgB 0 n then some (.list (rngL 0 (n - 0).toNat)) else none
  | _ => none
def lrng2 : D → D → Option D
  | .int a, .int b => if rgB a b then some (.list (rngL a (b - a).toNat)) else none
  | _, _ => none
def trng1 : D → Option D
  | .int n => if rgB 0 n then some (.tuple (rngL 0 (n - 0).toNat)) else none
  | _ => none
section
variable {X : Cx} {W : WX} {a b : Expr} {fa fb : M D} {p p2 pos pos2 : Pos}
theorem do_lrng1 (hc : X.calm = true) (hml : X.mg "list" = none) (hmr : X.mg "range" = none) (ha : PE X a (tE X.mg W fa)) (hgl : Gl X "list" := by rfl) (hgr : Gl X "range" := by rfl)
    (na : starEach [a] X.env = (false, eval a X.env) :: starEach [] X.env := by rfl) (na2 : starEach [.Call (.Name "range" p2) [a] [] pos2] X.env = (false, eval (.Call (.Name "range" p2) [a] [] pos2) X.env) :: starEach [] X.env := by rfl) :
    PE X (.Call (.Name "list" p) [.Call (.Name "range" p2) [a] [] pos2] [] pos) (tO X.mg W (call1 lrng1 fa)) := (pe_listRg hc hgl hml (prg_1 hgr hmr ha na) na2).imp fun σ H Q ⟨Γ, B, G0, G, ρ, s, R, h⟩ =>
  ⟨Γ, B, G0, G, ρ, s, R, h.bind.imp fun d s1 h1 v G1 H1 t1 o1 r1 => by
    obtain ⟨d', hd, k⟩ := h1.ofO
    cases d with
    | int n =>
      cases r1
      simp only [lrng1] at hd
      split at hd
      · rename_i hz
        cases hd
        refine ⟨n, rfl, rgB_ok hz, fun q hq => k q _ _ (t1.trans (Step.newO hq) o1.gm) (o1.newO hq) ?_ (o1.gfree hq) (by rw [upd_same]; exact rgV_rp 0 n)⟩
        cases z : H q with
        | none => rfl
        | some u => rw [t1.keep q u z (o1.nmut hq)] at hq; cases hq
      · cases hd
    | _ => cases hd⟩
theorem do_lrng2 (hc : X.calm = true) (hml : X.mg "list" = none) (hmr : X.mg "range" = none) (ha : PE X a (tE X.mg W fa)) (hb : PE X b (tE X.mg W fb)) (hgl : Gl X "list" := by rfl) (hgr : Gl X "range" := by rfl)
    (na : starEach [a, b] X.env = (false, eval a X.env) :: starEach [b] X.env := by rfl) (nb : starEach [b] X.env = (false, eval b X.env) :: starEach [] X.env := by rfl) (hp : (backTo pos2 (starEach [b] X.env)).any (·.1) = false := by rfl)
    (na2 : starEach [.Call (.Name "range" p2) [a, b] [] pos2] X.env = (false, eval (.Call (.Name "range" p2) [a, b] [] pos2) X.env) :: starEach [] X.env := by rfl) :
    PE X (.Call (.Name "list" p) [.Call (.Name "range" p2) [a, b] [] pos2] [] pos) (tO X.mg W (binD lrng2 fa fb)) := (pe_listRg hc hgl hml (prg_2 hgr hmr ha hb na nb hp) na2).imp fun σ H Q ⟨Γ, B, G0, G, ρ, s, R, h⟩ =>
  ⟨Γ, B, G0, G, ρ, s, R, h.bind.imp fun d s1 h1 v G1 H1 t1 o1 r1 => ⟨Γ, B, G0, G1, ρ, s1, R.go t1 o1, (h1.bind.step t1).imp fun e s2 h2 u G2 H2 t2 o2 r2 => by
    obtain ⟨d', hd, k⟩ := h2.ofO
    have t12 := t1.trans t2 o2.gm
    cases d with
    | int m => cases e with
      | int n =>
        cases r1; cases r2
        simp only [lrng2] at hd
        split at hd
        · rename_i hz
          cases hd
          refine ⟨m, n, rfl, rfl, rgB_ok hz, fun q hq => k q _ _ (t12.trans (Step.newO hq) o2.gm) (o2.newO hq) ?_ (o2.gfree hq) (by rw [upd_same]; exact rgV_rp m n)⟩
          cases z : H q with
          | none => rfl
          | some u => rw [t12.keep q u z (o2.nmut hq)] at hq; cases hq
        · cases hd
      | _ => cases hd
    | _ => cases hd⟩⟩
theorem de_trng1 (hc : X.calm = true) (hml : X.mg "tuple" = none) (hmr : X.mg "range" = none) (ha : PE X a (tE X.mg W fa)) (hgl : Gl X "tuple" := by rfl) (hgr : Gl X "range" := by rfl)
    (na : starEach [a] X.env = (false, eval a X.env) :: starEach [] X.env := by rfl) (na2 : starEach [.Call (.Name "range" p2) [a] [] pos2] X.env = (false, eval (.Call (.Name "range" p2) [a] [] pos2) X.env) :: starEach [] X.env := by rfl) :
    PE X (.Call (.Name "tuple" p) [.Call (.Name "range" p2) [a] [] pos2] [] pos) (tE X.mg W (call1 trng1 fa)) := (pe_tupRg hc hgl hml (prg_1 hgr hmr ha na) na2).imp fun σ H Q ⟨Γ, B, G0, G, ρ, s, R, h⟩ =>
  ⟨Γ, B, G0, G, ρ, s, R, h.bind.imp fun d s1 h1 v G1 H1 t1 o1 r1 => by
    obtain ⟨d', hd, k⟩ := h1.ofO
    cases d with
    | int n =>
      cases r1
      simp only [trng1] at hd
      split at hd
      · rename_i hz
        cases hd
        exact ⟨n, rfl, rgB_ok hz, fun q hq => finT (fun v G' H' t o r => k v G' H' (t1.trans t o.gm) o r) o1 (rgV_rp 0 n) hq⟩
      · cases hd
    | _ => cases hd⟩
end

/-! ### xs[-2::-1] -/
theorem pick2 (items : Array Value) : slicePick items (some (-2)) none (some (-1)) = items.toList.dropLast.reverse.toArray := by
  have hb : sliceBounds (some (-2)) none (some (-1)) items.size = (((items.size - 1 : Nat) : Int) - 1, -1, -1) := by
    unfold sliceBounds
    simp only [Option.getD_some]
    by_cases h : items.size = 0
    · rw [h]; rfl
    · simp only [show ¬ ((-1 : Int) > 0) by decide, if_false, show ((-2 : Int) < 0) by decide, if_true]
      congr 1
      omega
  unfold slicePick
  rw [hb]
  show ((sliceRange (((items.size - 1 : Nat) : Int) - 1) (-1) (-1)).filterMap (items[·]?)).toArray = _
  rw [PySem.W.krv_sliceRange, PySem.W.krv_range, List.filterMap_reverse]
  congr 2
  have h := PySem.W.krv_all (items.toList.dropLast.toArray)
  have e : items.toList.dropLast.toArray.size = items.size - 1 := by simp
  rw [e] at h
  rw [show items.toList.dropLast = items.toList.dropLast.toArray.toList by simp, ← h]
  have key : ∀ (l : List Nat), (∀ i ∈ l, i < items.size - 1) → l.filterMap (items[·]?) = l.filterMap (items.toList.dropLast.toArray[·]?) := by
    intro l
    induction l with
    | nil => intro _; rfl
    | cons i l ih =>
      intro hl
      have hi := hl i (by simp)
      have e : items[i]? = items.toList.dropLast.toArray[i]? := by simp [List.getElem?_dropLast, hi]
      rw [List.filterMap_cons, List.filterMap_cons, e, ih fun j hj => hl j (by simp [hj])]
  exact key _ fun i hi => List.mem_range.mp hi
section
variable {X : Cx} {W : WX} {e : Expr} {f : M D}
def tRev2 (K : PySem.W.Frag) (te : TE) : TE := fun σ H Q => te σ H fun x H1 => ∃ a xs, x = .ref a ∧ SqL K H1 a xs ∧ ∀ p, H1 p = none → Q (.ref p) (upd H1 p (.lst xs.dropLast.reverse))
theorem pe_rev2 {te : TE} {k k2 : Nat} {p1 p2 p3 p4 p5 pos : Pos} (he : PE X e te) : PE X (.Subscript e (.Slice (some (.UnaryOp .USub (.Constant (.int 2) k2 p4) p5)) none (some (.UnaryOp .USub (.Constant (.int 1) k p1) p2)) p3) pos) (tRev2 X.K te) := by
  refine ⟨fun pins s σ H Q I h => ?_⟩
  refine Subscript_ (thn (he.run pins s σ H _ I h) fun v s1 ⟨x, H1, I1, r1, q1⟩ => ?_)
  obtain ⟨a, xs, ex, hx, q⟩ := q1
  subst ex
  cases r1
  have hst : PO X (some (.UnaryOp .USub (.Constant (.int 1) k p1) p2)) (tPart (tUn (rU fun i => .int (-i)) (tC (.int 1)))) := po_some (pe_un un_neg pe_int)
  have hlo : PO X (some (.UnaryOp .USub (.Constant (.int 2) k2 p4) p5)) (tPart (tUn (rU fun i => .int (-i)) (tC (.int 2)))) := po_some (pe_un un_neg pe_int)
  refine wpAny_Slice (thn (hlo.run pins s1 σ H1 (fun o H2 => o = some (-2) ∧ H2 = H1) I1 ⟨2, rfl, -2, rfl, rfl, rfl⟩) fun vl s2 ⟨l, H2, I2, pl, el, e2⟩ => ?_)
  subst el e2
  refine thn (po_none.run pins s2 σ H2 (fun o H3 => o = none ∧ H3 = H2) I2 ⟨rfl, rfl⟩) fun vu s3 ⟨u, H3, I3, pu, eu, e3⟩ => ?_
  subst eu e3
  refine thn (hst.run pins s3 σ H3 (fun o H4 => o = some (-1) ∧ H4 = H3) I3 ⟨1, rfl, -1, rfl, rfl, rfl⟩) fun vs s4 ⟨o, H4, I4, ps, eo, e4⟩ => ?_
  subst eo e4
  have I5 : Inv X pins σ H4 { s4 with heap := s4.heap.push { cls := .type "slice", data := .fields #[vl, vu, vs] } } := I4.kept (t' := s4.toks) fun b ob q => Heap.get?_push_of_some _ q
  obtain ⟨its, r, ht, hz⟩ := I5.list hx
  have hlen := r.length
  show wpAny (model X.prog X.w) X.A (subscriptTail e (.Slice (some (.UnaryOp .USub (.Constant (.int 2) k2 p4) p5)) none (some (.UnaryOp .USub (.Constant (.int 1) k p1) p2)) p3) (.ref a) (.ref s4.heap.objs.size)) (EP X pins σ Q) X.xe { s4 with heap := s4.heap.push { cls := .type "slice", data := .fields #[vl, vu, vs] } }
  refine tail_any (ops := [.ref a, .ref s4.heap.objs.size]) ht.isList.typeIs (PySem.slot_list_getitem.lookup) ?_ (by with_unfolding_all rfl)
  refine wpAny_getItem_list_slice ht.isList (Heap.IsSliceOf.new _ vl vu vs) pl pu ps (by decide) ?_ (by rw [List.size_toArray]; omega)
  rw [pick2]
  refine ⟨.ref _, _, I5.laid (t' := s4.toks) (o := .lst xs.dropLast.reverse) (fun b ob q => Heap.get?_push_of_some _ q) (Nat.le_refl _) ?_, rfl, q _ (I5.hok.fresh (Nat.le_refl _))⟩
  exact ⟨by rw [List.length_reverse, List.length_dropLast]; omega, _, 0, r.dropLast.reverse, Heap.get?_push_size _ rfl⟩
def rev2D : D → Option D
  | .list ds => some (.list ds.dropLast.reverse)
  | _ => none
theorem RpA.dropLast {hd : Option Addr} {G : Hp} {xs : List V} {ds : List D} (r : RpA hd G xs ds) : RpA hd G xs.dropLast ds.dropLast := by
  rw [List.dropLast_eq_take, List.dropLast_eq_take, r.length]
  exact r.take _
theorem do_rev2 {k k2 : Nat} {p1 p2 p3 p4 p5 pos : Pos} (he : PE X e (tB X.mg W f)) : PE X (.Subscript e (.Slice (some (.UnaryOp .USub (.Constant (.int 2) k2 p4) p5)) none (some (.UnaryOp .USub (.Constant (.int 1) k p1) p2)) p3) pos) (tO X.mg W (call1 rev2D f)) :=
  (pe_rev2 he).imp fun σ H Q ⟨Γ, B, G0, G, ρ, s, R, h⟩ => ⟨Γ, B, G0, G, ρ, s, R, h.bind.imp fun d s1 h1 v G1 H1 t1 o1 r1 => by
    obtain ⟨d', hd, k0⟩ := h1.ofO
    cases d with
    | list ds =>
      cases hd
      obtain ⟨p, xs, rfl, hp, rp⟩ := r1.list o1
      refine ⟨p, xs, rfl, SqL.of hp, fun z hz => k0 z _ _ (t1.trans (Step.newO hz) o1.gm) (o1.newO hz) ?_ (o1.gfree hz) (by rw [upd_same]; exact rp.dropLast.rev)⟩
      cases q : H z with
      | none => rfl
      | some u => rw [t1.keep z u q (o1.nmut hz)] at hz; cases hz
    | _ => cases hd⟩
end
end Dy

set_option Elab.async false
set_option linter.all false
set_option maxRecDepth 100000
set_option maxHeartbeats 4000000
/-! The law's own draws: the state's making, a draw. -/
namespace Dy
open PySem PySem.Spec PyProof.Rows L2

/-- a draw below m -/
def takeS (m : Int) (s : S) : Option (Int × S) :=
  if m < 2 then some (0, s) else
  match s.cells[(s.pos % s.cells.length).toNat]? with
  | none => none
  | some c =>
    if 1000000000000000000 ≤ c then (if m < 1073741824 then some (c % m, { s with cells := s.cells.set (s.pos % s.cells.length).toNat (c / m) }) else none)
    else some (((((c * 48271 + (s.pos + 1) * 69621) % 2147483647) * 16807 + (s.pos + 1) * 7919) % 1000000007) / 7 % m, { s with pos := s.pos + 1 })
def takeF : Fn := fun ds s => match ds with
  | [.dict [(.none, .none)], .int m] => (match takeS m s with
    | some (v, s') => .ok (.sh (.int v)) s'
    | none => .st)
  | _ => .st
abbrev rM : R2 := rI (fun _ j => 0 < j) fun i j => V.int (i % j)
abbrev rAd : R2 := rI0 fun i j => V.int (i + j)
abbrev rMu : R2 := rI CMul fun i j => V.int (i * j)
abbrev rFd : R2 := rI CDiv fun i j => V.int (i / j)
abbrev rIn1 : List V → Hp → VK → Prop := fun xs H Q => (∃ i, xs = [V.int i] ∧ Q (.int i) H) ∨ ∃ k, xs = [V.bl k] ∧ Q (V.int (if k = true then 1 else 0)) H
abbrev rLe1 (K : PySem.W.Frag) : List V → Hp → VK → Prop := fun xs H Q => ∃ x n, xs = [x] ∧ LenV K x H n ∧ Q (V.int ↑n) H
abbrev t1 (r : List V → Hp → VK → Prop) (t : TE) : TE := tCB r (tCons t tNil)
abbrev tStt (K : PySem.W.Frag) (i : Int) : TE := tOp (rIx K) (tVar 0) (tC (.int i))
/-- the body of a draw as it reads: 0 the state, 1 the bound, 2 the cells, 3 the place, 4 the cell, 5 the rest -/
def tTake (K : PySem.W.Frag) : TS :=
  tSeq (tIfS (tTest (tOp (rI0 fun i j => V.bl (decide (i < j))) (tVar 1) (tC (.int 2)))) (tRet (tC (.int 0))) tNext)
  (tSeq (tAsg (tStt K 1) (gName 2))
  (tSeq (tAsg (tOp rM (t1 rIn1 (tStt K 0)) (t1 (rLe1 K) (tVar 2))) (gName 3))
  (tSeq (tAsg (tOp (rIx K) (tVar 2) (tVar 3)) (gName 4))
  (tSeq (tIfS (tTest (tOp (rI0 fun i j => V.bl (decide (j ≤ i))) (tVar 4) (tC (.int 1000000000000000000)))) (tSeq (tAsg (tOp rFd (tVar 4) (tVar 1)) (gSub (tVar 2) (tVar 3) rSetL)) (tRet (tOp rM (t1 rIn1 (tVar 4)) (tVar 1)))) tNext)
  (tSeq (tAsg (tOp rAd (tStt K 0) (tC (.int 1))) (gSub (tVar 0) (tC (.int 0)) rSetL))
  (tSeq (tAsg (tOp rM (t1 rIn1 (tOp rAd (tOp rMu (tVar 4) (tC (.int 48271))) (tOp rMu (tStt K 0) (tC (.int 69621))))) (tC (.int 2147483647))) (gName 5))
  (tSeq (tAsg (tOp rM (t1 rIn1 (tOp rAd (tOp rMu (tVar 5) (tC (.int 16807))) (tOp rMu (tStt K 0) (tC (.int 7919))))) (tC (.int 1000000007))) (gName 5))
  (tRet (tOp rM (t1 rIn1 (tOp rFd (tVar 5) (tC (.int 7)))) (tVar 1))))))))))
theorem RpK.no_none {hd : Option Addr} {G : Hp} {kvs : List (Key × V)} {l : List (D × D)} {d : D} (h : RpK hd G kvs ((.none, d) :: l)) : False := by
  generalize e : ((PyData.none, d) :: l) = z at h
  cases h with
  | nil => cases e
  | @cons k v kvs d' l' _ _ =>
    have e1 : PyData.none = keyD k := congrArg Prod.fst (List.cons.inj e).1
    cases k <;> cases e1
theorem Rp.hnd_inv {hd : Option Addr} {G : Hp} {v : V} (h : Rp hd G v hndD) : ∃ a, v = .ref a ∧ hd = some a := by
  cases h with
  | dct h r => exact r.no_none.elim
  | hnd h => exact ⟨_, rfl, h⟩
theorem cmul {i j : Int} (h : -(2 ^ 64) < j ∧ j < 2 ^ 64) : CMul i j := by
  unfold CMul
  first
    | exact .inr h
    | omega
theorem atI_zero {α : Type} (x : α) (l : List α) : atI (x :: l) 0 = some x := by
  unfold atI ixN
  simp
theorem atI_one {α : Type} (x y : α) (l : List α) : atI (x :: y :: l) 1 = some y := by
  have h : ixN (x :: y :: l).length 1 = some 1 := by
    unfold ixN
    rw [if_pos (by decide), if_pos (by rw [List.length_cons, List.length_cons]; omega)]
    rfl
  unfold atI
  rw [h]
  rfl
theorem spD_take {mg : Str → Option Value} {K : PySem.W.Frag} {vs : List V} {H : Hp} {Q : VK} {E : XK} {xs : List (Option V)} (hx : xs.length = 4) (h : spD mg takeF vs H Q E) : ∃ a b, vs = [a, b] ∧ tTake K { nx := fun _ H' => Q .non H', rt := Q } (some a :: some b :: xs) H := by
  obtain ⟨Γ, G, ds, s, o, r, p⟩ := h
  unfold takeF at p
  split at p
  · rename_i m
    cases r with
    | cons ra r => cases r with
      | cons rb r =>
        cases r
        cases rb
        obtain ⟨a, rfl, ha⟩ := Rp.hnd_inv ra
        refine ⟨_, _, rfl, ?_⟩
        cases Γ with
        | off => cases ha
        | draw st cs =>
          have e : st = a := Option.some.inj ha
          subst e
          obtain ⟨x0, x1, x2, x3, rfl⟩ : ∃ x0 x1 x2 x3, xs = [x0, x1, x2, x3] := by
            rcases xs with _ | ⟨x0, _ | ⟨x1, _ | ⟨x2, _ | ⟨x3, _ | ⟨x4, xs⟩⟩⟩⟩⟩ <;> first | (simp at hx; done) | exact ⟨_, _, _, _, rfl⟩
          obtain ⟨h1, h2⟩ := o.st
          have hcs : cs ≠ st := fun e => by
            rw [e, h1] at h2
            have h3 := Option.some.inj h2
            injection h3 with h3
            cases hcl : s.cells with
            | nil => rw [hcl] at h3; cases h3
            | cons c l =>
              rw [hcl] at h3
              cases l with
              | nil => cases h3
              | cons c2 l => simp at h3
          have gst : G st = none := o.gm st (by simp [Gh.mut])
          have gcs : G cs = none := o.gm cs (by simp [Gh.mut])
          unfold takeS at p
          refine ⟨.int m, rfl, m, 2, rfl, rfl, _, rfl, ?_⟩
          by_cases hm : m < 2
          · rw [if_pos hm] at p
            rw [if_pos (decide_eq_true hm)]
            exact p _ G H .refl o (.int 0)
          rw [if_neg hm] at p
          rw [if_neg (by simpa using hm)]
          -- cells = state[1]
          refine ⟨.ref st, rfl, .inl ⟨st, _, 1, .ref cs, rfl, rfl, SqL.of h1, atI_one _ _ _, ?_⟩⟩
          -- at
          refine ⟨.ref st, rfl, .inl ⟨st, _, 0, .int s.pos, rfl, rfl, SqL.of h1, atI_zero _ _, ?_⟩⟩
          refine .inl ⟨_, rfl, .ref cs, rfl, .ref cs, s.cells.length, rfl, .inl ⟨_, SqL.of h2, by rw [List.length_map]⟩, s.pos, s.cells.length, rfl, rfl, ?_⟩
          cases hc : s.cells[(s.pos % s.cells.length).toNat]? with
          | none => simp only [hc] at p; exact p.elim
          | some c =>
            simp only [hc] at p
            have hlt : (s.pos % s.cells.length).toNat < s.cells.length := by
              rcases Nat.lt_or_ge (s.pos % s.cells.length).toNat s.cells.length with z | z
              · exact z
              · rw [List.getElem?_eq_none z] at hc; cases hc
            have hpos : (0 : Int) < s.cells.length := by omega
            have hmod := Int.emod_nonneg s.pos (show (s.cells.length : Int) ≠ 0 by omega)
            have hix : ixN (s.cells.map V.int).length (s.pos % s.cells.length) = some (s.pos % s.cells.length).toNat := by
              unfold ixN
              rw [List.length_map]
              have hl2 := Int.emod_lt_of_pos s.pos hpos
              simp [hmod, hl2]
            have hat : atI (s.cells.map V.int) (s.pos % s.cells.length) = some (.int c) := by
              unfold atI
              rw [hix]
              show (s.cells.map V.int)[(s.pos % s.cells.length).toNat]? = _
              rw [List.getElem?_map, hc]
              rfl
            refine ⟨hpos, .ref cs, rfl, .int (s.pos % s.cells.length), rfl, .inl ⟨cs, _, _, .int c, rfl, rfl, SqL.of h2, hat, ?_⟩⟩
            refine ⟨.int c, rfl, c, 1000000000000000000, rfl, rfl, _, rfl, ?_⟩
            by_cases hb : (1000000000000000000 : Int) ≤ c
            · rw [if_pos hb] at p
              rw [if_pos (decide_eq_true hb)]
              by_cases hm2 : m < 1073741824
              · rw [if_pos hm2] at p
                have o2 : St0 (.draw st cs) G (upd H cs (.lst ((s.cells.set (s.pos % s.cells.length).toNat (c / m)).map V.int))) { s with cells := s.cells.set (s.pos % s.cells.length).toNat (c / m) } :=
                  ⟨fun b u e => by rw [upd_ne (ne_of_none e gcs)]; exact o.gh b u e, o.gm, by rw [upd_ne (Ne.symm hcs)]; exact h1, upd_same⟩
                have t2 : Step (.draw st cs) G H G (upd H cs (.lst ((s.cells.set (s.pos % s.cells.length).toNat (c / m)).map V.int))) :=
                  ⟨fun b u e hb => by rw [upd_ne (fun z => hb (by simp [Gh.mut, z]))]; exact e, fun _ _ e => e, fun _ _ e => .inl e⟩
                refine ⟨.int c, rfl, .int m, rfl, c, m, rfl, rfl, ⟨by omega, hm2⟩, .ref cs, rfl, .int (s.pos % s.cells.length), rfl, cs, _, _, _, rfl, rfl, h2, hix, ?_⟩
                refine ⟨.int c, rfl, .inl ⟨c, rfl, .int m, rfl, c, m, rfl, rfl, by omega, ?_⟩⟩
                refine p _ G _ ?_ ?_ (.int _)
                · have z := t2
                  rw [List.map_set] at z
                  exact z
                · have z := o2
                  rw [List.map_set] at z
                  exact z
              · rw [if_neg hm2] at p; exact p.elim
            · rw [if_neg hb] at p
              rw [if_neg (by simpa using hb)]
              have o2 : St0 (.draw st cs) G (upd H st (.lst [.int (s.pos + 1), .ref cs])) { s with pos := s.pos + 1 } :=
                ⟨fun b u e => by rw [upd_ne (ne_of_none e gst)]; exact o.gh b u e, o.gm, upd_same, by rw [upd_ne hcs]; exact h2⟩
              have t2 : Step (.draw st cs) G H G (upd H st (.lst [.int (s.pos + 1), .ref cs])) :=
                ⟨fun b u e hb => by rw [upd_ne (fun z => hb (by simp [Gh.mut, z]))]; exact e, fun _ _ e => e, fun _ _ e => .inl e⟩
              have r0 : ∀ {K : PySem.W.Frag} {σ : L2.St} {Q : VK}, σ[0]? = some (some (V.ref st)) → Q (.int (s.pos + 1)) (upd H st (.lst [.int (s.pos + 1), .ref cs])) → tStt K 0 σ (upd H st (.lst [.int (s.pos + 1), .ref cs])) Q := fun h q => ⟨.ref st, h, .inl ⟨st, _, 0, .int (s.pos + 1), rfl, rfl, SqL.of upd_same, atI_zero _ _, q⟩⟩
              refine ⟨.ref st, rfl, .inl ⟨st, _, 0, .int s.pos, rfl, rfl, SqL.of h1, atI_zero _ _, s.pos, 1, rfl, rfl, .ref st, rfl, st, _, 0, 0, rfl, rfl, h1, rfl, ?_⟩⟩
              show tSeq _ _ _ _ (upd H st (.lst [.int (s.pos + 1), .ref cs]))
              refine ⟨.int c, rfl, c, 48271, rfl, rfl, cmul (by decide), r0 rfl ⟨_, 69621, rfl, rfl, cmul (by decide), _, _, rfl, rfl, .inl ⟨_, rfl, _, _, rfl, rfl, (show (0 : Int) < _ by decide), ?_⟩⟩⟩
              refine ⟨_, rfl, _, 16807, rfl, rfl, cmul (by decide), r0 rfl ⟨_, 7919, rfl, rfl, cmul (by decide), _, _, rfl, rfl, .inl ⟨_, rfl, _, _, rfl, rfl, (show (0 : Int) < _ by decide), ?_⟩⟩⟩
              refine ⟨_, rfl, _, 7, rfl, rfl, ⟨by decide, by decide⟩, .inl ⟨_, rfl, .int m, rfl, _, m, rfl, rfl, by omega, ?_⟩⟩
              exact p _ G _ t2 o2 (.int _)
  · exact p.elim
end Dy

set_option Elab.async false
set_option linter.all false
set_option maxRecDepth 100000
set_option maxHeartbeats 4000000
/-! For the printed walks. -/
namespace Dy
open PySem PySem.Spec PyProof.Rows L2

section
variable {X : Cx} {W : WX} {c : Expr} {t : M Bool}
theorem dts_nil : PTs X [] (tT X.mg W (retM true)) := ⟨fun pins s σ H Q I ⟨Γ, B, G0, G, ρ, s1, R, h⟩ => pts_nil.run pins s σ H Q I (h G H .refl R.ok)⟩
theorem dts_one (h : PT X c (tT X.mg W t)) : PTs X [c] (tT X.mg W t) := pts_one h
theorem de_negc {i : Int} {j : Nat} {p1 p2 : Pos} : PE X (.UnaryOp .USub (.Constant (.int i) j p1) p2) (tE X.mg W (retM (.int (-i)))) :=
  (pe_un un_neg pe_int).imp fun σ H Q ⟨Γ, B, G0, G, ρ, s, R, h⟩ => ⟨i, rfl, h _ G H .refl R.ok (.int _)⟩
theorem ur_of {A : Around} {k : Nat} (r : Room k A) : A.units + 100 < cLine := by have := r.un; omega
end
/-- no answer -/
def stF : Fn := fun _ _ => .st
section
variable {P : Program} {w : World} {K : PySem.W.Frag} {mg : Str → Option Value} {base : Heap}
theorem Cd.zero {x : Str} {k : Nat} {f : Addr} {fd : FuncData} {ps : List Str} (gm : mg x = some (.ref f)) (kp : PySem.W.keepIn K (.ref f) = true) (b : Binds K fd ps []) : Cd P w K mg base x k stF :=
  ⟨f, fd, ps, ⟨fun vs H Q E ⟨_, _, _, _, _, _, h⟩ => h.elim, fun A outer s H args us vs Q E _ _ _ _ ⟨_, _, _, _, _, _, h⟩ => h.elim⟩, gm, kp, b⟩
theorem Cd.mk' {x qual : Str} {params : Arguments} {body : List Stmt} {scope : Scope} {f : Addr} {fd : FuncData} {N ps : List Str} {k n NN : Nat} {g : MS} (F : FunD K x qual params body scope [] [] f fd) (gm : mg x = some (.ref f)) (b : Binds K fd ps []) (Sc : FnScope N ps scope) (hn : ps.length = n) (hN : N.length = NN)
    (hb : ∀ (cdv : Value) (A : Around) (outer : List Env) (s : Shared) (H : Hp) (E : XK), Room k (A.deeper (envOfC qual scope s.heap.objs.size f cdv)) →
      PSs (cxOf (L2.CX P w) P w K mg base N qual scope f cdv A outer s H E) body (tSt mg (fun cls d _ H => E cls d H) g)) : Cd P w K mg base x (k + 1) (fnM n NN g) := ⟨f, fd, ps, fn_ok F Sc hn hN hb, gm, F.kp, b⟩
theorem Cd.mono {x : Str} {j k : Nat} {F : Fn} (c : Cd P w K mg base x j F) (h : j ≤ k) : Cd P w K mg base x k F := by
  obtain ⟨f, fd, ps, h1, h2⟩ := c.ex
  exact ⟨f, fd, ps, h1.mono h, h2⟩
/-- a draw -/
theorem cd_take {x qual : Str} {params : Arguments} {body : List Stmt} {scope : Scope} {f : Addr} {fd : FuncData} {N : List Str} {a b : Str} {k : Nat} (F : FunD K x qual params body scope [] [] f fd) (gm : mg x = some (.ref f)) (bi : Binds K fd [a, b] []) (Sc : FnScope N [a, b] scope) (hN : N.length = 6)
    (hb : ∀ (cdv : Value) (A : Around) (outer : List Env) (s : Shared) (H : Hp) (E : XK), Room k (A.deeper (envOfC qual scope s.heap.objs.size f cdv)) →
      PSs (cxOf (L2.CX P w) P w K mg base N qual scope f cdv A outer s H E) body (tTake K)) : Cd P w K mg base x (k + 1) takeF := by
  refine ⟨f, fd, [a, b], F.ok Sc (fun vs H Q E h => ?_) (fun cdv A outer s H vs Q E hr h => ⟨_, hb cdv A outer s H E hr, ?_⟩), gm, F.kp, bi⟩
  · obtain ⟨a, b, rfl, _⟩ := spD_take (K := K) (xs := [none, none, none, none]) rfl h
    rfl
  · obtain ⟨a, b, rfl, h2⟩ := spD_take (K := K) (xs := [none, none, none, none]) rfl h
    have e : L2.start N [a, b] = some a :: some b :: [none, none, none, none] := by
      unfold L2.start
      rw [hN]
      rfl
    rw [e]
    exact h2
end
end Dy

set_option Elab.async false
set_option linter.all false
set_option maxRecDepth 100000
set_option maxHeartbeats 4000000
/-! sorted(xs, key=f), f a def. -/
namespace L2
open PySem PySem.Spec PyProof.Rows
/-- a list that stands untracked is tracked -/
theorem Inv.adopt {X : Cx} {pins : List (Addr × Obj)} {σ : St} {H : Hp} {s : Shared} {a : Addr} {ys : List V} (I : Inv X pins σ H s) (f : FpOk X pins H a) (new : ObjOk X.prog X.w (upd H a (.lst ys)) s.heap a (.lst ys)) : Inv X pins σ (upd H a (.lst ys)) s := by
  obtain ⟨f0, f1, f2, f3, f4, f5⟩ := f
  have ne : ∀ {b : Addr} {o : HO}, H b = some o → b ≠ a := fun e z => by rw [z, f0] at e; cases e
  have b0 : ∀ {b : Addr} {o : HO}, X.H_0 b = some o → H b = some o → b ≠ a := fun _ e => ne e
  refine ⟨I.ok, I.os, I.bare, ⟨I.base.keep, I.base.slot, fun b o e n hx => ?_, I.base.there, fun b xs e => ?_, fun b o u e => ?_, fun b ps e => ?_⟩, I.loc, I.cell, ?_, fun x c e => ?_, fun p hp => ?_, fun b u e => ?_, I.len⟩
  · have hb : b ≠ a := fun z => by
      rcases f3 with h | h
      · exact hx (z ▸ h)
      · exact absurd (Heap.lt_size e) (by rw [z]; exact Nat.not_lt_of_le h)
    rw [upd_ne hb]; exact I.base.free b o e n hx
  · have h := I.base.tups b xs e
    rw [upd_ne (ne h)]; exact h
  · have h := I.base.frzs b o u e
    rw [upd_ne (ne h)]; exact h
  · obtain ⟨more, h⟩ := I.base.tbls b ps e
    exact ⟨more, by rw [upd_ne (ne h)]; exact h⟩
  · rw [upd_ne (Ne.symm f1)]; exact I.free
  · rw [upd_ne (f4 x c e)]; exact I.freeC x c e
  · obtain ⟨h1, h2, h3, h4, h5⟩ := I.pin p hp
    exact ⟨h1, by rw [upd_ne (f5 p hp)]; exact h2, h3, h4, h5⟩
  · by_cases hb : b = a
    · subst hb
      rw [upd_same] at e; cases e
      exact new
    · rw [upd_ne hb] at e
      exact (I.hok b u e).stay (fun c v _ q => q) (fun c hc => by rw [upd_ne (ne hc)]; exact hc) fun c xs hc => by rw [upd_ne (ne hc)]; exact hc
end L2
namespace Dy
open PySem PySem.Spec PyProof.Rows L2
open PySem.W (alike dataLe Sortable AllAlike EachIs keyToks)
/-- the keys of the items, one after the other -/
def keysGo (F : Fn) : List D → S → Option (List D × S)
  | [], s => some ([], s)
  | d :: ds, s => match F [d] s with
    | .ok (.sh k) s1 => (keysGo F ds s1).map fun p => (k :: p.1, p.2)
    | _ => none
def sortByL (ds ks : List D) : List D := ((ds.zip ks).mergeSort (dataLe false (·.2))).map (·.1)
def keyOkB (ds ks : List D) : Bool := alikeB ks && sortableB ks && depthB ks && lenOk ds && ks.all SeqAt.shaped
def sortByM (F : Fn) (f : M D) : M D := bindM f fun d _ s => match d with
  | .list ds => (match keysGo F ds s with
    | some (ks, s') => if keyOkB ds ks then .ok (.list (sortByL ds ks)) s' else .st
    | none => .st)
  | _ => .st
theorem keysGo_len {F : Fn} : ∀ {ds : List D} {s s' : S} {ks : List D}, keysGo F ds s = some (ks, s') → ks.length = ds.length
  | [], _, _, _, h => by cases h; rfl
  | d :: ds, s, s', ks, h => by
    simp only [keysGo] at h
    split at h
    · rename_i k s1 _
      obtain ⟨p, h1, h2⟩ := Option.map_eq_some_iff.mp h
      obtain ⟨p1, p2⟩ := p
      cases h2
      rw [List.length_cons, List.length_cons, keysGo_len h1]
    · cases h
theorem pair_len {α β : Type} {R : α → β → Prop} : ∀ {xs : List α} {ys : List β}, EachIs R xs ys → xs.length = ys.length
  | _, _, .nil => rfl
  | _, _, .cons _ t => by simp [pair_len t]
section
variable {X : Cx}
set_option maxHeartbeats 8000000 in
theorem cr_sortKey {k : Nat} {F : Fn} {fa : Addr} {fd : FuncData} {ps : List Str} (hc : X.calm = true) (hu : Ur X) (hF : FnOk X.prog X.w X.K X.mg X.base (L2.CX X.prog X.w) k fa fd ps (spD X.mg F)) (hr : Room (k + 2) X.A) (hb : Binds X.K fd ps [])
    {pins : List (Addr × Obj)} {s : Shared} {σ : L2.St} {H : Hp} {l : Addr} {Q : VK} {Γ : Gh} {G : Hp} {sd sd' : S} {vs : List V} {ds ks : List D} (I : Inv X pins σ H s)
    (hs : SqL X.K H l vs) (o0 : St0 Γ G H sd) (rp : RpA Γ.hd G vs ds) (hk : keysGo F ds sd = some (ks, sd')) (hok : keyOkB ds ks = true)
    (q : ∀ G' H' p ys, Step Γ G H G' H' → St0 Γ G' H' sd' → H p = none → H' p = none → RpA Γ.hd G' ys (sortByL ds ks) → Q (.ref p) (upd H' p (.lst ys))) :
    wpAny (model X.prog X.w) X.A (call (.builtin "sorted") [.ref l] [(Str.ofString "key", .ref fa)]) (EP X pins σ Q) X.xe s := by
  obtain ⟨its, rv, hl, hz⟩ := I.list hs
  have hkl := keysGo_len hk
  have hil : its.length = ds.length := by rw [← rv.length, rp.length]
  have hzi : its.length ≤ sizeLine := by rw [← rv.length]; exact hz
  simp only [keyOkB, Bool.and_eq_true] at hok
  obtain ⟨⟨⟨⟨k1, k2⟩, k3⟩, k4⟩, k5⟩ := hok
  have hal := alikeB_ok k1
  have hsk := sortableB_ok k2
  rw [List.map_id] at hal hsk
  have hu2 : X.A.units + 100 < cLine := hu
  refine PySem.W.sorted_of_sort hl.isList hzi (PyProof.Rows.ksk_s1 _ _) (fun x => PyProof.Rows.ksk_l1 _ _) fun E' => ?_
  rw [PyProof.Rows.ksk_t1]
  generalize ha : s.heap.objs.size + 1 = a
  have hca : (PySem.W.copyHeap s.heap its).get? a = some (seqObj "list" its.toArray 0) := by rw [← ha]; exact PySem.W.copyHeap_at s.heap its
  have aS : s.heap.objs.size ≤ a := by rw [← ha]; exact Nat.le_succ _
  obtain ⟨e1, ho1⟩ : ∃ e1, ((PySem.W.copyHeap s.heap its).update a (Obj.mapSeq fun _ => (#[] : Array Value))).get? a = some (seqObj "list" #[] e1) := ⟨_, get?_update_seq hca fun _ => #[]⟩
  unfold ksk_tree
  refine wpAny_bind (listItems_at hca rfl ?_)
  refine wpAny_bind (listUpdate_at hca rfl ?_ (by rw [List.size_toArray]; exact hzi) (Nat.zero_le _))
  refine wpAny_bind (seqEpoch_at ho1 rfl ?_)
  refine wpAny_bind (wpAny_newTuple ?_ (by show its.length ≤ _; exact hzi))
  generalize hhA : ((PySem.W.copyHeap s.heap its).update a (Obj.mapSeq fun _ => (#[] : Array Value))).push (seqObj "tuple" its.toArray 0) = hA
  have keepA : ∀ b o, s.heap.get? b = some o → hA.get? b = some o := fun b o e => by
    rw [← hhA]
    refine Heap.get?_push_of_some _ ?_
    rw [Heap.get?_update_other _ _ (show a ≠ b from fun z => absurd (Heap.lt_size e) (by rw [← z]; exact Nat.not_lt_of_le aS))]
    exact PySem.W.copyHeap_old e
  have haA : hA.get? a = some (seqObj "list" #[] e1) := by rw [← hhA]; exact Heap.get?_push_of_some _ ho1
  have IA : Inv X pins σ H { s with heap := hA } := I.kept (t' := s.toks) keepA
  have fa0 : ∀ {Hc : Hp}, Hc a = none → FpOk X pins Hc a := fun {Hc} hn => I.fpOk aS hn
  have Ha0 : H a = none := I.hok.fresh aS
  have IA1 : Inv X (pins ++ pinsAt [a] hA) σ H { s with heap := hA } := IA.pinned (fun b hb' => by
      have e : b = a := by simpa using hb'
      subst e; exact fa0 Ha0) fun b hb' => by
      have e : b = a := by simpa using hb'
      subst e; exact ⟨_, haA, fun v z => by cases z⟩
  refine wpAny_bind (wpAny_newList ?_ (Nat.zero_le _))
  show wpAny _ _ (holding [_, .ref hA.objs.size] _) _ _ { s with heap := hA.push (seqObj "list" #[] 0) }
  generalize hkS : hA.objs.size = kS
  have fkS : ∀ {Hc : Hp}, Hc kS = none → FpOk X (pins ++ pinsAt [a] hA) Hc kS := fun {Hc} hn => IA1.fpOk (Nat.le_of_eq hkS) hn
  have hka : kS ≠ a := by rw [← hkS]; exact Nat.ne_of_gt (Heap.lt_size haA)
  have HkS : H kS = none := IA1.hok.fresh (Nat.le_of_eq hkS)
  have I0 : Inv X (pins ++ pinsAt [a] hA) σ H { s with heap := hA.push (seqObj "list" #[] 0) } := IA1.kept (t' := s.toks) fun b o e => Heap.get?_push_of_some _ e
  refine wpAny_holding ?_
  unfold ksk_rest
  refine wpAny_bind (wpAny_rule ?_)
  first
    | rw [List.forIn_toArray]
    | (rw [← Array.forIn_toList]; simp only [List.toList_toArray])
    | rw [← Array.forIn_toList]
  refine wpAny_bind (ksk_fold (fun i s' => ∃ (Hc Gc : Hp) (sc : S) (kA : Array Value) (e : Nat) (kv : List V) (kd rest : List D), Inv X (pins ++ pinsAt [a] hA) σ Hc s' ∧ St0 Γ Gc Hc sc ∧ Step Γ G H Gc Hc ∧ s'.heap.get? kS = some (seqObj "list" kA e) ∧ Hc kS = none ∧
      Vals kv kA.toList ∧ RpA Γ.hd Gc kv kd ∧ keysGo F (ds.drop i) sc = some (rest, sd') ∧ ks = kd ++ rest ∧ kd.length = i) its 0 _
    ⟨H, G, sd, #[], 0, [], [], ks, I0, o0, .refl, by rw [← hkS]; exact Heap.get?_push_size _ rfl, HkS, .nil, .nil, hk, rfl, rfl⟩ ?step ?done)
  case step =>
    rintro j x s' hx ⟨Hc, Gc, sc, kA, e, kv, kd, rest, Ic, oc, tc, nk, hkc, rkv, rkd, hgo, hks, hkd⟩
    simp only [Nat.zero_add] at hgo hkd ⊢
    have hj : j < its.length := (List.getElem?_eq_some_iff.mp hx).1
    have hj2 : j < ds.length := by omega
    rw [List.drop_eq_getElem_cons hj2] at hgo
    simp only [keysGo] at hgo
    cases hFx : F [ds[j]] sc with
    | ex _ _ => rw [hFx] at hgo; cases hgo
    | st => rw [hFx] at hgo; cases hgo
    | ok r sc1 =>
      rw [hFx] at hgo
      cases r with
      | un => cases hgo
      | pr _ => cases hgo
      | sh kx =>
        obtain ⟨⟨rest', sd2⟩, hg1, hg2⟩ := Option.map_eq_some_iff.mp hgo
        obtain ⟨e3, e4⟩ := Prod.mk.inj hg2
        subst e3; subst e4
        -- the item
        obtain ⟨xv, hxv, rx⟩ := rp.get (List.getElem?_eq_getElem hj2)
        have hrx : RelV xv x := by
          have : ∀ {as : List V} {us : List Value} (i : Nat) (a : V) (u : Value), Vals as us → as[i]? = some a → us[i]? = some u → RelV a u := by
            intro as us i a u hv
            induction hv generalizing i with
            | nil => intro h; simp at h
            | cons r _ ih =>
              cases i with
              | zero => intro h1 h2; simp at h1 h2; subst h1; subst h2; exact r
              | succ i => intro h1 h2; exact ih i (by simpa using h1) (by simpa using h2)
          exact this j xv x rv hxv hx
        have Ic2 := Ic.pinned (fp := [kS]) (fun b hb' => by
          have e : b = kS := by simpa using hb'
          subst e; exact fkS hkc) fun b hb' => by
          have e : b = kS := by simpa using hb'
          subst e; exact ⟨_, nk, fun v z => by cases z⟩
        have bnd := hb s' [x] Ic2.kIn (by
          have := hF.len [xv] Hc (fun _ _ => True) (fun _ _ _ => False) ⟨Γ, Gc, [ds[j]], sc, oc, .cons (Rp.mono tc.ex _ rx) .nil, by rw [hFx]; exact fun _ _ _ _ _ _ => trivial⟩
          simpa using this)
        rw [List.append_nil] at bnd
        refine wpAny_bind (wpAny_attempt (wpAny_mono (Q := fun u s'' => EP X ((pins ++ pinsAt [a] hA) ++ pinsAt [kS] s'.heap) σ (fun v H' => ∃ G', Step Γ Gc Hc G' H' ∧ St0 Γ G' H' sc1 ∧ Rp Γ.hd G' v kx) u s'') (E := fun _ _ => False) (wpAny_call (codeAny_mono (hF.run X.A.in1.in1 X.stack s' Hc ⟨[x], []⟩ [x] [xv] (fun v H' => ∃ G', Step Γ Gc Hc G' H' ∧ St0 Γ G' H' sc1 ∧ Rp Γ.hd G' v kx) (fun _ _ _ => False) hr.in1.in1 Ic2.env0.in1.in1 bnd (.cons hrx .nil)
          ⟨Γ, Gc, [ds[j]], sc, oc, .cons (Rp.mono tc.ex _ rx) .nil, by rw [hFx]; exact fun v G' H' t o r => ⟨G', t, o, r⟩⟩) fun r s'' hq => ?_)) (fun u s'' he => ?_) fun _ _ hF => hF.elim))
        · cases r with
          | error er =>
            obtain ⟨_, _, _, _, _, _, _, _, _, _, _, _, z⟩ := hq
            exact z.elim
          | ok fl =>
            cases fl with
            | ret u => exact Ic2.after hq
            | next => exact False.elim hq
            | brk => exact False.elim hq
            | cont => exact False.elim hq
        · obtain ⟨v, H', I', rvu, G', t', o', rk⟩ := he
          try dsimp only
          have pk : s''.heap.get? kS = some (seqObj "list" kA e) ∧ H' kS = none := by
            have := I'.pin (kS, seqObj "list" kA e) (List.mem_append_right _ (List.mem_append_right _ (mem_pinsAt (by simp) nk)))
            exact ⟨this.1, this.2.1⟩
          have Iu : Inv X (pins ++ pinsAt [a] hA) σ H' s'' := I'.unpinned
          have hzk : kA.size ≤ sizeLine := by
            have h1 : kv.length = kA.size := by rw [rkv.length, Array.length_toList]
            have h2 := rkd.length
            omega
          obtain ⟨c2, hc2⟩ : ∃ c2, (s''.heap.update kS (Obj.mapSeq (·.push u))).get? kS = some (seqObj "list" (kA.push u) c2) := ⟨_, get?_update_seq pk.1 (·.push u)⟩
          refine wpAny_bind (listUpdate_at pk.1 rfl ?_ hzk (Nat.le_trans (Nat.le_of_eq (Array.size_push ..)) (Nat.succ_le_succ hzk)))
          refine wpAny_pure ⟨rfl, H', G', sc1, kA.push u, c2, kv ++ [v], kd ++ [kx], rest', Iu.turnedL (t' := s''.toks) (ch := [kS]) (fun b o hb' e => ?_) (fun b hb' => ?_), o', tc.trans t' o'.gm, hc2, pk.2, ?_, (RpA.mono t'.ex _ rkd).app (.one rk), hg1, ?_, ?_⟩
          · rw [Heap.get?_update_other _ _ (show kS ≠ b from fun z => hb' (by simp [z]))]; exact e
          · have e : b = kS := by simpa using hb'
            subst e; exact fkS pk.2
          · rw [Array.toList_push]; exact rkv.append (.cons rvu .nil)
          · rw [hks, List.append_assoc]; rfl
          · rw [List.length_append, hkd]; rfl
  case done =>
    rintro s' ⟨Hc, Gc, sc, kA, e, kv, kd, rest, Ic, oc, tc, nk, hkc, rkv, rkd, hgo, hks, hkd⟩
    simp only [Nat.zero_add] at hgo hkd
    rw [List.drop_eq_nil_of_le (by omega)] at hgo
    cases hgo
    rw [List.append_nil] at hks
    subst hks
    try dsimp only
    have na : s'.heap.get? a = some (seqObj "list" #[] e1) ∧ Hc a = none := by
      have := Ic.pin (a, seqObj "list" #[] e1) (List.mem_append_right _ (List.mem_append_right _ (mem_pinsAt (by simp) haA)))
      exact ⟨this.1, this.2.1⟩
    have Iu : Inv X pins σ Hc s' := Ic.unpinned
    have fkS' : FpOk X pins Hc kS := by
      obtain ⟨f0, f1, f2, f3, f4, f5⟩ := fkS hkc
      exact ⟨f0, f1, f2, f3, f4, fun p hp => f5 p (by
        rcases List.mem_append.mp hp with h | h
        · exact List.mem_append_left _ h
        · exact List.mem_append_right _ (List.mem_append_left _ h))⟩
    have hkr : EachIs (fun v k => ∃ as, Reads s'.heap v k as) kA.toList ks := by
      obtain ⟨bs, rfl, rfl, hb'⟩ := rkd.zip
      have h1 : EachIs (fun u (b : V × D) => RelV b.1 u ∧ b ∈ bs) kA.toList bs := PySem.W.each_mem (vals_each rkv)
      have h2 : EachIs (fun v (b : V × D) => ∃ as, Reads s'.heap v b.2 as) kA.toList bs := PySem.W.EachIs.mono (fun u b ⟨r, hb2⟩ => (Rp.dp (K := X.K) _ (Rp.mono oc.gh _ (hb' b hb2)) (SeqAt.canLay_of_shaped (List.all_eq_true.mp k5 b.2 (List.mem_map.mpr ⟨b, hb2, rfl⟩)))).reads Iu _ _ _ r) h1
      have : ∀ {us : List Value} {bs : List (V × D)}, EachIs (fun v (b : V × D) => ∃ as, Reads s'.heap v b.2 as) us bs → EachIs (fun v k => ∃ as, Reads s'.heap v k as) us (bs.map (·.2)) := by
        intro us bs h
        induction h with
        | nil => exact .nil
        | cons r _ ih => exact .cons r ih
      exact this h2
    refine wpAny_bind (listItems_at nk rfl ?_)
    obtain ⟨Gr, g1, g2⟩ := restrict s'.heap fun b => decide (b ≠ kS)
    have hsz : kA.size = its.length := by
      have h1 := pair_len hkr
      rw [Array.length_toList] at h1
      omega
    refine PySem.W.keyH_end (κ := PySem.W.dataKind s'.heap ks) (h₁ := Gr) (b := false) (fun b o hb' e => ?_) (g2 kS (by simp)) nk na.1 hka
      (PySem.W.SortsAt.data (s := s') hkr hal hsk fun d hd => ?_) hsz hzi fun h3 tk3 c k3' n3 => ⟨rfl, ?_⟩
    · by_cases hbk : b = kS
      · rw [hbk, g2 kS (by simp)] at e; cases e
      · rw [g1 b (decide_eq_true hbk)] at e; exact e
    · have z := of_decide_eq_true (List.all_eq_true.mp k3 d hd)
      show X.A.units + 2 + d.depth < cLine
      omega
    · have I3 : Inv X pins σ Hc { s' with heap := h3, toks := tk3 } := Iu.turnedL (t' := tk3) (ch := [a, kS]) (fun b o hb' e => k3' b o (fun z => hb' (by simp [z])) (by
          rw [g1 b (decide_eq_true (fun z => hb' (by simp [z])))]; exact e)) fun b hb' => by
          rcases List.mem_cons.mp hb' with e | e
          · rw [e]; exact fa0 na.2
          · have e : b = kS := by simpa using e
            rw [e]; exact fkS'
      -- the pairs sorted
      obtain ⟨ib, rfl, hib, hb2⟩ : ∃ ib : List ((V × D) × D), ib.map (·.1.1) = vs ∧ (ib.map (·.1.2) = ds ∧ ib.map (·.2) = ks) ∧ ∀ b ∈ ib, Rp Γ.hd G b.1.1 b.1.2 := by
        obtain ⟨bs, rfl, rfl, hb'⟩ := rp.zip
        have hbk : bs.length = ks.length := by rw [hkl, List.length_map]
        refine ⟨bs.zip ks, ?_, ⟨?_, ?_⟩, fun b hb2 => hb' b.1 (List.of_mem_zip hb2).1⟩
        · rw [show (fun x : (V × D) × D => x.1.1) = (·.1) ∘ (·.1) from rfl, ← List.map_map, List.map_fst_zip (by omega)]
        · rw [show (fun x : (V × D) × D => x.1.2) = (·.2) ∘ (·.1) from rfl, ← List.map_map, List.map_fst_zip (by omega)]
        · exact List.map_snd_zip (by omega)
      obtain ⟨hib1, hib2⟩ := hib
      have eo := PySem.W.keyedOut_each (rev := false) (R := fun u (b : (V × D) × D) => RelV b.1.1 u) (bs := ib) (vs := its) (out := PySem.W.sortVals (PySem.W.dataKind s'.heap ks) false kA.toList its) (fun b => b.2)
        (by rw [hib2]; exact ⟨s'.heap, kA.toList, hal, rfl, hkr⟩) (vals_each (f := fun b : (V × D) × D => b.1.1) rv)
      have rv3 := each_vals (f := fun b : (V × D) × D => b.1.1) eo
      have hl3 : ((ib.mergeSort (dataLe false fun b => b.2)).map fun b => b.1.1).length ≤ sizeLine := by
        rw [List.length_map, List.length_mergeSort]
        rw [List.length_map] at hz
        exact hz
      refine ⟨.ref a, upd Hc a (.lst ((ib.mergeSort (dataLe false fun b => b.2)).map fun b => b.1.1)), I3.adopt (fa0 na.2) ⟨hl3, _, c, rv3, n3⟩, rfl, q Gc Hc a _ tc oc Ha0 na.2 ?_⟩
      have e5 : sortByL ds ks = (ib.mergeSort (dataLe false fun b => b.2)).map fun b => b.1.2 := by
        unfold sortByL
        have e6 : ds.zip ks = ib.map fun b => (b.1.2, b.2) := by
          rw [← hib1, ← hib2, List.zip_map']
        rw [e6, ← List.map_mergeSort (f := fun b : (V × D) × D => (b.1.2, b.2)) (r := dataLe false fun b => b.2) (s := dataLe false (·.2)) (l := ib) fun a _ b _ => rfl, List.map_map]
        rfl
      rw [e5]
      have : ∀ l : List ((V × D) × D), (∀ b ∈ l, Rp Γ.hd G b.1.1 b.1.2) → RpA Γ.hd Gc (l.map fun b => b.1.1) (l.map fun b => b.1.2) := by
        intro l
        induction l with
        | nil => intro _; exact .nil
        | cons b l ih => intro h; exact .cons (Rp.mono tc.ex _ (h b (by simp))) (ih fun c hc => h c (by simp [hc]))
      exact this _ fun b hb3 => hb2 b (List.mem_mergeSort.mp hb3)
end
def rSortKey (K : PySem.W.Frag) (F : Fn) (fa : Addr) : List V → List V → Hp → VK → Prop := fun xs zs H Q => ∃ (Γ : Gh) (G : Hp) (s s' : S) (l : Addr) (vs : List V) (ds ks : List D), xs = [.ref l] ∧ zs = [.ref fa] ∧
  SqL K H l vs ∧ St0 Γ G H s ∧ RpA Γ.hd G vs ds ∧ keysGo F ds s = some (ks, s') ∧ keyOkB ds ks = true ∧
  ∀ G' H' p ys, Step Γ G H G' H' → St0 Γ G' H' s' → H p = none → H' p = none → RpA Γ.hd G' ys (sortByL ds ks) → Q (.ref p) (upd H' p (.lst ys))
section
variable {X : Cx} {W : WX} {e : Expr} {f : M D} {p p2 pos kpos : Pos} {x : Str} {k j : Nat} {F : Fn}
theorem do_sortby (c : Cd X.prog X.w X.K X.mg X.base x k F) (hr : Room j X.A) (hk : k + 2 ≤ j) (hc : X.calm = true) (hu : Ur X) (hm : X.mg "sorted" = none) (ha : PE X e (tB X.mg W f)) (hg : Gl X "sorted" := by rfl) (hgx : Gl X x := by rfl) (hdx : (x == ("__debug__" : Str)) = false := by decide)
    (he : backTo pos (starEach [e] X.env) = (false, eval e X.env) :: backTo pos (starEach [] X.env) := by rfl) (hpl : (backTo pos (starEach [e] X.env)).any (·.1) = false := by rfl) (hst : starEach [e] X.env = (false, eval e X.env) :: starEach [] X.env := by rfl)
    (hall : (backToKw pos (keywordEach [⟨some ("key" : Str), .Name x p2, kpos⟩] X.env)).all (·.1.isSome) = true := by rfl) (hnone : (backToKw pos (keywordEach [⟨some ("key" : Str), .Name x p2, kpos⟩] X.env)).any (·.1.isNone) = false := by rfl) (hks : (backToKw pos (keywordEach [⟨some ("key" : Str), .Name x p2, kpos⟩] X.env)).filterMap (·.1) = [("key" : Str)] := by rfl) :
    PE X (.Call (.Name "sorted" p) [e] [⟨some ("key" : Str), .Name x p2, kpos⟩] pos) (tO X.mg W (sortByM F f)) := by
  obtain ⟨fa, fd, ps, hF, hmf, hk2, hb⟩ := c.ex
  refine (pe_callBK (ks := [("key" : Str)]) (r := rSortKey X.K F fa) (fun pins s σ H xs zs us ws Q I r rz h => ?_) hg hm (by rfl) (pa_cons ha pa_nil hst) (pk_cons (pe_glob (v := .ref fa) hgx hmf rfl hdx) pk_nil) (by decide) (by decide) he hpl hall hnone hks).imp fun σ H Q ⟨Γ, B, G0, G, ρ, s, R, h⟩ => ?_
  · obtain ⟨Γ, G, s0, s1, l, vs, ds, ks, rfl, rfl, h1, h2, h3, h4, h5, h6⟩ := h
    obtain rfl := Vals.ref1 r
    obtain rfl := Vals.ref1 rz
    exact cr_sortKey hc hu hF (hr.mono hk) hb I h1 h2 h3 h4 h5 h6
  · refine ⟨Γ, B, G0, G, ρ, s, R, h.bind.imp fun d s1 h1 v G1 H1 t1 o1 b1 => ?_⟩
    cases d with
    | list ds =>
      obtain ⟨l, vs, rfl, hH, r⟩ := b1.list o1
      simp only at h1
      cases hk4 : keysGo F ds s1 with
      | none => rw [hk4] at h1; exact h1.elim
      | some q =>
        obtain ⟨ks, s2⟩ := q
        rw [hk4] at h1
        simp only at h1
        split at h1
        · rename_i hok
          refine ⟨Γ, G1, s1, s2, l, vs, ds, ks, rfl, rfl, SqL.of hH, o1, r, hk4, hok, fun G' H' p ys t o hp1 hp rr => ?_⟩
          refine h1 p G' _ ((t1.trans t o.gm).trans (Step.newO hp) o.gm) (o.newO hp) ?_ (o.gfree hp) (by rw [upd_same]; exact rr)
          cases q : H p with
          | none => rfl
          | some u => rw [t1.keep p u q (o1.nmut hp1)] at hp1; cases hp1
        · exact h1.elim
    | _ => exact h1.elim
end
end Dy

set_option Elab.async false
set_option linter.all false
set_option maxRecDepth 100000
set_option maxHeartbeats 4000000
/-! Dicts with text and whole-number keys: display, get. -/
namespace Dy
open PySem PySem.Spec PyProof.Rows L2

def getD2 (d k x : D) : Option D := match d with
  | .dict l => if isHnd l then none else match keyOf k with
    | some _ => some ((dlook l k).getD x)
    | none => none
  | _ => none
def isDictB : D → Bool
  | .dict l => !isHnd l
  | _ => false
def getM (f g h : M D) : M D := bindM f fun d => if isDictB d then bindM g fun k => bindM h fun x => ofO (getD2 d k x) else fun _ _ => .st
theorem RpO.getD {hd : Option Addr} {G : Hp} {o : Option V} {p : Option D} {v : V} {d : D} (h : RpO hd G o p) (r : Rp hd G v d) : Rp hd G (o.getD v) (p.getD d) := by
  cases o <;> cases p <;> first | exact h | exact r | exact h.elim
/-- the pairs of a display -/
def pairsM : List (M D × M D) → M (List (D × D))
  | [] => retM []
  | (a, b) :: r => bindM a fun x => bindM b fun y => bindM (pairsM r) fun ps => retM ((x, y) :: ps)
def keysOk (l : List (D × D)) : Bool := l.all (fun p => (keyOf p.1).isSome) && decide (l.length ≤ 15)
def mergeD (l ps : List (D × D)) : List (D × D) := ps.foldl (fun acc p => dput acc p.1 p.2) l
def dictM (ps : List (M D × M D)) : M D := bindM (pairsM ps) fun l => if keysOk l then retM (.dict (mergeD [] l)) else fun _ _ => .st
theorem RpK.merge {hd : Option Addr} {G : Hp} : ∀ {ps : List (D × D)} {vs : List (Key × V)} {l : List (D × D)} {kvs : List (Key × V)}, RpK hd G vs ps → RpK hd G kvs l → RpK hd G (mergeK kvs vs) (mergeD l ps)
  | [], _, _, _, h, r => by cases h; exact r
  | (_, d) :: ps, _, l, kvs, h, r => by
    cases h with
    | @cons k v kvs' _ _ hv t =>
      show RpK hd G (mergeK (putK kvs k v) kvs') (mergeD (dput l (keyD k) d) ps)
      exact RpK.merge t (r.put hv k)
section
variable {X : Cx} {W : WX} {o e f : Expr} {fo fe ff : M D} {apos cpos pos : Pos} {mg : Str → Option Value}
theorem de_get2 (hu : Ur X) (ho : PE X o (tB X.mg W fo)) (he : PE X e (tB X.mg W fe)) (hf : PE X f (tE X.mg W ff)) (m : M2 X o "get" apos e f cpos := by exact ⟨by rfl, by rfl, by rfl, by rfl⟩) : PE X (.Call (.Attribute o "get" apos) [e, f] [] cpos) (tE X.mg W (getM fo fe ff)) :=
  (pe_dget2 (by have : X.A.units + 100 < cLine := hu; omega) ho he hf m).imp fun σ H Q ⟨Γ, B, G0, G, ρ, s, R, h⟩ => by
    refine ⟨Γ, B, G0, G, ρ, s, R, h.bind.imp fun d s1 h1 v G1 H1 t1 o1 b1 => ?_⟩
    by_cases hdd : isDictB d = true
    · rw [if_pos hdd] at h1
      cases d with
      | dict l =>
        have hl : isHnd l = false := by simpa [isDictB] using hdd
        obtain ⟨a, kvs, rfl, hH, rk⟩ := b1.dict o1 hl
        refine ⟨a, rfl, .inl ⟨kvs, .inl hH⟩, Γ, B, G0, G1, ρ, s1, R.go t1 o1, (h1.bind.step t1).imp fun k s2 h2 y G2 H2 t2 o2 b2 => ⟨Γ, B, G0, G2, ρ, s2, (R.go t1 o1).go t2 o2, (h2.bind.step (t1.trans t2 o2.gm)).imp fun x s3 h3 z G3 H3 t3 o3 r3 => ?_⟩⟩
        obtain ⟨d', hd, kk⟩ := h3.ofO
        have t03 := t1.trans (t2.trans t3 o3.gm) o3.gm
        simp only [getD2, hl, Bool.false_eq_true, if_false] at hd
        cases hk : keyOf k with
        | none => rw [hk] at hd; cases hd
        | some key =>
          rw [hk] at hd
          cases hd
          obtain rfl := keyOf_eq hk
          have b13 := ((b1.step t2).step t3)
          obtain ⟨a', kvs3, e3, hH3, rk3⟩ := b13.dict o3 hl
          cases e3
          exact ⟨valV kvs3 key, by rw [b2.key]; exact DGet.k hH3, kk _ G3 H3 t03 o3 ((rk3.look key).getD r3)⟩
      | _ => cases hdd
    · rw [if_neg hdd] at h1; exact h1.elim
/-- what the pairs' readings ask -/
def trsOf (mg : Str → Option Value) (ps : List (M D × M D)) : List (TE × TE) := ps.map fun p => (tE mg W p.1, tE mg W p.2)
theorem pairs_t {σ : L2.St} {ρ : Env'} {Γ : Gh} {B G0 : Hp} : ∀ (ps : List (M D × M D)) (G H : Hp) (s : S) (Q : List (V × V) → Hp → Prop), Rel Γ B G0 G H σ ρ s →
    PostX mg W Γ G H σ (fun l s' => ∀ (vs : List (V × V)) G' H', Step Γ G H G' H' → St0 Γ G' H' s' → RpA Γ.hd G' (vs.map (·.1)) (l.map (·.1)) → RpA Γ.hd G' (vs.map (·.2)) (l.map (·.2)) → vs.length = l.length → Q vs H') (pairsM ps ρ s) → tPairs (trsOf (W := W) mg ps) σ H Q
  | [], G, H, s, Q, R, h => h [] G H .refl R.ok .nil .nil rfl
  | (a, b) :: ps, G, H, s, Q, R, h => by
    refine ⟨Γ, B, G0, G, ρ, s, R, (PostX.bind (f := a) h).imp fun x s1 h1 v G1 H1 t1 o1 r1 => ⟨Γ, B, G0, G1, ρ, s1, R.go t1 o1, ((PostX.bind (f := b) h1).step t1).imp fun y s2 h2 u G2 H2 t2 o2 r2 => ?_⟩⟩
    have t12 := t1.trans t2 o2.gm
    refine pairs_t ps G2 H2 s2 _ (R.go t12 o2) (((PostX.bind (f := pairsM ps) h2).step t12).imp fun l s3 h3 vs G3 H3 t3 o3 ra rb hl => ?_)
    exact h3 ((v, u) :: vs) G3 H3 (t12.trans t3 o3.gm) o3 (.cons (Rp.mono t3.ex _ (Rp.mono t2.ex _ r1)) ra) (.cons (Rp.mono t3.ex _ r2) rb) (by simp [hl])
theorem keys_of {hd : Option Addr} {G : Hp} : ∀ {vs : List (V × V)} {l : List (D × D)}, RpA hd G (vs.map (·.1)) (l.map (·.1)) → RpA hd G (vs.map (·.2)) (l.map (·.2)) → vs.length = l.length → (l.all fun p => (keyOf p.1).isSome) = true → ∃ kvs : List (Key × V), vs = kvs.map (fun kv => (kV kv.1, kv.2)) ∧ RpK hd G kvs l
  | [], [], _, _, _, _ => ⟨[], rfl, .nil⟩
  | [], _ :: _, _, _, h, _ => by cases h
  | _ :: _, [], _, _, h, _ => by cases h
  | (v, u) :: vs, (a, b) :: l, ra, rb, hl, hk => by
    rw [List.all_cons, Bool.and_eq_true] at hk
    cases ra with
    | cons r1 ra => cases rb with
      | cons r2 rb =>
        obtain ⟨kvs, rfl, rk⟩ := keys_of ra rb (by simpa using hl) hk.2
        obtain ⟨k, hk1⟩ := Option.isSome_iff_exists.mp hk.1
        have e := keyOf_eq hk1
        have e : a = keyD k := e
        subst e
        exact ⟨(k, u) :: kvs, by rw [List.map_cons]; exact congrArg (fun z => (z, u) :: kvs.map _) (Rp.key r1), .cons r2 rk⟩
/-- {k: v, ..} -/
theorem do_dict {keys : List (Option Expr)} {values : List Expr} {ps : List (M D × M D)} (h : PPs X pos keys values (trsOf (W := W) X.mg ps)) (hall : keys.all (·.isSome) = true := by rfl) (hl : keys.length = values.length := by rfl) (h0 : keys ≠ [] := by exact List.cons_ne_nil _ _) (h15 : keys.length ≤ 15 := by decide) :
    PE X (.Dict keys values pos) (tO X.mg W (dictM ps)) := (pe_disp h hall hl h0 h15).imp fun σ H Q ⟨Γ, B, G0, G, ρ, s, R, h⟩ p hp => by
  have hm := R.ok.nmut hp
  have o1 := R.ok.newO (o := .dK []) hp
  refine pairs_t ps G _ s _ (R.go (Step.newO hp) o1) ((h.bind.step (Step.newO hp)).imp fun l s1 h1 vs G1 H1 t1 o2 ra rb hl => ?_)
  by_cases hk : keysOk l = true
  · rw [if_pos hk] at h1
    simp only [keysOk, Bool.and_eq_true] at hk
    obtain ⟨kvs, rfl, rk⟩ := keys_of ra rb hl hk.1
    have hp1 : H1 p = some (.dK []) := t1.keep p _ upd_same hm
    refine ⟨hp1, kvs, rfl, by rw [rk.length]; exact of_decide_eq_true hk.2, ?_⟩
    have g1 : G1 p = none := by
      cases z : G1 p with
      | none => rfl
      | some u =>
        rcases t1.fr p u z with y | y
        · rw [R.ok.gfree hp] at y; cases y
        · rw [upd_same] at y; cases y
    refine h1 p G1 _ (((Step.newO hp).trans t1 o2.gm).putO hp) (o2.putO g1 hm) hp g1 ?_
    rw [upd_same]
    exact RpK.merge rk .nil
  · rw [if_neg hk] at h1; exact h1.elim
theorem do_dict0 : PE X (.Dict [] [] pos) (tO X.mg W (retM (.dict []))) := pe_dnewK.imp fun σ H Q ⟨Γ, B, G0, G, ρ, s, R, h⟩ p hp => h p G _ (Step.newO hp) (R.ok.newO hp) hp (R.ok.gfree hp) (by rw [upd_same]; exact .nil)
end
end Dy

set_option Elab.async false
set_option linter.all false
set_option maxRecDepth 100000
set_option maxHeartbeats 4000000
/-! An exception's field in its suite. -/
namespace L2
open PySem PySem.Spec PyProof.Rows
structure AtX (K : PySem.W.Frag) (C : Addr) (f : Str) : Prop where
  ga : PySem.W.findIn K (.ref C) "__getattribute__" = some (some (.builtin "BaseException.__getattribute__"))
  gg : PySem.W.findIn K (.ref C) "__getattr__" = some none
  exC : PySem.W.subIn K (.ref C) (.type "BaseException") = some true
  hdC : PySem.W.hasDictIn K C = true
  noN : PySem.W.findIn K (.ref C) f = some none
def tAtX (C : Addr) (f : Str) (a : Addr) (cls : Value) (d : Option Addr) (te : TE) : TE := fun σ H Q => te σ H fun x H1 => x = .ref a ∧ cls = .ref C ∧ ∃ (dd : Addr) (fs : List (Str × V)) (v : V), d = some dd ∧ H1 dd = some (.xd fs) ∧ fs.lookup f = some v ∧ Q v H1
theorem pe_atX {X : Cx} {C : Addr} {f : Str} {a : Addr} {oe : Obj} {cls : Value} {d : Option Addr} {pn : List (Addr × Obj)} {e : Expr} {te : TE} {pos : Pos} (T : AtX X.K C f) (hz : Zc cls d oe) (hf : ∃ vs, oe.data = .fields vs) (he : PE (X.suite a ((a, oe) :: pn)) e te)
    (hc : (("__class__" : Str) == f) = false := by decide) (hb : attributeBase e f X.env (eval e X.env) = eval e X.env := by rfl) :
    PE (X.suite a ((a, oe) :: pn)) (.Attribute e f pos) (tAtX C f a cls d te) := by
  refine ⟨fun pins s σ H Q I h => ?_⟩
  refine attr_of hb (thn (he.run pins s σ H _ I h) fun u s1 hh => ?_)
  obtain ⟨x, H1, I1, rx, ex, ec, dd, fs, v, ed, ea, l, q⟩ := hh
  subst ex
  obtain rfl : u = Value.ref a := rx
  subst ec
  subst ed
  obtain ⟨ha, _⟩ := I1.pin (a, oe) (List.mem_append_left _ List.mem_cons_self)
  obtain ⟨vs, hd⟩ := hf
  have hx : ObjOk X.prog X.w H1 s1.heap dd (.xd fs) := I1.hok dd _ ea
  obtain ⟨mA, hns, hr⟩ := hx
  obtain ⟨od, ho, hl⟩ := lookIn_ns hns
  obtain ⟨u, hu, ru⟩ := RelO.some_of (v := v) (o := mA f) (by rw [← l]; exact hr f)
  have J : PySem.W.InstAt s1.heap a oe C (some od) := ⟨ha, hz.1, by unfold PySem.W.notCls; rw [hd] <;> rfl, by rw [hz.2]; exact ho⟩
  exact HandSPX.exc_get I1.kIn J T.ga T.gg T.exC (PySem.W.findObj_own T.hdC T.noN rfl (by rw [hl, hu])) (handed_of ru) ⟨v, H1, I1.tok _, ru, q⟩
end L2
namespace Dy
open PySem PySem.Spec PyProof.Rows L2
def scB : D → Bool
  | .none => true
  | .bool _ => true
  | .int _ => true
  | .str _ => true
  | _ => false
theorem toV_rp {hd : Option Addr} {G : Hp} {d : D} (h : scB d = true) : Rp hd G (toV d) d := by
  cases d <;> first | (cases h; done) | constructor
theorem lookup_toV (f : Str) (fs : List (Str × D)) : (fs.map fun p => (p.1, toV p.2)).lookup f = (fs.lookup f).map toV := by
  induction fs with
  | nil => rfl
  | cons p fs ih =>
    obtain ⟨g, d⟩ := p
    rw [List.map_cons, List.lookup_cons, List.lookup_cons]
    cases f == g <;> simp [ih]
/-- return e.f -/
def retX (f : Str) (e : Exn) : MS := fun _ s => match e.2.lookup f with
  | some d => if scB d then .rt (.sh d) s else .st
  | none => .st
theorem retX_ok {X : Cx} {Wout : WX} {x f : Str} {C : Addr} {i : Nat} (gC : X.mg x = some (.ref C)) : ∀ (Γ : Gh) (B G0 G H : Hp) (σ : L2.St) (ρ : Env') (s : S) (e : Exn) (a : Addr) (cls : Value) (dd : Option Addr) (D : Ends), Rel Γ B G0 G H (σ.set i (some (.ref a))) (ρ.set i .un) s → i < σ.length → ExR X.mg e cls dd H → e.1 = x →
    PostS X.mg Wout Γ B G0 D (retX f e (ρ.set i .un) s) → tRet (tAtX C f a cls dd (tVar i)) D (σ.set i (some (.ref a))) H := by
  intro Γ B G0 G H σ ρ s e a cls dd D R hi hx ex h
  obtain ⟨C', a', rfl, gC', rfl, hH⟩ := hx
  rw [ex, gC] at gC'
  cases gC'
  unfold retX at h
  cases q : e.2.lookup f with
  | none => rw [q] at h; exact h.elim
  | some d =>
    rw [q] at h
    simp only at h
    split at h
    · rename_i hs
      exact ⟨.ref a, by rw [List.getElem?_set_self hi], rfl, rfl, a', _, toV d, rfl, hH, by rw [lookup_toV, q]; rfl, h _ G H R.ok R.step (toV_rp hs)⟩
    · exact h.elim
end Dy

set_option Elab.async false
set_option linter.all false
set_option maxRecDepth 100000
set_option maxHeartbeats 4000000
/-! sorted(rows) of rows (int, text, anything), no two of the same int and text. -/
namespace Dy
open PySem PySem.Spec PyProof.Rows L2 SrtO
def lex3 (p q : Int × Str) : Bool := if p.1 = q.1 then decide (p.2.cps.toList < q.2.cps.toList) else decide (p.1 < q.1)
theorem lex3_iff {p q : Int × Str} : lex3 p q = true ↔ p.1 < q.1 ∨ (p.1 = q.1 ∧ p.2.cps.toList < q.2.cps.toList) := by
  unfold lex3
  by_cases e : p.1 = q.1
  · rw [if_pos e, decide_eq_true_eq]
    constructor
    · exact fun h => .inr ⟨e, h⟩
    · rintro (h | h)
      · omega
      · exact h.2
  · rw [if_neg e, decide_eq_true_eq]
    constructor
    · exact .inl
    · rintro (h | h)
      · exact h
      · exact absurd h.1 e
theorem lex3_no {p q : Int × Str} : lex3 p q = false ↔ q.1 < p.1 ∨ (p.1 = q.1 ∧ ¬ p.2.cps.toList < q.2.cps.toList) := by
  rw [← Bool.not_eq_true, lex3_iff]
  constructor
  · intro h
    rcases Int.lt_trichotomy p.1 q.1 with c | c | c
    · exact absurd (.inl c) h
    · exact .inr ⟨c, fun z => h (.inr ⟨c, z⟩)⟩
    · exact .inl c
  · rintro (h | h) (g | g)
    · omega
    · omega
    · omega
    · exact h.2 g.2
theorem swo3 {α : Type} (k : α → Int × Str) : Swo fun v u => lex3 (k v) (k u) := by
  refine ⟨fun x y h => ?_, fun x y z h1 h2 => ?_⟩
  · rw [lex3_no]
    rcases lex3_iff.mp h with h | h
    · exact .inl h
    · exact .inr ⟨h.1.symm, fun z => absurd (List.lt_trans h.2 z) (List.lt_irrefl _)⟩
  · rw [lex3_no]
    rcases lex3_no.mp h1 with a | a <;> rcases lex3_no.mp h2 with b | b
    · exact .inl (by omega)
    · exact .inl (by omega)
    · exact .inl (by omega)
    · refine .inr ⟨by omega, fun c => ?_⟩
      have a2 := List.not_lt.mp a.2
      have b2 := List.not_lt.mp b.2
      exact List.not_lt.mpr (List.le_trans a2 b2) c
theorem lex3_anti {p q : Int × Str} (h1 : lex3 p q = false) (h2 : lex3 q p = false) : p = q := by
  rcases lex3_no.mp h1 with a | a <;> rcases lex3_no.mp h2 with b | b
  · omega
  · omega
  · omega
  · have e : p.2.cps.toList = q.2.cps.toList := List.le_antisymm (List.not_lt.mp b.2) (List.not_lt.mp a.2)
    have e2 : p.2 = q.2 := by
      obtain ⟨p1, ⟨p2⟩⟩ := p
      obtain ⟨q1, ⟨q2⟩⟩ := q
      simp only at e
      rw [Array.toList_inj.mp e]
    exact Prod.ext a.1 e2

/-! ### the comparison -/
def Is3 (h : Heap) (v : Value) (k : Int × Str) : Prop := ∃ a o t u z n, v = .ref a ∧ h.get? a = some o ∧ o.cls = .type "tuple" ∧ o.data = .seq #[.int k.1 t, .str k.2 u, z] n
theorem Is3.keeps {h h' : Heap} {v : Value} {q : Int × Str} (p : Is3 h v q) (k : ∀ b o, h.get? b = some o → o.cls = .type "tuple" → h'.get? b = some o) : Is3 h' v q := by
  obtain ⟨a, o, t, u, z, n, e, ho, hc, hd⟩ := p
  exact ⟨a, o, t, u, z, n, e, k _ _ ho hc, hc, hd⟩
section
variable {prog : Program} {w : World} {A : Around} {E : Value → Shared → Prop} {s : Shared}
theorem cmp3 {vs : List Value} {k : Value → Int × Str} (hp : ∀ v ∈ vs, Is3 s.heap v (k v)) (hi : ∀ v ∈ vs, ∀ u ∈ vs, k v = k u → v = u) : Cmp prog w A s (tuples' true) (fun p => p.1 ∈ vs) (lt2 fun v u => lex3 (k v) (k u)) := by
  intro p q hm hm'
  have h1 := hp _ hm
  have h2 := hp _ hm'
  have hi2 := hi _ hm _ hm'
  show wpAny (model prog w) A (keyLt' (tuples' true) p.1 q.1) (fun r s' => s' = s ∧ r = lex3 (k p.1) (k q.1)) (fun _ _ => False) s
  unfold lex3
  generalize k p.1 = kp at h1 hi2 ⊢
  generalize k q.1 = kq at h2 hi2 ⊢
  obtain ⟨x, y⟩ := kp
  obtain ⟨x', y'⟩ := kq
  obtain ⟨a, o, t, u, z, n, e, ho, hc, hd⟩ := h1
  obtain ⟨a', o', t', u', z', n', e', ho', hc', hd'⟩ := h2
  rw [e, e'] at hi2
  rw [e, e']
  simp only at hd hd' ⊢
  refine PySem.W.kat_lt ho hd ho' hd' ?_
  show PySem.W.KatLex prog w A true (decide (3 < 3)) _ [(.int x t, .int x' t'), (.str y u, .str y' u'), (z, z')] 0 s
  refine PySem.W.kat_cons (SeqAt.EqAt.int_int x t x' t' prog w _ _ ?_)
  refine PySem.W.kat_go (fun e1 => ?_) (fun e1 => ?_)
  · have ex : x = x' := by simpa using e1
    refine PySem.W.kat_yes (PySem.W.kat_cons (SeqAt.EqAt.str_str y u y' u' prog w _ _ ?_))
    refine PySem.W.kat_go (fun e2 => ?_) (fun e2 => ?_)
    · have ey : y = y' := by simpa using e2
      have hz := hi2 (by rw [ex, ey])
      cases hz
      rw [ho] at ho'; cases ho'
      rw [hd] at hd'
      have : z = z' := by
        injection hd' with q1 q2
        have := congrArg Array.toList q1
        simp at this
        exact this.2.2
      subst this
      refine PySem.W.kat_yes (PySem.W.kat_cons (SeqAt.EqAt.same z prog w _ _ ?_))
      refine PySem.W.kat_yes (PySem.W.kat_nil ⟨rfl, ?_⟩)
      rw [if_pos ex, ey]
      exact (decide_eq_false (List.lt_irrefl _)).symm
    · refine PySem.W.kat_no (PySem.W.kat_one _ _ (PyProof.Rows.lt_str ?_))
      refine (show s = s ∧ decide (y.cps.toList < y'.cps.toList) = _ from ⟨rfl, ?_⟩)
      rw [if_pos ex]
  · have ex : ¬ x = x' := by simpa using e1
    exact PySem.W.kat_no (oneLt_int ⟨rfl, (if_neg ex).symm⟩)
theorem firsts3 {h : Heap} : ∀ {vs : List Value}, (∀ v ∈ vs, ∃ k, Is3 h v k) → ∃ fs : List Value, PySem.W.KatTups h vs fs ∧ fs.length = vs.length ∧ ∀ f ∈ fs, ∃ x t, f = Value.int x t
  | [], _ => ⟨[], PySem.W.KatTups.nil, rfl, fun _ hm => by simp at hm⟩
  | v :: vs, hp => by
    obtain ⟨fs, h1, h2, h3⟩ := firsts3 (vs := vs) fun v' hm => hp v' (List.mem_cons_of_mem _ hm)
    obtain ⟨k, a, o, t, u, z, n, e, ho, hc, hd⟩ := hp v (List.mem_cons_self ..)
    subst e
    refine ⟨.int k.1 t :: fs, PySem.W.KatTups.cons ho hc hd rfl h1, by rw [List.length_cons, List.length_cons, h2], fun f hm => ?_⟩
    rcases List.mem_cons.mp hm with rfl | hm
    · exact ⟨k.1, t, rfl⟩
    · exact h3 f hm
theorem sortable3 {a : Addr} {vs : List Value} {k : Value → Int × Str} (h0 : 0 < vs.length) (hp : ∀ v ∈ vs, Is3 s.heap v (k v)) (hi : ∀ v ∈ vs, ∀ u ∈ vs, k v = k u → v = u) (ha : ∀ o, s.heap.get? a = some o → o.cls ≠ .type "tuple") : SortableO prog w A s a vs fun v u => lex3 (k v) (k u) := by
  intro h' keep
  have hp' : ∀ v ∈ vs, Is3 h' v (k v) := fun v hm => (hp v hm).keeps fun b o e c => keep b o (fun z => by subst z; exact ha o e c) e
  obtain ⟨fs, h1, h2, h3⟩ := firsts3 fun v hm => ⟨_, hp' v hm⟩
  refine ⟨tuples' true, fun Q E hq => ?_, cmp3 hp' hi⟩
  refine PySem.W.kat_kind (T := .type "int") h1 (by omega) (fun f hm => ?_) (by rfl) ?_
  · obtain ⟨x, t, rfl⟩ := h3 f hm
    exact PySem.W.Looks.now
  · have e : (Value.type "int" != Value.type "tuple") = true := by first | decide +kernel | rfl | decide
    rw [e]
    exact hq
theorem sorted3 {l : Addr} {vs : List Value} {k : Value → Int × Str} {Q : Value → Shared → Prop} (hl : s.heap.IsList l vs.toArray) (hz : vs.length ≤ sizeLine) (hp : ∀ v ∈ vs, Is3 s.heap v (k v)) (hi : ∀ v ∈ vs, ∀ u ∈ vs, k v = k u → v = u)
    (h : ∀ out : List Value, Srtd (fun v u => lex3 (k v) (k u)) out → out.Perm vs → Q (.ref (s.heap.objs.size + 1)) { s with heap := sortedAll s.heap vs out.toArray }) :
    wpAny (model prog w) A (call (.builtin "sorted") [.ref l]) Q E s := by
  refine sorted_ord (swo3 k) hl hz (fun h2 h₁ a ha kk => ?_) fun out hs hb => ?_
  · refine sortable3 (s := { s with heap := h₁ }) (by omega) (fun v hm => (hp v hm).keeps fun b o e _ => (kk b o e).2) hi fun o e => ?_
    have e' : some o = some (seqObj "list" vs.toArray 0) := e.symm.trans ha
    cases e'
    intro c
    exact absurd (Value.type.inj c) (by decide)
  · exact h out hs hb.perm
end

/-! ### the data -/
def key3 : D → Int × Str
  | .tuple [.int n, .str t, _] => (n, t)
  | _ => (0, ("" : Str))
def is3 : D → Bool
  | .tuple [.int _, .str _, _] => true
  | _ => false
def le3 (a b : D) : Bool := !lex3 (key3 b) (key3 a)
def sort3L (ds : List D) : List D := ds.mergeSort le3
def dist3 : List D → Bool
  | [] => true
  | d :: ds => ds.all (fun e => decide (key3 e ≠ key3 d)) && dist3 ds
def sort3OkB (ds : List D) : Bool := ds.all is3 && dist3 ds
def sort3D : D → Option D
  | .list ds => if sort3OkB ds then some (.list (sort3L ds)) else none
  | _ => none
def rSort3 (K : PySem.W.Frag) : List V → Hp → VK → Prop := fun vs H Q => ∃ (a : Addr) (bs : List (V × D)), vs = [V.ref a] ∧ SqL K H a (bs.map (·.1)) ∧
  (∀ b ∈ bs, ∃ c n t z, b.1 = V.ref c ∧ SqT K H c [.int n, .str t, z] ∧ key3 b.2 = (n, t)) ∧ dist3 (bs.map (·.2)) = true ∧
  ∀ p, H p = none → Q (.ref p) (upd H p (.lst ((bs.mergeSort fun a b => le3 a.2 b.2).map (·.1))))
theorem le3_trans {a b c : D} (h1 : le3 a b = true) (h2 : le3 b c = true) : le3 a c = true := by
  unfold le3 at *
  rw [Bool.not_eq_true'] at *
  exact (swo3 key3).tr a b c h1 h2
theorem le3_total (a b : D) : (le3 a b || le3 b a) = true := by
  unfold le3
  cases h : lex3 (key3 b) (key3 a) with
  | false => rfl
  | true => rw [(swo3 key3).asym b a h]; rfl
theorem dist3_inj {α : Type} (g : α → D) : ∀ {cs : List α}, dist3 (cs.map g) = true → ∀ c ∈ cs, ∀ c' ∈ cs, key3 (g c) = key3 (g c') → c = c'
  | [], _, _, hm, _, _, _ => by simp at hm
  | x :: cs, h, c, hm, c', hm', e => by
    rw [List.map_cons] at h
    simp only [dist3, Bool.and_eq_true, List.all_eq_true, decide_eq_true_eq, List.mem_map, forall_exists_index, and_imp, forall_apply_eq_imp_iff₂] at h
    rcases List.mem_cons.mp hm with r | r <;> rcases List.mem_cons.mp hm' with r' | r'
    · rw [r, r']
    · subst r; exact absurd e.symm (h.1 c' r')
    · subst r'; exact absurd e (h.1 c r)
    · exact dist3_inj g h.2 c r c' r' e
noncomputable def k3v (h : Heap) (v : Value) : Int × Str := open Classical in if p : ∃ k, Is3 h v k then p.choose else (0, ("" : Str))
theorem Is3.uniq {h : Heap} {v : Value} {k k' : Int × Str} (a : Is3 h v k) (b : Is3 h v k') : k = k' := by
  obtain ⟨a, o, t, u, z, n, e, ho, hc, hd⟩ := a
  obtain ⟨a', o', t', u', z', n', e', ho', hc', hd'⟩ := b
  rw [e] at e'; cases e'
  rw [ho] at ho'; cases ho'
  rw [hd] at hd'
  injection hd' with q1 q2
  have := congrArg Array.toList q1
  simp at this
  exact Prod.ext this.1.1 this.2.1.1
theorem k3v_of {h : Heap} {v : Value} {k : Int × Str} (a : Is3 h v k) : k3v h v = k := by
  unfold k3v
  rw [dif_pos ⟨k, a⟩]
  exact (Exists.choose_spec (⟨k, a⟩ : ∃ k, Is3 h v k)).uniq a
theorem vals_zip {β : Type} {f : β → V} : ∀ {bs : List β} {us : List Value}, Vals (bs.map f) us → ∃ cs : List (Value × β), cs.map (·.1) = us ∧ cs.map (·.2) = bs ∧ ∀ c ∈ cs, RelV (f c.2) c.1
  | [], _, h => by cases h; exact ⟨[], rfl, rfl, by simp⟩
  | b :: bs, _, h => by
    cases h with
    | cons r t =>
      obtain ⟨cs, h1, h2, h3⟩ := vals_zip t
      exact ⟨(_, b) :: cs, by rw [List.map_cons, h1], by rw [List.map_cons, h2], fun c hc => by
        rcases List.mem_cons.mp hc with e | e
        · rw [e]; exact r
        · exact h3 c e⟩
theorem vals_of {β : Type} {f : β → V} {cs : List (Value × β)} (h : ∀ c ∈ cs, RelV (f c.2) c.1) : Vals (cs.map fun c => f c.2) (cs.map (·.1)) := by
  induction cs with
  | nil => exact .nil
  | cons c cs ih => exact .cons (h c (by simp)) (ih fun d hd => h d (by simp [hd]))
theorem cr_sort3 {X : Cx} : CallR X (.builtin "sorted") (rSort3 X.K) := by
  intro pins s σ H vs us Q I r h
  obtain ⟨a, bs, rfl, hs, hd, ho, q⟩ := h
  obtain rfl := Vals.ref1 r
  obtain ⟨its, rv, hl, hz⟩ := I.list hs
  obtain ⟨cs, rfl, rfl, hcs⟩ := vals_zip rv
  have h3 : ∀ c ∈ cs, Is3 s.heap c.1 (key3 c.2.2) := fun c hc => by
    obtain ⟨c2, n, t, z, e1, e2, e3⟩ := hd c.2 (List.mem_map.mpr ⟨c, hc, rfl⟩)
    obtain ⟨its, rr, ⟨o, e, hcl, k, hdt⟩, _⟩ := I.tuple e2
    have r2 := hcs c hc
    rw [e1] at r2
    rw [e3]
    generalize c.1 = c1 at r2
    obtain rfl : c1 = .ref c2 := r2
    cases rr with
    | cons r1 rr =>
      cases rr with
      | cons r2 rr =>
        cases rr with
        | cons r3 rr =>
          cases rr
          obtain ⟨t1, rfl⟩ := r1
          obtain ⟨t2, rfl⟩ := r2
          exact ⟨_, o, t1, t2, _, k, rfl, e, hcl, hdt⟩
  have hkv : ∀ c ∈ cs, k3v s.heap c.1 = key3 c.2.2 := fun c hc => k3v_of (h3 c hc)
  have hin : ∀ c ∈ cs, ∀ c' ∈ cs, key3 c.2.2 = key3 c'.2.2 → c = c' := dist3_inj (fun c : Value × V × D => c.2.2) (by rw [List.map_map] at ho; exact ho)
  have hzl : (cs.map (·.1)).length ≤ sizeLine := by rw [List.length_map]; simpa using hz
  refine sorted3 (k := k3v s.heap) hl.isList hzl (fun v hv => ?_) (fun v hv u hu e => ?_) fun out hso hpm => ?_
  · obtain ⟨c, hc, rfl⟩ := List.mem_map.mp hv
    rw [hkv c hc]; exact h3 c hc
  · obtain ⟨c, hc, rfl⟩ := List.mem_map.mp hv
    obtain ⟨c', hc', rfl⟩ := List.mem_map.mp hu
    rw [hkv c hc, hkv c' hc'] at e
    rw [hin c hc c' hc' e]
  · have eo : out = (cs.mergeSort fun a b => le3 a.2.2 b.2.2).map (·.1) := by
      refine List.Perm.eq_of_pairwise (le := fun a b => lex3 (k3v s.heap b) (k3v s.heap a) = false) (fun u v hu hv h1 h2 => ?_) hso ?_ (hpm.trans ((List.mergeSort_perm cs _).map (·.1)).symm)
      · obtain ⟨c, hc, rfl⟩ := List.mem_map.mp (hpm.mem_iff.mp hu)
        obtain ⟨c', hc', rfl⟩ := List.mem_map.mp hv
        have hc' := List.mem_mergeSort.mp hc'
        have e := lex3_anti h1 h2
        rw [hkv c hc, hkv c' hc'] at e
        rw [hin c hc c' hc' e.symm]
      · refine List.pairwise_map.mpr ?_
        have pw := List.pairwise_mergeSort (le := fun a b : Value × V × D => le3 a.2.2 b.2.2) (fun a b c h1 h2 => le3_trans h1 h2) (fun a b => le3_total _ _) cs
        refine (List.pairwise_iff_forall_sublist).mpr fun {c c'} hsub => ?_
        have hr := (List.pairwise_iff_forall_sublist).mp pw hsub
        have hc := List.mem_mergeSort.mp (hsub.subset (List.mem_cons_self ..))
        have hc' := List.mem_mergeSort.mp (hsub.subset (List.mem_cons_of_mem _ (List.mem_cons_self ..)))
        rw [hkv c hc, hkv c' hc']
        unfold le3 at hr
        simpa using hr
    obtain ⟨ep, he'⟩ := PyProof.Rows.sortedAll_at s.heap (cs.map (·.1)) out.toArray
    have e2 : ((cs.map (·.2)).mergeSort fun a b => le3 a.2 b.2).map (·.1) = (cs.mergeSort fun a b => le3 a.2.2 b.2.2).map fun c => c.2.1 := by
      rw [← List.map_mergeSort (f := fun c : Value × V × D => c.2) (r := fun a b => le3 a.2.2 b.2.2) (s := fun a b => le3 a.2 b.2) (l := cs) fun a _ b _ => rfl, List.map_map]
      rfl
    rw [e2] at q
    have rv2 : Vals ((cs.mergeSort fun a b => le3 a.2.2 b.2.2).map fun c => c.2.1) out := by
      rw [eo]
      exact vals_of (f := fun b : V × D => b.1) fun c hc => hcs c (List.mem_mergeSort.mp hc)
    have hlen : ((cs.mergeSort fun a b => le3 a.2.2 b.2.2).map fun c => c.2.1).length ≤ sizeLine := by rw [List.length_map, List.length_mergeSort]; simpa using hz
    exact ⟨.ref _, upd H (s.heap.objs.size + 1) (.lst ((cs.mergeSort fun a b => le3 a.2.2 b.2.2).map fun c => c.2.1)), I.laid (t' := s.toks) (fun _ _ => PyProof.Rows.sortedAll_old) (Nat.le_succ _) ⟨hlen, _, ep, rv2, by simpa using he'⟩, rfl, q _ (I.hok.fresh (Nat.le_succ _))⟩
theorem r_sort3 {K : PySem.W.Frag} : R1O (rSort3 K) sort3D := by
  intro Γ G H s x dx d Q o bx e k
  cases dx with
  | list ds =>
    simp only [sort3D] at e
    split at e
    · rename_i hok
      cases e
      simp only [sort3OkB, Bool.and_eq_true] at hok
      obtain ⟨hok1, hok2⟩ := hok
      obtain ⟨a, xs, rfl, hH, r⟩ := bx.list o
      obtain ⟨bs, rfl, rfl, hb⟩ := r.zip
      refine ⟨a, bs, rfl, SqL.of hH, fun b hb' => ?_, hok2, fun p hp => ?_⟩
      · have z := List.all_eq_true.mp hok1 b.2 (List.mem_map.mpr ⟨b, hb', rfl⟩)
        have rr := hb b hb'
        generalize b.2 = d at z rr
        generalize b.1 = v at rr
        unfold is3 at z
        split at z
        · rename_i n t u
          cases rr with
          | tup hG ra =>
            cases ra with
            | cons r1 ra => cases r1; cases ra with
              | cons r1 ra => cases r1; cases ra with
                | cons r1 ra => cases ra; exact ⟨_, n, t, _, rfl, SqT.of (o.gh _ _ hG), rfl⟩
        · cases z
      · refine finLO (ds := sort3L (bs.map (·.2))) k o ?_ hp
        have e : sort3L (bs.map (·.2)) = (bs.mergeSort fun a b => le3 a.2 b.2).map (·.2) := by
          unfold sort3L
          exact (List.map_mergeSort (f := fun b : V × D => b.2) (r := fun a b => le3 a.2 b.2) (s := le3) (l := bs) fun a _ b _ => rfl).symm
        rw [e]
        exact RpA.unzip _ fun b hb' => hb b (List.mem_mergeSort.mp hb')
    · cases e
  | _ => cases e
section
variable {X : Cx} {W : WX} {e : Expr} {f : M D} {p pos : Pos}
theorem do_sort3 (hm : X.mg "sorted" = none) (ha : PE X e (tB X.mg W f)) (hg : Gl X "sorted" := by rfl)
    (he : starEach [e] X.env = (false, eval e X.env) :: starEach [] X.env := by rfl) (hpl : (backTo pos (starEach [] X.env)).any (·.1) = false := by rfl) : PE X (.Call (.Name "sorted" p) [e] [] pos) (tO X.mg W (call1 sort3D f)) :=
  do_b1 cr_sort3 r_sort3 hg hm (by rfl) ha (by decide) (by decide) he hpl
end
end Dy

set_option Elab.async false
set_option linter.all false
set_option maxRecDepth 100000
set_option maxHeartbeats 4000000
/-! The law's state out of the script; the law's own def. -/
namespace Dy
open PySem PySem.Spec PyProof.Rows L2

def abI (i : Int) : Int := if i < 0 then -i else i
/-- the cells that a script gives -/
def cellsOf (ns : List Int) : List Int := if (ns.take 63).length = 0 then [0] else (ns.take 63).map abI
def spState (K : PySem.W.Frag) : Sp := fun vs H Q E => ∃ a ns, vs = [.ref a] ∧ SqL K H a (ns.map V.int) ∧ ∀ st cs H', (∀ b o, H b = some o → H' b = some o) → H st = none → H cs = none → H' st = some (.lst [.int 0, .ref cs]) → H' cs = some (.lst ((cellsOf ns).map V.int)) → Q (.ref st) H'
abbrev rAb : List V → Hp → VK → Prop := fun xs H Q => ∃ i, xs = [.int i] ∧ Q (.int (if i < 0 then -i else i)) H
abbrev tSrc (K : PySem.W.Frag) : TI := iList K (tSl (rSlL K) (tVar 0) tNoPart (tPart (tC (.int 63))))
def tState (K : PySem.W.Frag) : TS :=
  tSeq (tAsg (tLc (tSrc K) (gName 2) tYes (t1 rAb (tVar 2)) [2]) (gName 1))
  (tSeq (tIfS (tTest (tOp rEq (t1 (rLe1 K) (tVar 1)) (tC (.int 0)))) (tAsg (tLst (tCons (tC (.int 0)) tNil)) (gName 1)) tNext)
  (tRet (tLst (tCons (tC (.int 0)) (tCons (tVar 1) tNil)))))
theorem cut63 (xs : List V) : cutV xs none (some 63) = xs.take 63 := by
  unfold cutV
  have h1 : HT.sIx xs.length 0 none = 0 := rfl
  have h2 : HT.sIx xs.length xs.length (some 63) = min 63 xs.length := by
    unfold HT.sIx
    simp
    try omega
  rw [h1, h2, List.drop_zero, Nat.sub_zero, List.take_eq_take_iff]
  omega
theorem spState_t {K : PySem.W.Frag} {vs : List V} {H : Hp} {Q : VK} {E : XK} (h : spState K vs H Q E) : ∃ a, vs = [a] ∧ tState K { nx := fun _ H' => Q .non H', rt := Q } [some a, none, none] H := by
  obtain ⟨a, ns, rfl, hS, q⟩ := h
  refine ⟨_, rfl, ?_⟩
  refine ⟨.ref a, rfl, 63, rfl, a, ns.map V.int, rfl, hS, fun p hp => ?_⟩
  rw [cut63, ← List.map_take]
  refine ⟨p, rfl, ⟨_, SqL.of upd_same⟩, fun D hD => ?_⟩
  have hpD : p ≠ D := fun z => by rw [z, upd_same] at hD; cases hD
  have hD0 : H D = none := by rw [upd_ne (Ne.symm hpD)] at hD; exact hD
  have hms : (ns.take 63).length ≤ 63 := by rw [List.length_take]; omega
  have hl63 : 63 < sizeLine := by rw [sizeLine_eq]; omega
  have w := walk_list (K := K) (a := p) (xs := (ns.take 63).map V.int)
  rw [List.length_map] at w
  generalize hms' : ns.take 63 = ms at *
  have fin : ∀ Hc : Hp, (Hc D = some (.lst ((ms.map abI).map V.int)) ∧ Hc p = some (.lst (ms.map V.int)) ∧ ∀ b o, H b = some o → Hc b = some o) →
      gName 1 (.ref D) [some (.ref a), none, none] Hc (tSeq (tIfS (tTest (tOp rEq (t1 (rLe1 K) (tVar 1)) (tC (.int 0)))) (tAsg (tLst (tCons (tC (.int 0)) tNil)) (gName 1)) tNext)
        (tRet (tLst (tCons (tC (.int 0)) (tCons (tVar 1) tNil)))) { nx := fun _ H' => Q .non H', rt := Q }) := by
    rintro Hc ⟨c1, c2, c3⟩
    show tSeq _ _ _ [some (.ref a), some (.ref D), none] Hc
    refine ⟨.ref D, rfl, .ref D, ms.length, rfl, .inl ⟨_, SqL.of c1, by rw [List.length_map, List.length_map]⟩, rfl, _, rfl, ?_⟩
    by_cases hz : ms.length = 0
    · have e : decide (V.int (ms.length : Int) = V.int 0) = true := by rw [hz]; rfl
      rw [e]
      show tAsg (tLst (tCons (tC (.int 0)) tNil)) (gName 1) _ _ _
      refine ⟨by rw [sizeLine_eq]; decide, fun p2 hp2 => ?_⟩
      show tRet (tLst (tCons (tC (.int 0)) (tCons (tVar 1) tNil))) { nx := fun _ H' => Q .non H', rt := Q } [some (.ref a), some (.ref p2), none] _
      refine ⟨.ref p2, rfl, by rw [sizeLine_eq]; simp, fun p3 hp3 => ?_⟩
      have h23 : p2 ≠ p3 := fun z => by rw [z, upd_same] at hp3; cases hp3
      have hp3' : Hc p3 = none := by rw [upd_ne (Ne.symm h23)] at hp3; exact hp3
      refine q p3 p2 _ (fun b o e => ?_) ?_ ?_ upd_same ?_
      · have e2 := c3 b o e
        rw [upd_ne (ne_of_none e2 hp3'), upd_ne (ne_of_none e2 hp2)]
        exact e2
      · cases z : H p3 with
        | none => rfl
        | some o => rw [c3 _ _ z] at hp3'; cases hp3'
      · cases z : H p2 with
        | none => rfl
        | some o => rw [c3 _ _ z] at hp2; cases hp2
      · rw [upd_ne h23, upd_same]
        unfold cellsOf
        rw [hms', if_pos hz]
        rfl
    · have e : decide (V.int (ms.length : Int) = V.int 0) = false := by
        refine decide_eq_false fun z => hz ?_
        injection z with z
        omega
      rw [e]
      show tRet (tLst (tCons (tC (.int 0)) (tCons (tVar 1) tNil))) { nx := fun _ H' => Q .non H', rt := Q } [some (.ref a), some (.ref D), none] Hc
      refine ⟨.ref D, rfl, by rw [sizeLine_eq]; simp, fun p3 hp3 => ?_⟩
      refine q p3 D _ (fun b o e => ?_) ?_ hD0 upd_same ?_
      · have e2 := c3 b o e
        rw [upd_ne (ne_of_none e2 hp3)]
        exact e2
      · cases z : H p3 with
        | none => rfl
        | some o => rw [c3 _ _ z] at hp3; cases hp3
      · rw [upd_ne (ne_of_none c1 hp3), c1]
        unfold cellsOf
        rw [hms', if_neg hz]
  refine lc_it w (fun i Hc => Hc D = some (.lst (((ms.take i).map abI).map V.int)) ∧ Hc p = some (.lst (ms.map V.int)) ∧ ∀ b o, H b = some o → Hc b = some o) ?_ (fun i Hc _ hc => SqL.of hc.2.1) ?_ ?_
  · refine ⟨by rw [upd_same]; rfl, by rw [upd_ne hpD, upd_same], fun b o e => ?_⟩
    rw [upd_ne (ne_of_none e hD0), upd_ne (ne_of_none e hp)]
    exact e
  · rintro i x Hc H' hi ⟨c1, c2, c3⟩ ⟨rfl, hx⟩
    rw [List.getElem?_map, List.getElem?_eq_getElem hi] at hx
    cases hx
    refine ⟨rfl, ?_⟩
    refine ⟨.int ms[i], rfl, ms[i], rfl, _, c1, ?_, ?_⟩
    · rw [List.length_map, List.length_map, List.length_take]
      omega
    · refine ⟨?_, by rw [upd_ne hpD]; exact c2, fun b o e => by rw [upd_ne (ne_of_none e hD0)]; exact c3 b o e⟩
      rw [upd_same, List.take_succ, List.getElem?_eq_getElem hi, List.map_append, List.map_append]
      rfl
  · rintro Hc ⟨c1, c2, c3⟩
    refine fin Hc ⟨?_, c2, c3⟩
    rw [c1, List.take_length]
section
variable {P : Program} {w : World} {K : PySem.W.Frag} {mg : Str → Option Value} {base : Heap}
/-- the state's maker -/
theorem fn_state {x qual : Str} {params : Arguments} {body : List Stmt} {scope : Scope} {f : Addr} {fd : FuncData} {N : List Str} {a : Str} {k : Nat} (F : FunD K x qual params body scope [] [] f fd) (Sc : FnScope N [a] scope) (hN : N.length = 3)
    (hb : ∀ (cdv : Value) (A : Around) (outer : List Env) (s : Shared) (H : Hp) (E : XK), Room k (A.deeper (envOfC qual scope s.heap.objs.size f cdv)) →
      PSs (cxOf (L2.CX P w) P w K mg base N qual scope f cdv A outer s H E) body (tState K)) : FnOk P w K mg base (L2.CX P w) (k + 1) f fd [a] (spState K) := by
  refine F.ok Sc (fun vs H Q E h => ?_) (fun cdv A outer s H vs Q E hr h => ⟨_, hb cdv A outer s H E hr, ?_⟩)
  · obtain ⟨a, ns, rfl, _⟩ := h
    rfl
  · obtain ⟨a, rfl, h2⟩ := spState_t h
    have e : L2.start N [a] = [some a, none, none] := by
      unfold L2.start
      rw [hN]
      rfl
    rw [e]
    exact h2
def spLaw (K : PySem.W.Frag) : Sp := fun vs H Q _ => ∃ (a : Addr) (ns : List Int), vs = [.ref a] ∧ ns.length ≤ 63 ∧ SqL K H a (ns.map V.int) ∧ ∀ H', Q (.bl true) H'
/-- what the law's frame holds behind its first statement -/
def lawE (n : Nat) : Env' := .un :: .sh hndD :: List.replicate (n - 2) .un
def LawOk (n : Nat) (g : MS) : Prop := ∀ ns : List Int, ns.length ≤ 63 → ∃ s', g (lawE n) ⟨0, cellsOf ns⟩ = .rt (.sh (.bool true)) s'
theorem law_go {n : Nat} {g : MS} (hg : LawOk n g) (hn : 2 ≤ n) {N : List Str} (hN : N.length = n) {W : WX} {e2 : L2.St → XK} {vs : List V} {H : Hp} {Q : VK} {E : XK} (h : spLaw K vs H Q E) :
    tSeq (tAsg (tCallS (spState K) e2 (tCons (tVar 0) tNil)) (gName 1)) (tSt mg W g) { nx := fun _ H' => Q .non H', rt := Q } (L2.start N vs) H := by
  obtain ⟨a, ns, rfl, hl, hS, q⟩ := h
  have e : L2.start N [.ref a] = some (.ref a) :: none :: List.replicate (n - 2) none := by
    unfold L2.start
    rw [hN]
    obtain ⟨m, rfl⟩ : ∃ m, n = m + 2 := ⟨n - 2, by omega⟩
    simp [List.replicate_succ]
  rw [e]
  refine ⟨.ref a, rfl, a, ns, rfl, hS, fun st cs H' k hst hcs h1 h2 => ?_⟩
  obtain ⟨s', hs'⟩ := hg ns hl
  have hne : st ≠ cs := fun z => by
    subst z
    rw [h1] at h2
    have h3 := Option.some.inj h2
    injection h3 with h3
    cases hc : cellsOf ns with
    | nil => rw [hc] at h3; cases h3
    | cons c l =>
      rw [hc] at h3
      cases l with
      | nil => cases h3
      | cons c2 l => simp at h3
  refine ⟨.draw st cs, H', fun _ => none, fun _ => none, lawE n, ⟨0, cellsOf ns⟩, ?_, ?_⟩
  · exact
      { ok := ⟨fun _ _ e => (by cases e), fun _ _ => rfl, ⟨h1, h2⟩⟩
        step := .refl
        len := by simp [lawE]
        sh := fun i d e => by
          match i with
          | 0 => cases e
          | 1 => cases e; exact ⟨.ref st, rfl, .hnd rfl⟩
          | i + 2 =>
            have e : (List.replicate (n - 2) Ent.un)[i]? = some (.sh d) := e
            rw [List.getElem?_replicate] at e
            split at e <;> cases e
        pr := fun i d e => by
          match i with
          | 0 => cases e
          | 1 => cases e
          | i + 2 =>
            have e : (List.replicate (n - 2) Ent.un)[i]? = some (.pr d) := e
            rw [List.getElem?_replicate] at e
            split at e <;> cases e
        sep := fun i j d e p _ h _ => by
          match i with
          | 0 => cases h
          | 1 => cases h
          | i + 2 =>
            have e : (List.replicate (n - 2) Ent.un)[i]? = some (.pr d) := h
            rw [List.getElem?_replicate] at e
            split at e <;> cases e }
  · rw [hs']
    intro v G H2 _ _ r
    cases r
    exact q H2
/-- the law -/
theorem fn_law {x qual : Str} {params : Arguments} {body : List Stmt} {scope : Scope} {f : Addr} {fd : FuncData} {N : List Str} {a : Str} {k n : Nat} {g : MS} (hg : LawOk n g) (hn : 2 ≤ n) (F : FunD K x qual params body scope [] [] f fd) (Sc : FnScope N [a] scope) (hN : N.length = n)
    (hb : ∀ (cdv : Value) (A : Around) (outer : List Env) (s : Shared) (H : Hp) (E : XK), Room k (A.deeper (envOfC qual scope s.heap.objs.size f cdv)) →
      ∃ e2, PSs (cxOf (L2.CX P w) P w K mg base N qual scope f cdv A outer s H E) body (tSeq (tAsg (tCallS (spState K) e2 (tCons (tVar 0) tNil)) (gName 1)) (tSt mg (fun cls d _ H => E cls d H) g))) : FnOk P w K mg base (L2.CX P w) (k + 1) f fd [a] (spLaw K) := by
  refine F.ok Sc (fun vs H Q E h => ?_) (fun cdv A outer s H vs Q E hr h => ?_)
  · obtain ⟨a, ns, rfl, _⟩ := h
    rfl
  · obtain ⟨e2, hb2⟩ := hb cdv A outer s H E hr
    exact ⟨_, hb2, law_go (e2 := e2) hg hn hN h⟩
end
end Dy

set_option Elab.async false
set_option linter.all false
set_option maxRecDepth 100000
set_option maxHeartbeats 4000000
/-! The head's facts, own exceptions' classes among them. -/
namespace Dh
open PySem PySem.W PySem.Calls PyProof.Rows He PySem.HandSPX

abbrev FnY : Type := Option (PySem.Str × PySem.Str × Arguments × FuncBody × Scope × Addr × List PySem.Str × Addr)
def fnY (K : Frag) (a : Addr) : FnY := match K.lookup a with
  | some ⟨_, _, .func fd, _⟩ => some (fd.name, fd.qualname, fd.params, fd.body, fd.scope, fd.globals, fd.closure.map (·.1), fd.builtins)
  | _ => none
/-- one class: its name, the fields, its __init__'s qualified name and text -/
structure XD where
  x : PySem.Str
  fs : List PySem.Str
  qual : PySem.Str
  params : Arguments
  body : List Stmt
  scope : Scope
def XD.val (d : XD) : FnY := some ("__init__", d.qual, d.params, .stmts d.body, d.scope, mainGlobals, ["__class__"], builtinsNs)
def clsB (K : Frag) (C : Addr) : Bool := match K.lookup C with
  | some ⟨.type "type", _, .cls cd, sl⟩ => (match cd.mro, sl.toList with
    | .ref C' :: bm, [_, _, _, _, some (.builtin n), _] => C' == C && (n == "ValueError.__new__" && (!cd.hasDel && (cd.hasDict && refsVE bm)))
    | _, _ => false)
  | _ => false
def codeB (K : Frag) (file : PySem.Str) (q : PySem.Str) : Value → Bool
  | .ref c => codeIn K (.ref c) q && (match K.lookup c with
    | some ⟨_, _, .fields vs, _⟩ => (match vs.toList with
      | _ :: _ :: .str f _ :: _ => file == f
      | _ => false)
    | _ => false)
  | _ => false
def cellB (K : Frag) (C : Addr) : List (PySem.Str × Addr) → Bool
  | [(_, cc)] => (match K.lookup cc with
    | some ⟨_, _, .cell (some (.ref C')), _⟩ => C' == C
    | _ => false)
  | _ => false
def noneB : Value → Bool
  | .none => true
  | _ => false
def fnB (K : Frag) (P : Program) (C fI : Addr) (qual : PySem.Str) : Bool := match K.lookup fI with
  | some ⟨_, _, .func fd, _⟩ => noneB fd.defaults && (noneB fd.kwdefaults && (codeB K P.main.file qual fd.code && cellB K C fd.closure))
  | _ => false
def iAd (K : Frag) (d : XD) : Addr := ma K (ga K d.x) "__init__"
def xB (P : Program) (K : Frag) (d : XD) : Bool :=
  clsB K (ga K d.x) && (eqO (findIn K (.ref (ga K d.x)) "__setattr__") (some (some (.builtin "object.__setattr__"))) && ((d.fs.all fun f => eqO (findIn K (.ref (ga K d.x)) f) (some none)) &&
  (eqO (findIn K (.ref (ga K d.x)) "__init__") (some (some (.ref (iAd K d)))) && (decide (typeIn K (.ref (iAd K d)) = some (.type "function")) && (fnB K P (ga K d.x) (iAd K d) d.qual &&
  (decide (mroIn K (ga K d.x) (.ref (ga K d.x)) = some true) && (decide (subIn K (.ref (ga K d.x)) (.type "ValueError") = some true) && (eqO (ks_superIn K (ga K d.x) (ga K d.x) "__init__") (some (some (.builtin "ValueError.__init__"))) &&
  (eqO (nsIn K cStatics "thirdparty.any") (some none) && (eqO (findIn K (.ref (ga K d.x)) "__getattribute__") (some (some (.builtin "BaseException.__getattribute__"))) && (eqO (findIn K (.ref (ga K d.x)) "__getattr__") (some none) &&
  (decide (subIn K (.ref (ga K d.x)) (.type "BaseException") = some true) && (hasDictIn K (ga K d.x) && (keepIn K (.ref (ga K d.x)) && decide (typeIn K (.ref (ga K d.x)) = some (.type "type"))))))))))))))))
structure XF (K : Frag) (P : Program) (d : XD) : Prop where
  txt : ∃ cda cc, PySem.XI.XTxt K P (ga K d.x) (iAd K d) d.qual d.params d.body d.scope d.fs cda cc
  at_ : ∀ f ∈ d.fs, L2.AtX K (ga K d.x) f
  kp : keepIn K (.ref (ga K d.x)) = true
  ex : subIn K (.ref (ga K d.x)) (.type "BaseException") = some true
  ty : typeIn K (.ref (ga K d.x)) = some (.type "type")
theorem clsB_ok {K : Frag} {C : Addr} (q : clsB K C = true) : ∃ nm q N bs bm sn sub ab col dd k0 k1 k2 k3 k5, K.lookup C = some (excClassObj nm q C N bs bm true sn sub ab col dd k0 k1 k2 k3 k5 "ValueError.__new__") ∧ refsVE bm = true := by
  unfold clsB at q
  split at q
  · rename_i dd cd sl ho
    split at q
    · rename_i C' bm k0 k1 k2 k3 n k5 hm hs
      simp only [Bool.and_eq_true, beq_iff_eq, Bool.not_eq_true'] at q
      obtain ⟨rfl, rfl, hdel, hdi, ht⟩ := q
      obtain ⟨nm, bs, mro, ns, qn, hd, sn, sub, ab, col, del⟩ := cd
      dsimp only at hm hdel hdi
      subst hm hdel hdi
      have hsl : sl = #[k0, k1, k2, k3, some (.builtin "ValueError.__new__"), k5] := by
        obtain ⟨l⟩ := sl
        simp only at hs
        rw [hs]
      subst hsl
      exact ⟨nm, qn, ns, bs, bm, sn, sub, ab, col, dd, k0, k1, k2, k3, k5, ho, ht⟩
    · cases q
  · cases q
theorem xB_ok {P : Program} {K : Frag} {d : XD} (h : xB P K d = true) (hy : fnY K (iAd K d) = d.val) : XF K P d := by
  unfold xB at h
  simp only [Bool.and_eq_true] at h
  obtain ⟨h1, h2, h3, h4, h5, h6, h7, h8, h9, h10, h11, h12, h13, h14, h15, h16⟩ := h
  refine ⟨?_, fun f hf => ⟨eqO_ok h11, eqO_ok h12, of_decide_eq_true h13, h14, eqO_ok (List.all_eq_true.mp h3 f hf)⟩, h15, of_decide_eq_true h13, of_decide_eq_true h16⟩
  unfold fnB at h6
  unfold fnY at hy
  split at h6
  · rename_i oc od fd osl hl
    rw [hl] at hy
    obtain ⟨n1, n2, n3, n4, n5, n6, n7, n8, n9, n10, n11, n12, n13, n14, n15⟩ := fd
    have e2 : (some (n1, n2, n3, n4, n5, n6, n7.map (·.1), n15) : FnY) = some (("__init__" : PySem.Str), d.qual, d.params, FuncBody.stmts d.body, d.scope, mainGlobals, [("__class__" : PySem.Str)], builtinsNs) := hy
    simp only [Option.some.injEq, Prod.mk.injEq] at e2
    obtain ⟨e1, e2, e3, e4, e5, e6, e7, e8⟩ := e2
    subst e1 e2 e3 e4 e5 e6 e8
    dsimp only at h6
    simp only [Bool.and_eq_true] at h6
    obtain ⟨g1, g2, g3, g4⟩ := h6
    have f8 : n8 = .none := by cases n8 <;> first | rfl | cases g1
    have f9 : n9 = .none := by cases n9 <;> first | rfl | cases g2
    subst f8 f9
    -- the code object
    unfold codeB at g3
    split at g3
    · rename_i cda
      simp only [Bool.and_eq_true] at g3
      obtain ⟨g3, g5⟩ := g3
      split at g5
      · rename_i ccl cdd vs ccs hcd
        split at g5
        · rename_i v0 v1 file tf r hvs
          unfold cellB at g4
          split at g4
          · rename_i y cc
            split at g4
            · rename_i cl cld C' csl hcc
              have hC : C' = ga K d.x := beq_iff_eq.mp g4
              subst hC
              have hy2 : y = ("__class__" : PySem.Str) := by
                have : [y] = [("__class__" : PySem.Str)] := e7
                exact (List.cons.inj this).1
              subst hy2
              refine ⟨cda, cc, ⟨clsB_ok h1, eqO_ok h2, fun f hf => eqO_ok (List.all_eq_true.mp h3 f hf), eqO_ok h4, of_decide_eq_true h5, ⟨oc, od, _, _, _, _, osl, hl, g3⟩, ⟨ccl, cdd, vs, ccs, file, tf, hcd, ?_, g5⟩, ⟨cl, cld, csl, hcc⟩, of_decide_eq_true h7, of_decide_eq_true h8, eqO_ok h9, eqO_ok h10⟩⟩
              rw [← Array.getElem?_toList, hvs]
              rfl
            · cases g4
          · cases g4
        · cases g5
      · cases g5
    · cases g3
  · cases h6

/-! ### the Hook -/
abbrev AlX : Type := He.AlD × Bool × List FnY
def obsX (P : Program) (fa : List Fa) (fn : List DefD) (xs : List XD) (K : Frag) : AlX := (obsD fa fn K, xs.all (xB P K), xs.map fun d => fnY K (iAd K d))
def valX (fn : List DefD) (xs : List XD) : AlX := (valD fn, true, xs.map XD.val)
def SaysX (P : Program) (fa : List Fa) (fn : List DefD) (xs : List XD) (K : Frag) : Prop := obsX P fa fn xs K = valX fn xs
def asX (g : Addr → Option Obj) (n : Nat) : List Addr := He.asD g n ++ [cStatics]
def obsXG (P : Program) (n : Nat) (fa : List Fa) (fn : List DefD) (xs : List XD) (g : Addr → Option Obj) : AlX := obsX P fa fn xs (frG g (asX g n))
def hookX (P : Program) (n : Nat) (fa : List Fa) (fn : List DefD) (xs : List XD) : PySem.W.Hook where
  α := AlX
  obs := fun s => obsXG P n fa fn xs s.heap.get?
  val := fun _ => valX fn xs
  says := fun _ h => ∃ K : Frag, K.In h ∧ SaysX P fa fn xs K
  of := fun _ _ e => ⟨_, frG_in, e⟩
  keeps := fun _ _ _ ⟨K, hK, c⟩ k => ⟨K, Frag.In.keeps hK k, c⟩
theorem obsXG_eq {P : Program} {n : Nat} {fa : List Fa} {fn : List DefD} {xs : List XD} {g : Addr → Option Obj} {s : Shared} (h : ∀ a, g a = s.heap.get? a) : obsXG P n fa fn xs g = (hookX P n fa fn xs).obs s := by
  have e : g = s.heap.get? := funext h
  rw [e] <;> rfl
theorem SaysX.d {P : Program} {fa : List Fa} {fn : List DefD} {xs : List XD} {K : Frag} (c : SaysX P fa fn xs K) : SaysD fa fn K := congrArg (fun z : AlX => z.1) c
theorem SaysX.x {P : Program} {fa : List Fa} {fn : List DefD} {xs : List XD} {K : Frag} (c : SaysX P fa fn xs K) (i : Nat) {d : XD} (h : xs[i]? = some d := by rfl) : XF K P d := by
  have c2 : xs.all (xB P K) = true := congrArg (fun z : AlX => z.2.1) c
  have e : (xs.map fun d => fnY K (iAd K d)) = xs.map XD.val := congrArg (fun z : AlX => z.2.2) c
  have e2 : (xs.map fun d => fnY K (iAd K d))[i]? = (xs.map XD.val)[i]? := by rw [e]
  rw [List.getElem?_map, List.getElem?_map, h] at e2
  exact xB_ok (List.all_eq_true.mp c2 d (List.mem_of_getElem? h)) (Option.some.inj e2)
end Dh

namespace L2
open PySem PySem.Spec PyProof.Rows
/-- a law over a head by facts, the exceptions' reading by the world -/
theorem walk_ofEw {l : PySem.W.OpenLaw} {n k : Nat} {q : Program} {loose : List Str} {XP : (Str → Option Value) → Heap → Prop} {YP : World → Heap → Prop} {d : DefRec} {CX : World → CXT} {x : Str}
    (hn : l.most = some n) (hn2 : n ≤ sizeLine) (hdf : d.params.defaults = []) (hr : Room k callerA)
    (F : ∀ (w : World) (mg : Str → Option Value) (fa : Addr) (h : Heap), YP w h → h.Ns mainGlobals mg → mg d.name = some (.ref fa) →
      ∃ (K : PySem.W.Frag) (fd : FuncData) (sp : Sp), K.In h ∧ (∀ (s : Shared) (u : Value), BindsTo s fd ⟨[u], []⟩ [(x, u)]) ∧
        (∀ (H : Hp) (a : Addr) (ns : List Int), ns.length ≤ n → Only H → SqL K H a (ns.map V.int) → sp [.ref a] H (fun v _ => v = .bl true) fun _ _ _ => False) ∧
        ∀ base : Heap, K.In base → base.Ns mainGlobals mg → FnOk l.prog w K mg base (CX w) k fa fd [x] sp)
    (hCX : ∀ (w : World) (H : Hp) (s : Shared) (e : Value) (s' : Shared), CX w [] H s (fun _ _ _ => False) e s' → False) :
    PySem.W.WalkO q loose XP YP l.row.toRowW d [] (fun f vs => PySem.call f vs) := by
  refine Att.attach_call hn hdf fun w s₀ s₁ mg mb fa o pm cd doc a vs ns G Y ho hd hcd hmg hobj hints hlen hg => ?_
  obtain ⟨K, fd, sp, KX, hb, hsp, hF⟩ := F w mg fa _ Y G.T.g hmg
  exact law_call KX G.T.g G.T.b G.T.builtins G.T.nolimit hg hobj hints (Nat.le_trans hlen hn2) hr hF hb (fun H hO hS => hsp H a ns hlen hO hS) fun H e s' => hCX w H s₁ e s'
theorem cx_no {P : Program} {w : World} {H : Hp} {s : Shared} {e : Value} {s' : Shared} (h : L2.CX P w [] H s (fun _ _ _ => False) e s') : False := by
  obtain ⟨_, _, _, _, _, _, _, _, _, _, _, _, z⟩ := h
  exact z
end L2

set_option Elab.async false
set_option linter.all false
set_option maxRecDepth 100000
set_option maxHeartbeats 4000000
/-! Plain: the mirrors computed by simp. -/
namespace Dy
open PySem PyProof.Rows L2
section
variable {α β : Type} {f fa fb fc : M D} {fs : M (List D)} {ta tb : M Bool} {g : D → D → Option D} {g1 : D → Option D} {ρ : Env'} {s : S} {F : Fn} {i j : Nat} {k : MS}
@[simp ↓] theorem e_bindM {f : M α} {g : α → M β} : bindM f g ρ s = (match f ρ s with | .ok a s' => g a ρ s' | .ex e s' => .ex e s' | .st => .st) := rfl
@[simp ↓] theorem e_retM {a : α} : retM a ρ s = .ok a s := rfl
@[simp] theorem e_ofO {a : α} : (ofO (some a) : M α) ρ s = .ok a s := rfl
@[simp] theorem e_ofO0 : (ofO (none : Option α) : M α) ρ s = .st := rfl
@[simp ↓] theorem e_vS : vS i ρ s = (match ρ[i]? with | some (.sh d) => .ok d s | _ => .st) := rfl
@[simp ↓] theorem e_vB : vB i ρ s = (match ρ[i]? with | some (.sh d) => .ok d s | some (.pr d) => .ok d s | _ => .st) := rfl
@[simp ↓] theorem e_binD : binD g fa fb = bindM fa fun x => bindM fb fun y => ofO (g x y) := rfl
@[simp ↓] theorem e_call1 : call1 g1 f = bindM f fun x => ofO (g1 x) := rfl
@[simp ↓] theorem e_tstM : tstM f = bindM f fun d => ofO (boolD d) := rfl
@[simp] theorem e_boolD {b : Bool} : boolD (.bool b) = some b := rfl
@[simp ↓] theorem e_andT : andT ta tb = bindM ta fun x => if x then tb else retM false := rfl
@[simp ↓] theorem e_orT : orT ta tb = bindM ta fun x => if x then retM true else tb := rfl
@[simp ↓] theorem e_notT : notT ta = bindM ta fun x => retM (!x) := rfl
@[simp ↓] theorem e_andD : andD fa fb = bindM fa fun x => bindM (ofO (boolD x)) fun b => if b then fb else retM (.bool false) := rfl
@[simp ↓] theorem e_orD : orD fa fb = bindM fa fun x => bindM (ofO (boolD x)) fun b => if b then retM (.bool true) else fb := rfl
@[simp ↓] theorem e_notD : notD fa = bindM fa fun x => bindM (ofO (boolD x)) fun b => retM (.bool (!b)) := rfl
@[simp ↓] theorem e_ifM {fa fb : M α} : ifM ta fa fb = bindM ta fun x => if x then fa else fb := rfl
@[simp ↓] theorem e_consM : consM f fs = bindM f fun x => bindM fs fun xs => retM (x :: xs) := rfl
theorem lenOk_of {xs : List α} (h : xs.length ≤ 16777216) : lenOk xs = true := decide_eq_true (by rw [sizeLine_eq]; exact h)
theorem lenOk2_of {m n : Nat} (h : m + n ≤ 16777216) : lenOk2 m n = true := decide_eq_true (by rw [sizeLine_eq]; exact h)
@[simp ↓] theorem e_tupM : tupM fs = bindM fs fun xs => if lenOk xs then retM (.tuple xs) else fun _ _ => .st := rfl
@[simp ↓] theorem e_lstM : lstM fs = bindM fs fun xs => if lenOk xs then retM (.list xs) else fun _ _ => .st := rfl
@[simp] theorem e_ok0 : lenOk ([] : List α) = true := lenOk_of (by simp)
@[simp] theorem e_ok1 {a : α} : lenOk [a] = true := lenOk_of (by simp)
@[simp] theorem e_ok2 {a b : α} : lenOk [a, b] = true := lenOk_of (by simp)
@[simp] theorem e_ok3 {a b c : α} : lenOk [a, b, c] = true := lenOk_of (by simp)
@[simp] theorem e_ok4 {a b c d : α} : lenOk [a, b, c, d] = true := lenOk_of (by simp)
@[simp ↓] theorem e_callM : callM F fs = bindM fs fun ds _ s => frD (F ds s) := rfl
@[simp ↓] theorem e_callO : callO F fs = bindM fs fun ds _ s => frO (F ds s) := rfl
@[simp] theorem e_frD1 {d : D} : frD (.ok (.sh d) s) = .ok d s := rfl
@[simp] theorem e_frD2 {d : D} : frD (.ok (.pr d) s) = .ok d s := rfl
@[simp] theorem e_frD3 {e : Exn} : frD (.ex e s) = .ex e s := rfl
@[simp] theorem e_frO {d : D} : frO (.ok (.pr d) s) = .ok d s := rfl
@[simp ↓] theorem e_liftE {f : M α} {k : α → MS} : liftE f k ρ s = (match f ρ s with | .ok a s' => k a ρ s' | .ex e s' => .ex e ρ s' | .st => .st) := rfl
@[simp ↓] theorem e_setS : setS i f = liftE f fun d ρ s => .nx (ρ.set i (.sh d)) s := rfl
@[simp ↓] theorem e_setO : setO i f = liftE f fun d ρ s => .nx (ρ.set i (.pr d)) s := rfl
@[simp ↓] theorem e_retS : retS f = liftE f fun d _ s => .rt (.sh d) s := rfl
@[simp ↓] theorem e_retO : retO f = liftE f fun d _ s => .rt (.pr d) s := rfl
@[simp ↓] theorem e_retV : retV i ρ s = (match ρ[i]? with | some (.pr d) => .rt (.pr d) s | some (.sh d) => .rt (.sh d) s | _ => .st) := rfl
@[simp ↓] theorem e_dropS : dropS f = liftE f fun _ ρ s => .nx ρ s := rfl
@[simp ↓] theorem e_ifS {t : M Bool} {g h : MS} : ifS t g h = liftE t fun b ρ s => if b then g ρ s else h ρ s := rfl
@[simp ↓] theorem e_skipS : skipS ρ s = .nx ρ s := rfl
@[simp ↓] theorem e_seqS {g h : MS} : seqS g h ρ s = (match g ρ s with | .nx ρ' s' => h ρ' s' | r => r) := rfl
@[simp] theorem e_finS1 : finS (.nx ρ s) = .ok (.sh .none) s := rfl
@[simp] theorem e_finS2 {r : Ent} : finS (.rt r s) = .ok r s := rfl
@[simp] theorem e_finS3 {e : Exn} : finS (.ex e ρ s) = .ex e s := rfl
@[simp ↓] theorem e_fnM {n N : Nat} {ds : List D} : fnM n N k ds s = if ds.length = n then finS (k (startE n N ds) s) else .st := rfl
@[simp] theorem e_start {n N : Nat} {ds : List D} : startE n N ds = ds.map .sh ++ List.replicate (N - n) .un := rfl
@[simp] theorem e_rep0 : List.replicate 0 Ent.un = [] := rfl
@[simp] theorem e_rep1 : List.replicate 1 Ent.un = [.un] := rfl
@[simp] theorem e_rep2 : List.replicate 2 Ent.un = [.un, .un] := rfl
@[simp] theorem e_rep3 : List.replicate 3 Ent.un = [.un, .un, .un] := rfl
@[simp] theorem e_rep4 : List.replicate 4 Ent.un = [.un, .un, .un, .un] := rfl
@[simp] theorem e_rep5 : List.replicate 5 Ent.un = [.un, .un, .un, .un, .un] := rfl
/-! data -/
@[simp] theorem e_isi_str1 {x : Str} : isiD "str" (.str x) = some (.bool true) := rfl
@[simp] theorem e_isi_str2 {x : List D} : isiD "str" (.tuple x) = some (.bool false) := rfl
@[simp] theorem e_isi_tup1 {x : List D} : isiD "tuple" (.tuple x) = some (.bool true) := rfl
@[simp] theorem e_isi_tup2 {x : Str} : isiD "tuple" (.str x) = some (.bool false) := rfl
@[simp] theorem e_add_int {a b : Int} : addD (.int a) (.int b) = some (.int (a + b)) := rfl
@[simp] theorem e_sub_int {a b : Int} : subD (.int a) (.int b) = some (.int (a - b)) := rfl
@[simp] theorem e_max_int {a b : Int} : maxD (.int a) (.int b) = some (.int (if b > a then b else a)) := rfl
@[simp] theorem e_lt_int {a b : Int} : ltD (.int a) (.int b) = some (.bool (decide (a < b))) := rfl
@[simp] theorem e_le_int {a b : Int} : leD (.int a) (.int b) = some (.bool (decide (a ≤ b))) := rfl
@[simp] theorem e_gt_int {a b : Int} : gtD (.int a) (.int b) = some (.bool (decide (b < a))) := rfl
@[simp] theorem e_ge_int {a b : Int} : geD (.int a) (.int b) = some (.bool (decide (b ≤ a))) := rfl
theorem add_str {a b : Str} (h : a.length + b.length ≤ 16777216) : addD (.str a) (.str b) = some (.str (a ++ b)) := by
  show (if lenOk2 a.length b.length then _ else _) = _
  rw [lenOk2_of h, if_pos rfl]
theorem add_list {a b : List D} (h : a.length + b.length ≤ 16777216) : addD (.list a) (.list b) = some (.list (a ++ b)) := by
  show (if lenOk2 a.length b.length then _ else _) = _
  rw [lenOk2_of h, if_pos rfl]
theorem add_tup {a b : List D} (h : a.length + b.length ≤ 16777216) : addD (.tuple a) (.tuple b) = some (.tuple (a ++ b)) := by
  show (if lenOk2 a.length b.length then _ else _) = _
  rw [lenOk2_of h, if_pos rfl]
@[simp] theorem e_at0 {x : D} {l : List D} : ixD (.tuple (x :: l)) (.int 0) = some x := atI_zero x l
@[simp] theorem e_at1 {x y : D} {l : List D} : ixD (.tuple (x :: y :: l)) (.int 1) = some y := atI_one x y l
theorem atI_two {x y z : D} {l : List D} : atI (x :: y :: z :: l) 2 = some z := by
  have h : ixN (x :: y :: z :: l).length 2 = some 2 := by
    unfold ixN
    rw [if_pos (by decide), if_pos (by rw [List.length_cons, List.length_cons, List.length_cons]; omega)]
    rfl
  unfold atI
  rw [h]
  rfl
@[simp] theorem e_at2 {x y z : D} {l : List D} : ixD (.tuple (x :: y :: z :: l)) (.int 2) = some z := atI_two
@[simp] theorem e_atl0 {x : D} {l : List D} : ixD (.list (x :: l)) (.int 0) = some x := atI_zero x l
@[simp] theorem e_atl1 {x y : D} {l : List D} : ixD (.list (x :: y :: l)) (.int 1) = some y := atI_one x y l
@[simp] theorem e_atl2 {x y z : D} {l : List D} : ixD (.list (x :: y :: z :: l)) (.int 2) = some z := atI_two
@[simp] theorem e_tupC1 {l : List D} : tupC (.list l) = some (.tuple l) := rfl
@[simp] theorem e_tupC2 {l : List D} : tupC (.tuple l) = some (.tuple l) := rfl
@[simp] theorem e_lenl {l : List D} : lenD (.list l) = some (.int l.length) := rfl
@[simp] theorem e_lent {l : List D} : lenD (.tuple l) = some (.int l.length) := rfl
theorem eq_of_sh {x y : D} (hx : SeqAt.shaped x = true) (hy : SeqAt.shaped y = true) : eqD x y = some (.bool (PyData.eqv x y)) := by
  unfold eqD; rw [hx, hy]; rfl
theorem ne_of_sh {x y : D} (hx : SeqAt.shaped x = true) (hy : SeqAt.shaped y = true) : neD x y = some (.bool (!PyData.eqv x y)) := by
  unfold neD; rw [hx, hy]; rfl
theorem eqv_self {x : D} (hx : SeqAt.shaped x = true) : PyData.eqv x x = true := SeqAt.eqv_refl x (SeqAt.canLay_of_shaped hx)
theorem ne_self {x : D} (hx : SeqAt.shaped x = true) : neD x x = some (.bool false) := by rw [ne_of_sh hx hx, eqv_self hx]; rfl
theorem eq_self {x : D} (hx : SeqAt.shaped x = true) : eqD x x = some (.bool true) := by rw [eq_of_sh hx hx, eqv_self hx]
end
end Dy

set_option Elab.async false
set_option linter.all false
set_option maxRecDepth 100000
set_option maxHeartbeats 4000000
/-! Plain: comprehensions, loops, slices, membership, sorting. -/
namespace Dy
open PySem PyProof.Rows L2
section
variable {α β : Type} {f fa fb fc : M D} {fs : M (List D)} {ta tb : M Bool} {ρ ρ1 ρ2 : Env'} {s : S} {F : Fn} {i j : Nat} {k : MS} {T : Tg} {tt : M Bool} {te : M D} {src : M (List D)} {vs : List Nat}
@[simp ↓] theorem e_itM : itM f = bindM f fun d => ofO (iterD d) := rfl
@[simp] theorem e_iter1 {l : List D} : iterD (.list l) = some l := rfl
@[simp] theorem e_iter2 {l : List D} : iterD (.tuple l) = some l := rfl
@[simp ↓] theorem e_lcM : lcM src vs T tt te = bindM src fun ds ρ s => lcFin (lcD T tt te ds [] (wipeE ρ vs) s) := rfl
@[simp] theorem e_lcFin {xs : List D} : lcFin (.ok xs s) = .ok (.list xs) s := rfl
@[simp] theorem e_lcD0 {acc : List D} : lcD T tt te [] acc ρ s = .ok acc s := rfl
@[simp] theorem e_wipe0 : wipeE ρ [] = ρ := rfl
@[simp] theorem e_wipe1 {v : Nat} : wipeE ρ (v :: vs) = (wipeE ρ vs).set v .un := rfl
theorem e_lcD1 {d : D} {ds acc : List D} : lcD T tt te (d :: ds) acc ρ s = (match T.f d ρ with
    | none => .st
    | some ρ2 => match tt ρ2 s with
      | .ok true s2 => match te ρ2 s2 with
        | .ok y s3 => if lsz acc then lcD T tt te ds (acc ++ [y]) ρ s3 else .st
        | _ => .st
      | .ok false s2 => lcD T tt te ds acc ρ s2
      | _ => .st) := rfl
@[simp] theorem e_nmT {d : D} : (nmT i).f d ρ = some (ρ.set i (.sh d)) := rfl
theorem lsz_of {xs : List D} (h : xs.length < 16777216) : lsz xs = true := decide_eq_true (by rw [sizeLine_eq]; exact h)
@[simp] theorem e_lsz0 : lsz [] = true := lsz_of (by simp)
@[simp] theorem e_lsz1 {a : D} : lsz [a] = true := lsz_of (by simp)
@[simp] theorem e_lsz2 {a b : D} : lsz [a, b] = true := lsz_of (by simp)
/-- a comprehension whose test and element draw nothing -/
theorem lc_pure (p : D → Bool) (g : D → D) : ∀ (ds acc : List D), (∀ d ∈ ds, ∃ ρ2, T.f d ρ = some ρ2 ∧ tt ρ2 s = .ok (p d) s ∧ (p d = true → te ρ2 s = .ok (g d) s)) → acc.length + ds.length ≤ 16777216 → lcD T tt te ds acc ρ s = .ok (acc ++ (ds.filter p).map g) s
  | [], acc, _, _ => by simp
  | d :: ds, acc, h, hl => by
    obtain ⟨ρ2, h1, h2, h3⟩ := h d (by simp)
    rw [List.length_cons] at hl
    rw [e_lcD1, h1]
    simp only [h2]
    cases hp : p d with
    | true =>
      simp only [h3 hp, lsz_of (show acc.length < 16777216 by omega), if_true]
      rw [lc_pure p g ds (acc ++ [g d]) (fun d' hd => h d' (by simp [hd])) (by rw [List.length_append]; simp; omega)]
      simp [List.filter_cons, hp]
    | false =>
      simp only []
      rw [lc_pure p g ds acc (fun d' hd => h d' (by simp [hd])) (by omega)]
      simp [List.filter_cons, hp]
theorem lc_map (g : D → D) (ds : List D) (h : ∀ d ∈ ds, ∃ ρ2, T.f d ρ = some ρ2 ∧ te ρ2 s = .ok (g d) s) (hl : ds.length ≤ 16777216) : lcD T (retM true) te ds [] ρ s = .ok (ds.map g) s := by
  rw [lc_pure (fun _ => true) g ds [] (fun d hd => by
    obtain ⟨ρ2, h1, h2⟩ := h d hd
    exact ⟨ρ2, h1, rfl, fun _ => h2⟩) (by simpa using hl), List.filter_eq_self.mpr fun _ _ => rfl]
  simp
@[simp ↓] theorem e_forS {src : M (List D)} {body : MS} : forS src T body = liftE src fun ds => loopD T body ds := rfl
@[simp] theorem e_loop0 {body : MS} : loopD T body [] ρ s = .nx ρ s := rfl
theorem e_loop1 {body : MS} {d : D} {ds : List D} : loopD T body (d :: ds) ρ s = (match T.f d ρ with
    | none => .st
    | some ρ1 => match body ρ1 s with
      | .nx ρ2 s2 => loopD T body ds ρ2 s2
      | .ct ρ2 s2 => loopD T body ds ρ2 s2
      | .bk ρ2 s2 => .nx ρ2 s2
      | r => r) := rfl
/-- a loop that goes through: P by what is left -/
theorem loop_ok {body : MS} (P : List D → Env' → S → Prop) (h : ∀ d ds ρ s, P (d :: ds) ρ s → ∃ ρ1 ρ2 s2, T.f d ρ = some ρ1 ∧ body ρ1 s = .nx ρ2 s2 ∧ P ds ρ2 s2) : ∀ (ds : List D) (ρ : Env') (s : S), P ds ρ s → ∃ ρ' s', loopD T body ds ρ s = .nx ρ' s' ∧ P [] ρ' s'
  | [], ρ, s, p => ⟨ρ, s, rfl, p⟩
  | d :: ds, ρ, s, p => by
    obtain ⟨ρ1, ρ2, s2, h1, h2, h3⟩ := h d ds ρ s p
    obtain ⟨ρ', s', h4, h5⟩ := loop_ok P h ds ρ2 s2 h3
    exact ⟨ρ', s', by rw [e_loop1, h1]; simp only [h2]; exact h4, h5⟩
@[simp ↓] theorem e_slM {g : D → Option Int → Option Int → Option D} {l h : M (Option Int)} : slM g f l h = bindM f fun x => bindM l fun lo => bindM h fun hi => ofO (g x lo hi) := rfl
@[simp ↓] theorem e_partM : partM f = bindM f fun d => bindM (ofO (intOf d)) fun i => retM (some i) := rfl
@[simp] theorem e_intOf {i : Int} : intOf (.int i) = some i := rfl
@[simp] theorem e_slDt {l : List D} {lo hi : Option Int} : slD (.tuple l) lo hi = some (.tuple (cutD l lo hi)) := rfl
@[simp] theorem e_slDl {l : List D} {lo hi : Option Int} : slD (.list l) lo hi = some (.list (cutD l lo hi)) := rfl
@[simp] theorem cut_31 {a b c : D} : cutD [a, b, c] (some 1) none = [b, c] := rfl
@[simp] theorem e_all2 {a b : Bool} : allD (.list [.bool a, .bool b]) = some (.bool (a && b)) := by cases a <;> cases b <;> rfl
@[simp ↓] theorem e_parS : parS i j fs = liftE fs fun ds ρ s => match ds with
  | [a, b] => .nx ((ρ.set i (.sh a)).set j (.sh b)) s
  | _ => .st := rfl
@[simp ↓] theorem e_asgS : asgS f T = liftE f fun d ρ s => match T.f d ρ with
  | some ρ' => .nx ρ' s
  | none => .st := rfl
theorem in_l {x : D} {ds : List D} (hx : SeqAt.shaped x = true) (h : SeqAt.shaped (.list ds) = true) : inD false x (.list ds) = some (.bool (ds.any fun z => PyData.eqv z x)) := by
  show (if SeqAt.shaped x && SeqAt.shaped (.list ds) then _ else _) = _
  rw [hx, h]; rfl
theorem ni_l {x : D} {ds : List D} (hx : SeqAt.shaped x = true) (h : SeqAt.shaped (.list ds) = true) : inD true x (.list ds) = some (.bool (!ds.any fun z => PyData.eqv z x)) := by
  show (if SeqAt.shaped x && SeqAt.shaped (.list ds) then _ else _) = _
  rw [hx, h]; rfl
theorem in_t {x : D} {ds : List D} (hx : SeqAt.shaped x = true) (h : SeqAt.shaped (.tuple ds) = true) : inD false x (.tuple ds) = some (.bool (ds.any fun z => PyData.eqv z x)) := by
  show (if SeqAt.shaped x && SeqAt.shaped (.tuple ds) then _ else _) = _
  rw [hx, h]; rfl
theorem ni_t {x : D} {ds : List D} (hx : SeqAt.shaped x = true) (h : SeqAt.shaped (.tuple ds) = true) : inD true x (.tuple ds) = some (.bool (!ds.any fun z => PyData.eqv z x)) := by
  show (if SeqAt.shaped x && SeqAt.shaped (.tuple ds) then _ else _) = _
  rw [hx, h]; rfl
/-! ### shaped -/
theorem canAll_iff {ds : List D} : PyData.canLayAll0 ds = true ↔ ∀ d ∈ ds, d.canLay0 = true := by
  induction ds with
  | nil => simp [PyData.canLayAll0]
  | cons d ds ih => simp [PyData.canLayAll0, ih]
theorem depthAll_le {ds : List D} {n : Nat} : PyData.depthAll ds ≤ n ↔ ∀ d ∈ ds, d.depth ≤ n := by
  induction ds with
  | nil => simp [PyData.depthAll]
  | cons d ds ih => simp only [PyData.depthAll, List.mem_cons, forall_eq_or_imp, ← ih]; omega
/-- can be laid, of a depth of at most n -/
def Sh (n : Nat) (d : D) : Prop := d.canLay0 = true ∧ d.depth ≤ n
theorem Sh.sh {n : Nat} {d : D} (h : Sh n d) (hn : n ≤ 64) : SeqAt.shaped d = true := by
  unfold SeqAt.shaped
  rw [h.1, decide_eq_true (Nat.le_trans h.2 hn)]; rfl
theorem Sh.mono {m n : Nat} {d : D} (h : Sh m d) (hn : m ≤ n) : Sh n d := ⟨h.1, Nat.le_trans h.2 hn⟩
theorem Sh.list {n : Nat} {ds : List D} (h : ∀ d ∈ ds, Sh n d) : Sh (n + 1) (.list ds) :=
  ⟨canAll_iff.mpr fun d hd => (h d hd).1, Nat.succ_le_succ (depthAll_le.mpr fun d hd => (h d hd).2)⟩
theorem Sh.tup {n : Nat} {ds : List D} (h : ∀ d ∈ ds, Sh n d) : Sh (n + 1) (.tuple ds) :=
  ⟨canAll_iff.mpr fun d hd => (h d hd).1, Nat.succ_le_succ (depthAll_le.mpr fun d hd => (h d hd).2)⟩
theorem Sh.int {i : Int} : Sh 0 (.int i) := ⟨rfl, Nat.le_refl _⟩
theorem Sh.bool {i : Bool} : Sh 0 (.bool i) := ⟨rfl, Nat.le_refl _⟩
theorem Sh.str {x : Str} (h : PyData.strOk x = true) : Sh 0 (.str x) := ⟨h, Nat.le_refl _⟩
theorem strOk_app {a b : Str} (ha : PyData.strOk a = true) (hb : PyData.strOk b = true) : PyData.strOk (a ++ b) = true := by
  obtain ⟨a⟩ := a
  obtain ⟨b⟩ := b
  unfold PyData.strOk at *
  show (a ++ b).all _ = true
  simp only [Array.all_append, Bool.and_eq_true]
  exact ⟨ha, hb⟩
theorem len_app (a b : Str) : (a ++ b).length = a.length + b.length := by
  obtain ⟨a⟩ := a
  obtain ⟨b⟩ := b
  show (a ++ b).size = _
  rw [Array.size_append]; rfl
end
end Dy
namespace Dy
open PySem PyProof.Rows L2
@[simp ↓] theorem e_appS {i : Nat} {f : M D} {ρ : Env'} {s : S} : appS i f ρ s = (match ρ[i]? with
  | some (.pr (.list ds)) => liftE f (fun d ρ s => match (if lsz ds then some (ds ++ [d]) else none) with
    | some es => .nx (ρ.set i (.pr (.list es))) s
    | none => .st) ρ s
  | _ => .st) := rfl
end Dy
namespace Dy
open PySem PyProof.Rows L2
section
variable {α : Type} {T : Tg} {tt : M Bool} {te : M D} {ρ : Env'} {s : S}
/-- a comprehension over data of a kind, its test and element drawing nothing -/
theorem lc_typed (enc : α → D) (p : α → Bool) (g : α → D) : ∀ (xs : List α) (acc : List D), (∀ x ∈ xs, ∃ ρ2, T.f (enc x) ρ = some ρ2 ∧ tt ρ2 s = .ok (p x) s ∧ (p x = true → te ρ2 s = .ok (g x) s)) → acc.length + xs.length ≤ 16777216 →
    lcD T tt te (xs.map enc) acc ρ s = .ok (acc ++ (xs.filter p).map g) s
  | [], acc, _, _ => by simp
  | d :: ds, acc, h, hl => by
    obtain ⟨ρ2, h1, h2, h3⟩ := h d (by simp)
    rw [List.length_cons] at hl
    rw [List.map_cons, e_lcD1, h1]
    simp only [h2]
    cases hp : p d with
    | true =>
      simp only [h3 hp, lsz_of (show acc.length < 16777216 by omega), if_true]
      rw [lc_typed enc p g ds (acc ++ [g d]) (fun d' hd => h d' (by simp [hd])) (by rw [List.length_append]; simp; omega)]
      simp [List.filter_cons, hp]
    | false =>
      simp only []
      rw [lc_typed enc p g ds acc (fun d' hd => h d' (by simp [hd])) (by omega)]
      simp [List.filter_cons, hp]
theorem lc_typed_all (enc : α → D) (g : α → D) (xs : List α) (h : ∀ x ∈ xs, ∃ ρ2, T.f (enc x) ρ = some ρ2 ∧ te ρ2 s = .ok (g x) s) (hl : xs.length ≤ 16777216) : lcD T (retM true) te (xs.map enc) [] ρ s = .ok (xs.map g) s := by
  rw [lc_typed enc (fun _ => true) g xs [] (fun d hd => by
    obtain ⟨ρ2, h1, h2⟩ := h d hd
    exact ⟨ρ2, h1, rfl, fun _ => h2⟩) (by simpa using hl), List.filter_eq_self.mpr fun _ _ => rfl]
  simp
end
theorem strsOf_map {α : Type} (f : α → Str) : ∀ l : List α, strsOf (l.map fun x => .str (f x)) = some (l.map f)
  | [] => rfl
  | x :: l => by
    show (strsOf (l.map fun x => PyData.str (f x))).map (f x :: ·) = _
    rw [strsOf_map f l]; rfl
end Dy

set_option Elab.async false
set_option linter.all false
set_option maxRecDepth 100000
set_option maxHeartbeats 4000000
namespace K01
open PySem PySem.Spec PyProof.Rows L2 Dy
def top (i : Nat) : Stmt := PySem.Challenge.pw_shownwright_k01_whole_sayings_of_letters.main.body.getD i (.Pass ⟨0, 0, 0, 0⟩)
def FU : Nat := 14
def FW : Nat := 1000000
abbrev f__law_take : Fn := takeF
def m_is_letter : MS := retS (andD (call1 (isiD "str") (vB 0)) (andD (binD (eqD) (call1 lenD (vB 0)) (retM (.int 1))) (binD (inD false) (vB 0) (retM (.str "abcdefgh")))))
def f_is_letter : Fn := fnM 1 1 m_is_letter

def m_has_form (rec : Fn) : MS := seqS (ifS (tstM (call1 (isiD "str") (vB 0))) (retS (orD (binD (eqD) (vB 0) (retM (.str "no"))) (callM f_is_letter (consM (vS 0) (retM []))))) (skipS)) (seqS (ifS (orT (tstM (binD (geD) (vB 1) (retM (.int 8)))) (orT (notT (tstM (call1 (isiD "tuple") (vB 0)))) (tstM (binD (neD) (call1 lenD (vB 0)) (retM (.int 3)))))) (retS (retM (.bool false))) (skipS)) (seqS (ifS (orT (notT (tstM (call1 (isiD "str") (binD ixD (vB 0) (retM (.int 0)))))) (tstM (binD (inD true) (binD ixD (vB 0) (retM (.int 0))) (tupM (consM (retM (.str "and")) (consM (retM (.str "or")) (consM (retM (.str "if")) (retM [])))))))) (retS (retM (.bool false))) (skipS)) (retS (call1 allD (lcM (itM (slM slD (vB 0) (partM (retM (.int 1))) (retM none))) [2] (nmT 2) (retM true) (callM rec (consM (vS 2) (consM (binD addD (vB 1) (retM (.int 1))) (retM [])))))))))
def f_has_form : Nat → Fn
  | 0 => stF
  | n + 1 => fnM 2 3 (m_has_form (f_has_form n))

def m_is_saying : MS := retS (callM (f_has_form FU) (consM (vS 0) (consM (retM (.int 0)) (retM []))))
def f_is_saying : Fn := fnM 1 1 m_is_saying

def m_never : MS := retS (tupM (consM (retM (.str "if")) (consM (vS 0) (consM (retM (.str "no")) (retM [])))))
def f_never : Fn := fnM 1 1 m_never

def m_yes : MS := retS (tupM (consM (retM (.str "if")) (consM (retM (.str "no")) (consM (retM (.str "no")) (retM [])))))
def f_yes : Fn := fnM 0 0 m_yes

def m_both_ways : MS := retS (tupM (consM (retM (.str "and")) (consM (tupM (consM (retM (.str "if")) (consM (vS 0) (consM (vS 1) (retM []))))) (consM (tupM (consM (retM (.str "if")) (consM (vS 1) (consM (vS 0) (retM []))))) (retM [])))))
def f_both_ways : Fn := fnM 2 2 m_both_ways

def m_all_of : MS := seqS (ifS (tstM (binD (eqD) (call1 lenD (vB 0)) (retM (.int 0)))) (retS (callM f_yes (retM []))) (skipS)) (seqS (setS 1 (binD ixD (vB 0) (retM (.int (-1))))) (seqS (forS (itM (call1 rev2D (vB 0))) (nmT 2) (setS 1 (tupM (consM (retM (.str "and")) (consM (vS 2) (consM (vS 1) (retM []))))))) (retS (vS 1))))
def f_all_of : Fn := fnM 1 3 m_all_of

def m_some_of : MS := seqS (ifS (tstM (binD (eqD) (call1 lenD (vB 0)) (retM (.int 0)))) (retS (retM (.str "no"))) (skipS)) (seqS (setS 1 (binD ixD (vB 0) (retM (.int (-1))))) (seqS (forS (itM (call1 rev2D (vB 0))) (nmT 2) (setS 1 (tupM (consM (retM (.str "or")) (consM (vS 2) (consM (vS 1) (retM []))))))) (retS (vS 1))))
def f_some_of : Fn := fnM 1 3 m_some_of

def m_depth (rec : Fn) : MS := retS (ifM (tstM (call1 (isiD "str") (vB 0))) (retM (.int 0)) (binD addD (retM (.int 1)) (binD maxD (callM rec (consM (binD ixD (vB 0) (retM (.int 1))) (retM []))) (callM rec (consM (binD ixD (vB 0) (retM (.int 2))) (retM []))))))
def f_depth : Nat → Fn
  | 0 => stF
  | n + 1 => fnM 1 1 (m_depth (f_depth n))

def m_size (rec : Fn) : MS := retS (ifM (tstM (call1 (isiD "str") (vB 0))) (retM (.int 1)) (binD addD (binD addD (retM (.int 1)) (callM rec (consM (binD ixD (vB 0) (retM (.int 1))) (retM [])))) (callM rec (consM (binD ixD (vB 0) (retM (.int 2))) (retM [])))))
def f_size : Nat → Fn
  | 0 => stF
  | n + 1 => fnM 1 1 (m_size (f_size n))

def m_letters (rec : Fn) : MS := seqS (ifS (tstM (call1 (isiD "str") (vB 0))) (retS (ifM (tstM (binD (eqD) (vB 0) (retM (.str "no")))) (tupM (retM [])) (tupM (consM (vS 0) (retM []))))) (skipS)) (retS (call1 tupC (call1 sortSetD (binD addD (callM rec (consM (binD ixD (vB 0) (retM (.int 1))) (retM []))) (callM rec (consM (binD ixD (vB 0) (retM (.int 2))) (retM [])))))))
def f_letters : Nat → Fn
  | 0 => stF
  | n + 1 => fnM 1 1 (m_letters (f_letters n))

def m_parts (rec : Fn) : MS := seqS (ifS (tstM (call1 (isiD "str") (vB 0))) (retO (lstM (consM (vS 0) (retM [])))) (skipS)) (seqS (setO 1 (callO rec (consM (binD ixD (vB 0) (retM (.int 1))) (retM [])))) (seqS (forS (itM (binD addD (callM rec (consM (binD ixD (vB 0) (retM (.int 2))) (retM []))) (lstM (consM (vS 0) (retM []))))) (nmT 2) (ifS (tstM (binD (inD true) (vB 2) (vB 1))) (appS 1 (vS 2)) (skipS))) (retV 1)))
def f_parts : Nat → Fn
  | 0 => stF
  | n + 1 => fnM 1 3 (m_parts (f_parts n))

def m_put_in (rec : Fn) : MS := seqS (ifS (tstM (call1 (isiD "str") (vB 0))) (retS (getM (vB 1) (vB 0) (vS 0))) (skipS)) (retS (tupM (consM (binD ixD (vB 0) (retM (.int 0))) (consM (callM rec (consM (binD ixD (vB 0) (retM (.int 1))) (consM (vS 1) (retM [])))) (consM (callM rec (consM (binD ixD (vB 0) (retM (.int 2))) (consM (vS 1) (retM [])))) (retM []))))))
def f_put_in : Nat → Fn
  | 0 => stF
  | n + 1 => fnM 2 2 (m_put_in (f_put_in n))

def m_shown (rec : Fn) : MS := seqS (ifS (tstM (call1 (isiD "str") (vB 0))) (retS (vS 0)) (skipS)) (retS (binD addD (binD addD (binD addD (binD addD (binD addD (binD addD (retM (.str "(")) (callM rec (consM (binD ixD (vB 0) (retM (.int 1))) (retM [])))) (retM (.str " "))) (binD ixD (vB 0) (retM (.int 0)))) (retM (.str " "))) (callM rec (consM (binD ixD (vB 0) (retM (.int 2))) (retM [])))) (retM (.str ")"))))
def f_shown : Nat → Fn
  | 0 => stF
  | n + 1 => fnM 1 1 (m_shown (f_shown n))

def m_key : MS := retS (tupM (consM (callM (f_size FU) (consM (vS 0) (retM []))) (consM (callM (f_shown FU) (consM (vS 0) (retM []))) (retM []))))
def f_key : Fn := fnM 1 1 m_key

def m_in_order : MS := seqS (setO 1 (lstM (retM []))) (seqS (forS (itM (vS 0)) (nmT 2) (ifS (tstM (binD (inD true) (vB 2) (vB 1))) (appS 1 (vS 2)) (skipS))) (retS (sortByM f_key (vB 1))))
def f_in_order : Fn := fnM 1 3 m_in_order

def m_plain_value (rec : Fn) : MS := seqS (ifS (tstM (call1 (isiD "str") (vB 0))) (retS (binD (inD false) (vB 0) (vB 1))) (skipS)) (seqS (parS 2 3 (consM (callM rec (consM (binD ixD (vB 0) (retM (.int 1))) (consM (vS 1) (retM [])))) (consM (callM rec (consM (binD ixD (vB 0) (retM (.int 2))) (consM (vS 1) (retM [])))) (retM [])))) (seqS (ifS (tstM (binD (eqD) (binD ixD (vB 0) (retM (.int 0))) (retM (.str "and")))) (retS (andD (vS 2) (vS 3))) (skipS)) (retS (ifM (tstM (binD (eqD) (binD ixD (vB 0) (retM (.int 0))) (retM (.str "or")))) (orD (vS 2) (vS 3)) (orD (notD (vS 2)) (vS 3))))))
def f_plain_value : Nat → Fn
  | 0 => stF
  | n + 1 => fnM 2 4 (m_plain_value (f_plain_value n))

def m_settings : MS := seqS (setS 1 (lstM (consM (tupM (retM [])) (retM [])))) (seqS (forS (itM (vS 0)) (nmT 2) (setS 1 (binD addD (vB 1) (lcM (itM (vS 1)) [3] (nmT 3) (retM true) (binD addD (vB 3) (tupM (consM (vS 2) (retM [])))))))) (retS (vS 1)))
def f_settings : Fn := fnM 1 4 m_settings

def m_is_plainly_so : MS := retS (call1 allD (lcM (itM (callM f_settings (consM (callM (f_letters FU) (consM (vS 0) (retM []))) (retM [])))) [1] (nmT 1) (retM true) (callM (f_plain_value FU) (consM (vS 0) (consM (vS 1) (retM []))))))
def f_is_plainly_so : Fn := fnM 1 2 m_is_plainly_so

def m_signs (rec : Fn) : MS := seqS (ifS (tstM (call1 (isiD "str") (vB 0))) (retS (ifM (tstM (binD (eqD) (vB 0) (retM (.str "no")))) (tupM (consM (tupM (retM [])) (consM (tupM (retM [])) (retM [])))) (tupM (consM (tupM (consM (vS 0) (retM []))) (consM (tupM (retM [])) (retM [])))))) (skipS)) (seqS (parS 1 2 (consM (callM rec (consM (binD ixD (vB 0) (retM (.int 1))) (retM []))) (consM (callM rec (consM (binD ixD (vB 0) (retM (.int 2))) (retM []))) (retM [])))) (seqS (ifS (tstM (binD (eqD) (binD ixD (vB 0) (retM (.int 0))) (retM (.str "if")))) (setS 1 (tupM (consM (binD ixD (vB 1) (retM (.int 1))) (consM (binD ixD (vB 1) (retM (.int 0))) (retM []))))) (skipS)) (retS (tupM (consM (call1 tupC (call1 sortSetD (binD addD (binD ixD (vB 1) (retM (.int 0))) (binD ixD (vB 2) (retM (.int 0)))))) (consM (call1 tupC (call1 sortSetD (binD addD (binD ixD (vB 1) (retM (.int 1))) (binD ixD (vB 2) (retM (.int 1)))))) (retM [])))))))
def f_signs : Nat → Fn
  | 0 => stF
  | n + 1 => fnM 1 3 (m_signs (f_signs n))

def m_within : MS := seqS (forS (itM (vS 1)) (nmT 2) (seqS (ifS (orT (tstM (call1 (isiD "str") (vB 0))) (tstM (binD (inD true) (vB 2) (tupM (consM (retM (.int 1)) (consM (retM (.int 2)) (retM []))))))) (raiseS "Misstep" ["word"] pStr (consM (retM (.str "path")) (retM []))) (skipS)) (setS 0 (binD ixD (vB 0) (vB 2))))) (retS (vS 0))
def f_within : Fn := fnM 2 3 m_within

def m__law_pick : MS := retS (binD ixD (vB 1) (callM f__law_take (consM (vS 0) (consM (call1 lenD (vB 1)) (retM [])))))
def f__law_pick : Fn := fnM 2 2 m__law_pick

def m__law_drawn (rec : Fn) : MS := seqS (setS 3 (callM f__law_take (consM (vS 0) (consM (ifM (tstM (binD (gtD) (vB 1) (retM (.int 0)))) (retM (.int 6)) (retM (.int 2))) (retM []))))) (seqS (ifS (tstM (binD (ltD) (vB 3) (retM (.int 2)))) (retS (ifM (andT (tstM (binD (eqD) (vB 3) (retM (.int 1)))) (tstM (binD (eqD) (callM f__law_take (consM (vS 0) (consM (retM (.int 3)) (retM [])))) (retM (.int 0))))) (retM (.str "no")) (callM f__law_pick (consM (vS 0) (consM (vS 2) (retM [])))))) (skipS)) (retS (tupM (consM (binD ixD (lstM (consM (retM (.str "and")) (consM (retM (.str "or")) (consM (retM (.str "if")) (consM (retM (.str "if")) (retM [])))))) (binD subD (vB 3) (retM (.int 2)))) (consM (callM rec (consM (vS 0) (consM (binD subD (vB 1) (retM (.int 1))) (consM (vS 2) (retM []))))) (consM (callM rec (consM (vS 0) (consM (binD subD (vB 1) (retM (.int 1))) (consM (vS 2) (retM []))))) (retM [])))))))
def f__law_drawn : Nat → Fn
  | 0 => stF
  | n + 1 => fnM 3 4 (m__law_drawn (f__law_drawn n))

def m__law_parts (rec : Fn) : MS := seqS (ifS (tstM (call1 (isiD "str") (vB 0))) (retS (lstM (consM (vS 0) (retM [])))) (skipS)) (seqS (setS 1 (callM rec (consM (binD ixD (vB 0) (retM (.int 1))) (retM [])))) (seqS (setS 1 (binD addD (vB 1) (lcM (itM (callM rec (consM (binD ixD (vB 0) (retM (.int 2))) (retM [])))) [2] (nmT 2) (tstM (binD (inD true) (vB 2) (vB 1))) (vS 2)))) (retS (ifM (tstM (binD (inD false) (vB 0) (vB 1))) (vS 1) (binD addD (vB 1) (lstM (consM (vS 0) (retM []))))))))
def f__law_parts : Nat → Fn
  | 0 => stF
  | n + 1 => fnM 1 3 (m__law_parts (f__law_parts n))

def m__law_letters : MS := retS (call1 sortD (lcM (itM (callM (f__law_parts FU) (consM (vS 0) (retM [])))) [1] (nmT 1) (andT (tstM (call1 (isiD "str") (vB 1))) (tstM (binD (neD) (vB 1) (retM (.str "no"))))) (vS 1)))
def f__law_letters : Fn := fnM 1 2 m__law_letters

def m__law_deep (rec : Fn) : MS := retS (ifM (tstM (call1 (isiD "str") (vB 0))) (retM (.int 0)) (binD addD (retM (.int 1)) (binD maxD (callM rec (consM (binD ixD (vB 0) (retM (.int 1))) (retM []))) (callM rec (consM (binD ixD (vB 0) (retM (.int 2))) (retM []))))))
def f__law_deep : Nat → Fn
  | 0 => stF
  | n + 1 => fnM 1 1 (m__law_deep (f__law_deep n))

def m__law_order : MS := seqS (setO 2 (lstM (retM []))) (seqS (forS (itM (call1 revD (call1 lrng1 (vS 1)))) (nmT 3) (seqS (setS 4 (lstM (consM (vS 3) (retM [])))) (seqS (forS (rng2M (consM (binD addD (vB 3) (retM (.int 1))) (consM (vS 1) (retM [])))) (nmT 5) (ifS (tstM (binD (eqD) (callM f__law_take (consM (vS 0) (consM (retM (.int 2)) (retM [])))) (retM (.int 0)))) (setS 4 (binD addD (vB 4) (lcM (itM (binD ixD (vB 2) (binD subD (binD subD (vB 1) (retM (.int 1))) (vB 5)))) [6] (nmT 6) (tstM (binD (inD true) (vB 6) (vB 4))) (vS 6)))) (skipS))) (appS 2 (call1 sortD (vB 4)))))) (retS (call1 tupC (lcM (itM (call1 revD (vB 2))) [4] (nmT 4) (retM true) (call1 tupC (vB 4))))))
def f__law_order : Fn := fnM 2 7 m__law_order

def m__law_world : MS := seqS (setS 3 (callM f__law_order (consM (vS 0) (consM (vS 1) (retM []))))) (seqS (setO 4 (lcM (rng1M (consM (vS 1) (retM []))) [7] (nmT 7) (retM true) (lstM (retM [])))) (seqS (forS (rng1M (consM (vS 1) (retM []))) (nmT 5) (forS (itM (vS 2)) (nmT 6) (ifS (tstM (binD (eqD) (callM f__law_take (consM (vS 0) (consM (retM (.int 3)) (retM [])))) (retM (.int 0)))) (forS (itM (binD ixD (vB 3) (vB 5))) (nmT 7) (setI 4 (vS 7) (ifM (tstM (binD (inD false) (vB 6) (binD ixD (vB 4) (vB 7)))) (binD ixD (vB 4) (vB 7)) (binD addD (binD ixD (vB 4) (vB 7)) (lstM (consM (vS 6) (retM []))))))) (skipS)))) (frzS 4 (retS (tupM (consM (retM (.str "world")) (consM (vS 3) (consM (call1 tupC (lcM (itM (vS 4)) [8] (nmT 8) (retM true) (call1 tupC (call1 sortD (vB 8))))) (retM [])))))))))
def f__law_world : Fn := fnM 3 9 m__law_world

def m__law_forced (rec : Fn) : MS := seqS (ifS (tstM (call1 (isiD "str") (vB 1))) (retS (binD (inD false) (vB 1) (binD ixD (binD ixD (vB 0) (retM (.int 2))) (vB 2)))) (skipS)) (seqS (ifS (tstM (binD (eqD) (binD ixD (vB 1) (retM (.int 0))) (retM (.str "and")))) (retS (andD (callM rec (consM (vS 0) (consM (binD ixD (vB 1) (retM (.int 1))) (consM (vS 2) (retM []))))) (callM rec (consM (vS 0) (consM (binD ixD (vB 1) (retM (.int 2))) (consM (vS 2) (retM []))))))) (skipS)) (seqS (ifS (tstM (binD (eqD) (binD ixD (vB 1) (retM (.int 0))) (retM (.str "or")))) (retS (orD (callM rec (consM (vS 0) (consM (binD ixD (vB 1) (retM (.int 1))) (consM (vS 2) (retM []))))) (callM rec (consM (vS 0) (consM (binD ixD (vB 1) (retM (.int 2))) (consM (vS 2) (retM []))))))) (skipS)) (retS (binD (eqD) (call1 lenD (lcM (itM (binD ixD (binD ixD (vB 0) (retM (.int 1))) (vB 2))) [3] (nmT 3) (andT (tstM (callM rec (consM (vS 0) (consM (binD ixD (vB 1) (retM (.int 1))) (consM (vS 3) (retM [])))))) (notT (tstM (callM rec (consM (vS 0) (consM (binD ixD (vB 1) (retM (.int 2))) (consM (vS 3) (retM [])))))))) (vS 3))) (retM (.int 0))))))
def f__law_forced : Nat → Fn
  | 0 => stF
  | n + 1 => fnM 3 4 (m__law_forced (f__law_forced n))

def m__law_is (rec : Fn) : MS := seqS (ifS (tstM (call1 (isiD "str") (vB 0))) (retS (binD (inD false) (vB 0) (tupM (consM (retM (.str "no")) (consM (retM (.str "a")) (consM (retM (.str "b")) (consM (retM (.str "c")) (consM (retM (.str "d")) (consM (retM (.str "e")) (consM (retM (.str "f")) (consM (retM (.str "g")) (consM (retM (.str "h")) (retM []))))))))))))) (skipS)) (seqS (ifS (orT (tstM (binD (gtD) (vB 1) (retM (.int 7)))) (orT (notT (tstM (call1 (isiD "tuple") (vB 0)))) (orT (tstM (binD (neD) (call1 lenD (vB 0)) (retM (.int 3)))) (tstM (binD (inD true) (binD ixD (vB 0) (retM (.int 0))) (tupM (consM (retM (.str "and")) (consM (retM (.str "or")) (consM (retM (.str "if")) (retM [])))))))))) (retS (retM (.bool false))) (skipS)) (retS (andD (callM rec (consM (binD ixD (vB 0) (retM (.int 1))) (consM (binD addD (vB 1) (retM (.int 1))) (retM [])))) (callM rec (consM (binD ixD (vB 0) (retM (.int 2))) (consM (binD addD (vB 1) (retM (.int 1))) (retM [])))))))
def f__law_is : Nat → Fn
  | 0 => stF
  | n + 1 => fnM 2 2 (m__law_is (f__law_is n))

def m__law_plain (rec : Fn) : MS := seqS (ifS (tstM (call1 (isiD "str") (vB 0))) (retS (binD (inD false) (vB 0) (vB 1))) (skipS)) (seqS (parS 2 3 (consM (callM rec (consM (binD ixD (vB 0) (retM (.int 1))) (consM (vS 1) (retM [])))) (consM (callM rec (consM (binD ixD (vB 0) (retM (.int 2))) (consM (vS 1) (retM [])))) (retM [])))) (seqS (ifS (tstM (binD (eqD) (binD ixD (vB 0) (retM (.int 0))) (retM (.str "and")))) (retS (andD (vS 2) (vS 3))) (skipS)) (retS (ifM (tstM (binD (eqD) (binD ixD (vB 0) (retM (.int 0))) (retM (.str "or")))) (orD (vS 2) (vS 3)) (orD (vS 3) (notD (vS 2)))))))
def f__law_plain : Nat → Fn
  | 0 => stF
  | n + 1 => fnM 2 4 (m__law_plain (f__law_plain n))

def m__law_size (rec : Fn) : MS := retS (ifM (tstM (call1 (isiD "str") (vB 0))) (retM (.int 1)) (binD addD (binD addD (retM (.int 1)) (callM rec (consM (binD ixD (vB 0) (retM (.int 1))) (retM [])))) (callM rec (consM (binD ixD (vB 0) (retM (.int 2))) (retM [])))))
def f__law_size : Nat → Fn
  | 0 => stF
  | n + 1 => fnM 1 1 (m__law_size (f__law_size n))

def m__law_shown (rec : Fn) : MS := retS (ifM (tstM (call1 (isiD "str") (vB 0))) (vS 0) (binD addD (binD addD (binD addD (binD addD (binD addD (binD addD (retM (.str "(")) (callM rec (consM (binD ixD (vB 0) (retM (.int 1))) (retM [])))) (retM (.str " "))) (binD ixD (vB 0) (retM (.int 0)))) (retM (.str " "))) (callM rec (consM (binD ixD (vB 0) (retM (.int 2))) (retM [])))) (retM (.str ")"))))
def f__law_shown : Nat → Fn
  | 0 => stF
  | n + 1 => fnM 1 1 (m__law_shown (f__law_shown n))

def m__law_put (rec : Fn) : MS := seqS (ifS (tstM (call1 (isiD "str") (vB 0))) (retS (ifM (tstM (binD (inD false) (vB 0) (vB 1))) (binD ixD (vB 1) (vB 0)) (vS 0))) (skipS)) (retS (tupM (consM (binD ixD (vB 0) (retM (.int 0))) (consM (callM rec (consM (binD ixD (vB 0) (retM (.int 1))) (consM (vS 1) (retM [])))) (consM (callM rec (consM (binD ixD (vB 0) (retM (.int 2))) (consM (vS 1) (retM [])))) (retM []))))))
def f__law_put : Nat → Fn
  | 0 => stF
  | n + 1 => fnM 2 2 (m__law_put (f__law_put n))

def m__law_signs (rec : Fn) : MS := seqS (ifS (tstM (call1 (isiD "str") (vB 0))) (retS (ifM (tstM (binD (eqD) (vB 0) (retM (.str "no")))) (lstM (retM [])) (lstM (consM (tupM (consM (vS 0) (consM (vS 1) (retM [])))) (retM []))))) (skipS)) (seqS (setS 2 (callM rec (consM (binD ixD (vB 0) (retM (.int 1))) (consM (ifM (tstM (binD (eqD) (binD ixD (vB 0) (retM (.int 0))) (retM (.str "if")))) (notD (vS 1)) (vS 1)) (retM []))))) (retS (binD addD (vB 2) (callM rec (consM (binD ixD (vB 0) (retM (.int 2))) (consM (vS 1) (retM [])))))))
def f__law_signs : Nat → Fn
  | 0 => stF
  | n + 1 => fnM 2 3 (m__law_signs (f__law_signs n))

def m__law_told : MS := tryAs (retS (callM f_within (consM (vS 0) (consM (vS 1) (retM []))))) ["Misstep"] "Misstep" 2 (retX "word")
def f__law_told : Fn := fnM 2 3 m__law_told

def m__law_paths : MS := seqS (parS 2 3 (consM (tupM (retM [])) (consM (vS 1) (retM [])))) (seqS (forS (rng1M (consM (callM f__law_take (consM (vS 0) (consM (retM (.int 4)) (retM [])))) (retM []))) (nmT 4) (ifS (notT (tstM (call1 (isiD "str") (vB 3)))) (seqS (setS 5 (binD addD (retM (.int 1)) (callM f__law_take (consM (vS 0) (consM (retM (.int 2)) (retM [])))))) (parS 2 3 (consM (binD addD (vB 2) (tupM (consM (vS 5) (retM [])))) (consM (binD ixD (vB 3) (vB 5)) (retM []))))) (skipS))) (seqS (ifS (orT (tstM (binD (neD) (callM f__law_told (consM (vS 1) (consM (vS 2) (retM [])))) (vB 3))) (orT (tstM (binD (neD) (callM f__law_told (consM (vS 1) (consM (binD addD (vB 2) (tupM (consM (retM (.int 3)) (retM [])))) (retM [])))) (retM (.str "path")))) (tstM (binD (neD) (callM f__law_told (consM (vS 1) (consM (binD addD (vB 2) (tupM (consM (retM (.int 0)) (retM [])))) (retM [])))) (retM (.str "path")))))) (retS (retM (.bool false))) (skipS)) (retS (orD (notD (call1 (isiD "str") (vB 3))) (binD (eqD) (callM f__law_told (consM (vS 1) (consM (binD addD (vB 2) (tupM (consM (retM (.int 1)) (retM [])))) (retM [])))) (retM (.str "path")))))))
def f__law_paths : Fn := fnM 2 6 m__law_paths

def m_law_18 : MS := seqS (ifS (orT (tstM (binD (neD) (callM f_never (consM (vS 2) (retM []))) (tupM (consM (retM (.str "if")) (consM (vS 2) (consM (retM (.str "no")) (retM []))))))) (orT (tstM (binD (neD) (callM f_yes (retM [])) (tupM (consM (retM (.str "if")) (consM (retM (.str "no")) (consM (retM (.str "no")) (retM []))))))) (tstM (binD (neD) (callM f_both_ways (consM (vS 2) (consM (vS 3) (retM [])))) (tupM (consM (retM (.str "and")) (consM (tupM (consM (retM (.str "if")) (consM (vS 2) (consM (vS 3) (retM []))))) (consM (tupM (consM (retM (.str "if")) (consM (vS 3) (consM (vS 2) (retM []))))) (retM []))))))))) (retS (retM (.bool false))) (skipS)) (seqS (ifS (orT (tstM (binD (neD) (callM f_all_of (consM (lstM (retM [])) (retM []))) (tupM (consM (retM (.str "if")) (consM (retM (.str "no")) (consM (retM (.str "no")) (retM []))))))) (orT (tstM (binD (neD) (callM f_some_of (consM (lstM (retM [])) (retM []))) (retM (.str "no")))) (orT (tstM (binD (neD) (callM f_all_of (consM (lstM (consM (vS 2) (retM []))) (retM []))) (vB 2))) (tstM (binD (neD) (callM f_some_of (consM (lstM (consM (vS 2) (retM []))) (retM []))) (vB 2)))))) (retS (retM (.bool false))) (skipS)) (seqS (ifS (orT (tstM (binD (neD) (callM f_all_of (consM (lstM (consM (vS 2) (consM (vS 3) (consM (retM (.str "a")) (retM []))))) (retM []))) (tupM (consM (retM (.str "and")) (consM (vS 2) (consM (tupM (consM (retM (.str "and")) (consM (vS 3) (consM (retM (.str "a")) (retM []))))) (retM []))))))) (tstM (binD (neD) (callM f_some_of (consM (lstM (consM (vS 2) (consM (vS 3) (consM (retM (.str "a")) (retM []))))) (retM []))) (tupM (consM (retM (.str "or")) (consM (vS 2) (consM (tupM (consM (retM (.str "or")) (consM (vS 3) (consM (retM (.str "a")) (retM []))))) (retM [])))))))) (retS (retM (.bool false))) (skipS)) (seqS (setS 14 (retM (.str "a"))) (seqS (forS (rng1M (consM (retM (.int 11)) (retM []))) (nmT 15) (seqS (ifS (orT (tstM (binD (neD) (callM f_is_saying (consM (vS 14) (retM []))) (binD (ltD) (vB 15) (retM (.int 9))))) (tstM (binD (neD) (callM (f_has_form FU) (consM (vS 14) (consM (retM (.int 3)) (retM [])))) (binD (ltD) (vB 15) (retM (.int 6)))))) (retS (retM (.bool false))) (skipS)) (setS 14 (tupM (consM (retM (.str "or")) (consM (retM (.str "no")) (consM (vS 14) (retM [])))))))) (seqS (setS 16 (lstM (consM (retM .none) (consM (retM (.str "")) (consM (retM (.str "i")) (consM (retM (.str "ab")) (consM (retM (.str "A")) (consM (retM (.int 3)) (consM (tupM (consM (retM (.str "and")) (consM (retM (.str "a")) (retM [])))) (consM (lstM (consM (retM (.str "and")) (consM (retM (.str "a")) (consM (retM (.str "b")) (retM []))))) (consM (tupM (consM (retM (.str "not")) (consM (retM (.str "a")) (consM (retM (.str "b")) (retM []))))) (consM (tupM (consM (retM (.str "if")) (consM (retM (.str "a")) (consM (retM (.str "b")) (consM (retM (.str "c")) (retM [])))))) (consM (tupM (consM (retM (.str "or")) (consM (retM (.str "a")) (consM (retM .none) (retM []))))) (consM (tupM (consM (tupM (consM (retM (.int 1)) (retM []))) (consM (retM (.str "a")) (consM (retM (.str "b")) (retM []))))) (consM (retM (.str "yes")) (retM [])))))))))))))))) (seqS (ifS (tstM (binD (gtD) (call1 lenD (lcM (itM (vS 16)) [20] (nmT 20) (orT (tstM (binD (isD true) (callM f_is_saying (consM (vS 20) (retM []))) (retM (.bool false)))) (tstM (callM (f__law_is FU) (consM (vS 20) (consM (retM (.int 0)) (retM [])))))) (vS 20))) (retM (.int 0)))) (retS (retM (.bool false))) (skipS)) (seqS (ifS (tstM (binD (neD) (lcM (itM (tupM (consM (retM (.str "a")) (consM (retM (.str "h")) (consM (retM (.str "i")) (consM (retM (.str "no")) (consM (retM (.str "")) (consM (retM .none) (consM (retM (.str "ab")) (retM [])))))))))) [20] (nmT 20) (retM true) (callM f_is_letter (consM (vS 20) (retM [])))) (lstM (consM (retM (.bool true)) (consM (retM (.bool true)) (consM (retM (.bool false)) (consM (retM (.bool false)) (consM (retM (.bool false)) (consM (retM (.bool false)) (consM (retM (.bool false)) (retM []))))))))))) (retS (retM (.bool false))) (skipS)) (retS (andD (binD (eqD) (tupM (consM (retM (.int 8)) (consM (retM (.str "abcdefgh")) (retM [])))) (tupM (consM (retM (.int 8)) (consM (retM (.str "abcdefgh")) (retM []))))) (andD (callM f__law_paths (consM (vS 1) (consM (vS 2) (retM [])))) (binD (eqD) (callM (f__law_is FU) (consM (vS 2) (consM (retM (.int 0)) (retM [])))) (callM f_is_saying (consM (vS 2) (retM []))))))))))))))
def m_law_14 : MS := seqS (setS 10 (callM (f__law_signs FU) (consM (vS 2) (consM (retM (.bool true)) (retM []))))) (seqS (asgS (tupM (consM (call1 sortD (lcM (itM (vS 10)) [9, 22] (tupT 2 (consT (nmT 9) (consT (nmT 22) (nilT)))) (tstM (vS 22)) (vS 9))) (consM (call1 sortD (lcM (itM (vS 10)) [9, 22] (tupT 2 (consT (nmT 9) (consT (nmT 22) (nilT)))) (notT (tstM (vS 22))) (vS 9))) (retM [])))) (tupT 2 (consT (nmT 11) (consT (nmT 12) (nilT))))) (seqS (setS 13 (call1 tupC (lcM (rng1M (consM (call1 lenD (vB 11)) (retM []))) [15] (nmT 15) (tstM (binD (inD true) (binD ixD (vB 11) (vB 15)) (slM slD (vB 11) (retM none) (partM (vS 15))))) (binD ixD (vB 11) (vB 15))))) (seqS (ifS (tstM (binD (neD) (callM (f_signs FU) (consM (vS 2) (retM []))) (tupM (consM (vS 13) (consM (call1 tupC (lcM (rng1M (consM (call1 lenD (vB 12)) (retM []))) [15] (nmT 15) (tstM (binD (inD true) (binD ixD (vB 12) (vB 15)) (slM slD (vB 12) (retM none) (partM (vS 15))))) (binD ixD (vB 12) (vB 15)))) (retM [])))))) (retS (retM (.bool false))) (skipS)) m_law_18)))
def m_law_10 : MS := seqS (setS 8 (lstM (consM (tupM (retM [])) (retM [])))) (seqS (forS (itM (vS 4)) (nmT 9) (setS 8 (binD addD (vB 8) (lcM (itM (vS 8)) [21] (nmT 21) (retM true) (binD addD (vB 21) (tupM (consM (vS 9) (retM [])))))))) (seqS (ifS (orT (tstM (binD (neD) (callM f_settings (consM (call1 tupC (vB 4)) (retM []))) (vB 8))) (tstM (binD (gtD) (call1 lenD (lcM (itM (vS 8)) [21] (nmT 21) (tstM (binD (neD) (callM (f_plain_value FU) (consM (vS 2) (consM (vS 21) (retM [])))) (callM (f__law_plain FU) (consM (vS 2) (consM (vS 21) (retM [])))))) (vS 21))) (retM (.int 0))))) (retS (retM (.bool false))) (skipS)) (seqS (ifS (tstM (binD (neD) (callM f_is_plainly_so (consM (vS 2) (retM []))) (binD (eqD) (call1 lenD (lcM (itM (vS 8)) [21] (nmT 21) (notT (tstM (callM (f__law_plain FU) (consM (vS 2) (consM (vS 21) (retM [])))))) (vS 21))) (retM (.int 0))))) (retS (retM (.bool false))) (skipS)) m_law_14)))
def m_law : MS := seqS (asgS (tupM (consM (callM (f__law_drawn FU) (consM (vS 1) (consM (retM (.int 4)) (consM (lstM (consM (retM (.str "a")) (consM (retM (.str "b")) (consM (retM (.str "c")) (consM (retM (.str "d")) (retM [])))))) (retM []))))) (consM (callM (f__law_drawn FU) (consM (vS 1) (consM (retM (.int 2)) (consM (lstM (consM (retM (.str "a")) (consM (retM (.str "e")) (consM (retM (.str "h")) (retM []))))) (retM []))))) (retM [])))) (tupT 2 (consT (nmT 2) (consT (nmT 3) (nilT))))) (seqS (ifS (orT (tstM (binD (isD true) (callM f_is_saying (consM (vS 2) (retM []))) (retM (.bool true)))) (orT (tstM (binD (neD) (callM (f_depth FU) (consM (vS 2) (retM []))) (callM (f__law_deep FU) (consM (vS 2) (retM []))))) (orT (tstM (binD (neD) (callM (f_size FU) (consM (vS 2) (retM []))) (callM (f__law_size FU) (consM (vS 2) (retM []))))) (tstM (binD (neD) (callM (f_shown FU) (consM (vS 2) (retM []))) (callM (f__law_shown FU) (consM (vS 2) (retM [])))))))) (retS (retM (.bool false))) (skipS)) (seqS (setS 4 (callM f__law_letters (consM (vS 2) (retM [])))) (seqS (ifS (orT (tstM (binD (neD) (callM (f_parts FU) (consM (vS 2) (retM []))) (callM (f__law_parts FU) (consM (vS 2) (retM []))))) (orT (tstM (binD (neD) (callM (f_letters FU) (consM (vS 2) (retM []))) (call1 tupC (vB 4)))) (tstM (binD (neD) (callM f_key (consM (vS 2) (retM []))) (tupM (consM (callM (f__law_size FU) (consM (vS 2) (retM []))) (consM (callM (f__law_shown FU) (consM (vS 2) (retM []))) (retM [])))))))) (retS (retM (.bool false))) (skipS)) (seqS (setS 5 (lstM (consM (vS 2) (consM (vS 3) (consM (retM (.str "no")) (consM (vS 2) (consM (retM (.str "a")) (consM (tupM (consM (retM (.str "and")) (consM (retM (.str "a")) (consM (retM (.str "no")) (retM []))))) (retM []))))))))) (seqS (setO 6 (lcM (rng1M (consM (call1 lenD (vB 5)) (retM []))) [15] (nmT 15) (tstM (binD (inD true) (binD ixD (vB 5) (vB 15)) (slM slD (vB 5) (retM none) (partM (vS 15))))) (binD ixD (vB 5) (vB 15)))) (frzS 6 (seqS (setO 6 (lcM (itM (call1 sort3D (lcM (itM (vS 6)) [19] (nmT 19) (retM true) (tupM (consM (callM (f__law_size FU) (consM (vS 19) (retM []))) (consM (callM (f__law_shown FU) (consM (vS 19) (retM []))) (consM (vS 19) (retM [])))))))) [17, 18, 19] (tupT 3 (consT (nmT 17) (consT (nmT 18) (consT (nmT 19) (nilT))))) (retM true) (vS 19))) (frzS 6 (seqS (ifS (tstM (binD (neD) (callM f_in_order (consM (lcM (itM (vS 5)) [19] (nmT 19) (retM true) (vS 19)) (retM []))) (vB 6))) (retS (retM (.bool false))) (skipS)) (seqS (setS 7 (dictM [(retM (.str "a"), vS 3), (retM (.str "d"), tupM (consM (retM (.str "or")) (consM (retM (.str "a")) (consM (retM (.str "no")) (retM [])))))])) (seqS (ifS (orT (tstM (binD (neD) (callM (f_put_in FU) (consM (vS 2) (consM (vS 7) (retM [])))) (callM (f__law_put FU) (consM (vS 2) (consM (vS 7) (retM [])))))) (tstM (binD (neD) (callM (f_put_in FU) (consM (vS 2) (consM (retM (.dict [])) (retM [])))) (vB 2)))) (retS (retM (.bool false))) (skipS)) m_law_10)))))))))))

section
variable {P : Program} {w : World} {K : PySem.W.Frag} {mg : Str → Option Value} {base : Heap}

abbrev bnames : List Str := ["abs", "all", "any", "bool", "dict", "int", "isinstance", "len", "list", "max", "min", "range", "set", "sorted", "str", "sum", "super", "tuple"]
/-- the names of what is built in are not the module's -/
abbrev Bfr (mg : Str → Option Value) : Prop := ∀ x : Str, x ∈ bnames → mg x = none
def s__law_take : Stmt := top 29
def s__law_state : Stmt := top 28
theorem w__law_take {f : Addr} {fd : FuncData} (F : FunD K "_law_take" "_law_take" (defArgs s__law_take) (defBody s__law_take) (defScope s__law_take) [] [] f fd) (gm : mg "_law_take" = some (.ref f)) (Z : Bfr mg) : Cd P w K mg base "_law_take" 1 takeF := by
  have Sc : FnScope ["state", "most", "cells", "at", "cell", "mixed"] ["state", "most"] (defScope s__law_take) := C8.fnScope_by (by decide +kernel)
  have bi : Binds K fd ["state", "most"] [] := F.bindsN fun _ _ _ _ _ _ us hl => match us, hl with | [_, _], _ => rfl
  exact cd_take F gm bi Sc rfl fun cdv A outer s H E hr => by
    unfold tTake
    exact (pss_cons (ps_if (pt_cmpR op_lt (pv 1) pe_int (nomark _)) (pss_one (ps_ret pe_int)) pss_nil) (pss_cons (ps_set (i := 2) Sc.nd rfl (Or.inl rfl) (pe_ix ix_seq (pv 0) pe_int (fun _ _ => rfl))) (pss_cons (ps_set (i := 3) Sc.nd rfl (Or.inl rfl) (pe_op op_mod (pe_callTy call_int1 rfl (Z "int" (by decide)) rfl (pa_cons (pe_ix ix_seq (pv 0) pe_int (fun _ _ => rfl)) pa_nil)) (pe_callB call_len rfl (Z "len" (by decide)) boot_len (pa_cons (pv 2) pa_nil)))) (pss_cons (ps_set (i := 4) Sc.nd rfl (Or.inl rfl) (pe_ix ix_seq (pv 2) (pv 3) (fun _ _ => rfl))) (pss_cons (ps_if (pt_cmpR op_ge (pv 4) pe_int (nomark _)) (pss_cons (ps_asg (pe_op op_fdiv (pv 4) (pv 1)) (pg_sub (pv 2) (pv 3) set_list)) (pss_one (ps_ret (pe_op op_mod (pe_callTy call_int1 rfl (Z "int" (by decide)) rfl (pa_cons (pv 4) pa_nil)) (pv 1))))) pss_nil) (pss_cons (ps_asg (pe_op op_add (pe_ix ix_seq (pv 0) pe_int (fun _ _ => rfl)) pe_int) (pg_sub (pv 0) pe_int set_list)) (pss_cons (ps_set (i := 5) Sc.nd rfl (Or.inl rfl) (pe_op op_mod (pe_callTy call_int1 rfl (Z "int" (by decide)) rfl (pa_cons (pe_op op_add (pe_op op_mul (pv 4) pe_int) (pe_op op_mul (pe_ix ix_seq (pv 0) pe_int (fun _ _ => rfl)) pe_int)) pa_nil)) pe_int)) (pss_cons (ps_set (i := 5) Sc.nd rfl (Or.inl rfl) (pe_op op_mod (pe_callTy call_int1 rfl (Z "int" (by decide)) rfl (pa_cons (pe_op op_add (pe_op op_mul (pv 5) pe_int) (pe_op op_mul (pe_ix ix_seq (pv 0) pe_int (fun _ _ => rfl)) pe_int)) pa_nil)) pe_int)) (pss_one (ps_ret (pe_op op_mod (pe_callTy call_int1 rfl (Z "int" (by decide)) rfl (pa_cons (pe_op op_fdiv (pv 5) pe_int) pa_nil)) (pv 1))))))))))))
theorem w__law_state {f : Addr} {fd : FuncData} (F : FunD K "_law_state" "_law_state" (defArgs s__law_state) (defBody s__law_state) (defScope s__law_state) [] [] f fd) (Z : Bfr mg) : FnOk P w K mg base (L2.CX P w) 1 f fd ["script"] (spState K) := by
  have Sc : FnScope ["script", "cells", "cell"] ["script"] (defScope s__law_state) := C8.fnScope_by (by decide +kernel)
  exact fn_state F Sc rfl fun cdv A outer s H E hr => by
    unfold tState
    exact pss_cons (ps_setLc (i := 1) (own := [("cell", 2)]) rfl Sc.nd rfl rfl (sw_true rfl rfl rfl rfl) (pi_list (pe_slice sl_list (pv 0) po_none (po_some pe_int))) (blkOk_by (by show blkC ["script", "cells", "cell"] (defScope s__law_state) _ _ = true; decide +kernel)) (fun _ _ _ _ _ => pg_name (i := 2) Sc.nd rfl (by first | exact Or.inl rfl | exact Or.inr rfl)) (fun _ _ _ _ _ => pts_nil) (fun _ _ _ _ _ => pe_callB call_abs rfl (Z "abs" (by decide)) boot_abs (pa_cons (pv 2) pa_nil)))
      (pss_cons (ps_if (pt_cmpR op_eq (pe_callB call_len rfl (Z "len" (by decide)) boot_len (pa_cons (pv 1) pa_nil)) pe_int (nomark _)) (pss_one (ps_set (i := 1) Sc.nd rfl (Or.inl rfl) (pe_lst (pa_cons pe_int pa_nil)))) pss_nil)
      (pss_one (ps_ret (pe_lst (pa_cons pe_int (pa_cons (pv 1) pa_nil))))))
def s_is_letter : Stmt := top 8
theorem w_is_letter {f : Addr} {fd : FuncData} (F : FunD K "is_letter" "is_letter" (defArgs s_is_letter) (defBody s_is_letter) (defScope s_is_letter) [] [] f fd) (gm : mg "is_letter" = some (.ref f)) (Z : Bfr mg) (g_LETTERS : ∃ t, mg "LETTERS" = some (.str "abcdefgh" t)) : Cd P w K mg base "is_letter" 1 f_is_letter := by
  have Sc : FnScope ["value"] ["value"] (defScope s_is_letter) := C8.fnScope_by (by decide +kernel)
  have bi : Binds K fd ["value"] [] := F.bindsN fun _ _ _ _ _ _ us hl => match us, hl with | [_], _ => rfl
  exact Cd.mk' F gm bi Sc rfl rfl fun cdv A outer s H E hr => by
      have hr : Room 0 _ := hr
      have hu := ur_of hr
      have tk : Takes (cxOf (L2.CX P w) P w K mg base ["value"] "is_letter" (defScope s_is_letter) f cdv A outer s H E) (fun cls d _ H => E cls d H) := takes_of rfl rfl rfl rfl
      have hp := passes_of (X := cxOf (L2.CX P w) P w K mg base ["value"] "is_letter" (defScope s_is_letter) f cdv A outer s H E) rfl
      unfold m_is_letter
      exact (dss_one (ds_ret (de_and (de_isi (T := "str") (x := "str") (Z "isinstance" (by decide)) (Z "str" (by decide)) rfl (db_var (pv 0))) (de_and (de_eq hu (db (de_len (Z "len" (by decide)) (db_var (pv 0)))) (db (de_c pe_int))) (de_one (de_in hu (db_var (pv 0)) (db (de_gstr g_LETTERS))))))))

def s_has_form : Stmt := top 7
theorem w_has_form {f : Addr} {fd : FuncData} (F : FunD K "has_form" "has_form" (defArgs s_has_form) (defBody s_has_form) (defScope s_has_form) [] [] f fd) (gm : mg "has_form" = some (.ref f)) (Z : Bfr mg) (c_is_letter : Cd P w K mg base "is_letter" 1 f_is_letter) (g_MOST_DEEP : ∃ t, mg "MOST_DEEP" = some (.int 8 t)) : ∀ n, Cd P w K mg base "has_form" (1 + n) (f_has_form n) := by
  have Sc : FnScope ["value", "level", "part"] ["value", "level"] (defScope s_has_form) := C8.fnScope_by (by decide +kernel)
  have bi : Binds K fd ["value", "level"] [] := F.bindsN fun _ _ _ _ _ _ us hl => match us, hl with | [_, _], _ => rfl
  intro n
  induction n with
  | zero => exact Cd.zero gm F.kp bi
  | succ n crec =>
    exact Cd.mk' F gm bi Sc rfl rfl fun cdv A outer s H E hr => by
      have hr : Room (1 + n) _ := hr
      have hu := ur_of hr
      have tk : Takes (cxOf (L2.CX P w) P w K mg base ["value", "level", "part"] "has_form" (defScope s_has_form) f cdv A outer s H E) (fun cls d _ H => E cls d H) := takes_of rfl rfl rfl rfl
      have hp := passes_of (X := cxOf (L2.CX P w) P w K mg base ["value", "level", "part"] "has_form" (defScope s_has_form) f cdv A outer s H E) rfl
      unfold m_has_form
      exact (dss_cons (ds_if (dt_val (de_isi (T := "str") (x := "str") (Z "isinstance" (by decide)) (Z "str" (by decide)) rfl (db_var (pv 0)))) (dss_one (ds_ret (de_or (de_eq hu (db_var (pv 0)) (db (de_c pe_str))) (de_one (de_call c_is_letter hr (by omega) tk (da_cons (de_var (pv 0)) da_nil)))))) dss_nil) (dss_cons (ds_if (dt_w (dw_or (dt_ge (db_var (pv 1)) (db (de_gint g_MOST_DEEP))) (dw_or (dt_not (dt_val (de_isi (T := "tuple") (x := "tuple") (Z "isinstance" (by decide)) (Z "tuple" (by decide)) rfl (db_var (pv 0))))) (dw_or1 (dt_ne hu (db (de_len (Z "len" (by decide)) (db_var (pv 0)))) (db (de_c pe_int))))))) (dss_one (ds_ret (de_c pe_bl))) dss_nil) (dss_cons (ds_if (dt_w (dw_or (dt_not (dt_val (de_isi (T := "str") (x := "str") (Z "isinstance" (by decide)) (Z "str" (by decide)) rfl (db (de_sub' hu (db_var (pv 0)) (db (de_c pe_int))))))) (dw_or1 (dt_notin hu (db (de_sub' hu (db_var (pv 0)) (db (de_c pe_int)))) (db (de_tup (da_cons (de_c pe_str) (da_cons (de_c pe_str) (da_cons (de_c pe_str) da_nil))))))))) (dss_one (ds_ret (de_c pe_bl))) dss_nil) (dss_one (ds_ret (de_all rfl (Z "all" (by decide)) (db (de_do (do_lc (own := [("part", 2)]) rfl Sc.nd (di_E (de_slice (db_var (pv 0)) (dp_some (de_c pe_int)) dp_none)) (blkOk_by (by show blkC ["value", "level", "part"] (defScope s_has_form) _ _ = true; decide +kernel)) (fun _ _ _ _ _ => (dg_name (i := 2) Sc.nd rfl (by first | exact Or.inl rfl | exact Or.inr rfl))) (fun _ _ _ _ _ => dts_nil) (fun _ _ _ _ _ => (de_call crec hr (by omega) takes0 (da_cons (de_var (pv 2)) (da_cons (de_add (db_var (pv 1)) (db (de_c pe_int))) da_nil)))))))))))))

def s_is_saying : Stmt := top 6
theorem w_is_saying {f : Addr} {fd : FuncData} (F : FunD K "is_saying" "is_saying" (defArgs s_is_saying) (defBody s_is_saying) (defScope s_is_saying) [] [] f fd) (gm : mg "is_saying" = some (.ref f)) (Z : Bfr mg) (c_has_form : Cd P w K mg base "has_form" 15 (f_has_form FU)) : Cd P w K mg base "is_saying" 16 f_is_saying := by
  have Sc : FnScope ["value"] ["value"] (defScope s_is_saying) := C8.fnScope_by (by decide +kernel)
  have bi : Binds K fd ["value"] [] := F.bindsN fun _ _ _ _ _ _ us hl => match us, hl with | [_], _ => rfl
  exact Cd.mk' F gm bi Sc rfl rfl fun cdv A outer s H E hr => by
      have hr : Room 15 _ := hr
      have hu := ur_of hr
      have tk : Takes (cxOf (L2.CX P w) P w K mg base ["value"] "is_saying" (defScope s_is_saying) f cdv A outer s H E) (fun cls d _ H => E cls d H) := takes_of rfl rfl rfl rfl
      have hp := passes_of (X := cxOf (L2.CX P w) P w K mg base ["value"] "is_saying" (defScope s_is_saying) f cdv A outer s H E) rfl
      unfold m_is_saying
      exact (dss_one (ds_ret (de_call c_has_form hr (by omega) tk (da_cons (de_var (pv 0)) (da_cons (de_c pe_int) da_nil)))))

def s_never : Stmt := top 9
theorem w_never {f : Addr} {fd : FuncData} (F : FunD K "never" "never" (defArgs s_never) (defBody s_never) (defScope s_never) [] [] f fd) (gm : mg "never" = some (.ref f)) (Z : Bfr mg) : Cd P w K mg base "never" 1 f_never := by
  have Sc : FnScope ["saying"] ["saying"] (defScope s_never) := C8.fnScope_by (by decide +kernel)
  have bi : Binds K fd ["saying"] [] := F.bindsN fun _ _ _ _ _ _ us hl => match us, hl with | [_], _ => rfl
  exact Cd.mk' F gm bi Sc rfl rfl fun cdv A outer s H E hr => by
      have hr : Room 0 _ := hr
      have hu := ur_of hr
      have tk : Takes (cxOf (L2.CX P w) P w K mg base ["saying"] "never" (defScope s_never) f cdv A outer s H E) (fun cls d _ H => E cls d H) := takes_of rfl rfl rfl rfl
      have hp := passes_of (X := cxOf (L2.CX P w) P w K mg base ["saying"] "never" (defScope s_never) f cdv A outer s H E) rfl
      unfold m_never
      exact (dss_one (ds_ret (de_tup (da_cons (de_c pe_str) (da_cons (de_var (pv 0)) (da_cons (de_c pe_str) da_nil))))))

def s_yes : Stmt := top 10
theorem w_yes {f : Addr} {fd : FuncData} (F : FunD K "yes" "yes" (defArgs s_yes) (defBody s_yes) (defScope s_yes) [] [] f fd) (gm : mg "yes" = some (.ref f)) (Z : Bfr mg) : Cd P w K mg base "yes" 1 f_yes := by
  have Sc : FnScope [] [] (defScope s_yes) := C8.fnScope_by (by decide +kernel)
  have bi : Binds K fd [] [] := F.bindsN fun _ _ _ _ _ _ us hl => match us, hl with | [], _ => rfl
  exact Cd.mk' F gm bi Sc rfl rfl fun cdv A outer s H E hr => by
      have hr : Room 0 _ := hr
      have hu := ur_of hr
      have tk : Takes (cxOf (L2.CX P w) P w K mg base [] "yes" (defScope s_yes) f cdv A outer s H E) (fun cls d _ H => E cls d H) := takes_of rfl rfl rfl rfl
      have hp := passes_of (X := cxOf (L2.CX P w) P w K mg base [] "yes" (defScope s_yes) f cdv A outer s H E) rfl
      unfold m_yes
      exact (dss_one (ds_ret (de_tup (da_cons (de_c pe_str) (da_cons (de_c pe_str) (da_cons (de_c pe_str) da_nil))))))

def s_both_ways : Stmt := top 11
theorem w_both_ways {f : Addr} {fd : FuncData} (F : FunD K "both_ways" "both_ways" (defArgs s_both_ways) (defBody s_both_ways) (defScope s_both_ways) [] [] f fd) (gm : mg "both_ways" = some (.ref f)) (Z : Bfr mg) : Cd P w K mg base "both_ways" 1 f_both_ways := by
  have Sc : FnScope ["one", "other"] ["one", "other"] (defScope s_both_ways) := C8.fnScope_by (by decide +kernel)
  have bi : Binds K fd ["one", "other"] [] := F.bindsN fun _ _ _ _ _ _ us hl => match us, hl with | [_, _], _ => rfl
  exact Cd.mk' F gm bi Sc rfl rfl fun cdv A outer s H E hr => by
      have hr : Room 0 _ := hr
      have hu := ur_of hr
      have tk : Takes (cxOf (L2.CX P w) P w K mg base ["one", "other"] "both_ways" (defScope s_both_ways) f cdv A outer s H E) (fun cls d _ H => E cls d H) := takes_of rfl rfl rfl rfl
      have hp := passes_of (X := cxOf (L2.CX P w) P w K mg base ["one", "other"] "both_ways" (defScope s_both_ways) f cdv A outer s H E) rfl
      unfold m_both_ways
      exact (dss_one (ds_ret (de_tup (da_cons (de_c pe_str) (da_cons (de_tup (da_cons (de_c pe_str) (da_cons (de_var (pv 0)) (da_cons (de_var (pv 1)) da_nil)))) (da_cons (de_tup (da_cons (de_c pe_str) (da_cons (de_var (pv 1)) (da_cons (de_var (pv 0)) da_nil)))) da_nil))))))

def s_all_of : Stmt := top 12
theorem w_all_of {f : Addr} {fd : FuncData} (F : FunD K "all_of" "all_of" (defArgs s_all_of) (defBody s_all_of) (defScope s_all_of) [] [] f fd) (gm : mg "all_of" = some (.ref f)) (Z : Bfr mg) (c_yes : Cd P w K mg base "yes" 1 f_yes) : Cd P w K mg base "all_of" 2 f_all_of := by
  have Sc : FnScope ["row", "found", "one"] ["row"] (defScope s_all_of) := C8.fnScope_by (by decide +kernel)
  have bi : Binds K fd ["row"] [] := F.bindsN fun _ _ _ _ _ _ us hl => match us, hl with | [_], _ => rfl
  exact Cd.mk' F gm bi Sc rfl rfl fun cdv A outer s H E hr => by
      have hr : Room 1 _ := hr
      have hu := ur_of hr
      have tk : Takes (cxOf (L2.CX P w) P w K mg base ["row", "found", "one"] "all_of" (defScope s_all_of) f cdv A outer s H E) (fun cls d _ H => E cls d H) := takes_of rfl rfl rfl rfl
      have hp := passes_of (X := cxOf (L2.CX P w) P w K mg base ["row", "found", "one"] "all_of" (defScope s_all_of) f cdv A outer s H E) rfl
      unfold m_all_of
      exact (dss_cons (ds_if (dt_eq hu (db (de_len (Z "len" (by decide)) (db_var (pv 0)))) (db (de_c pe_int))) (dss_one (ds_ret (de_call0 c_yes hr (by omega) tk))) dss_nil) (dss_cons (ds_set (i := 1) Sc.nd rfl (by first | exact Or.inl rfl | exact Or.inr rfl) (de_sub' hu (db_var (pv 0)) (db de_negc))) (dss_cons (ds_for hp rfl (di_E (de_do (do_rev2 (db_var (pv 0))))) (dg_name (i := 2) Sc.nd rfl (by first | exact Or.inl rfl | exact Or.inr rfl)) (dss_one (ds_set (i := 1) Sc.nd rfl (by first | exact Or.inl rfl | exact Or.inr rfl) (de_tup (da_cons (de_c pe_str) (da_cons (de_var (pv 2)) (da_cons (de_var (pv 1)) da_nil))))))) (dss_one (ds_ret (de_var (pv 1)))))))

def s_some_of : Stmt := top 13
theorem w_some_of {f : Addr} {fd : FuncData} (F : FunD K "some_of" "some_of" (defArgs s_some_of) (defBody s_some_of) (defScope s_some_of) [] [] f fd) (gm : mg "some_of" = some (.ref f)) (Z : Bfr mg) : Cd P w K mg base "some_of" 1 f_some_of := by
  have Sc : FnScope ["row", "found", "one"] ["row"] (defScope s_some_of) := C8.fnScope_by (by decide +kernel)
  have bi : Binds K fd ["row"] [] := F.bindsN fun _ _ _ _ _ _ us hl => match us, hl with | [_], _ => rfl
  exact Cd.mk' F gm bi Sc rfl rfl fun cdv A outer s H E hr => by
      have hr : Room 0 _ := hr
      have hu := ur_of hr
      have tk : Takes (cxOf (L2.CX P w) P w K mg base ["row", "found", "one"] "some_of" (defScope s_some_of) f cdv A outer s H E) (fun cls d _ H => E cls d H) := takes_of rfl rfl rfl rfl
      have hp := passes_of (X := cxOf (L2.CX P w) P w K mg base ["row", "found", "one"] "some_of" (defScope s_some_of) f cdv A outer s H E) rfl
      unfold m_some_of
      exact (dss_cons (ds_if (dt_eq hu (db (de_len (Z "len" (by decide)) (db_var (pv 0)))) (db (de_c pe_int))) (dss_one (ds_ret (de_c pe_str))) dss_nil) (dss_cons (ds_set (i := 1) Sc.nd rfl (by first | exact Or.inl rfl | exact Or.inr rfl) (de_sub' hu (db_var (pv 0)) (db de_negc))) (dss_cons (ds_for hp rfl (di_E (de_do (do_rev2 (db_var (pv 0))))) (dg_name (i := 2) Sc.nd rfl (by first | exact Or.inl rfl | exact Or.inr rfl)) (dss_one (ds_set (i := 1) Sc.nd rfl (by first | exact Or.inl rfl | exact Or.inr rfl) (de_tup (da_cons (de_c pe_str) (da_cons (de_var (pv 2)) (da_cons (de_var (pv 1)) da_nil))))))) (dss_one (ds_ret (de_var (pv 1)))))))

def s_depth : Stmt := top 14
theorem w_depth {f : Addr} {fd : FuncData} (F : FunD K "depth" "depth" (defArgs s_depth) (defBody s_depth) (defScope s_depth) [] [] f fd) (gm : mg "depth" = some (.ref f)) (Z : Bfr mg) : ∀ n, Cd P w K mg base "depth" (0 + n) (f_depth n) := by
  have Sc : FnScope ["saying"] ["saying"] (defScope s_depth) := C8.fnScope_by (by decide +kernel)
  have bi : Binds K fd ["saying"] [] := F.bindsN fun _ _ _ _ _ _ us hl => match us, hl with | [_], _ => rfl
  intro n
  induction n with
  | zero => exact Cd.zero gm F.kp bi
  | succ n crec =>
    exact Cd.mk' F gm bi Sc rfl rfl fun cdv A outer s H E hr => by
      have hr : Room (0 + n) _ := hr
      have hu := ur_of hr
      have tk : Takes (cxOf (L2.CX P w) P w K mg base ["saying"] "depth" (defScope s_depth) f cdv A outer s H E) (fun cls d _ H => E cls d H) := takes_of rfl rfl rfl rfl
      have hp := passes_of (X := cxOf (L2.CX P w) P w K mg base ["saying"] "depth" (defScope s_depth) f cdv A outer s H E) rfl
      unfold m_depth
      exact (dss_one (ds_ret (de_if (dt_val (de_isi (T := "str") (x := "str") (Z "isinstance" (by decide)) (Z "str" (by decide)) rfl (db_var (pv 0)))) (de_c pe_int) (de_add (db (de_c pe_int)) (db (de_max2 rfl (Z "max" (by decide)) (db (de_call crec hr (by omega) tk (da_cons (de_sub' hu (db_var (pv 0)) (db (de_c pe_int))) da_nil))) (db (de_call crec hr (by omega) tk (da_cons (de_sub' hu (db_var (pv 0)) (db (de_c pe_int))) da_nil)))))))))

def s_size : Stmt := top 15
theorem w_size {f : Addr} {fd : FuncData} (F : FunD K "size" "size" (defArgs s_size) (defBody s_size) (defScope s_size) [] [] f fd) (gm : mg "size" = some (.ref f)) (Z : Bfr mg) : ∀ n, Cd P w K mg base "size" (0 + n) (f_size n) := by
  have Sc : FnScope ["saying"] ["saying"] (defScope s_size) := C8.fnScope_by (by decide +kernel)
  have bi : Binds K fd ["saying"] [] := F.bindsN fun _ _ _ _ _ _ us hl => match us, hl with | [_], _ => rfl
  intro n
  induction n with
  | zero => exact Cd.zero gm F.kp bi
  | succ n crec =>
    exact Cd.mk' F gm bi Sc rfl rfl fun cdv A outer s H E hr => by
      have hr : Room (0 + n) _ := hr
      have hu := ur_of hr
      have tk : Takes (cxOf (L2.CX P w) P w K mg base ["saying"] "size" (defScope s_size) f cdv A outer s H E) (fun cls d _ H => E cls d H) := takes_of rfl rfl rfl rfl
      have hp := passes_of (X := cxOf (L2.CX P w) P w K mg base ["saying"] "size" (defScope s_size) f cdv A outer s H E) rfl
      unfold m_size
      exact (dss_one (ds_ret (de_if (dt_val (de_isi (T := "str") (x := "str") (Z "isinstance" (by decide)) (Z "str" (by decide)) rfl (db_var (pv 0)))) (de_c pe_int) (de_add (db (de_add (db (de_c pe_int)) (db (de_call crec hr (by omega) tk (da_cons (de_sub' hu (db_var (pv 0)) (db (de_c pe_int))) da_nil))))) (db (de_call crec hr (by omega) tk (da_cons (de_sub' hu (db_var (pv 0)) (db (de_c pe_int))) da_nil)))))))

def s_letters : Stmt := top 16
theorem w_letters {f : Addr} {fd : FuncData} (F : FunD K "letters" "letters" (defArgs s_letters) (defBody s_letters) (defScope s_letters) [] [] f fd) (gm : mg "letters" = some (.ref f)) (Z : Bfr mg) : ∀ n, Cd P w K mg base "letters" (0 + n) (f_letters n) := by
  have Sc : FnScope ["saying"] ["saying"] (defScope s_letters) := C8.fnScope_by (by decide +kernel)
  have bi : Binds K fd ["saying"] [] := F.bindsN fun _ _ _ _ _ _ us hl => match us, hl with | [_], _ => rfl
  intro n
  induction n with
  | zero => exact Cd.zero gm F.kp bi
  | succ n crec =>
    exact Cd.mk' F gm bi Sc rfl rfl fun cdv A outer s H E hr => by
      have hr : Room (0 + n) _ := hr
      have hu := ur_of hr
      have tk : Takes (cxOf (L2.CX P w) P w K mg base ["saying"] "letters" (defScope s_letters) f cdv A outer s H E) (fun cls d _ H => E cls d H) := takes_of rfl rfl rfl rfl
      have hp := passes_of (X := cxOf (L2.CX P w) P w K mg base ["saying"] "letters" (defScope s_letters) f cdv A outer s H E) rfl
      unfold m_letters
      exact (dss_cons (ds_if (dt_val (de_isi (T := "str") (x := "str") (Z "isinstance" (by decide)) (Z "str" (by decide)) rfl (db_var (pv 0)))) (dss_one (ds_ret (de_if (dt_eq hu (db_var (pv 0)) (db (de_c pe_str))) (de_tup da_nil) (de_tup (da_cons (de_var (pv 0)) da_nil))))) dss_nil) (dss_one (ds_ret (de_tuple (Z "tuple" (by decide)) (db (de_do (do_sortset rfl hu (Z "sorted" (by decide)) (Z "set" (by decide)) (db (de_add (db (de_call crec hr (by omega) tk (da_cons (de_sub' hu (db_var (pv 0)) (db (de_c pe_int))) da_nil))) (db (de_call crec hr (by omega) tk (da_cons (de_sub' hu (db_var (pv 0)) (db (de_c pe_int))) da_nil))))))))))))

def s_parts : Stmt := top 17
theorem w_parts {f : Addr} {fd : FuncData} (F : FunD K "parts" "parts" (defArgs s_parts) (defBody s_parts) (defScope s_parts) [] [] f fd) (gm : mg "parts" = some (.ref f)) (Z : Bfr mg) : ∀ n, Cd P w K mg base "parts" (0 + n) (f_parts n) := by
  have Sc : FnScope ["saying", "found", "one"] ["saying"] (defScope s_parts) := C8.fnScope_by (by decide +kernel)
  have bi : Binds K fd ["saying"] [] := F.bindsN fun _ _ _ _ _ _ us hl => match us, hl with | [_], _ => rfl
  intro n
  induction n with
  | zero => exact Cd.zero gm F.kp bi
  | succ n crec =>
    exact Cd.mk' F gm bi Sc rfl rfl fun cdv A outer s H E hr => by
      have hr : Room (0 + n) _ := hr
      have hu := ur_of hr
      have tk : Takes (cxOf (L2.CX P w) P w K mg base ["saying", "found", "one"] "parts" (defScope s_parts) f cdv A outer s H E) (fun cls d _ H => E cls d H) := takes_of rfl rfl rfl rfl
      have hp := passes_of (X := cxOf (L2.CX P w) P w K mg base ["saying", "found", "one"] "parts" (defScope s_parts) f cdv A outer s H E) rfl
      unfold m_parts
      exact (dss_cons (ds_if (dt_val (de_isi (T := "str") (x := "str") (Z "isinstance" (by decide)) (Z "str" (by decide)) rfl (db_var (pv 0)))) (dss_one (ds_retO (do_lst (da_cons (de_var (pv 0)) da_nil)))) dss_nil) (dss_cons (ds_setO (i := 1) Sc.nd rfl (by first | exact Or.inl rfl | exact Or.inr rfl) (do_call crec hr (by omega) tk (da_cons (de_sub' hu (db_var (pv 0)) (db (de_c pe_int))) da_nil))) (dss_cons (ds_for hp rfl (di_E (de_add (db (de_call crec hr (by omega) tk (da_cons (de_sub' hu (db_var (pv 0)) (db (de_c pe_int))) da_nil))) (db (de_do (do_lst (da_cons (de_var (pv 0)) da_nil)))))) (dg_name (i := 2) Sc.nd rfl (by first | exact Or.inl rfl | exact Or.inr rfl)) (dss_one (ds_if (dt_notin hu (db_var (pv 2)) (db_var (pv 1))) (dss_one (ds_append (pv 1) (de_var (pv 2)))) dss_nil))) (dss_one (ds_retV (pv 1))))))

def s_put_in : Stmt := top 18
theorem w_put_in {f : Addr} {fd : FuncData} (F : FunD K "put_in" "put_in" (defArgs s_put_in) (defBody s_put_in) (defScope s_put_in) [] [] f fd) (gm : mg "put_in" = some (.ref f)) (Z : Bfr mg) : ∀ n, Cd P w K mg base "put_in" (0 + n) (f_put_in n) := by
  have Sc : FnScope ["saying", "told"] ["saying", "told"] (defScope s_put_in) := C8.fnScope_by (by decide +kernel)
  have bi : Binds K fd ["saying", "told"] [] := F.bindsN fun _ _ _ _ _ _ us hl => match us, hl with | [_, _], _ => rfl
  intro n
  induction n with
  | zero => exact Cd.zero gm F.kp bi
  | succ n crec =>
    exact Cd.mk' F gm bi Sc rfl rfl fun cdv A outer s H E hr => by
      have hr : Room (0 + n) _ := hr
      have hu := ur_of hr
      have tk : Takes (cxOf (L2.CX P w) P w K mg base ["saying", "told"] "put_in" (defScope s_put_in) f cdv A outer s H E) (fun cls d _ H => E cls d H) := takes_of rfl rfl rfl rfl
      have hp := passes_of (X := cxOf (L2.CX P w) P w K mg base ["saying", "told"] "put_in" (defScope s_put_in) f cdv A outer s H E) rfl
      unfold m_put_in
      exact (dss_cons (ds_if (dt_val (de_isi (T := "str") (x := "str") (Z "isinstance" (by decide)) (Z "str" (by decide)) rfl (db_var (pv 0)))) (dss_one (ds_ret (de_get2 hu (db_var (pv 1)) (db_var (pv 0)) (de_var (pv 0))))) dss_nil) (dss_one (ds_ret (de_tup (da_cons (de_sub' hu (db_var (pv 0)) (db (de_c pe_int))) (da_cons (de_call crec hr (by omega) tk (da_cons (de_sub' hu (db_var (pv 0)) (db (de_c pe_int))) (da_cons (de_var (pv 1)) da_nil))) (da_cons (de_call crec hr (by omega) tk (da_cons (de_sub' hu (db_var (pv 0)) (db (de_c pe_int))) (da_cons (de_var (pv 1)) da_nil))) da_nil)))))))

def s_shown : Stmt := top 21
theorem w_shown {f : Addr} {fd : FuncData} (F : FunD K "shown" "shown" (defArgs s_shown) (defBody s_shown) (defScope s_shown) [] [] f fd) (gm : mg "shown" = some (.ref f)) (Z : Bfr mg) : ∀ n, Cd P w K mg base "shown" (0 + n) (f_shown n) := by
  have Sc : FnScope ["saying"] ["saying"] (defScope s_shown) := C8.fnScope_by (by decide +kernel)
  have bi : Binds K fd ["saying"] [] := F.bindsN fun _ _ _ _ _ _ us hl => match us, hl with | [_], _ => rfl
  intro n
  induction n with
  | zero => exact Cd.zero gm F.kp bi
  | succ n crec =>
    exact Cd.mk' F gm bi Sc rfl rfl fun cdv A outer s H E hr => by
      have hr : Room (0 + n) _ := hr
      have hu := ur_of hr
      have tk : Takes (cxOf (L2.CX P w) P w K mg base ["saying"] "shown" (defScope s_shown) f cdv A outer s H E) (fun cls d _ H => E cls d H) := takes_of rfl rfl rfl rfl
      have hp := passes_of (X := cxOf (L2.CX P w) P w K mg base ["saying"] "shown" (defScope s_shown) f cdv A outer s H E) rfl
      unfold m_shown
      exact (dss_cons (ds_if (dt_val (de_isi (T := "str") (x := "str") (Z "isinstance" (by decide)) (Z "str" (by decide)) rfl (db_var (pv 0)))) (dss_one (ds_ret (de_var (pv 0)))) dss_nil) (dss_one (ds_ret (de_add (db (de_add (db (de_add (db (de_add (db (de_add (db (de_add (db (de_c pe_str)) (db (de_call crec hr (by omega) tk (da_cons (de_sub' hu (db_var (pv 0)) (db (de_c pe_int))) da_nil))))) (db (de_c pe_str)))) (db (de_sub' hu (db_var (pv 0)) (db (de_c pe_int)))))) (db (de_c pe_str)))) (db (de_call crec hr (by omega) tk (da_cons (de_sub' hu (db_var (pv 0)) (db (de_c pe_int))) da_nil))))) (db (de_c pe_str))))))

def s_key : Stmt := top 19
theorem w_key {f : Addr} {fd : FuncData} (F : FunD K "key" "key" (defArgs s_key) (defBody s_key) (defScope s_key) [] [] f fd) (gm : mg "key" = some (.ref f)) (Z : Bfr mg) (c_shown : Cd P w K mg base "shown" 14 (f_shown FU)) (c_size : Cd P w K mg base "size" 14 (f_size FU)) : Cd P w K mg base "key" 15 f_key := by
  have Sc : FnScope ["saying"] ["saying"] (defScope s_key) := C8.fnScope_by (by decide +kernel)
  have bi : Binds K fd ["saying"] [] := F.bindsN fun _ _ _ _ _ _ us hl => match us, hl with | [_], _ => rfl
  exact Cd.mk' F gm bi Sc rfl rfl fun cdv A outer s H E hr => by
      have hr : Room 14 _ := hr
      have hu := ur_of hr
      have tk : Takes (cxOf (L2.CX P w) P w K mg base ["saying"] "key" (defScope s_key) f cdv A outer s H E) (fun cls d _ H => E cls d H) := takes_of rfl rfl rfl rfl
      have hp := passes_of (X := cxOf (L2.CX P w) P w K mg base ["saying"] "key" (defScope s_key) f cdv A outer s H E) rfl
      unfold m_key
      exact (dss_one (ds_ret (de_tup (da_cons (de_call c_size hr (by omega) tk (da_cons (de_var (pv 0)) da_nil)) (da_cons (de_call c_shown hr (by omega) tk (da_cons (de_var (pv 0)) da_nil)) da_nil)))))

def s_in_order : Stmt := top 20
theorem w_in_order {f : Addr} {fd : FuncData} (F : FunD K "in_order" "in_order" (defArgs s_in_order) (defBody s_in_order) (defScope s_in_order) [] [] f fd) (gm : mg "in_order" = some (.ref f)) (Z : Bfr mg) (c_key : Cd P w K mg base "key" 15 f_key) : Cd P w K mg base "in_order" 18 f_in_order := by
  have Sc : FnScope ["row", "found", "one"] ["row"] (defScope s_in_order) := C8.fnScope_by (by decide +kernel)
  have bi : Binds K fd ["row"] [] := F.bindsN fun _ _ _ _ _ _ us hl => match us, hl with | [_], _ => rfl
  exact Cd.mk' F gm bi Sc rfl rfl fun cdv A outer s H E hr => by
      have hr : Room 17 _ := hr
      have hu := ur_of hr
      have tk : Takes (cxOf (L2.CX P w) P w K mg base ["row", "found", "one"] "in_order" (defScope s_in_order) f cdv A outer s H E) (fun cls d _ H => E cls d H) := takes_of rfl rfl rfl rfl
      have hp := passes_of (X := cxOf (L2.CX P w) P w K mg base ["row", "found", "one"] "in_order" (defScope s_in_order) f cdv A outer s H E) rfl
      unfold m_in_order
      exact (dss_cons (ds_setO (i := 1) Sc.nd rfl (by first | exact Or.inl rfl | exact Or.inr rfl) (do_lst da_nil)) (dss_cons (ds_for hp rfl (di_E (de_var (pv 0))) (dg_name (i := 2) Sc.nd rfl (by first | exact Or.inl rfl | exact Or.inr rfl)) (dss_one (ds_if (dt_notin hu (db_var (pv 2)) (db_var (pv 1))) (dss_one (ds_append (pv 1) (de_var (pv 2)))) dss_nil))) (dss_one (ds_ret (de_do (do_sortby c_key hr (by omega) rfl hu (Z "sorted" (by decide)) (db_var (pv 1))))))))

def s_plain_value : Stmt := top 22
theorem w_plain_value {f : Addr} {fd : FuncData} (F : FunD K "plain_value" "plain_value" (defArgs s_plain_value) (defBody s_plain_value) (defScope s_plain_value) [] [] f fd) (gm : mg "plain_value" = some (.ref f)) (Z : Bfr mg) : ∀ n, Cd P w K mg base "plain_value" (0 + n) (f_plain_value n) := by
  have Sc : FnScope ["saying", "true_ones", "first", "second"] ["saying", "true_ones"] (defScope s_plain_value) := C8.fnScope_by (by decide +kernel)
  have bi : Binds K fd ["saying", "true_ones"] [] := F.bindsN fun _ _ _ _ _ _ us hl => match us, hl with | [_, _], _ => rfl
  intro n
  induction n with
  | zero => exact Cd.zero gm F.kp bi
  | succ n crec =>
    exact Cd.mk' F gm bi Sc rfl rfl fun cdv A outer s H E hr => by
      have hr : Room (0 + n) _ := hr
      have hu := ur_of hr
      have tk : Takes (cxOf (L2.CX P w) P w K mg base ["saying", "true_ones", "first", "second"] "plain_value" (defScope s_plain_value) f cdv A outer s H E) (fun cls d _ H => E cls d H) := takes_of rfl rfl rfl rfl
      have hp := passes_of (X := cxOf (L2.CX P w) P w K mg base ["saying", "true_ones", "first", "second"] "plain_value" (defScope s_plain_value) f cdv A outer s H E) rfl
      unfold m_plain_value
      exact (dss_cons (ds_if (dt_val (de_isi (T := "str") (x := "str") (Z "isinstance" (by decide)) (Z "str" (by decide)) rfl (db_var (pv 0)))) (dss_one (ds_ret (de_in hu (db_var (pv 0)) (db_var (pv 1))))) dss_nil) (dss_cons (ds_par (i := 2) (j := 3) rfl Sc.nd rfl rfl (by decide) rfl rfl (da_cons (de_call crec hr (by omega) tk (da_cons (de_sub' hu (db_var (pv 0)) (db (de_c pe_int))) (da_cons (de_var (pv 1)) da_nil))) (da_cons (de_call crec hr (by omega) tk (da_cons (de_sub' hu (db_var (pv 0)) (db (de_c pe_int))) (da_cons (de_var (pv 1)) da_nil))) da_nil)) rfl) (dss_cons (ds_if (dt_eq hu (db (de_sub' hu (db_var (pv 0)) (db (de_c pe_int)))) (db (de_c pe_str))) (dss_one (ds_ret (de_and (de_var (pv 2)) (de_one (de_var (pv 3)))))) dss_nil) (dss_one (ds_ret (de_if (dt_eq hu (db (de_sub' hu (db_var (pv 0)) (db (de_c pe_int)))) (db (de_c pe_str))) (de_or (de_var (pv 2)) (de_one (de_var (pv 3)))) (de_or (de_not (de_var (pv 2))) (de_one (de_var (pv 3))))))))))

def s_settings : Stmt := top 23
theorem w_settings {f : Addr} {fd : FuncData} (F : FunD K "settings" "settings" (defArgs s_settings) (defBody s_settings) (defScope s_settings) [] [] f fd) (gm : mg "settings" = some (.ref f)) (Z : Bfr mg) : Cd P w K mg base "settings" 1 f_settings := by
  have Sc : FnScope ["row", "found", "letter", "lot"] ["row"] (defScope s_settings) := C8.fnScope_by (by decide +kernel)
  have bi : Binds K fd ["row"] [] := F.bindsN fun _ _ _ _ _ _ us hl => match us, hl with | [_], _ => rfl
  exact Cd.mk' F gm bi Sc rfl rfl fun cdv A outer s H E hr => by
      have hr : Room 0 _ := hr
      have hu := ur_of hr
      have tk : Takes (cxOf (L2.CX P w) P w K mg base ["row", "found", "letter", "lot"] "settings" (defScope s_settings) f cdv A outer s H E) (fun cls d _ H => E cls d H) := takes_of rfl rfl rfl rfl
      have hp := passes_of (X := cxOf (L2.CX P w) P w K mg base ["row", "found", "letter", "lot"] "settings" (defScope s_settings) f cdv A outer s H E) rfl
      unfold m_settings
      exact (dss_cons (ds_set (i := 1) Sc.nd rfl (by first | exact Or.inl rfl | exact Or.inr rfl) (de_do (do_lst (da_cons (de_tup da_nil) da_nil)))) (dss_cons (ds_for hp rfl (di_E (de_var (pv 0))) (dg_name (i := 2) Sc.nd rfl (by first | exact Or.inl rfl | exact Or.inr rfl)) (dss_one (ds_set (i := 1) Sc.nd rfl (by first | exact Or.inl rfl | exact Or.inr rfl) (de_add (db_var (pv 1)) (db (de_do (do_lc (own := [("lot", 3)]) rfl Sc.nd (di_E (de_var (pv 1))) (blkOk_by (by show blkC ["row", "found", "letter", "lot"] (defScope s_settings) _ _ = true; decide +kernel)) (fun _ _ _ _ _ => (dg_name (i := 3) Sc.nd rfl (by first | exact Or.inl rfl | exact Or.inr rfl))) (fun _ _ _ _ _ => dts_nil) (fun _ _ _ _ _ => (de_add (db_var (pv 3)) (db (de_tup (da_cons (de_var (pv 2)) da_nil)))))))))))) (dss_one (ds_ret (de_var (pv 1))))))

def s_is_plainly_so : Stmt := top 24
theorem w_is_plainly_so {f : Addr} {fd : FuncData} (F : FunD K "is_plainly_so" "is_plainly_so" (defArgs s_is_plainly_so) (defBody s_is_plainly_so) (defScope s_is_plainly_so) [] [] f fd) (gm : mg "is_plainly_so" = some (.ref f)) (Z : Bfr mg) (c_settings : Cd P w K mg base "settings" 1 f_settings) (c_letters : Cd P w K mg base "letters" 14 (f_letters FU)) (c_plain_value : Cd P w K mg base "plain_value" 14 (f_plain_value FU)) : Cd P w K mg base "is_plainly_so" 15 f_is_plainly_so := by
  have Sc : FnScope ["saying", "lot"] ["saying"] (defScope s_is_plainly_so) := C8.fnScope_by (by decide +kernel)
  have bi : Binds K fd ["saying"] [] := F.bindsN fun _ _ _ _ _ _ us hl => match us, hl with | [_], _ => rfl
  exact Cd.mk' F gm bi Sc rfl rfl fun cdv A outer s H E hr => by
      have hr : Room 14 _ := hr
      have hu := ur_of hr
      have tk : Takes (cxOf (L2.CX P w) P w K mg base ["saying", "lot"] "is_plainly_so" (defScope s_is_plainly_so) f cdv A outer s H E) (fun cls d _ H => E cls d H) := takes_of rfl rfl rfl rfl
      have hp := passes_of (X := cxOf (L2.CX P w) P w K mg base ["saying", "lot"] "is_plainly_so" (defScope s_is_plainly_so) f cdv A outer s H E) rfl
      unfold m_is_plainly_so
      exact (dss_one (ds_ret (de_all rfl (Z "all" (by decide)) (db (de_do (do_lc (own := [("lot", 1)]) rfl Sc.nd (di_E (de_call c_settings hr (by omega) tk (da_cons (de_call c_letters hr (by omega) tk (da_cons (de_var (pv 0)) da_nil)) da_nil))) (blkOk_by (by show blkC ["saying", "lot"] (defScope s_is_plainly_so) _ _ = true; decide +kernel)) (fun _ _ _ _ _ => (dg_name (i := 1) Sc.nd rfl (by first | exact Or.inl rfl | exact Or.inr rfl))) (fun _ _ _ _ _ => dts_nil) (fun _ _ _ _ _ => (de_call c_plain_value hr (by omega) takes0 (da_cons (de_var (pv 0)) (da_cons (de_var (pv 1)) da_nil))))))))))

def s_signs : Stmt := top 25
theorem w_signs {f : Addr} {fd : FuncData} (F : FunD K "signs" "signs" (defArgs s_signs) (defBody s_signs) (defScope s_signs) [] [] f fd) (gm : mg "signs" = some (.ref f)) (Z : Bfr mg) : ∀ n, Cd P w K mg base "signs" (0 + n) (f_signs n) := by
  have Sc : FnScope ["saying", "first", "second"] ["saying"] (defScope s_signs) := C8.fnScope_by (by decide +kernel)
  have bi : Binds K fd ["saying"] [] := F.bindsN fun _ _ _ _ _ _ us hl => match us, hl with | [_], _ => rfl
  intro n
  induction n with
  | zero => exact Cd.zero gm F.kp bi
  | succ n crec =>
    exact Cd.mk' F gm bi Sc rfl rfl fun cdv A outer s H E hr => by
      have hr : Room (0 + n) _ := hr
      have hu := ur_of hr
      have tk : Takes (cxOf (L2.CX P w) P w K mg base ["saying", "first", "second"] "signs" (defScope s_signs) f cdv A outer s H E) (fun cls d _ H => E cls d H) := takes_of rfl rfl rfl rfl
      have hp := passes_of (X := cxOf (L2.CX P w) P w K mg base ["saying", "first", "second"] "signs" (defScope s_signs) f cdv A outer s H E) rfl
      unfold m_signs
      exact (dss_cons (ds_if (dt_val (de_isi (T := "str") (x := "str") (Z "isinstance" (by decide)) (Z "str" (by decide)) rfl (db_var (pv 0)))) (dss_one (ds_ret (de_if (dt_eq hu (db_var (pv 0)) (db (de_c pe_str))) (de_tup (da_cons (de_tup da_nil) (da_cons (de_tup da_nil) da_nil))) (de_tup (da_cons (de_tup (da_cons (de_var (pv 0)) da_nil)) (da_cons (de_tup da_nil) da_nil)))))) dss_nil) (dss_cons (ds_par (i := 1) (j := 2) rfl Sc.nd rfl rfl (by decide) rfl rfl (da_cons (de_call crec hr (by omega) tk (da_cons (de_sub' hu (db_var (pv 0)) (db (de_c pe_int))) da_nil)) (da_cons (de_call crec hr (by omega) tk (da_cons (de_sub' hu (db_var (pv 0)) (db (de_c pe_int))) da_nil)) da_nil)) rfl) (dss_cons (ds_if (dt_eq hu (db (de_sub' hu (db_var (pv 0)) (db (de_c pe_int)))) (db (de_c pe_str))) (dss_one (ds_set (i := 1) Sc.nd rfl (by first | exact Or.inl rfl | exact Or.inr rfl) (de_tup (da_cons (de_sub' hu (db_var (pv 1)) (db (de_c pe_int))) (da_cons (de_sub' hu (db_var (pv 1)) (db (de_c pe_int))) da_nil))))) dss_nil) (dss_one (ds_ret (de_tup (da_cons (de_tuple (Z "tuple" (by decide)) (db (de_do (do_sortset rfl hu (Z "sorted" (by decide)) (Z "set" (by decide)) (db (de_add (db (de_sub' hu (db_var (pv 1)) (db (de_c pe_int)))) (db (de_sub' hu (db_var (pv 2)) (db (de_c pe_int)))))))))) (da_cons (de_tuple (Z "tuple" (by decide)) (db (de_do (do_sortset rfl hu (Z "sorted" (by decide)) (Z "set" (by decide)) (db (de_add (db (de_sub' hu (db_var (pv 1)) (db (de_c pe_int)))) (db (de_sub' hu (db_var (pv 2)) (db (de_c pe_int)))))))))) da_nil))))))))

def s_within : Stmt := top 26
theorem w_within {f : Addr} {fd : FuncData} {C_Misstep : Addr} (F : FunD K "within" "within" (defArgs s_within) (defBody s_within) (defScope s_within) [] [] f fd) (gm : mg "within" = some (.ref f)) (Z : Bfr mg) (X_Misstep : ∀ X : Cx, X.prog = P → X.K = K → X.mg = mg → X.w = w → MkX X "Misstep" C_Misstep ["word"] PStr) : Cd P w K mg base "within" 1 f_within := by
  have Sc : FnScope ["saying", "path", "step"] ["saying", "path"] (defScope s_within) := C8.fnScope_by (by decide +kernel)
  have bi : Binds K fd ["saying", "path"] [] := F.bindsN fun _ _ _ _ _ _ us hl => match us, hl with | [_, _], _ => rfl
  exact Cd.mk' F gm bi Sc rfl rfl fun cdv A outer s H E hr => by
      have hr : Room 0 _ := hr
      have hu := ur_of hr
      have tk : Takes (cxOf (L2.CX P w) P w K mg base ["saying", "path", "step"] "within" (defScope s_within) f cdv A outer s H E) (fun cls d _ H => E cls d H) := takes_of rfl rfl rfl rfl
      have hp := passes_of (X := cxOf (L2.CX P w) P w K mg base ["saying", "path", "step"] "within" (defScope s_within) f cdv A outer s H E) rfl
      unfold m_within
      exact (dss_cons (ds_for hp rfl (di_E (de_var (pv 1))) (dg_name (i := 2) Sc.nd rfl (by first | exact Or.inl rfl | exact Or.inr rfl)) (dss_cons (ds_if (dt_w (dw_or (dt_val (de_isi (T := "str") (x := "str") (Z "isinstance" (by decide)) (Z "str" (by decide)) rfl (db_var (pv 0)))) (dw_or1 (dt_notin hu (db_var (pv 2)) (db (de_tup (da_cons (de_c pe_int) (da_cons (de_c pe_int) da_nil)))))))) (dss_one (ds_raise rfl tk (X_Misstep _ rfl rfl rfl rfl) xok_str hr (da_cons (de_c pe_str) da_nil))) dss_nil) (dss_one (ds_set (i := 0) Sc.nd rfl (by first | exact Or.inl rfl | exact Or.inr rfl) (de_sub' hu (db_var (pv 0)) (db_var (pv 2))))))) (dss_one (ds_ret (de_var (pv 0)))))

def s__law_pick : Stmt := top 30
theorem w__law_pick {f : Addr} {fd : FuncData} (F : FunD K "_law_pick" "_law_pick" (defArgs s__law_pick) (defBody s__law_pick) (defScope s__law_pick) [] [] f fd) (gm : mg "_law_pick" = some (.ref f)) (Z : Bfr mg) (c__law_take : Cd P w K mg base "_law_take" 1 f__law_take) : Cd P w K mg base "_law_pick" 2 f__law_pick := by
  have Sc : FnScope ["state", "row"] ["state", "row"] (defScope s__law_pick) := C8.fnScope_by (by decide +kernel)
  have bi : Binds K fd ["state", "row"] [] := F.bindsN fun _ _ _ _ _ _ us hl => match us, hl with | [_, _], _ => rfl
  exact Cd.mk' F gm bi Sc rfl rfl fun cdv A outer s H E hr => by
      have hr : Room 1 _ := hr
      have hu := ur_of hr
      have tk : Takes (cxOf (L2.CX P w) P w K mg base ["state", "row"] "_law_pick" (defScope s__law_pick) f cdv A outer s H E) (fun cls d _ H => E cls d H) := takes_of rfl rfl rfl rfl
      have hp := passes_of (X := cxOf (L2.CX P w) P w K mg base ["state", "row"] "_law_pick" (defScope s__law_pick) f cdv A outer s H E) rfl
      unfold m__law_pick
      exact (dss_one (ds_ret (de_sub' hu (db_var (pv 1)) (db (de_call c__law_take hr (by omega) tk (da_cons (de_var (pv 0)) (da_cons (de_len (Z "len" (by decide)) (db_var (pv 1))) da_nil)))))))

def s__law_drawn : Stmt := top 31
theorem w__law_drawn {f : Addr} {fd : FuncData} (F : FunD K "_law_drawn" "_law_drawn" (defArgs s__law_drawn) (defBody s__law_drawn) (defScope s__law_drawn) [] [] f fd) (gm : mg "_law_drawn" = some (.ref f)) (Z : Bfr mg) (c__law_take : Cd P w K mg base "_law_take" 1 f__law_take) (c__law_pick : Cd P w K mg base "_law_pick" 2 f__law_pick) : ∀ n, Cd P w K mg base "_law_drawn" (2 + n) (f__law_drawn n) := by
  have Sc : FnScope ["state", "deep", "names", "sort"] ["state", "deep", "names"] (defScope s__law_drawn) := C8.fnScope_by (by decide +kernel)
  have bi : Binds K fd ["state", "deep", "names"] [] := F.bindsN fun _ _ _ _ _ _ us hl => match us, hl with | [_, _, _], _ => rfl
  intro n
  induction n with
  | zero => exact Cd.zero gm F.kp bi
  | succ n crec =>
    exact Cd.mk' F gm bi Sc rfl rfl fun cdv A outer s H E hr => by
      have hr : Room (2 + n) _ := hr
      have hu := ur_of hr
      have tk : Takes (cxOf (L2.CX P w) P w K mg base ["state", "deep", "names", "sort"] "_law_drawn" (defScope s__law_drawn) f cdv A outer s H E) (fun cls d _ H => E cls d H) := takes_of rfl rfl rfl rfl
      have hp := passes_of (X := cxOf (L2.CX P w) P w K mg base ["state", "deep", "names", "sort"] "_law_drawn" (defScope s__law_drawn) f cdv A outer s H E) rfl
      unfold m__law_drawn
      exact (dss_cons (ds_set (i := 3) Sc.nd rfl (by first | exact Or.inl rfl | exact Or.inr rfl) (de_call c__law_take hr (by omega) tk (da_cons (de_var (pv 0)) (da_cons (de_if (dt_gt (db_var (pv 1)) (db (de_c pe_int))) (de_c pe_int) (de_c pe_int)) da_nil)))) (dss_cons (ds_if (dt_lt (db_var (pv 3)) (db (de_c pe_int))) (dss_one (ds_ret (de_if (dt_w (dw_and (dt_eq hu (db_var (pv 3)) (db (de_c pe_int))) (dw_and1 (dt_eq hu (db (de_call c__law_take hr (by omega) tk (da_cons (de_var (pv 0)) (da_cons (de_c pe_int) da_nil)))) (db (de_c pe_int)))))) (de_c pe_str) (de_call c__law_pick hr (by omega) tk (da_cons (de_var (pv 0)) (da_cons (de_var (pv 2)) da_nil)))))) dss_nil) (dss_one (ds_ret (de_tup (da_cons (de_sub' hu (db (de_do (do_lst (da_cons (de_c pe_str) (da_cons (de_c pe_str) (da_cons (de_c pe_str) (da_cons (de_c pe_str) da_nil))))))) (db (de_sub (db_var (pv 3)) (db (de_c pe_int))))) (da_cons (de_call crec hr (by omega) tk (da_cons (de_var (pv 0)) (da_cons (de_sub (db_var (pv 1)) (db (de_c pe_int))) (da_cons (de_var (pv 2)) da_nil)))) (da_cons (de_call crec hr (by omega) tk (da_cons (de_var (pv 0)) (da_cons (de_sub (db_var (pv 1)) (db (de_c pe_int))) (da_cons (de_var (pv 2)) da_nil)))) da_nil))))))))

def s__law_parts : Stmt := top 32
theorem w__law_parts {f : Addr} {fd : FuncData} (F : FunD K "_law_parts" "_law_parts" (defArgs s__law_parts) (defBody s__law_parts) (defScope s__law_parts) [] [] f fd) (gm : mg "_law_parts" = some (.ref f)) (Z : Bfr mg) : ∀ n, Cd P w K mg base "_law_parts" (0 + n) (f__law_parts n) := by
  have Sc : FnScope ["saying", "found", "one"] ["saying"] (defScope s__law_parts) := C8.fnScope_by (by decide +kernel)
  have bi : Binds K fd ["saying"] [] := F.bindsN fun _ _ _ _ _ _ us hl => match us, hl with | [_], _ => rfl
  intro n
  induction n with
  | zero => exact Cd.zero gm F.kp bi
  | succ n crec =>
    exact Cd.mk' F gm bi Sc rfl rfl fun cdv A outer s H E hr => by
      have hr : Room (0 + n) _ := hr
      have hu := ur_of hr
      have tk : Takes (cxOf (L2.CX P w) P w K mg base ["saying", "found", "one"] "_law_parts" (defScope s__law_parts) f cdv A outer s H E) (fun cls d _ H => E cls d H) := takes_of rfl rfl rfl rfl
      have hp := passes_of (X := cxOf (L2.CX P w) P w K mg base ["saying", "found", "one"] "_law_parts" (defScope s__law_parts) f cdv A outer s H E) rfl
      unfold m__law_parts
      exact (dss_cons (ds_if (dt_val (de_isi (T := "str") (x := "str") (Z "isinstance" (by decide)) (Z "str" (by decide)) rfl (db_var (pv 0)))) (dss_one (ds_ret (de_do (do_lst (da_cons (de_var (pv 0)) da_nil))))) dss_nil) (dss_cons (ds_set (i := 1) Sc.nd rfl (by first | exact Or.inl rfl | exact Or.inr rfl) (de_call crec hr (by omega) tk (da_cons (de_sub' hu (db_var (pv 0)) (db (de_c pe_int))) da_nil))) (dss_cons (ds_set (i := 1) Sc.nd rfl (by first | exact Or.inl rfl | exact Or.inr rfl) (de_add (db_var (pv 1)) (db (de_do (do_lc (own := [("one", 2)]) rfl Sc.nd (di_E (de_call crec hr (by omega) tk (da_cons (de_sub' hu (db_var (pv 0)) (db (de_c pe_int))) da_nil))) (blkOk_by (by show blkC ["saying", "found", "one"] (defScope s__law_parts) _ _ = true; decide +kernel)) (fun _ _ _ _ _ => (dg_name (i := 2) Sc.nd rfl (by first | exact Or.inl rfl | exact Or.inr rfl))) (fun _ _ _ _ _ => (dts_one (dt_notin hu (db_var (pv 2)) (db_var (pv 1))))) (fun _ _ _ _ _ => (de_var (pv 2)))))))) (dss_one (ds_ret (de_if (dt_in hu (db_var (pv 0)) (db_var (pv 1))) (de_var (pv 1)) (de_add (db_var (pv 1)) (db (de_do (do_lst (da_cons (de_var (pv 0)) da_nil)))))))))))

def s__law_letters : Stmt := top 33
theorem w__law_letters {f : Addr} {fd : FuncData} (F : FunD K "_law_letters" "_law_letters" (defArgs s__law_letters) (defBody s__law_letters) (defScope s__law_letters) [] [] f fd) (gm : mg "_law_letters" = some (.ref f)) (Z : Bfr mg) (c__law_parts : Cd P w K mg base "_law_parts" 14 (f__law_parts FU)) : Cd P w K mg base "_law_letters" 15 f__law_letters := by
  have Sc : FnScope ["saying", "one"] ["saying"] (defScope s__law_letters) := C8.fnScope_by (by decide +kernel)
  have bi : Binds K fd ["saying"] [] := F.bindsN fun _ _ _ _ _ _ us hl => match us, hl with | [_], _ => rfl
  exact Cd.mk' F gm bi Sc rfl rfl fun cdv A outer s H E hr => by
      have hr : Room 14 _ := hr
      have hu := ur_of hr
      have tk : Takes (cxOf (L2.CX P w) P w K mg base ["saying", "one"] "_law_letters" (defScope s__law_letters) f cdv A outer s H E) (fun cls d _ H => E cls d H) := takes_of rfl rfl rfl rfl
      have hp := passes_of (X := cxOf (L2.CX P w) P w K mg base ["saying", "one"] "_law_letters" (defScope s__law_letters) f cdv A outer s H E) rfl
      unfold m__law_letters
      exact (dss_one (ds_ret (de_do (do_sorted hu (Z "sorted" (by decide)) (db (de_do (do_lc (own := [("one", 1)]) rfl Sc.nd (di_E (de_call c__law_parts hr (by omega) tk (da_cons (de_var (pv 0)) da_nil))) (blkOk_by (by show blkC ["saying", "one"] (defScope s__law_letters) _ _ = true; decide +kernel)) (fun _ _ _ _ _ => (dg_name (i := 1) Sc.nd rfl (by first | exact Or.inl rfl | exact Or.inr rfl))) (fun _ _ _ _ _ => (dts_one (dt_w (dw_and (dt_val (de_isi (T := "str") (x := "str") (Z "isinstance" (by decide)) (Z "str" (by decide)) rfl (db_var (pv 1)))) (dw_and1 (dt_ne hu (db_var (pv 1)) (db (de_c pe_str)))))))) (fun _ _ _ _ _ => (de_var (pv 1))))))))))

def s__law_deep : Stmt := top 34
theorem w__law_deep {f : Addr} {fd : FuncData} (F : FunD K "_law_deep" "_law_deep" (defArgs s__law_deep) (defBody s__law_deep) (defScope s__law_deep) [] [] f fd) (gm : mg "_law_deep" = some (.ref f)) (Z : Bfr mg) : ∀ n, Cd P w K mg base "_law_deep" (0 + n) (f__law_deep n) := by
  have Sc : FnScope ["saying"] ["saying"] (defScope s__law_deep) := C8.fnScope_by (by decide +kernel)
  have bi : Binds K fd ["saying"] [] := F.bindsN fun _ _ _ _ _ _ us hl => match us, hl with | [_], _ => rfl
  intro n
  induction n with
  | zero => exact Cd.zero gm F.kp bi
  | succ n crec =>
    exact Cd.mk' F gm bi Sc rfl rfl fun cdv A outer s H E hr => by
      have hr : Room (0 + n) _ := hr
      have hu := ur_of hr
      have tk : Takes (cxOf (L2.CX P w) P w K mg base ["saying"] "_law_deep" (defScope s__law_deep) f cdv A outer s H E) (fun cls d _ H => E cls d H) := takes_of rfl rfl rfl rfl
      have hp := passes_of (X := cxOf (L2.CX P w) P w K mg base ["saying"] "_law_deep" (defScope s__law_deep) f cdv A outer s H E) rfl
      unfold m__law_deep
      exact (dss_one (ds_ret (de_if (dt_val (de_isi (T := "str") (x := "str") (Z "isinstance" (by decide)) (Z "str" (by decide)) rfl (db_var (pv 0)))) (de_c pe_int) (de_add (db (de_c pe_int)) (db (de_max2 rfl (Z "max" (by decide)) (db (de_call crec hr (by omega) tk (da_cons (de_sub' hu (db_var (pv 0)) (db (de_c pe_int))) da_nil))) (db (de_call crec hr (by omega) tk (da_cons (de_sub' hu (db_var (pv 0)) (db (de_c pe_int))) da_nil)))))))))

def s__law_order : Stmt := top 35
theorem w__law_order {f : Addr} {fd : FuncData} (F : FunD K "_law_order" "_law_order" (defArgs s__law_order) (defBody s__law_order) (defScope s__law_order) [] [] f fd) (gm : mg "_law_order" = some (.ref f)) (Z : Bfr mg) (c__law_take : Cd P w K mg base "_law_take" 1 f__law_take) : Cd P w K mg base "_law_order" 2 f__law_order := by
  have Sc : FnScope ["state", "many", "rows", "place", "row", "other", "k"] ["state", "many"] (defScope s__law_order) := C8.fnScope_by (by decide +kernel)
  have bi : Binds K fd ["state", "many"] [] := F.bindsN fun _ _ _ _ _ _ us hl => match us, hl with | [_, _], _ => rfl
  exact Cd.mk' F gm bi Sc rfl rfl fun cdv A outer s H E hr => by
      have hr : Room 1 _ := hr
      have hu := ur_of hr
      have tk : Takes (cxOf (L2.CX P w) P w K mg base ["state", "many", "rows", "place", "row", "other", "k"] "_law_order" (defScope s__law_order) f cdv A outer s H E) (fun cls d _ H => E cls d H) := takes_of rfl rfl rfl rfl
      have hp := passes_of (X := cxOf (L2.CX P w) P w K mg base ["state", "many", "rows", "place", "row", "other", "k"] "_law_order" (defScope s__law_order) f cdv A outer s H E) rfl
      unfold m__law_order
      exact (dss_cons (ds_setO (i := 2) Sc.nd rfl (by first | exact Or.inl rfl | exact Or.inr rfl) (do_lst da_nil)) (dss_cons (ds_for hp rfl (di_E (de_do (do_rev (db (de_do (do_lrng1 rfl (Z "list" (by decide)) (Z "range" (by decide)) (de_var (pv 1)))))))) (dg_name (i := 3) Sc.nd rfl (by first | exact Or.inl rfl | exact Or.inr rfl)) (dss_cons (ds_set (i := 4) Sc.nd rfl (by first | exact Or.inl rfl | exact Or.inr rfl) (de_do (do_lst (da_cons (de_var (pv 3)) da_nil)))) (dss_cons (ds_for hp rfl (di_range2 (da_cons (de_add (db_var (pv 3)) (db (de_c pe_int))) (da_cons (de_var (pv 1)) da_nil)) rfl (Z "range" (by decide))) (dg_name (i := 5) Sc.nd rfl (by first | exact Or.inl rfl | exact Or.inr rfl)) (dss_one (ds_if (dt_eq hu (db (de_call c__law_take hr (by omega) tk (da_cons (de_var (pv 0)) (da_cons (de_c pe_int) da_nil)))) (db (de_c pe_int))) (dss_one (ds_set (i := 4) Sc.nd rfl (by first | exact Or.inl rfl | exact Or.inr rfl) (de_add (db_var (pv 4)) (db (de_do (do_lc (own := [("k", 6)]) rfl Sc.nd (di_E (de_sub' hu (db_var (pv 2)) (db (de_sub (db (de_sub (db_var (pv 1)) (db (de_c pe_int)))) (db_var (pv 5)))))) (blkOk_by (by show blkC ["state", "many", "rows", "place", "row", "other", "k"] (defScope s__law_order) _ _ = true; decide +kernel)) (fun _ _ _ _ _ => (dg_name (i := 6) Sc.nd rfl (by first | exact Or.inl rfl | exact Or.inr rfl))) (fun _ _ _ _ _ => (dts_one (dt_notin hu (db_var (pv 6)) (db_var (pv 4))))) (fun _ _ _ _ _ => (de_var (pv 6))))))))) dss_nil))) (dss_one (ds_append (pv 2) (de_do (do_sorted hu (Z "sorted" (by decide)) (db_var (pv 4))))))))) (dss_one (ds_ret (de_tuple (Z "tuple" (by decide)) (db (de_do (do_lc (own := [("row", 4)]) rfl Sc.nd (di_E (de_do (do_rev (db_var (pv 2))))) (blkOk_by (by show blkC ["state", "many", "rows", "place", "row", "other", "k"] (defScope s__law_order) _ _ = true; decide +kernel)) (fun _ _ _ _ _ => (dg_name (i := 4) Sc.nd rfl (by first | exact Or.inl rfl | exact Or.inr rfl))) (fun _ _ _ _ _ => dts_nil) (fun _ _ _ _ _ => (de_tuple (Z "tuple" (by decide)) (db_var (pv 4))))))))))))

def s__law_world : Stmt := top 36
theorem w__law_world {f : Addr} {fd : FuncData} (F : FunD K "_law_world" "_law_world" (defArgs s__law_world) (defBody s__law_world) (defScope s__law_world) [] [] f fd) (gm : mg "_law_world" = some (.ref f)) (Z : Bfr mg) (c__law_order : Cd P w K mg base "_law_order" 2 f__law_order) (c__law_take : Cd P w K mg base "_law_take" 1 f__law_take) : Cd P w K mg base "_law_world" 3 f__law_world := by
  have Sc : FnScope ["state", "many", "names", "ahead", "so", "place", "name", "k", "row"] ["state", "many", "names"] (defScope s__law_world) := C8.fnScope_by (by decide +kernel)
  have bi : Binds K fd ["state", "many", "names"] [] := F.bindsN fun _ _ _ _ _ _ us hl => match us, hl with | [_, _, _], _ => rfl
  exact Cd.mk' F gm bi Sc rfl rfl fun cdv A outer s H E hr => by
      have hr : Room 2 _ := hr
      have hu := ur_of hr
      have tk : Takes (cxOf (L2.CX P w) P w K mg base ["state", "many", "names", "ahead", "so", "place", "name", "k", "row"] "_law_world" (defScope s__law_world) f cdv A outer s H E) (fun cls d _ H => E cls d H) := takes_of rfl rfl rfl rfl
      have hp := passes_of (X := cxOf (L2.CX P w) P w K mg base ["state", "many", "names", "ahead", "so", "place", "name", "k", "row"] "_law_world" (defScope s__law_world) f cdv A outer s H E) rfl
      unfold m__law_world
      exact (dss_cons (ds_set (i := 3) Sc.nd rfl (by first | exact Or.inl rfl | exact Or.inr rfl) (de_call c__law_order hr (by omega) tk (da_cons (de_var (pv 0)) (da_cons (de_var (pv 1)) da_nil)))) (dss_cons (ds_setLc (i := 4) (own := [("k", 7)]) rfl Sc.nd rfl rfl (sw_true rfl rfl rfl rfl) (di_range1 (da_cons (de_var (pv 1)) da_nil) rfl (Z "range" (by decide))) (blkOk_by (by show blkC ["state", "many", "names", "ahead", "so", "place", "name", "k", "row"] (defScope s__law_world) _ _ = true; decide +kernel)) (fun _ _ _ _ _ => (dg_name (i := 7) Sc.nd rfl (by first | exact Or.inl rfl | exact Or.inr rfl))) (fun _ _ _ _ _ => dts_nil) (fun _ _ _ _ _ => (de_do (do_lst da_nil)))) (dss_cons (ds_for hp rfl (di_range1 (da_cons (de_var (pv 1)) da_nil) rfl (Z "range" (by decide))) (dg_name (i := 5) Sc.nd rfl (by first | exact Or.inl rfl | exact Or.inr rfl)) (dss_one (ds_for hp rfl (di_E (de_var (pv 2))) (dg_name (i := 6) Sc.nd rfl (by first | exact Or.inl rfl | exact Or.inr rfl)) (dss_one (ds_if (dt_eq hu (db (de_call c__law_take hr (by omega) tk (da_cons (de_var (pv 0)) (da_cons (de_c pe_int) da_nil)))) (db (de_c pe_int))) (dss_one (ds_for hp rfl (di_E (de_sub' hu (db_var (pv 3)) (db_var (pv 5)))) (dg_name (i := 7) Sc.nd rfl (by first | exact Or.inl rfl | exact Or.inr rfl)) (dss_one (ds_setitem (pv 4) (de_var (pv 7)) (de_if (dt_in hu (db_var (pv 6)) (db (de_sub' hu (db_var (pv 4)) (db_var (pv 7))))) (de_sub' hu (db_var (pv 4)) (db_var (pv 7))) (de_add (db (de_sub' hu (db_var (pv 4)) (db_var (pv 7)))) (db (de_do (do_lst (da_cons (de_var (pv 6)) da_nil)))))))))) dss_nil))))) (dss_frz 4 (dss_one (ds_ret (de_tup (da_cons (de_c pe_str) (da_cons (de_var (pv 3)) (da_cons (de_tuple (Z "tuple" (by decide)) (db (de_do (do_lc (own := [("row", 8)]) rfl Sc.nd (di_E (de_var (pv 4))) (blkOk_by (by show blkC ["state", "many", "names", "ahead", "so", "place", "name", "k", "row"] (defScope s__law_world) _ _ = true; decide +kernel)) (fun _ _ _ _ _ => (dg_name (i := 8) Sc.nd rfl (by first | exact Or.inl rfl | exact Or.inr rfl))) (fun _ _ _ _ _ => dts_nil) (fun _ _ _ _ _ => (de_tuple (Z "tuple" (by decide)) (db (de_do (do_sorted hu (Z "sorted" (by decide)) (db_var (pv 8))))))))))) da_nil))))))))))

def s__law_forced : Stmt := top 37
theorem w__law_forced {f : Addr} {fd : FuncData} (F : FunD K "_law_forced" "_law_forced" (defArgs s__law_forced) (defBody s__law_forced) (defScope s__law_forced) [] [] f fd) (gm : mg "_law_forced" = some (.ref f)) (Z : Bfr mg) : ∀ n, Cd P w K mg base "_law_forced" (0 + n) (f__law_forced n) := by
  have Sc : FnScope ["world", "saying", "place", "k"] ["world", "saying", "place"] (defScope s__law_forced) := C8.fnScope_by (by decide +kernel)
  have bi : Binds K fd ["world", "saying", "place"] [] := F.bindsN fun _ _ _ _ _ _ us hl => match us, hl with | [_, _, _], _ => rfl
  intro n
  induction n with
  | zero => exact Cd.zero gm F.kp bi
  | succ n crec =>
    exact Cd.mk' F gm bi Sc rfl rfl fun cdv A outer s H E hr => by
      have hr : Room (0 + n) _ := hr
      have hu := ur_of hr
      have tk : Takes (cxOf (L2.CX P w) P w K mg base ["world", "saying", "place", "k"] "_law_forced" (defScope s__law_forced) f cdv A outer s H E) (fun cls d _ H => E cls d H) := takes_of rfl rfl rfl rfl
      have hp := passes_of (X := cxOf (L2.CX P w) P w K mg base ["world", "saying", "place", "k"] "_law_forced" (defScope s__law_forced) f cdv A outer s H E) rfl
      unfold m__law_forced
      exact (dss_cons (ds_if (dt_val (de_isi (T := "str") (x := "str") (Z "isinstance" (by decide)) (Z "str" (by decide)) rfl (db_var (pv 1)))) (dss_one (ds_ret (de_in hu (db_var (pv 1)) (db (de_sub' hu (db (de_sub' hu (db_var (pv 0)) (db (de_c pe_int)))) (db_var (pv 2))))))) dss_nil) (dss_cons (ds_if (dt_eq hu (db (de_sub' hu (db_var (pv 1)) (db (de_c pe_int)))) (db (de_c pe_str))) (dss_one (ds_ret (de_and (de_call crec hr (by omega) tk (da_cons (de_var (pv 0)) (da_cons (de_sub' hu (db_var (pv 1)) (db (de_c pe_int))) (da_cons (de_var (pv 2)) da_nil)))) (de_one (de_call crec hr (by omega) tk (da_cons (de_var (pv 0)) (da_cons (de_sub' hu (db_var (pv 1)) (db (de_c pe_int))) (da_cons (de_var (pv 2)) da_nil)))))))) dss_nil) (dss_cons (ds_if (dt_eq hu (db (de_sub' hu (db_var (pv 1)) (db (de_c pe_int)))) (db (de_c pe_str))) (dss_one (ds_ret (de_or (de_call crec hr (by omega) tk (da_cons (de_var (pv 0)) (da_cons (de_sub' hu (db_var (pv 1)) (db (de_c pe_int))) (da_cons (de_var (pv 2)) da_nil)))) (de_one (de_call crec hr (by omega) tk (da_cons (de_var (pv 0)) (da_cons (de_sub' hu (db_var (pv 1)) (db (de_c pe_int))) (da_cons (de_var (pv 2)) da_nil)))))))) dss_nil) (dss_one (ds_ret (de_eq hu (db (de_len (Z "len" (by decide)) (db (de_do (do_lc (own := [("k", 3)]) rfl Sc.nd (di_E (de_sub' hu (db (de_sub' hu (db_var (pv 0)) (db (de_c pe_int)))) (db_var (pv 2)))) (blkOk_by (by show blkC ["world", "saying", "place", "k"] (defScope s__law_forced) _ _ = true; decide +kernel)) (fun _ _ _ _ _ => (dg_name (i := 3) Sc.nd rfl (by first | exact Or.inl rfl | exact Or.inr rfl))) (fun _ _ _ _ _ => (dts_one (dt_w (dw_and (dt_val (de_call crec hr (by omega) takes0 (da_cons (de_var (pv 0)) (da_cons (de_sub' hu (db_var (pv 1)) (db (de_c pe_int))) (da_cons (de_var (pv 3)) da_nil))))) (dw_and1 (dt_not (dt_val (de_call crec hr (by omega) takes0 (da_cons (de_var (pv 0)) (da_cons (de_sub' hu (db_var (pv 1)) (db (de_c pe_int))) (da_cons (de_var (pv 3)) da_nil))))))))))) (fun _ _ _ _ _ => (de_var (pv 3)))))))) (db (de_c pe_int))))))))

def s__law_is : Stmt := top 38
theorem w__law_is {f : Addr} {fd : FuncData} (F : FunD K "_law_is" "_law_is" (defArgs s__law_is) (defBody s__law_is) (defScope s__law_is) [] [] f fd) (gm : mg "_law_is" = some (.ref f)) (Z : Bfr mg) : ∀ n, Cd P w K mg base "_law_is" (0 + n) (f__law_is n) := by
  have Sc : FnScope ["value", "level"] ["value", "level"] (defScope s__law_is) := C8.fnScope_by (by decide +kernel)
  have bi : Binds K fd ["value", "level"] [] := F.bindsN fun _ _ _ _ _ _ us hl => match us, hl with | [_, _], _ => rfl
  intro n
  induction n with
  | zero => exact Cd.zero gm F.kp bi
  | succ n crec =>
    exact Cd.mk' F gm bi Sc rfl rfl fun cdv A outer s H E hr => by
      have hr : Room (0 + n) _ := hr
      have hu := ur_of hr
      have tk : Takes (cxOf (L2.CX P w) P w K mg base ["value", "level"] "_law_is" (defScope s__law_is) f cdv A outer s H E) (fun cls d _ H => E cls d H) := takes_of rfl rfl rfl rfl
      have hp := passes_of (X := cxOf (L2.CX P w) P w K mg base ["value", "level"] "_law_is" (defScope s__law_is) f cdv A outer s H E) rfl
      unfold m__law_is
      exact (dss_cons (ds_if (dt_val (de_isi (T := "str") (x := "str") (Z "isinstance" (by decide)) (Z "str" (by decide)) rfl (db_var (pv 0)))) (dss_one (ds_ret (de_in hu (db_var (pv 0)) (db (de_tup (da_cons (de_c pe_str) (da_cons (de_c pe_str) (da_cons (de_c pe_str) (da_cons (de_c pe_str) (da_cons (de_c pe_str) (da_cons (de_c pe_str) (da_cons (de_c pe_str) (da_cons (de_c pe_str) (da_cons (de_c pe_str) da_nil)))))))))))))) dss_nil) (dss_cons (ds_if (dt_w (dw_or (dt_gt (db_var (pv 1)) (db (de_c pe_int))) (dw_or (dt_not (dt_val (de_isi (T := "tuple") (x := "tuple") (Z "isinstance" (by decide)) (Z "tuple" (by decide)) rfl (db_var (pv 0))))) (dw_or (dt_ne hu (db (de_len (Z "len" (by decide)) (db_var (pv 0)))) (db (de_c pe_int))) (dw_or1 (dt_notin hu (db (de_sub' hu (db_var (pv 0)) (db (de_c pe_int)))) (db (de_tup (da_cons (de_c pe_str) (da_cons (de_c pe_str) (da_cons (de_c pe_str) da_nil))))))))))) (dss_one (ds_ret (de_c pe_bl))) dss_nil) (dss_one (ds_ret (de_and (de_call crec hr (by omega) tk (da_cons (de_sub' hu (db_var (pv 0)) (db (de_c pe_int))) (da_cons (de_add (db_var (pv 1)) (db (de_c pe_int))) da_nil))) (de_one (de_call crec hr (by omega) tk (da_cons (de_sub' hu (db_var (pv 0)) (db (de_c pe_int))) (da_cons (de_add (db_var (pv 1)) (db (de_c pe_int))) da_nil)))))))))

def s__law_plain : Stmt := top 39
theorem w__law_plain {f : Addr} {fd : FuncData} (F : FunD K "_law_plain" "_law_plain" (defArgs s__law_plain) (defBody s__law_plain) (defScope s__law_plain) [] [] f fd) (gm : mg "_law_plain" = some (.ref f)) (Z : Bfr mg) : ∀ n, Cd P w K mg base "_law_plain" (0 + n) (f__law_plain n) := by
  have Sc : FnScope ["saying", "lot", "one", "other"] ["saying", "lot"] (defScope s__law_plain) := C8.fnScope_by (by decide +kernel)
  have bi : Binds K fd ["saying", "lot"] [] := F.bindsN fun _ _ _ _ _ _ us hl => match us, hl with | [_, _], _ => rfl
  intro n
  induction n with
  | zero => exact Cd.zero gm F.kp bi
  | succ n crec =>
    exact Cd.mk' F gm bi Sc rfl rfl fun cdv A outer s H E hr => by
      have hr : Room (0 + n) _ := hr
      have hu := ur_of hr
      have tk : Takes (cxOf (L2.CX P w) P w K mg base ["saying", "lot", "one", "other"] "_law_plain" (defScope s__law_plain) f cdv A outer s H E) (fun cls d _ H => E cls d H) := takes_of rfl rfl rfl rfl
      have hp := passes_of (X := cxOf (L2.CX P w) P w K mg base ["saying", "lot", "one", "other"] "_law_plain" (defScope s__law_plain) f cdv A outer s H E) rfl
      unfold m__law_plain
      exact (dss_cons (ds_if (dt_val (de_isi (T := "str") (x := "str") (Z "isinstance" (by decide)) (Z "str" (by decide)) rfl (db_var (pv 0)))) (dss_one (ds_ret (de_in hu (db_var (pv 0)) (db_var (pv 1))))) dss_nil) (dss_cons (ds_par (i := 2) (j := 3) rfl Sc.nd rfl rfl (by decide) rfl rfl (da_cons (de_call crec hr (by omega) tk (da_cons (de_sub' hu (db_var (pv 0)) (db (de_c pe_int))) (da_cons (de_var (pv 1)) da_nil))) (da_cons (de_call crec hr (by omega) tk (da_cons (de_sub' hu (db_var (pv 0)) (db (de_c pe_int))) (da_cons (de_var (pv 1)) da_nil))) da_nil)) rfl) (dss_cons (ds_if (dt_eq hu (db (de_sub' hu (db_var (pv 0)) (db (de_c pe_int)))) (db (de_c pe_str))) (dss_one (ds_ret (de_and (de_var (pv 2)) (de_one (de_var (pv 3)))))) dss_nil) (dss_one (ds_ret (de_if (dt_eq hu (db (de_sub' hu (db_var (pv 0)) (db (de_c pe_int)))) (db (de_c pe_str))) (de_or (de_var (pv 2)) (de_one (de_var (pv 3)))) (de_or (de_var (pv 3)) (de_one (de_not (de_var (pv 2)))))))))))

def s__law_size : Stmt := top 40
theorem w__law_size {f : Addr} {fd : FuncData} (F : FunD K "_law_size" "_law_size" (defArgs s__law_size) (defBody s__law_size) (defScope s__law_size) [] [] f fd) (gm : mg "_law_size" = some (.ref f)) (Z : Bfr mg) : ∀ n, Cd P w K mg base "_law_size" (0 + n) (f__law_size n) := by
  have Sc : FnScope ["saying"] ["saying"] (defScope s__law_size) := C8.fnScope_by (by decide +kernel)
  have bi : Binds K fd ["saying"] [] := F.bindsN fun _ _ _ _ _ _ us hl => match us, hl with | [_], _ => rfl
  intro n
  induction n with
  | zero => exact Cd.zero gm F.kp bi
  | succ n crec =>
    exact Cd.mk' F gm bi Sc rfl rfl fun cdv A outer s H E hr => by
      have hr : Room (0 + n) _ := hr
      have hu := ur_of hr
      have tk : Takes (cxOf (L2.CX P w) P w K mg base ["saying"] "_law_size" (defScope s__law_size) f cdv A outer s H E) (fun cls d _ H => E cls d H) := takes_of rfl rfl rfl rfl
      have hp := passes_of (X := cxOf (L2.CX P w) P w K mg base ["saying"] "_law_size" (defScope s__law_size) f cdv A outer s H E) rfl
      unfold m__law_size
      exact (dss_one (ds_ret (de_if (dt_val (de_isi (T := "str") (x := "str") (Z "isinstance" (by decide)) (Z "str" (by decide)) rfl (db_var (pv 0)))) (de_c pe_int) (de_add (db (de_add (db (de_c pe_int)) (db (de_call crec hr (by omega) tk (da_cons (de_sub' hu (db_var (pv 0)) (db (de_c pe_int))) da_nil))))) (db (de_call crec hr (by omega) tk (da_cons (de_sub' hu (db_var (pv 0)) (db (de_c pe_int))) da_nil)))))))

def s__law_shown : Stmt := top 41
theorem w__law_shown {f : Addr} {fd : FuncData} (F : FunD K "_law_shown" "_law_shown" (defArgs s__law_shown) (defBody s__law_shown) (defScope s__law_shown) [] [] f fd) (gm : mg "_law_shown" = some (.ref f)) (Z : Bfr mg) : ∀ n, Cd P w K mg base "_law_shown" (0 + n) (f__law_shown n) := by
  have Sc : FnScope ["saying"] ["saying"] (defScope s__law_shown) := C8.fnScope_by (by decide +kernel)
  have bi : Binds K fd ["saying"] [] := F.bindsN fun _ _ _ _ _ _ us hl => match us, hl with | [_], _ => rfl
  intro n
  induction n with
  | zero => exact Cd.zero gm F.kp bi
  | succ n crec =>
    exact Cd.mk' F gm bi Sc rfl rfl fun cdv A outer s H E hr => by
      have hr : Room (0 + n) _ := hr
      have hu := ur_of hr
      have tk : Takes (cxOf (L2.CX P w) P w K mg base ["saying"] "_law_shown" (defScope s__law_shown) f cdv A outer s H E) (fun cls d _ H => E cls d H) := takes_of rfl rfl rfl rfl
      have hp := passes_of (X := cxOf (L2.CX P w) P w K mg base ["saying"] "_law_shown" (defScope s__law_shown) f cdv A outer s H E) rfl
      unfold m__law_shown
      exact (dss_one (ds_ret (de_if (dt_val (de_isi (T := "str") (x := "str") (Z "isinstance" (by decide)) (Z "str" (by decide)) rfl (db_var (pv 0)))) (de_var (pv 0)) (de_add (db (de_add (db (de_add (db (de_add (db (de_add (db (de_add (db (de_c pe_str)) (db (de_call crec hr (by omega) tk (da_cons (de_sub' hu (db_var (pv 0)) (db (de_c pe_int))) da_nil))))) (db (de_c pe_str)))) (db (de_sub' hu (db_var (pv 0)) (db (de_c pe_int)))))) (db (de_c pe_str)))) (db (de_call crec hr (by omega) tk (da_cons (de_sub' hu (db_var (pv 0)) (db (de_c pe_int))) da_nil))))) (db (de_c pe_str))))))

def s__law_put : Stmt := top 42
theorem w__law_put {f : Addr} {fd : FuncData} (F : FunD K "_law_put" "_law_put" (defArgs s__law_put) (defBody s__law_put) (defScope s__law_put) [] [] f fd) (gm : mg "_law_put" = some (.ref f)) (Z : Bfr mg) : ∀ n, Cd P w K mg base "_law_put" (0 + n) (f__law_put n) := by
  have Sc : FnScope ["saying", "told"] ["saying", "told"] (defScope s__law_put) := C8.fnScope_by (by decide +kernel)
  have bi : Binds K fd ["saying", "told"] [] := F.bindsN fun _ _ _ _ _ _ us hl => match us, hl with | [_, _], _ => rfl
  intro n
  induction n with
  | zero => exact Cd.zero gm F.kp bi
  | succ n crec =>
    exact Cd.mk' F gm bi Sc rfl rfl fun cdv A outer s H E hr => by
      have hr : Room (0 + n) _ := hr
      have hu := ur_of hr
      have tk : Takes (cxOf (L2.CX P w) P w K mg base ["saying", "told"] "_law_put" (defScope s__law_put) f cdv A outer s H E) (fun cls d _ H => E cls d H) := takes_of rfl rfl rfl rfl
      have hp := passes_of (X := cxOf (L2.CX P w) P w K mg base ["saying", "told"] "_law_put" (defScope s__law_put) f cdv A outer s H E) rfl
      unfold m__law_put
      exact (dss_cons (ds_if (dt_val (de_isi (T := "str") (x := "str") (Z "isinstance" (by decide)) (Z "str" (by decide)) rfl (db_var (pv 0)))) (dss_one (ds_ret (de_if (dt_in hu (db_var (pv 0)) (db_var (pv 1))) (de_sub' hu (db_var (pv 1)) (db_var (pv 0))) (de_var (pv 0))))) dss_nil) (dss_one (ds_ret (de_tup (da_cons (de_sub' hu (db_var (pv 0)) (db (de_c pe_int))) (da_cons (de_call crec hr (by omega) tk (da_cons (de_sub' hu (db_var (pv 0)) (db (de_c pe_int))) (da_cons (de_var (pv 1)) da_nil))) (da_cons (de_call crec hr (by omega) tk (da_cons (de_sub' hu (db_var (pv 0)) (db (de_c pe_int))) (da_cons (de_var (pv 1)) da_nil))) da_nil)))))))

def s__law_signs : Stmt := top 43
theorem w__law_signs {f : Addr} {fd : FuncData} (F : FunD K "_law_signs" "_law_signs" (defArgs s__law_signs) (defBody s__law_signs) (defScope s__law_signs) [] [] f fd) (gm : mg "_law_signs" = some (.ref f)) (Z : Bfr mg) : ∀ n, Cd P w K mg base "_law_signs" (0 + n) (f__law_signs n) := by
  have Sc : FnScope ["saying", "with_it", "first"] ["saying", "with_it"] (defScope s__law_signs) := C8.fnScope_by (by decide +kernel)
  have bi : Binds K fd ["saying", "with_it"] [] := F.bindsN fun _ _ _ _ _ _ us hl => match us, hl with | [_, _], _ => rfl
  intro n
  induction n with
  | zero => exact Cd.zero gm F.kp bi
  | succ n crec =>
    exact Cd.mk' F gm bi Sc rfl rfl fun cdv A outer s H E hr => by
      have hr : Room (0 + n) _ := hr
      have hu := ur_of hr
      have tk : Takes (cxOf (L2.CX P w) P w K mg base ["saying", "with_it", "first"] "_law_signs" (defScope s__law_signs) f cdv A outer s H E) (fun cls d _ H => E cls d H) := takes_of rfl rfl rfl rfl
      have hp := passes_of (X := cxOf (L2.CX P w) P w K mg base ["saying", "with_it", "first"] "_law_signs" (defScope s__law_signs) f cdv A outer s H E) rfl
      unfold m__law_signs
      exact (dss_cons (ds_if (dt_val (de_isi (T := "str") (x := "str") (Z "isinstance" (by decide)) (Z "str" (by decide)) rfl (db_var (pv 0)))) (dss_one (ds_ret (de_if (dt_eq hu (db_var (pv 0)) (db (de_c pe_str))) (de_do (do_lst da_nil)) (de_do (do_lst (da_cons (de_tup (da_cons (de_var (pv 0)) (da_cons (de_var (pv 1)) da_nil))) da_nil)))))) dss_nil) (dss_cons (ds_set (i := 2) Sc.nd rfl (by first | exact Or.inl rfl | exact Or.inr rfl) (de_call crec hr (by omega) tk (da_cons (de_sub' hu (db_var (pv 0)) (db (de_c pe_int))) (da_cons (de_if (dt_eq hu (db (de_sub' hu (db_var (pv 0)) (db (de_c pe_int)))) (db (de_c pe_str))) (de_not (de_var (pv 1))) (de_var (pv 1))) da_nil)))) (dss_one (ds_ret (de_add (db_var (pv 2)) (db (de_call crec hr (by omega) tk (da_cons (de_sub' hu (db_var (pv 0)) (db (de_c pe_int))) (da_cons (de_var (pv 1)) da_nil)))))))))

def s__law_told : Stmt := top 44
theorem w__law_told {f : Addr} {fd : FuncData} {C_Misstep : Addr} (F : FunD K "_law_told" "_law_told" (defArgs s__law_told) (defBody s__law_told) (defScope s__law_told) [] [] f fd) (gm : mg "_law_told" = some (.ref f)) (Z : Bfr mg) (c_within : Cd P w K mg base "within" 1 f_within) (T_Misstep : mg "Misstep" = some (.ref C_Misstep)) (exm_Misstep : ∀ X : Cx, X.K = K → X.mg = mg → Exm X ["Misstep"] "Misstep" (.ref C_Misstep)) (A_Misstep_word : AtX K C_Misstep "word") : Cd P w K mg base "_law_told" 2 f__law_told := by
  have Sc : FnScope ["saying", "path", "e"] ["saying", "path"] (defScope s__law_told) := C8.fnScope_by (by decide +kernel)
  have bi : Binds K fd ["saying", "path"] [] := F.bindsN fun _ _ _ _ _ _ us hl => match us, hl with | [_, _], _ => rfl
  exact Cd.mk' F gm bi Sc rfl rfl fun cdv A outer s H E hr => by
      have hr : Room 1 _ := hr
      have hu := ur_of hr
      have tk : Takes (cxOf (L2.CX P w) P w K mg base ["saying", "path", "e"] "_law_told" (defScope s__law_told) f cdv A outer s H E) (fun cls d _ H => E cls d H) := takes_of rfl rfl rfl rfl
      have hp := passes_of (X := cxOf (L2.CX P w) P w K mg base ["saying", "path", "e"] "_law_told" (defScope s__law_told) f cdv A outer s H E) rfl
      unfold m__law_told
      exact (dss_one (ds_try_as (i := 2) rfl rfl Sc.nd rfl rfl ⟨rfl, by decide, .inl T_Misstep⟩ tk (exm_Misstep _ rfl rfl) (fun W pn xe tk hp => (dss_one (ds_ret (de_call c_within hr (by omega) tk (da_cons (de_var (pv 0)) (da_cons (de_var (pv 1)) da_nil)))))) (fun a oe cls d pn hz hf => pss_one (ps_ret (pe_atX A_Misstep_word hz hf (pv 2)))) (retX_ok T_Misstep)))

def s__law_paths : Stmt := top 45
theorem w__law_paths {f : Addr} {fd : FuncData} (F : FunD K "_law_paths" "_law_paths" (defArgs s__law_paths) (defBody s__law_paths) (defScope s__law_paths) [] [] f fd) (gm : mg "_law_paths" = some (.ref f)) (Z : Bfr mg) (c__law_take : Cd P w K mg base "_law_take" 1 f__law_take) (c__law_told : Cd P w K mg base "_law_told" 2 f__law_told) : Cd P w K mg base "_law_paths" 3 f__law_paths := by
  have Sc : FnScope ["state", "saying", "path", "now", "turn", "side"] ["state", "saying"] (defScope s__law_paths) := C8.fnScope_by (by decide +kernel)
  have bi : Binds K fd ["state", "saying"] [] := F.bindsN fun _ _ _ _ _ _ us hl => match us, hl with | [_, _], _ => rfl
  exact Cd.mk' F gm bi Sc rfl rfl fun cdv A outer s H E hr => by
      have hr : Room 2 _ := hr
      have hu := ur_of hr
      have tk : Takes (cxOf (L2.CX P w) P w K mg base ["state", "saying", "path", "now", "turn", "side"] "_law_paths" (defScope s__law_paths) f cdv A outer s H E) (fun cls d _ H => E cls d H) := takes_of rfl rfl rfl rfl
      have hp := passes_of (X := cxOf (L2.CX P w) P w K mg base ["state", "saying", "path", "now", "turn", "side"] "_law_paths" (defScope s__law_paths) f cdv A outer s H E) rfl
      unfold m__law_paths
      exact (dss_cons (ds_par (i := 2) (j := 3) rfl Sc.nd rfl rfl (by decide) rfl rfl (da_cons (de_tup da_nil) (da_cons (de_var (pv 1)) da_nil)) rfl) (dss_cons (ds_for hp rfl (di_range1 (da_cons (de_call c__law_take hr (by omega) tk (da_cons (de_var (pv 0)) (da_cons (de_c pe_int) da_nil))) da_nil) rfl (Z "range" (by decide))) (dg_name (i := 4) Sc.nd rfl (by first | exact Or.inl rfl | exact Or.inr rfl)) (dss_one (ds_if (dt_not (dt_val (de_isi (T := "str") (x := "str") (Z "isinstance" (by decide)) (Z "str" (by decide)) rfl (db_var (pv 3))))) (dss_cons (ds_set (i := 5) Sc.nd rfl (by first | exact Or.inl rfl | exact Or.inr rfl) (de_add (db (de_c pe_int)) (db (de_call c__law_take hr (by omega) tk (da_cons (de_var (pv 0)) (da_cons (de_c pe_int) da_nil)))))) (dss_one (ds_par (i := 2) (j := 3) rfl Sc.nd rfl rfl (by decide) rfl rfl (da_cons (de_add (db_var (pv 2)) (db (de_tup (da_cons (de_var (pv 5)) da_nil)))) (da_cons (de_sub' hu (db_var (pv 3)) (db_var (pv 5))) da_nil)) rfl))) dss_nil))) (dss_cons (ds_if (dt_w (dw_or (dt_ne hu (db (de_call c__law_told hr (by omega) tk (da_cons (de_var (pv 1)) (da_cons (de_var (pv 2)) da_nil)))) (db_var (pv 3))) (dw_or (dt_ne hu (db (de_call c__law_told hr (by omega) tk (da_cons (de_var (pv 1)) (da_cons (de_add (db_var (pv 2)) (db (de_tup (da_cons (de_c pe_int) da_nil)))) da_nil)))) (db (de_c pe_str))) (dw_or1 (dt_ne hu (db (de_call c__law_told hr (by omega) tk (da_cons (de_var (pv 1)) (da_cons (de_add (db_var (pv 2)) (db (de_tup (da_cons (de_c pe_int) da_nil)))) da_nil)))) (db (de_c pe_str))))))) (dss_one (ds_ret (de_c pe_bl))) dss_nil) (dss_one (ds_ret (de_or (de_not (de_isi (T := "str") (x := "str") (Z "isinstance" (by decide)) (Z "str" (by decide)) rfl (db_var (pv 3)))) (de_one (de_eq hu (db (de_call c__law_told hr (by omega) tk (da_cons (de_var (pv 1)) (da_cons (de_add (db_var (pv 2)) (db (de_tup (da_cons (de_c pe_int) da_nil)))) da_nil)))) (db (de_c pe_str))))))))))

def s_law : Stmt := top 46
theorem w_law (hg : LawOk 23 m_law) {f0 : Addr} {fd0 : FuncData} (c0 : FnOk P w K mg base (L2.CX P w) 1 f0 fd0 ["script"] (spState K)) (gm0 : mg "_law_state" = some (.ref f0)) (kp0 : PySem.W.keepIn K (.ref f0) = true) (b0 : Binds K fd0 ["script"] []) {f : Addr} {fd : FuncData} (F : FunD K "law" "law" (defArgs s_law) (defBody s_law) (defScope s_law) [] [] f fd) (gm : mg "law" = some (.ref f)) (Z : Bfr mg) (c__law_drawn : Cd P w K mg base "_law_drawn" 16 (f__law_drawn FU)) (c_is_saying : Cd P w K mg base "is_saying" 16 f_is_saying) (c_depth : Cd P w K mg base "depth" 14 (f_depth FU)) (c__law_deep : Cd P w K mg base "_law_deep" 14 (f__law_deep FU)) (c_size : Cd P w K mg base "size" 14 (f_size FU)) (c__law_size : Cd P w K mg base "_law_size" 14 (f__law_size FU)) (c_shown : Cd P w K mg base "shown" 14 (f_shown FU)) (c__law_shown : Cd P w K mg base "_law_shown" 14 (f__law_shown FU)) (c__law_letters : Cd P w K mg base "_law_letters" 15 f__law_letters) (c_parts : Cd P w K mg base "parts" 14 (f_parts FU)) (c__law_parts : Cd P w K mg base "_law_parts" 14 (f__law_parts FU)) (c_letters : Cd P w K mg base "letters" 14 (f_letters FU)) (c_key : Cd P w K mg base "key" 15 f_key) (c_in_order : Cd P w K mg base "in_order" 18 f_in_order) (c_put_in : Cd P w K mg base "put_in" 14 (f_put_in FU)) (c__law_put : Cd P w K mg base "_law_put" 14 (f__law_put FU)) (c_settings : Cd P w K mg base "settings" 1 f_settings) (c_plain_value : Cd P w K mg base "plain_value" 14 (f_plain_value FU)) (c__law_plain : Cd P w K mg base "_law_plain" 14 (f__law_plain FU)) (c_is_plainly_so : Cd P w K mg base "is_plainly_so" 15 f_is_plainly_so) (c__law_signs : Cd P w K mg base "_law_signs" 14 (f__law_signs FU)) (c_signs : Cd P w K mg base "signs" 14 (f_signs FU)) (c_never : Cd P w K mg base "never" 1 f_never) (c_yes : Cd P w K mg base "yes" 1 f_yes) (c_both_ways : Cd P w K mg base "both_ways" 1 f_both_ways) (c_all_of : Cd P w K mg base "all_of" 2 f_all_of) (c_some_of : Cd P w K mg base "some_of" 1 f_some_of) (c_has_form : Cd P w K mg base "has_form" 15 (f_has_form FU)) (c__law_is : Cd P w K mg base "_law_is" 14 (f__law_is FU)) (c_is_letter : Cd P w K mg base "is_letter" 1 f_is_letter) (c__law_paths : Cd P w K mg base "_law_paths" 3 f__law_paths) (g_LETTERS : ∃ t, mg "LETTERS" = some (.str "abcdefgh" t)) (g_MOST_DEEP : ∃ t, mg "MOST_DEEP" = some (.int 8 t)) : FnOk P w K mg base (L2.CX P w) 19 f fd ["script"] (spLaw K) := by
  have Sc : FnScope ["script", "state", "saying", "other", "names", "row", "due", "told", "lots", "name", "pairs", "with_it", "against", "once", "deep", "k", "bad", "n", "text", "one", "value", "lot", "sign"] ["script"] (defScope s_law) := C8.fnScope_by (by decide +kernel)
  have bi : Binds K fd ["script"] [] := F.bindsN fun _ _ _ _ _ _ us hl => match us, hl with | [_], _ => rfl
  exact fn_law hg (by decide) F Sc rfl fun cdv A outer s H E hr => by
      have hr : Room 18 _ := hr
      have hu := ur_of hr
      have tk : Takes (cxOf (L2.CX P w) P w K mg base ["script", "state", "saying", "other", "names", "row", "due", "told", "lots", "name", "pairs", "with_it", "against", "once", "deep", "k", "bad", "n", "text", "one", "value", "lot", "sign"] "law" (defScope s_law) f cdv A outer s H E) (fun cls d _ H => E cls d H) := takes_of rfl rfl rfl rfl
      have hp := passes_of (X := cxOf (L2.CX P w) P w K mg base ["script", "state", "saying", "other", "names", "row", "due", "told", "lots", "name", "pairs", "with_it", "against", "once", "deep", "k", "bad", "n", "text", "one", "value", "lot", "sign"] "law" (defScope s_law) f cdv A outer s H E) rfl
      unfold m_law m_law_10 m_law_14 m_law_18
      exact ⟨_, pss_cons (ps_set (i := 1) Sc.nd rfl (Or.inl rfl) (pe_callS c0 (hr.mono (by decide)) rfl gm0 kp0 b0 (passAt tk) (pa_cons (pv 0) pa_nil))) (dss_cons (ds_asg (de_tup (da_cons (de_call c__law_drawn hr (by omega) tk (da_cons (de_var (pv 1)) (da_cons (de_c pe_int) (da_cons (de_do (do_lst (da_cons (de_c pe_str) (da_cons (de_c pe_str) (da_cons (de_c pe_str) (da_cons (de_c pe_str) da_nil)))))) da_nil)))) (da_cons (de_call c__law_drawn hr (by omega) tk (da_cons (de_var (pv 1)) (da_cons (de_c pe_int) (da_cons (de_do (do_lst (da_cons (de_c pe_str) (da_cons (de_c pe_str) (da_cons (de_c pe_str) da_nil))))) da_nil)))) da_nil))) (dg_tup (n := 2) rfl (dgs_cons (dg_name (i := 2) Sc.nd rfl (by first | exact Or.inl rfl | exact Or.inr rfl)) (dgs_cons (dg_name (i := 3) Sc.nd rfl (by first | exact Or.inl rfl | exact Or.inr rfl)) dgs_nil)))) (dss_cons (ds_if (dt_w (dw_or (dt_isnot (db (de_call c_is_saying hr (by omega) tk (da_cons (de_var (pv 2)) da_nil))) (db (de_c pe_bl))) (dw_or (dt_ne hu (db (de_call c_depth hr (by omega) tk (da_cons (de_var (pv 2)) da_nil))) (db (de_call c__law_deep hr (by omega) tk (da_cons (de_var (pv 2)) da_nil)))) (dw_or (dt_ne hu (db (de_call c_size hr (by omega) tk (da_cons (de_var (pv 2)) da_nil))) (db (de_call c__law_size hr (by omega) tk (da_cons (de_var (pv 2)) da_nil)))) (dw_or1 (dt_ne hu (db (de_call c_shown hr (by omega) tk (da_cons (de_var (pv 2)) da_nil))) (db (de_call c__law_shown hr (by omega) tk (da_cons (de_var (pv 2)) da_nil))))))))) (dss_one (ds_ret (de_c pe_bl))) dss_nil) (dss_cons (ds_set (i := 4) Sc.nd rfl (by first | exact Or.inl rfl | exact Or.inr rfl) (de_call c__law_letters hr (by omega) tk (da_cons (de_var (pv 2)) da_nil))) (dss_cons (ds_if (dt_w (dw_or (dt_ne hu (db (de_call c_parts hr (by omega) tk (da_cons (de_var (pv 2)) da_nil))) (db (de_call c__law_parts hr (by omega) tk (da_cons (de_var (pv 2)) da_nil)))) (dw_or (dt_ne hu (db (de_call c_letters hr (by omega) tk (da_cons (de_var (pv 2)) da_nil))) (db (de_tuple (Z "tuple" (by decide)) (db_var (pv 4))))) (dw_or1 (dt_ne hu (db (de_call c_key hr (by omega) tk (da_cons (de_var (pv 2)) da_nil))) (db (de_tup (da_cons (de_call c__law_size hr (by omega) tk (da_cons (de_var (pv 2)) da_nil)) (da_cons (de_call c__law_shown hr (by omega) tk (da_cons (de_var (pv 2)) da_nil)) da_nil))))))))) (dss_one (ds_ret (de_c pe_bl))) dss_nil) (dss_cons (ds_set (i := 5) Sc.nd rfl (by first | exact Or.inl rfl | exact Or.inr rfl) (de_do (do_lst (da_cons (de_var (pv 2)) (da_cons (de_var (pv 3)) (da_cons (de_c pe_str) (da_cons (de_var (pv 2)) (da_cons (de_c pe_str) (da_cons (de_tup (da_cons (de_c pe_str) (da_cons (de_c pe_str) (da_cons (de_c pe_str) da_nil)))) da_nil))))))))) (dss_cons (ds_setLc (i := 6) (own := [("k", 15)]) rfl Sc.nd rfl rfl (sw_true rfl rfl rfl rfl) (di_range1 (da_cons (de_len (Z "len" (by decide)) (db_var (pv 5))) da_nil) rfl (Z "range" (by decide))) (blkOk_by (by show blkC ["script", "state", "saying", "other", "names", "row", "due", "told", "lots", "name", "pairs", "with_it", "against", "once", "deep", "k", "bad", "n", "text", "one", "value", "lot", "sign"] (defScope s_law) _ _ = true; decide +kernel)) (fun _ _ _ _ _ => (dg_name (i := 15) Sc.nd rfl (by first | exact Or.inl rfl | exact Or.inr rfl))) (fun _ _ _ _ _ => (dts_one (dt_notin hu (db (de_sub' hu (db_var (pv 5)) (db_var (pv 15)))) (db (de_slice (db_var (pv 5)) dp_none (dp_some (de_var (pv 15)))))))) (fun _ _ _ _ _ => (de_sub' hu (db_var (pv 5)) (db_var (pv 15))))) (dss_frz 6 (dss_cons (ds_setLc (i := 6) (own := [("n", 17), ("text", 18), ("one", 19)]) rfl Sc.nd rfl rfl (sw_true rfl rfl rfl rfl) (di_E (de_do (do_sort3 (Z "sorted" (by decide)) (db (de_do (do_lc (own := [("one", 19)]) rfl Sc.nd (di_E (de_var (pv 6))) (blkOk_by (by show blkC ["script", "state", "saying", "other", "names", "row", "due", "told", "lots", "name", "pairs", "with_it", "against", "once", "deep", "k", "bad", "n", "text", "one", "value", "lot", "sign"] (defScope s_law) _ _ = true; decide +kernel)) (fun _ _ _ _ _ => (dg_name (i := 19) Sc.nd rfl (by first | exact Or.inl rfl | exact Or.inr rfl))) (fun _ _ _ _ _ => dts_nil) (fun _ _ _ _ _ => (de_tup (da_cons (de_call c__law_size hr (by omega) takes0 (da_cons (de_var (pv 19)) da_nil)) (da_cons (de_call c__law_shown hr (by omega) takes0 (da_cons (de_var (pv 19)) da_nil)) (da_cons (de_var (pv 19)) da_nil))))))))))) (blkOk_by (by show blkC ["script", "state", "saying", "other", "names", "row", "due", "told", "lots", "name", "pairs", "with_it", "against", "once", "deep", "k", "bad", "n", "text", "one", "value", "lot", "sign"] (defScope s_law) _ _ = true; decide +kernel)) (fun _ _ _ _ _ => (dg_tup (n := 3) rfl (dgs_cons (dg_name (i := 17) Sc.nd rfl (by first | exact Or.inl rfl | exact Or.inr rfl)) (dgs_cons (dg_name (i := 18) Sc.nd rfl (by first | exact Or.inl rfl | exact Or.inr rfl)) (dgs_cons (dg_name (i := 19) Sc.nd rfl (by first | exact Or.inl rfl | exact Or.inr rfl)) dgs_nil))))) (fun _ _ _ _ _ => dts_nil) (fun _ _ _ _ _ => (de_var (pv 19)))) (dss_frz 6 (dss_cons (ds_if (dt_ne hu (db (de_call c_in_order hr (by omega) tk (da_cons (de_do (do_lc (own := [("one", 19)]) rfl Sc.nd (di_E (de_var (pv 5))) (blkOk_by (by show blkC ["script", "state", "saying", "other", "names", "row", "due", "told", "lots", "name", "pairs", "with_it", "against", "once", "deep", "k", "bad", "n", "text", "one", "value", "lot", "sign"] (defScope s_law) _ _ = true; decide +kernel)) (fun _ _ _ _ _ => (dg_name (i := 19) Sc.nd rfl (by first | exact Or.inl rfl | exact Or.inr rfl))) (fun _ _ _ _ _ => dts_nil) (fun _ _ _ _ _ => (de_var (pv 19))))) da_nil))) (db_var (pv 6))) (dss_one (ds_ret (de_c pe_bl))) dss_nil) (dss_cons (ds_set (i := 7) Sc.nd rfl (by first | exact Or.inl rfl | exact Or.inr rfl) (de_do (do_dict (pps_cons (de_c pe_str) (de_var (pv 3)) (pps_cons (de_c pe_str) (de_tup (da_cons (de_c pe_str) (da_cons (de_c pe_str) (da_cons (de_c pe_str) da_nil)))) pps_nil))))) (dss_cons (ds_if (dt_w (dw_or (dt_ne hu (db (de_call c_put_in hr (by omega) tk (da_cons (de_var (pv 2)) (da_cons (de_var (pv 7)) da_nil)))) (db (de_call c__law_put hr (by omega) tk (da_cons (de_var (pv 2)) (da_cons (de_var (pv 7)) da_nil))))) (dw_or1 (dt_ne hu (db (de_call c_put_in hr (by omega) tk (da_cons (de_var (pv 2)) (da_cons (de_do do_dict0) da_nil)))) (db_var (pv 2)))))) (dss_one (ds_ret (de_c pe_bl))) dss_nil) (dss_cons (ds_set (i := 8) Sc.nd rfl (by first | exact Or.inl rfl | exact Or.inr rfl) (de_do (do_lst (da_cons (de_tup da_nil) da_nil)))) (dss_cons (ds_for hp rfl (di_E (de_var (pv 4))) (dg_name (i := 9) Sc.nd rfl (by first | exact Or.inl rfl | exact Or.inr rfl)) (dss_one (ds_set (i := 8) Sc.nd rfl (by first | exact Or.inl rfl | exact Or.inr rfl) (de_add (db_var (pv 8)) (db (de_do (do_lc (own := [("lot", 21)]) rfl Sc.nd (di_E (de_var (pv 8))) (blkOk_by (by show blkC ["script", "state", "saying", "other", "names", "row", "due", "told", "lots", "name", "pairs", "with_it", "against", "once", "deep", "k", "bad", "n", "text", "one", "value", "lot", "sign"] (defScope s_law) _ _ = true; decide +kernel)) (fun _ _ _ _ _ => (dg_name (i := 21) Sc.nd rfl (by first | exact Or.inl rfl | exact Or.inr rfl))) (fun _ _ _ _ _ => dts_nil) (fun _ _ _ _ _ => (de_add (db_var (pv 21)) (db (de_tup (da_cons (de_var (pv 9)) da_nil)))))))))))) (dss_cons (ds_if (dt_w (dw_or (dt_ne hu (db (de_call c_settings hr (by omega) tk (da_cons (de_tuple (Z "tuple" (by decide)) (db_var (pv 4))) da_nil))) (db_var (pv 8))) (dw_or1 (dt_gt (db (de_len (Z "len" (by decide)) (db (de_do (do_lc (own := [("lot", 21)]) rfl Sc.nd (di_E (de_var (pv 8))) (blkOk_by (by show blkC ["script", "state", "saying", "other", "names", "row", "due", "told", "lots", "name", "pairs", "with_it", "against", "once", "deep", "k", "bad", "n", "text", "one", "value", "lot", "sign"] (defScope s_law) _ _ = true; decide +kernel)) (fun _ _ _ _ _ => (dg_name (i := 21) Sc.nd rfl (by first | exact Or.inl rfl | exact Or.inr rfl))) (fun _ _ _ _ _ => (dts_one (dt_ne hu (db (de_call c_plain_value hr (by omega) takes0 (da_cons (de_var (pv 2)) (da_cons (de_var (pv 21)) da_nil)))) (db (de_call c__law_plain hr (by omega) takes0 (da_cons (de_var (pv 2)) (da_cons (de_var (pv 21)) da_nil))))))) (fun _ _ _ _ _ => (de_var (pv 21)))))))) (db (de_c pe_int)))))) (dss_one (ds_ret (de_c pe_bl))) dss_nil) (dss_cons (ds_if (dt_ne hu (db (de_call c_is_plainly_so hr (by omega) tk (da_cons (de_var (pv 2)) da_nil))) (db (de_eq hu (db (de_len (Z "len" (by decide)) (db (de_do (do_lc (own := [("lot", 21)]) rfl Sc.nd (di_E (de_var (pv 8))) (blkOk_by (by show blkC ["script", "state", "saying", "other", "names", "row", "due", "told", "lots", "name", "pairs", "with_it", "against", "once", "deep", "k", "bad", "n", "text", "one", "value", "lot", "sign"] (defScope s_law) _ _ = true; decide +kernel)) (fun _ _ _ _ _ => (dg_name (i := 21) Sc.nd rfl (by first | exact Or.inl rfl | exact Or.inr rfl))) (fun _ _ _ _ _ => (dts_one (dt_not (dt_val (de_call c__law_plain hr (by omega) takes0 (da_cons (de_var (pv 2)) (da_cons (de_var (pv 21)) da_nil))))))) (fun _ _ _ _ _ => (de_var (pv 21)))))))) (db (de_c pe_int))))) (dss_one (ds_ret (de_c pe_bl))) dss_nil) (dss_cons (ds_set (i := 10) Sc.nd rfl (by first | exact Or.inl rfl | exact Or.inr rfl) (de_call c__law_signs hr (by omega) tk (da_cons (de_var (pv 2)) (da_cons (de_c pe_bl) da_nil)))) (dss_cons (ds_asg (de_tup (da_cons (de_do (do_sorted hu (Z "sorted" (by decide)) (db (de_do (do_lc (own := [("name", 9), ("sign", 22)]) rfl Sc.nd (di_E (de_var (pv 10))) (blkOk_by (by show blkC ["script", "state", "saying", "other", "names", "row", "due", "told", "lots", "name", "pairs", "with_it", "against", "once", "deep", "k", "bad", "n", "text", "one", "value", "lot", "sign"] (defScope s_law) _ _ = true; decide +kernel)) (fun _ _ _ _ _ => (dg_tup (n := 2) rfl (dgs_cons (dg_name (i := 9) Sc.nd rfl (by first | exact Or.inl rfl | exact Or.inr rfl)) (dgs_cons (dg_name (i := 22) Sc.nd rfl (by first | exact Or.inl rfl | exact Or.inr rfl)) dgs_nil)))) (fun _ _ _ _ _ => (dts_one (dt_val (de_var (pv 22))))) (fun _ _ _ _ _ => (de_var (pv 9)))))))) (da_cons (de_do (do_sorted hu (Z "sorted" (by decide)) (db (de_do (do_lc (own := [("name", 9), ("sign", 22)]) rfl Sc.nd (di_E (de_var (pv 10))) (blkOk_by (by show blkC ["script", "state", "saying", "other", "names", "row", "due", "told", "lots", "name", "pairs", "with_it", "against", "once", "deep", "k", "bad", "n", "text", "one", "value", "lot", "sign"] (defScope s_law) _ _ = true; decide +kernel)) (fun _ _ _ _ _ => (dg_tup (n := 2) rfl (dgs_cons (dg_name (i := 9) Sc.nd rfl (by first | exact Or.inl rfl | exact Or.inr rfl)) (dgs_cons (dg_name (i := 22) Sc.nd rfl (by first | exact Or.inl rfl | exact Or.inr rfl)) dgs_nil)))) (fun _ _ _ _ _ => (dts_one (dt_not (dt_val (de_var (pv 22)))))) (fun _ _ _ _ _ => (de_var (pv 9)))))))) da_nil))) (dg_tup (n := 2) rfl (dgs_cons (dg_name (i := 11) Sc.nd rfl (by first | exact Or.inl rfl | exact Or.inr rfl)) (dgs_cons (dg_name (i := 12) Sc.nd rfl (by first | exact Or.inl rfl | exact Or.inr rfl)) dgs_nil)))) (dss_cons (ds_set (i := 13) Sc.nd rfl (by first | exact Or.inl rfl | exact Or.inr rfl) (de_tuple (Z "tuple" (by decide)) (db (de_do (do_lc (own := [("k", 15)]) rfl Sc.nd (di_range1 (da_cons (de_len (Z "len" (by decide)) (db_var (pv 11))) da_nil) rfl (Z "range" (by decide))) (blkOk_by (by show blkC ["script", "state", "saying", "other", "names", "row", "due", "told", "lots", "name", "pairs", "with_it", "against", "once", "deep", "k", "bad", "n", "text", "one", "value", "lot", "sign"] (defScope s_law) _ _ = true; decide +kernel)) (fun _ _ _ _ _ => (dg_name (i := 15) Sc.nd rfl (by first | exact Or.inl rfl | exact Or.inr rfl))) (fun _ _ _ _ _ => (dts_one (dt_notin hu (db (de_sub' hu (db_var (pv 11)) (db_var (pv 15)))) (db (de_slice (db_var (pv 11)) dp_none (dp_some (de_var (pv 15)))))))) (fun _ _ _ _ _ => (de_sub' hu (db_var (pv 11)) (db_var (pv 15))))))))) (dss_cons (ds_if (dt_ne hu (db (de_call c_signs hr (by omega) tk (da_cons (de_var (pv 2)) da_nil))) (db (de_tup (da_cons (de_var (pv 13)) (da_cons (de_tuple (Z "tuple" (by decide)) (db (de_do (do_lc (own := [("k", 15)]) rfl Sc.nd (di_range1 (da_cons (de_len (Z "len" (by decide)) (db_var (pv 12))) da_nil) rfl (Z "range" (by decide))) (blkOk_by (by show blkC ["script", "state", "saying", "other", "names", "row", "due", "told", "lots", "name", "pairs", "with_it", "against", "once", "deep", "k", "bad", "n", "text", "one", "value", "lot", "sign"] (defScope s_law) _ _ = true; decide +kernel)) (fun _ _ _ _ _ => (dg_name (i := 15) Sc.nd rfl (by first | exact Or.inl rfl | exact Or.inr rfl))) (fun _ _ _ _ _ => (dts_one (dt_notin hu (db (de_sub' hu (db_var (pv 12)) (db_var (pv 15)))) (db (de_slice (db_var (pv 12)) dp_none (dp_some (de_var (pv 15)))))))) (fun _ _ _ _ _ => (de_sub' hu (db_var (pv 12)) (db_var (pv 15)))))))) da_nil))))) (dss_one (ds_ret (de_c pe_bl))) dss_nil) (dss_cons (ds_if (dt_w (dw_or (dt_ne hu (db (de_call c_never hr (by omega) tk (da_cons (de_var (pv 2)) da_nil))) (db (de_tup (da_cons (de_c pe_str) (da_cons (de_var (pv 2)) (da_cons (de_c pe_str) da_nil)))))) (dw_or (dt_ne hu (db (de_call0 c_yes hr (by omega) tk)) (db (de_tup (da_cons (de_c pe_str) (da_cons (de_c pe_str) (da_cons (de_c pe_str) da_nil)))))) (dw_or1 (dt_ne hu (db (de_call c_both_ways hr (by omega) tk (da_cons (de_var (pv 2)) (da_cons (de_var (pv 3)) da_nil)))) (db (de_tup (da_cons (de_c pe_str) (da_cons (de_tup (da_cons (de_c pe_str) (da_cons (de_var (pv 2)) (da_cons (de_var (pv 3)) da_nil)))) (da_cons (de_tup (da_cons (de_c pe_str) (da_cons (de_var (pv 3)) (da_cons (de_var (pv 2)) da_nil)))) da_nil)))))))))) (dss_one (ds_ret (de_c pe_bl))) dss_nil) (dss_cons (ds_if (dt_w (dw_or (dt_ne hu (db (de_call c_all_of hr (by omega) tk (da_cons (de_do (do_lst da_nil)) da_nil))) (db (de_tup (da_cons (de_c pe_str) (da_cons (de_c pe_str) (da_cons (de_c pe_str) da_nil)))))) (dw_or (dt_ne hu (db (de_call c_some_of hr (by omega) tk (da_cons (de_do (do_lst da_nil)) da_nil))) (db (de_c pe_str))) (dw_or (dt_ne hu (db (de_call c_all_of hr (by omega) tk (da_cons (de_do (do_lst (da_cons (de_var (pv 2)) da_nil))) da_nil))) (db_var (pv 2))) (dw_or1 (dt_ne hu (db (de_call c_some_of hr (by omega) tk (da_cons (de_do (do_lst (da_cons (de_var (pv 2)) da_nil))) da_nil))) (db_var (pv 2)))))))) (dss_one (ds_ret (de_c pe_bl))) dss_nil) (dss_cons (ds_if (dt_w (dw_or (dt_ne hu (db (de_call c_all_of hr (by omega) tk (da_cons (de_do (do_lst (da_cons (de_var (pv 2)) (da_cons (de_var (pv 3)) (da_cons (de_c pe_str) da_nil))))) da_nil))) (db (de_tup (da_cons (de_c pe_str) (da_cons (de_var (pv 2)) (da_cons (de_tup (da_cons (de_c pe_str) (da_cons (de_var (pv 3)) (da_cons (de_c pe_str) da_nil)))) da_nil)))))) (dw_or1 (dt_ne hu (db (de_call c_some_of hr (by omega) tk (da_cons (de_do (do_lst (da_cons (de_var (pv 2)) (da_cons (de_var (pv 3)) (da_cons (de_c pe_str) da_nil))))) da_nil))) (db (de_tup (da_cons (de_c pe_str) (da_cons (de_var (pv 2)) (da_cons (de_tup (da_cons (de_c pe_str) (da_cons (de_var (pv 3)) (da_cons (de_c pe_str) da_nil)))) da_nil))))))))) (dss_one (ds_ret (de_c pe_bl))) dss_nil) (dss_cons (ds_set (i := 14) Sc.nd rfl (by first | exact Or.inl rfl | exact Or.inr rfl) (de_c pe_str)) (dss_cons (ds_for hp rfl (di_range1 (da_cons (de_c pe_int) da_nil) rfl (Z "range" (by decide))) (dg_name (i := 15) Sc.nd rfl (by first | exact Or.inl rfl | exact Or.inr rfl)) (dss_cons (ds_if (dt_w (dw_or (dt_ne hu (db (de_call c_is_saying hr (by omega) tk (da_cons (de_var (pv 14)) da_nil))) (db (de_lt (db_var (pv 15)) (db (de_c pe_int))))) (dw_or1 (dt_ne hu (db (de_call c_has_form hr (by omega) tk (da_cons (de_var (pv 14)) (da_cons (de_c pe_int) da_nil)))) (db (de_lt (db_var (pv 15)) (db (de_c pe_int)))))))) (dss_one (ds_ret (de_c pe_bl))) dss_nil) (dss_one (ds_set (i := 14) Sc.nd rfl (by first | exact Or.inl rfl | exact Or.inr rfl) (de_tup (da_cons (de_c pe_str) (da_cons (de_c pe_str) (da_cons (de_var (pv 14)) da_nil)))))))) (dss_cons (ds_set (i := 16) Sc.nd rfl (by first | exact Or.inl rfl | exact Or.inr rfl) (de_do (do_lst (da_cons (de_c pe_non) (da_cons (de_c pe_str) (da_cons (de_c pe_str) (da_cons (de_c pe_str) (da_cons (de_c pe_str) (da_cons (de_c pe_int) (da_cons (de_tup (da_cons (de_c pe_str) (da_cons (de_c pe_str) da_nil))) (da_cons (de_do (do_lst (da_cons (de_c pe_str) (da_cons (de_c pe_str) (da_cons (de_c pe_str) da_nil))))) (da_cons (de_tup (da_cons (de_c pe_str) (da_cons (de_c pe_str) (da_cons (de_c pe_str) da_nil)))) (da_cons (de_tup (da_cons (de_c pe_str) (da_cons (de_c pe_str) (da_cons (de_c pe_str) (da_cons (de_c pe_str) da_nil))))) (da_cons (de_tup (da_cons (de_c pe_str) (da_cons (de_c pe_str) (da_cons (de_c pe_non) da_nil)))) (da_cons (de_tup (da_cons (de_tup (da_cons (de_c pe_int) da_nil)) (da_cons (de_c pe_str) (da_cons (de_c pe_str) da_nil)))) (da_cons (de_c pe_str) da_nil)))))))))))))))) (dss_cons (ds_if (dt_gt (db (de_len (Z "len" (by decide)) (db (de_do (do_lc (own := [("value", 20)]) rfl Sc.nd (di_E (de_var (pv 16))) (blkOk_by (by show blkC ["script", "state", "saying", "other", "names", "row", "due", "told", "lots", "name", "pairs", "with_it", "against", "once", "deep", "k", "bad", "n", "text", "one", "value", "lot", "sign"] (defScope s_law) _ _ = true; decide +kernel)) (fun _ _ _ _ _ => (dg_name (i := 20) Sc.nd rfl (by first | exact Or.inl rfl | exact Or.inr rfl))) (fun _ _ _ _ _ => (dts_one (dt_w (dw_or (dt_isnot (db (de_call c_is_saying hr (by omega) takes0 (da_cons (de_var (pv 20)) da_nil))) (db (de_c pe_bl))) (dw_or1 (dt_val (de_call c__law_is hr (by omega) takes0 (da_cons (de_var (pv 20)) (da_cons (de_c pe_int) da_nil))))))))) (fun _ _ _ _ _ => (de_var (pv 20)))))))) (db (de_c pe_int))) (dss_one (ds_ret (de_c pe_bl))) dss_nil) (dss_cons (ds_if (dt_ne hu (db (de_do (do_lc (own := [("value", 20)]) rfl Sc.nd (di_E (de_tup (da_cons (de_c pe_str) (da_cons (de_c pe_str) (da_cons (de_c pe_str) (da_cons (de_c pe_str) (da_cons (de_c pe_str) (da_cons (de_c pe_non) (da_cons (de_c pe_str) da_nil))))))))) (blkOk_by (by show blkC ["script", "state", "saying", "other", "names", "row", "due", "told", "lots", "name", "pairs", "with_it", "against", "once", "deep", "k", "bad", "n", "text", "one", "value", "lot", "sign"] (defScope s_law) _ _ = true; decide +kernel)) (fun _ _ _ _ _ => (dg_name (i := 20) Sc.nd rfl (by first | exact Or.inl rfl | exact Or.inr rfl))) (fun _ _ _ _ _ => dts_nil) (fun _ _ _ _ _ => (de_call c_is_letter hr (by omega) takes0 (da_cons (de_var (pv 20)) da_nil)))))) (db (de_do (do_lst (da_cons (de_c pe_bl) (da_cons (de_c pe_bl) (da_cons (de_c pe_bl) (da_cons (de_c pe_bl) (da_cons (de_c pe_bl) (da_cons (de_c pe_bl) (da_cons (de_c pe_bl) da_nil))))))))))) (dss_one (ds_ret (de_c pe_bl))) dss_nil) (dss_one (ds_ret (de_and (de_eq hu (db (de_tup (da_cons (de_gint g_MOST_DEEP) (da_cons (de_gstr g_LETTERS) da_nil)))) (db (de_tup (da_cons (de_c pe_int) (da_cons (de_c pe_str) da_nil))))) (de_and (de_call c__law_paths hr (by omega) tk (da_cons (de_var (pv 1)) (da_cons (de_var (pv 2)) da_nil))) (de_one (de_eq hu (db (de_call c__law_is hr (by omega) tk (da_cons (de_var (pv 2)) (da_cons (de_c pe_int) da_nil)))) (db (de_call c_is_saying hr (by omega) tk (da_cons (de_var (pv 2)) da_nil)))))))))))))))))))))))))))))))))))))⟩
end
end K01

set_option Elab.async false
set_option linter.all false
set_option maxRecDepth 100000
set_option maxHeartbeats 4000000
namespace K01
open PySem PyProof.Rows L2 Dy
inductive Op where
  | an | or | im
  deriving DecidableEq
def Op.t : Op → Str
  | .an => "and"
  | .or => "or"
  | .im => "if"
inductive Sy where
  | no
  | lt (i : Fin 8)
  | nd (o : Op) (a b : Sy)
  deriving DecidableEq
def chr (i : Fin 8) : Str := ⟨#[97 + i.val]⟩
def toD : Sy → D
  | .no => .str "no"
  | .lt i => .str (chr i)
  | .nd o a b => .tuple [.str o.t, toD a, toD b]
@[simp] theorem toD_no : toD .no = .str "no" := rfl
@[simp] theorem toD_lt {i : Fin 8} : toD (.lt i) = .str (chr i) := rfl
@[simp] theorem toD_nd {o : Op} {a b : Sy} : toD (.nd o a b) = .tuple [.str o.t, toD a, toD b] := rfl
def dep : Sy → Nat
  | .nd _ a b => 1 + max (dep a) (dep b)
  | _ => 0
def siz : Sy → Nat
  | .nd _ a b => 1 + siz a + siz b
  | _ => 1
def shw : Sy → Str
  | .no => "no"
  | .lt i => chr i
  | .nd o a b => "(" ++ shw a ++ " " ++ o.t ++ " " ++ shw b ++ ")"
theorem chr_no : ∀ i : Fin 8, (chr i == ("no" : Str)) = false := by decide +kernel
theorem t_inj : ∀ o p : Op, (o.t == p.t) = decide (o = p) := by intro o p; cases o <;> cases p <;> decide +kernel
theorem chr_inj : ∀ i j : Fin 8, (chr i == chr j) = decide (i = j) := by decide +kernel
theorem eqv_toD : ∀ x y : Sy, PyData.eqv (toD x) (toD y) = decide (x = y)
  | .no, .no => by decide +kernel
  | .no, .lt j => by
    simp only [toD_no, toD_lt, PyData.eqv]
    rw [Bool.eq_iff_iff]
    have := chr_no j
    simp at this ⊢
    exact fun h => this h.symm
  | .no, .nd _ _ _ => rfl
  | .lt i, .no => by simp only [toD_no, toD_lt, PyData.eqv, chr_no]; rfl
  | .lt i, .lt j => by
    simp only [toD_lt, PyData.eqv, chr_inj]
    simp
  | .lt _, .nd _ _ _ => rfl
  | .nd _ _ _, .no => rfl
  | .nd _ _ _, .lt _ => rfl
  | .nd o a b, .nd p c d => by
    simp only [toD_nd, PyData.eqv, PyData.eqvAll, t_inj, eqv_toD a c, eqv_toD b d]
    rw [Bool.eq_iff_iff]
    simp
theorem ev_depth : ∀ (n : Nat) (y : Sy) (s : S), dep y < n → f_depth n [toD y] s = .ok (.sh (.int (dep y))) s
  | 0, _, _, h => absurd h (Nat.not_lt_zero _)
  | n + 1, .no, s, _ => by simp [f_depth, m_depth, dep]
  | n + 1, .lt i, s, _ => by simp [f_depth, m_depth, dep]
  | n + 1, .nd o a b, s, h => by
    have h : 1 + max (dep a) (dep b) < n + 1 := h
    simp [f_depth, m_depth, dep, ev_depth n a s (by omega), ev_depth n b s (by omega)]
    omega
theorem ev_size : ∀ (n : Nat) (y : Sy) (s : S), dep y < n → f_size n [toD y] s = .ok (.sh (.int (siz y))) s
  | 0, _, _, h => absurd h (Nat.not_lt_zero _)
  | n + 1, .no, s, _ => by simp [f_size, m_size, siz]
  | n + 1, .lt i, s, _ => by simp [f_size, m_size, siz]
  | n + 1, .nd o a b, s, h => by
    have h : 1 + max (dep a) (dep b) < n + 1 := h
    simp [f_size, m_size, siz, ev_size n a s (by omega), ev_size n b s (by omega)]
end K01

set_option Elab.async false
set_option linter.all false
set_option maxRecDepth 100000
set_option maxHeartbeats 4000000
namespace K01
open PySem PyProof.Rows L2 Dy
theorem deep_eq : ∀ n, f__law_deep n = f_depth n
  | 0 => rfl
  | n + 1 => by simp only [f__law_deep, f_depth, deep_eq n]; rfl
theorem lsize_eq : ∀ n, f__law_size n = f_size n
  | 0 => rfl
  | n + 1 => by simp only [f__law_size, f_size, lsize_eq n]; rfl
theorem siz_pos : ∀ y : Sy, 1 ≤ siz y
  | .no => Nat.le_refl _
  | .lt _ => Nat.le_refl _
  | .nd _ _ _ => by unfold siz; omega
theorem siz_lt : ∀ y : Sy, siz y < 2 ^ (dep y + 1)
  | .no => by decide
  | .lt _ => by show 1 < 2; decide
  | .nd o a b => by
    have ha := siz_lt a
    have hb := siz_lt b
    have h1 : 2 ^ (dep a + 1) ≤ 2 ^ (1 + max (dep a) (dep b)) := Nat.pow_le_pow_right (by decide) (by omega)
    have h2 : 2 ^ (dep b + 1) ≤ 2 ^ (1 + max (dep a) (dep b)) := Nat.pow_le_pow_right (by decide) (by omega)
    show 1 + siz a + siz b < 2 ^ ((1 + max (dep a) (dep b)) + 1)
    rw [Nat.pow_succ]
    omega
theorem op_len (o : Op) : o.t.length ≤ 3 := by cases o <;> decide
theorem shw_len : ∀ y : Sy, (shw y).length ≤ 8 * siz y
  | .no => by decide
  | .lt _ => by show 1 ≤ 8; decide
  | .nd o a b => by
    have ha := shw_len a
    have hb := shw_len b
    have ho := op_len o
    have e1 : (("(" : Str)).length = 1 := rfl
    have e2 : ((")" : Str)).length = 1 := rfl
    have e3 : ((" " : Str)).length = 1 := rfl
    show ("(" ++ shw a ++ " " ++ o.t ++ " " ++ shw b ++ ")" : Str).length ≤ 8 * (1 + siz a + siz b)
    simp only [len_app, e1, e2, e3]
    omega
theorem siz_le {y : Sy} (h : dep y ≤ 12) : siz y ≤ 8192 := by
  have h1 := siz_lt y
  have h2 : 2 ^ (dep y + 1) ≤ 2 ^ 13 := Nat.pow_le_pow_right (by decide) (by omega)
  omega
theorem shw_le {y : Sy} (h : dep y ≤ 12) : (shw y).length ≤ 65536 := by
  have h1 := shw_len y
  have h2 := siz_le h
  omega
theorem chr_ok : ∀ i : Fin 8, PyData.strOk (chr i) = true := by decide +kernel
theorem op_ok (o : Op) : PyData.strOk o.t = true := by cases o <;> decide +kernel
theorem shw_ok : ∀ y : Sy, PyData.strOk (shw y) = true
  | .no => by decide +kernel
  | .lt i => chr_ok i
  | .nd o a b => strOk_app (strOk_app (strOk_app (strOk_app (strOk_app (strOk_app (by decide +kernel) (shw_ok a)) (by decide +kernel)) (op_ok o)) (by decide +kernel)) (shw_ok b)) (by decide +kernel)
theorem ev_shown : ∀ (n : Nat) (y : Sy) (s : S), dep y < n → dep y ≤ 12 → f_shown n [toD y] s = .ok (.sh (.str (shw y))) s
  | 0, _, _, h, _ => absurd h (Nat.not_lt_zero _)
  | n + 1, .no, s, _, _ => by simp [f_shown, m_shown, shw]
  | n + 1, .lt i, s, _, _ => by simp [f_shown, m_shown, shw]
  | n + 1, .nd o a b, s, h, h2 => by
    have h : 1 + max (dep a) (dep b) < n + 1 := h
    have h2 : 1 + max (dep a) (dep b) ≤ 12 := h2
    have la := shw_le (y := a) (by omega)
    have lb := shw_le (y := b) (by omega)
    have lo := op_len o
    have e1 : (("(" : Str)).length = 1 := rfl
    have e2 : ((")" : Str)).length = 1 := rfl
    have e3 : ((" " : Str)).length = 1 := rfl
    have a1 : addD (.str "(") (.str (shw a)) = some (.str ("(" ++ shw a)) := add_str (by rw [e1]; omega)
    have a2 : addD (.str ("(" ++ shw a)) (.str " ") = some (.str ("(" ++ shw a ++ " ")) := add_str (by simp only [len_app, e1, e3]; omega)
    have a3 : addD (.str ("(" ++ shw a ++ " ")) (.str o.t) = some (.str ("(" ++ shw a ++ " " ++ o.t)) := add_str (by simp only [len_app, e1, e3]; omega)
    have a4 : addD (.str ("(" ++ shw a ++ " " ++ o.t)) (.str " ") = some (.str ("(" ++ shw a ++ " " ++ o.t ++ " ")) := add_str (by simp only [len_app, e1, e3]; omega)
    have a5 : addD (.str ("(" ++ shw a ++ " " ++ o.t ++ " ")) (.str (shw b)) = some (.str ("(" ++ shw a ++ " " ++ o.t ++ " " ++ shw b)) := add_str (by simp only [len_app, e1, e3]; omega)
    have a6 : addD (.str ("(" ++ shw a ++ " " ++ o.t ++ " " ++ shw b)) (.str ")") = some (.str ("(" ++ shw a ++ " " ++ o.t ++ " " ++ shw b ++ ")")) := add_str (by simp only [len_app, e1, e2, e3]; omega)
    simp [f_shown, m_shown, shw, ev_shown n a s (by omega) (by omega), ev_shown n b s (by omega) (by omega), a1, a2, a3, a4, a5, a6]
theorem ev_lshown : ∀ (n : Nat) (y : Sy) (s : S), dep y < n → dep y ≤ 12 → f__law_shown n [toD y] s = .ok (.sh (.str (shw y))) s
  | 0, _, _, h, _ => absurd h (Nat.not_lt_zero _)
  | n + 1, .no, s, _, _ => by simp [f__law_shown, m__law_shown, shw]
  | n + 1, .lt i, s, _, _ => by simp [f__law_shown, m__law_shown, shw]
  | n + 1, .nd o a b, s, h, h2 => by
    have h : 1 + max (dep a) (dep b) < n + 1 := h
    have h2 : 1 + max (dep a) (dep b) ≤ 12 := h2
    have la := shw_le (y := a) (by omega)
    have lb := shw_le (y := b) (by omega)
    have lo := op_len o
    have e1 : (("(" : Str)).length = 1 := rfl
    have e2 : ((")" : Str)).length = 1 := rfl
    have e3 : ((" " : Str)).length = 1 := rfl
    have a1 : addD (.str "(") (.str (shw a)) = some (.str ("(" ++ shw a)) := add_str (by rw [e1]; omega)
    have a2 : addD (.str ("(" ++ shw a)) (.str " ") = some (.str ("(" ++ shw a ++ " ")) := add_str (by simp only [len_app, e1, e3]; omega)
    have a3 : addD (.str ("(" ++ shw a ++ " ")) (.str o.t) = some (.str ("(" ++ shw a ++ " " ++ o.t)) := add_str (by simp only [len_app, e1, e3]; omega)
    have a4 : addD (.str ("(" ++ shw a ++ " " ++ o.t)) (.str " ") = some (.str ("(" ++ shw a ++ " " ++ o.t ++ " ")) := add_str (by simp only [len_app, e1, e3]; omega)
    have a5 : addD (.str ("(" ++ shw a ++ " " ++ o.t ++ " ")) (.str (shw b)) = some (.str ("(" ++ shw a ++ " " ++ o.t ++ " " ++ shw b)) := add_str (by simp only [len_app, e1, e3]; omega)
    have a6 : addD (.str ("(" ++ shw a ++ " " ++ o.t ++ " " ++ shw b)) (.str ")") = some (.str ("(" ++ shw a ++ " " ++ o.t ++ " " ++ shw b ++ ")")) := add_str (by simp only [len_app, e1, e2, e3]; omega)
    simp [f__law_shown, m__law_shown, shw, ev_lshown n a s (by omega) (by omega), ev_lshown n b s (by omega) (by omega), a1, a2, a3, a4, a5, a6]
/-! ### form -/
def frm (y : Sy) (l : Int) : Bool := match y with
  | .nd _ a b => decide (l < 8) && (frm a (l + 1) && frm b (l + 1))
  | _ => true
theorem is_letter_chr : ∀ (i : Fin 8) (s : S), f_is_letter [.str (chr i)] s = .ok (.sh (.bool true)) s := by
  intro i s
  have h1 : eqD (.int 1) (.int 1) = some (.bool true) := rfl
  have h2 : ∀ i : Fin 8, subS (chr i) "abcdefgh" = true := by decide +kernel
  have h3 : inD false (.str (chr i)) (.str "abcdefgh") = some (.bool true) := by
    show some (PyData.bool (subS (chr i) "abcdefgh")) = _
    rw [h2 i]
  have h4 : lenD (.str (chr i)) = some (.int 1) := by
    show (if decide ((chr i).length ≤ sizeLine) then some (PyData.int (chr i).length) else none) = _
    rw [if_pos (by rw [sizeLine_eq]; exact (rfl : decide (1 ≤ 16777216) = true))]
    rfl
  simp [f_is_letter, m_is_letter, h1, h3, h4]
theorem eq_no_no : eqD (.str "no") (.str "no") = some (.bool true) := by kernel_rfl
theorem eq_chr_no : ∀ i : Fin 8, eqD (.str (chr i)) (.str "no") = some (.bool false) := by
  intro i
  rw [eq_of_sh ((Sh.str (chr_ok i)).sh (by decide)) ((Sh.str (x := "no") (by decide +kernel)).sh (by decide))]
  show some (PyData.bool (chr i == ("no" : Str))) = _
  rw [chr_no]
theorem op_notin (o : Op) : inD true (.str o.t) (.tuple [.str "and", .str "or", .str "if"]) = some (.bool false) := by cases o <;> kernel_rfl
theorem ne33 : neD (.int 3) (.int 3) = some (.bool false) := by kernel_rfl
theorem ev_form : ∀ (n : Nat) (y : Sy) (l : Int) (s : S), dep y < n → f_has_form n [toD y, .int l] s = .ok (.sh (.bool (frm y l))) s
  | 0, _, _, _, h => absurd h (Nat.not_lt_zero _)
  | n + 1, .no, l, s, _ => by simp [f_has_form, m_has_form, frm, eq_no_no]
  | n + 1, .lt i, l, s, _ => by simp [f_has_form, m_has_form, frm, eq_chr_no, is_letter_chr]
  | n + 1, .nd o a b, l, s, h => by
    have h : 1 + max (dep a) (dep b) < n + 1 := h
    by_cases hl : l < 8
    · have h8 : ¬ (8 : Int) ≤ l := by omega
      simp [f_has_form, m_has_form, frm, hl, h8, ne33, op_notin, e_lcD1, ev_form n a (l + 1) s (by omega), ev_form n b (l + 1) s (by omega)]
    · have h8 : (8 : Int) ≤ l := by omega
      simp [f_has_form, m_has_form, frm, hl, h8]
theorem frm_iff : ∀ (y : Sy) (l : Int), frm y l = decide (dep y = 0 ∨ l + dep y ≤ 8)
  | .no, l => by simp [frm, dep]
  | .lt _, l => by simp [frm, dep]
  | .nd o a b, l => by
    have ha := frm_iff a (l + 1)
    have hb := frm_iff b (l + 1)
    have e : dep (.nd o a b) = 1 + max (dep a) (dep b) := rfl
    rw [e, Bool.eq_iff_iff]
    simp only [frm, ha, hb, Bool.and_eq_true, decide_eq_true_eq]
    omega
theorem ev_lis : ∀ (n : Nat) (y : Sy) (l : Int) (s : S), dep y < n → f__law_is n [toD y, .int l] s = .ok (.sh (.bool (frm y l))) s
  | 0, _, _, _, h => absurd h (Nat.not_lt_zero _)
  | n + 1, .no, l, s, _ => by
    have h1 : inD false (.str "no") (.tuple [.str "no", .str "a", .str "b", .str "c", .str "d", .str "e", .str "f", .str "g", .str "h"]) = some (.bool true) := by kernel_rfl
    have h2 : lenOk [PyData.str "no", .str "a", .str "b", .str "c", .str "d", .str "e", .str "f", .str "g", .str "h"] = true := lenOk_of (by simp)
    simp [f__law_is, m__law_is, frm, h1, h2]
  | n + 1, .lt i, l, s, _ => by
    have h1 : ∀ i : Fin 8, inD false (.str (chr i)) (.tuple [.str "no", .str "a", .str "b", .str "c", .str "d", .str "e", .str "f", .str "g", .str "h"]) = some (.bool true) := by
      intro i
      have hs : SeqAt.shaped (.tuple [.str "no", .str "a", .str "b", .str "c", .str "d", .str "e", .str "f", .str "g", .str "h"]) = true := by decide +kernel
      rw [in_t ((Sh.str (chr_ok i)).sh (by decide)) hs]
      have : ∀ i : Fin 8, ([("no" : Str), "a", "b", "c", "d", "e", "f", "g", "h"].any fun z => z == chr i) = true := by decide +kernel
      have h := this i
      simp only [List.any_cons, List.any_nil, PyData.eqv] at h ⊢
      rw [h]
    have h2 : lenOk [PyData.str "no", .str "a", .str "b", .str "c", .str "d", .str "e", .str "f", .str "g", .str "h"] = true := lenOk_of (by simp)
    simp [f__law_is, m__law_is, frm, h1, h2]
  | n + 1, .nd o a b, l, s, h => by
    have h : 1 + max (dep a) (dep b) < n + 1 := h
    by_cases hl : l < 8
    · have h8 : ¬ (7 : Int) < l := by omega
      have ea := ev_lis n a (l + 1) s (by omega)
      have eb := ev_lis n b (l + 1) s (by omega)
      cases ha : frm a (l + 1) <;> rw [ha] at ea <;> simp [f__law_is, m__law_is, frm, hl, h8, ne33, op_notin, ea, eb, ha]
    · have h8 : (7 : Int) < l := by omega
      simp [f__law_is, m__law_is, frm, hl, h8]
end K01

set_option Elab.async false
set_option linter.all false
set_option maxRecDepth 100000
set_option maxHeartbeats 4000000
namespace K01
open PySem PyProof.Rows L2 Dy
section
variable {α : Type} [DecidableEq α]
def add1 (acc : List α) (x : α) : List α := if x ∈ acc then acc else acc ++ [x]
def uni (acc xs : List α) : List α := xs.foldl add1 acc
theorem mem_add1 {acc : List α} {x z : α} : z ∈ add1 acc x ↔ z ∈ acc ∨ z = x := by
  unfold add1
  split
  · constructor
    · exact .inl
    · rintro (h | h)
      · exact h
      · subst h; assumption
  · simp
theorem mem_uni {xs : List α} : ∀ {acc : List α} {z : α}, z ∈ uni acc xs ↔ z ∈ acc ∨ z ∈ xs := by
  induction xs with
  | nil => intro acc z; simp [uni]
  | cons x xs ih =>
    intro acc z
    show z ∈ uni (add1 acc x) xs ↔ _
    rw [ih, mem_add1, List.mem_cons, or_assoc]
theorem nodup_add1 {acc : List α} {x : α} (h : acc.Nodup) : (add1 acc x).Nodup := by
  unfold add1
  split
  · exact h
  · rename_i hx
    refine List.nodup_append.mpr ⟨h, by simp, fun a ha b hb => ?_⟩
    rw [List.mem_singleton.mp hb]
    exact fun e => hx (e ▸ ha)
theorem nodup_uni {xs : List α} : ∀ {acc : List α}, acc.Nodup → (uni acc xs).Nodup := by
  induction xs with
  | nil => intro acc h; exact h
  | cons x xs ih => intro acc h; exact ih (nodup_add1 h)
theorem uni_cons {acc : List α} {x : α} {xs : List α} : uni acc (x :: xs) = uni (add1 acc x) xs := rfl
theorem uni_append {acc xs ys : List α} : uni acc (xs ++ ys) = uni (uni acc xs) ys := by unfold uni; rw [List.foldl_append]
theorem len_add1 {acc : List α} {x : α} : (add1 acc x).length ≤ acc.length + 1 := by
  unfold add1
  split
  · omega
  · simp
theorem len_uni {xs : List α} : ∀ {acc : List α}, (uni acc xs).length ≤ acc.length + xs.length := by
  induction xs with
  | nil => intro acc; simp [uni]
  | cons x xs ih =>
    intro acc
    have h1 := ih (acc := add1 acc x)
    have h2 := len_add1 (acc := acc) (x := x)
    rw [uni_cons, List.length_cons]
    omega
theorem uni_filter' {xs : List α} : ∀ {acc : List α}, xs.Nodup → uni acc xs = acc ++ xs.filter fun x => decide (x ∉ acc) := by
  induction xs with
  | nil => intro acc _; simp [uni]
  | cons x xs ih =>
    intro acc h
    have hx := (List.nodup_cons.mp h).1
    have hn := (List.nodup_cons.mp h).2
    rw [uni_cons, ih hn]
    by_cases hm : x ∈ acc
    · simp [add1, hm]
    · have e : (xs.filter fun z => decide (z ∉ acc ++ [x])) = xs.filter fun z => decide (z ∉ acc) := by
        refine List.filter_congr fun z hz => ?_
        have : z ≠ x := fun e => hx (e ▸ hz)
        simp [this]
      simp only [add1, hm, if_false, e]
      simp [hm]
theorem uni_filter {xs acc : List α} (h : xs.Nodup) : uni acc xs = acc ++ xs.filter fun x => !decide (x ∈ acc) := by
  rw [uni_filter' h]
  congr 1
  exact List.filter_congr fun x _ => by simp
end
def prt : Sy → List Sy
  | .nd o a b => uni (prt a) (prt b ++ [.nd o a b])
  | y => [y]
theorem prt_nodup : ∀ y : Sy, (prt y).Nodup
  | .no => by simp [prt]
  | .lt _ => by simp [prt]
  | .nd o a b => nodup_uni (prt_nodup a)
theorem prt_len : ∀ y : Sy, (prt y).length ≤ siz y
  | .no => by decide
  | .lt _ => by show 1 ≤ 1; decide
  | .nd o a b => by
    have h := len_uni (acc := prt a) (xs := prt b ++ [.nd o a b])
    have ha := prt_len a
    have hb := prt_len b
    rw [List.length_append] at h
    show (uni (prt a) (prt b ++ [.nd o a b])).length ≤ 1 + siz a + siz b
    simp only [List.length_cons, List.length_nil] at h
    omega
theorem prt_dep : ∀ y : Sy, ∀ z ∈ prt y, dep z ≤ dep y
  | .no => by simp [prt]
  | .lt _ => by simp [prt]
  | .nd o a b => by
    intro z hz
    have ha := prt_dep a
    have hb := prt_dep b
    have hz : z ∈ uni (prt a) (prt b ++ [.nd o a b]) := hz
    show dep z ≤ 1 + max (dep a) (dep b)
    rw [mem_uni, List.mem_append, List.mem_singleton] at hz
    rcases hz with h | h | h
    · have := ha z h; omega
    · have := hb z h; omega
    · rw [h]; exact Nat.le_refl _
theorem sh_toD : ∀ y : Sy, Sh (dep y) (toD y)
  | .no => Sh.str (by decide +kernel)
  | .lt i => Sh.str (chr_ok i)
  | .nd o a b => by
    have ha := sh_toD a
    have hb := sh_toD b
    refine (Sh.tup (n := max (dep a) (dep b)) fun d hd => ?_).mono (by show _ ≤ 1 + max (dep a) (dep b); omega)
    simp only [List.mem_cons, List.not_mem_nil, or_false] at hd
    rcases hd with rfl | rfl | rfl
    · exact (Sh.str (op_ok o)).mono (Nat.zero_le _)
    · exact ha.mono (by omega)
    · exact hb.mono (by omega)
theorem shd_toD {y : Sy} (h : dep y ≤ 60) : SeqAt.shaped (toD y) = true := (sh_toD y).sh (by omega)
theorem sh_list {l : List Sy} {n : Nat} (h : ∀ y ∈ l, dep y ≤ n) : Sh (n + 1) (.list (l.map toD)) := Sh.list fun d hd => by
  obtain ⟨y, hy, rfl⟩ := List.mem_map.mp hd
  exact (sh_toD y).mono (h y hy)
theorem any_toD (x : Sy) (l : List Sy) : ((l.map toD).any fun z => PyData.eqv z (toD x)) = decide (x ∈ l) := by
  rw [Bool.eq_iff_iff, List.any_eq_true, decide_eq_true_eq]
  constructor
  · rintro ⟨d, hd, h⟩
    obtain ⟨y, hy, rfl⟩ := List.mem_map.mp hd
    rw [eqv_toD, decide_eq_true_eq] at h
    rw [← h]; exact hy
  · intro h
    exact ⟨toD x, List.mem_map.mpr ⟨x, h, rfl⟩, by rw [eqv_toD]; simp⟩
theorem ni_toD {x : Sy} {l : List Sy} (hx : dep x ≤ 60) (hl : ∀ y ∈ l, dep y ≤ 60) : inD true (toD x) (.list (l.map toD)) = some (.bool (!decide (x ∈ l))) := by
  rw [ni_l (shd_toD hx) ((sh_list hl).sh (by decide)), any_toD]
theorem in_toD {x : Sy} {l : List Sy} (hx : dep x ≤ 60) (hl : ∀ y ∈ l, dep y ≤ 60) : inD false (toD x) (.list (l.map toD)) = some (.bool (decide (x ∈ l))) := by
  rw [in_l (shd_toD hx) ((sh_list hl).sh (by decide)), any_toD]
/-- the loop that takes up what is new -/
theorem step_uni {r0 : Ent} {s : S} {acc : List Sy} {x : Sy} (ha : ∀ y ∈ acc, dep y ≤ 60) (hx : dep x ≤ 60) (hl : acc.length ≤ 1000000) :
    (ifS (tstM (binD (inD true) (vB 2) (vB 1))) (appS 1 (vS 2)) skipS) [r0, .pr (.list (acc.map toD)), .sh (toD x)] s = .nx [r0, .pr (.list ((add1 acc x).map toD)), .sh (toD x)] s := by
  have hz : lsz (acc.map toD) = true := lsz_of (by rw [List.length_map]; omega)
  by_cases hm : x ∈ acc
  · simp [ni_toD hx ha, hm, add1]
  · simp [ni_toD hx ha, hm, hz, add1]
theorem loop_uni {r0 : Ent} {s : S} : ∀ (xs acc : List Sy) (e : Ent), (∀ y ∈ acc ++ xs, dep y ≤ 60) → acc.length + xs.length ≤ 1000000 →
    ∃ e', loopD (nmT 2) (ifS (tstM (binD (inD true) (vB 2) (vB 1))) (appS 1 (vS 2)) skipS) (xs.map toD) [r0, .pr (.list (acc.map toD)), e] s = .nx [r0, .pr (.list ((uni acc xs).map toD)), e'] s
  | [], acc, e, _, _ => ⟨e, rfl⟩
  | x :: xs, acc, e, h, hl => by
    rw [List.length_cons] at hl
    have hx : dep x ≤ 60 := h x (by simp)
    have ha : ∀ y ∈ acc, dep y ≤ 60 := fun y hy => h y (by simp [hy])
    have hl1 := len_add1 (acc := acc) (x := x)
    obtain ⟨e', ih⟩ := loop_uni (r0 := r0) (s := s) xs (add1 acc x) (.sh (toD x)) (fun y hy => by
      rcases List.mem_append.mp hy with q | q
      · rcases mem_add1.mp q with q | q
        · exact ha y q
        · rw [q]; exact hx
      · exact h y (by simp [q])) (by omega)
    refine ⟨e', ?_⟩
    rw [List.map_cons, e_loop1]
    show (match (ifS (tstM (binD (inD true) (vB 2) (vB 1))) (appS 1 (vS 2)) skipS) [r0, .pr (.list (acc.map toD)), .sh (toD x)] s with
      | .nx ρ2 s2 => loopD (nmT 2) (ifS (tstM (binD (inD true) (vB 2) (vB 1))) (appS 1 (vS 2)) skipS) (xs.map toD) ρ2 s2
      | .ct ρ2 s2 => loopD (nmT 2) (ifS (tstM (binD (inD true) (vB 2) (vB 1))) (appS 1 (vS 2)) skipS) (xs.map toD) ρ2 s2
      | .bk ρ2 s2 => .nx ρ2 s2
      | r => r) = _
    rw [step_uni ha hx (by omega)]
    exact ih
theorem ev_parts : ∀ (n : Nat) (y : Sy) (s : S), dep y < n → dep y ≤ 12 → f_parts n [toD y] s = .ok (.pr (.list ((prt y).map toD))) s
  | 0, _, _, h, _ => absurd h (Nat.not_lt_zero _)
  | n + 1, .no, s, _, _ => by simp [f_parts, m_parts, prt]
  | n + 1, .lt i, s, _, _ => by simp [f_parts, m_parts, prt]
  | n + 1, .nd o a b, s, h, h2 => by
    have h : 1 + max (dep a) (dep b) < n + 1 := h
    have h2 : 1 + max (dep a) (dep b) ≤ 12 := h2
    have la := prt_len a
    have lb := prt_len b
    have sa := siz_le (y := a) (by omega)
    have sb := siz_le (y := b) (by omega)
    obtain ⟨e', hl⟩ := loop_uni (r0 := .sh (toD (.nd o a b))) (s := s) (prt b ++ [.nd o a b]) (prt a) .un (fun z hz => by
      rw [List.mem_append, List.mem_append, List.mem_singleton] at hz
      rcases hz with q | q | q
      · have := prt_dep a z q; omega
      · have := prt_dep b z q; omega
      · rw [q]; show 1 + max (dep a) (dep b) ≤ 60; omega) (by rw [List.length_append]; simp; omega)
    rw [List.map_append] at hl
    have ad : addD (.list ((prt b).map toD)) (.list [toD (.nd o a b)]) = some (.list ((prt b).map toD ++ [toD (.nd o a b)])) := add_list (by rw [List.length_map]; simp; omega)
    simp only [toD_nd, List.map_cons, List.map_nil] at hl ad
    show fnM 1 3 (m_parts (f_parts n)) [toD (.nd o a b)] s = _
    unfold m_parts
    generalize ifS (tstM (binD (inD true) (vB 2) (vB 1))) (appS 1 (vS 2)) skipS = B at hl ⊢
    simp [prt, ev_parts n a s (by omega) (by omega), ev_parts n b s (by omega) (by omega), ad, hl]
end K01

set_option Elab.async false
set_option linter.all false
set_option maxRecDepth 100000
set_option maxHeartbeats 4000000
namespace K01
open PySem PyProof.Rows L2 Dy
open PySem.W (alike keyToks)
theorem ev_lparts : ∀ (n : Nat) (y : Sy) (s : S), dep y < n → dep y ≤ 12 → f__law_parts n [toD y] s = .ok (.sh (.list ((prt y).map toD))) s
  | 0, _, _, h, _ => absurd h (Nat.not_lt_zero _)
  | n + 1, .no, s, _, _ => by simp [f__law_parts, m__law_parts, prt]
  | n + 1, .lt i, s, _, _ => by simp [f__law_parts, m__law_parts, prt]
  | n + 1, .nd o a b, s, h, h2 => by
    have h : 1 + max (dep a) (dep b) < n + 1 := h
    have h2 : 1 + max (dep a) (dep b) ≤ 12 := h2
    have la := prt_len a
    have lb := prt_len b
    have sa := siz_le (y := a) (by omega)
    have sb := siz_le (y := b) (by omega)
    have da : ∀ z ∈ prt a, dep z ≤ 60 := fun z q => by have := prt_dep a z q; omega
    have hl := lc_typed (T := nmT 2) (tt := tstM (binD (inD true) (vB 2) (vB 1))) (te := vS 2) (ρ := [.sh (toD (.nd o a b)), .sh (.list ((prt a).map toD)), .un]) (s := s) toD (fun x => !decide (x ∈ prt a)) toD (prt b) [] (fun x hx => by
      have hx2 : dep x ≤ 60 := by have := prt_dep b x hx; omega
      exact ⟨_, rfl, by simp [ni_toD hx2 da], fun _ => by simp⟩) (by simp; omega)
    have e1 : uni (prt a) (prt b) = prt a ++ (prt b).filter fun x => !decide (x ∈ prt a) := uni_filter (prt_nodup b)
    have e2 : prt (.nd o a b) = add1 (uni (prt a) (prt b)) (.nd o a b) := by
      show uni (prt a) (prt b ++ [.nd o a b]) = _
      rw [uni_append]; rfl
    have lf := List.length_filter_le (fun x => !decide (x ∈ prt a)) (prt b)
    have ad : addD (.list ((prt a).map toD)) (.list (((prt b).filter fun x => !decide (x ∈ prt a)).map toD)) = some (.list ((uni (prt a) (prt b)).map toD)) := by
      rw [e1, List.map_append]
      exact add_list (by rw [List.length_map, List.length_map]; omega)
    have lu := len_uni (acc := prt a) (xs := prt b)
    have du : ∀ z ∈ uni (prt a) (prt b), dep z ≤ 60 := fun z q => by
      rcases mem_uni.mp q with q | q
      · exact da z q
      · have := prt_dep b z q; omega
    have hi := in_toD (x := .nd o a b) (l := uni (prt a) (prt b)) (by show 1 + max (dep a) (dep b) ≤ 60; omega) du
    have ad2 : addD (.list ((uni (prt a) (prt b)).map toD)) (.list [toD (.nd o a b)]) = some (.list ((uni (prt a) (prt b)).map toD ++ [toD (.nd o a b)])) := add_list (by rw [List.length_map]; simp; omega)
    show fnM 1 3 (m__law_parts (f__law_parts n)) [toD (.nd o a b)] s = _
    unfold m__law_parts
    generalize tstM (binD (inD true) (vB 2) (vB 1)) = B at hl ⊢
    rw [e2]
    simp only [toD_nd] at hl hi ad2
    by_cases hm : Sy.nd o a b ∈ uni (prt a) (prt b)
    · simp [ev_lparts n a s (by omega) (by omega), ev_lparts n b s (by omega) (by omega), hl, ad, hi, hm, add1]
    · simp [ev_lparts n a s (by omega) (by omega), ev_lparts n b s (by omega) (by omega), hl, ad, hi, hm, add1, ad2]
/-! ### letters -/
def has : Sy → Fin 8 → Bool
  | .no, _ => false
  | .lt i, j => decide (i = j)
  | .nd _ a b, j => has a j || has b j
def lts (y : Sy) : List (Fin 8) := (List.finRange 8).filter (has y)
def cD8 (i : Fin 8) : D := .str (chr i)
theorem mem_lts {y : Sy} {i : Fin 8} : i ∈ lts y ↔ has y i = true := by
  unfold lts
  rw [List.mem_filter]
  simp [List.mem_finRange]
theorem le_chr : ∀ i j : Fin 8, i ≤ j → leS (cD8 i) (cD8 j) = true := by decide +kernel
theorem tok_chr : ∀ i j : Fin 8, keyToks (cD8 i) = keyToks (cD8 j) → i = j := by decide +kernel
theorem fin_sorted : (List.finRange 8).Pairwise (· ≤ ·) := by decide +kernel
theorem fin_nodup : (List.finRange 8).Nodup := by decide +kernel
theorem cD8_inj {i j : Fin 8} (h : cD8 i = cD8 j) : i = j := tok_chr i j (by rw [h])
/-- sorted letters are in the letters' order -/
theorem sort_chr {p : Fin 8 → Bool} {l : List (Fin 8)} (hn : l.Nodup) (hm : ∀ i, i ∈ l ↔ p i = true) : sortL (l.map cD8) = ((List.finRange 8).filter p).map cD8 := by
  refine (sortL_unique (as := ((List.finRange 8).filter p).map cD8) (((List.perm_ext_iff_of_nodup (fin_nodup.filter _) hn).mpr fun i => ?_).map cD8) ?_ ?_).symm
  · rw [List.mem_filter, hm]; simp [List.mem_finRange]
  · refine List.pairwise_map.mpr ((fin_sorted.filter _).imp fun h => le_chr _ _ h)
  · intro a ha b hb h
    obtain ⟨i, _, rfl⟩ := List.mem_map.mp ha
    obtain ⟨j, _, rfl⟩ := List.mem_map.mp hb
    rw [tok_chr i j h]
theorem once_map {l : List (Fin 8)} : ∃ k : List (Fin 8), once (l.map chr) = k.map chr ∧ k.Nodup ∧ ∀ i, i ∈ k ↔ i ∈ l := by
  have ci : ∀ i j, chr i = chr j → i = j := fun i j h => by
    have := chr_inj i j
    rw [h] at this
    simpa using this.symm
  have key : ∀ (l acc : List (Fin 8)), acc.Nodup → ∃ k : List (Fin 8), (l.map chr).foldl (fun acc k => if k ∈ acc then acc else acc ++ [k]) (acc.map chr) = k.map chr ∧ k.Nodup ∧ ∀ i, i ∈ k ↔ i ∈ acc ∨ i ∈ l := by
    intro l
    induction l with
    | nil => intro acc h; exact ⟨acc, rfl, h, by simp⟩
    | cons x l ih =>
      intro acc h
      have e : (if chr x ∈ acc.map chr then acc.map chr else acc.map chr ++ [chr x]) = (add1 acc x).map chr := by
        have hm : chr x ∈ acc.map chr ↔ x ∈ acc := by
          rw [List.mem_map]
          constructor
          · rintro ⟨z, hz, e⟩; rw [← ci _ _ e]; exact hz
          · intro h; exact ⟨x, h, rfl⟩
        unfold add1
        by_cases hx : x ∈ acc
        · rw [if_pos hx, if_pos (hm.mpr hx)]
        · rw [if_neg hx, if_neg fun z => hx (hm.mp z), List.map_append]; rfl
      obtain ⟨k, k1, k2, k3⟩ := ih (add1 acc x) (nodup_add1 h)
      refine ⟨k, ?_, k2, fun i => ?_⟩
      · rw [List.map_cons, List.foldl_cons, e]; exact k1
      · rw [k3, mem_add1, List.mem_cons, or_assoc]
  obtain ⟨k, k1, k2, k3⟩ := key l [] .nil
  exact ⟨k, k1, k2, fun i => by rw [k3]; simp⟩
theorem sortSet_chr {l : List (Fin 8)} {p : Fin 8 → Bool} (hl : l.length ≤ 4000) (hm : ∀ i, i ∈ l ↔ p i = true) : sortSetL (l.map cD8) = some (.list (((List.finRange 8).filter p).map cD8)) := by
  obtain ⟨k, k1, k2, k3⟩ := once_map (l := l)
  unfold sortSetL
  rw [if_pos (decide_eq_true (by rw [List.length_map]; exact hl)), show strsOf (l.map cD8) = some (l.map chr) from strsOf_map chr l]
  simp only [k1]
  have e : (k.map chr).map PyData.str = k.map cD8 := by rw [List.map_map]; rfl
  rw [e, sort_chr k2 fun i => (k3 i).trans (hm i)]
theorem lts_len (y : Sy) : (lts y).length ≤ 8 := by
  have := List.length_filter_le (has y) (List.finRange 8)
  rw [List.length_finRange] at this
  exact this
theorem ev_letters : ∀ (n : Nat) (y : Sy) (s : S), dep y < n → f_letters n [toD y] s = .ok (.sh (.tuple ((lts y).map cD8))) s
  | 0, _, _, h => absurd h (Nat.not_lt_zero _)
  | n + 1, .no, s, _ => by
    have e : lts .no = [] := List.filter_eq_nil_iff.mpr fun _ _ => by simp [has]
    simp [f_letters, m_letters, eq_no_no, e]
  | n + 1, .lt i, s, _ => by
    have e : ∀ i : Fin 8, lts (.lt i) = [i] := by decide +kernel
    simp [f_letters, m_letters, eq_chr_no, e, cD8]
  | n + 1, .nd o a b, s, h => by
    have h : 1 + max (dep a) (dep b) < n + 1 := h
    have la := lts_len a
    have lb := lts_len b
    have ad : addD (.tuple ((lts a).map cD8)) (.tuple ((lts b).map cD8)) = some (.tuple ((lts a ++ lts b).map cD8)) := by
      rw [List.map_append]
      exact add_tup (by rw [List.length_map, List.length_map]; omega)
    have ss : sortSetD (.tuple ((lts a ++ lts b).map cD8)) = some (.list ((lts (.nd o a b)).map cD8)) :=
      sortSet_chr (p := has (.nd o a b)) (by rw [List.length_append]; omega) fun i => by rw [List.mem_append, mem_lts, mem_lts]; simp [has]
    simp [f_letters, m_letters, ev_letters n a s (by omega), ev_letters n b s (by omega), ad, ss, -List.map_append]
end K01

set_option Elab.async false
set_option linter.all false
set_option maxRecDepth 100000
set_option maxHeartbeats 4000000
namespace K01
open PySem PyProof.Rows L2 Dy
open PySem.W (alike keyToks)
def isL : Sy → Bool
  | .lt _ => true
  | _ => false
def let? : Sy → Option (Fin 8)
  | .lt i => some i
  | _ => none
theorem filter_let : ∀ l : List Sy, (l.filter isL).map toD = (l.filterMap let?).map cD8
  | [] => rfl
  | .no :: l => by simp only [List.filter_cons, List.filterMap_cons, isL, let?]; exact filter_let l
  | .lt i :: l => by simp only [List.filter_cons, List.filterMap_cons, isL, let?, if_true, List.map_cons]; rw [filter_let l]; rfl
  | .nd _ _ _ :: l => by simp only [List.filter_cons, List.filterMap_cons, isL, let?]; exact filter_let l
theorem mem_let {l : List Sy} {i : Fin 8} : i ∈ l.filterMap let? ↔ Sy.lt i ∈ l := by
  rw [List.mem_filterMap]
  constructor
  · rintro ⟨y, hy, h⟩
    cases y <;> first | (cases h; done) | (cases h; exact hy)
  · intro h; exact ⟨_, h, rfl⟩
theorem nodup_let : ∀ {l : List Sy}, l.Nodup → (l.filterMap let?).Nodup
  | [], _ => .nil
  | y :: l, h => by
    have h1 := (List.nodup_cons.mp h).1
    have h2 := nodup_let (List.nodup_cons.mp h).2
    cases y with
    | lt i =>
      simp only [List.filterMap_cons, let?]
      exact List.nodup_cons.mpr ⟨fun z => h1 (mem_let.mp z), h2⟩
    | no => simpa only [List.filterMap_cons, let?] using h2
    | nd o a b => simpa only [List.filterMap_cons, let?] using h2
theorem lt_prt : ∀ (y : Sy) (i : Fin 8), Sy.lt i ∈ prt y ↔ has y i = true
  | .no, i => by simp [prt, has]
  | .lt j, i => by simp [prt, has, eq_comm]
  | .nd o a b, i => by
    show Sy.lt i ∈ uni (prt a) (prt b ++ [.nd o a b]) ↔ _
    rw [mem_uni, List.mem_append, lt_prt a, lt_prt b]
    simp [has]
theorem sh_c (i : Fin 8) : Sh 0 (cD8 i) := Sh.str (chr_ok i)
theorem shc (i : Fin 8) : SeqAt.shaped (cD8 i) = true := (sh_c i).sh (by decide)
theorem sh_cl (l : List (Fin 8)) : Sh 1 (.tuple (l.map cD8)) := Sh.tup fun d hd => by
  obtain ⟨i, _, rfl⟩ := List.mem_map.mp hd
  exact sh_c i
theorem sh_cll (l : List (Fin 8)) : Sh 1 (.list (l.map cD8)) := Sh.list fun d hd => by
  obtain ⟨i, _, rfl⟩ := List.mem_map.mp hd
  exact sh_c i
theorem sortD_chr {l : List (Fin 8)} (hl : l.length ≤ 1000000) : sortD (.list (l.map cD8)) = some (.list (sortL (l.map cD8))) := by
  have h1 : alikeB (l.map cD8) = true := by
    unfold alikeB
    rw [List.all_eq_true]
    intro x hx
    rw [List.all_eq_true]
    intro y hy
    obtain ⟨i, _, rfl⟩ := List.mem_map.mp hx
    obtain ⟨j, _, rfl⟩ := List.mem_map.mp hy
    rfl
  have h2 : sortableB (l.map cD8) = true := by
    unfold sortableB
    rw [Bool.or_eq_true]
    right
    rw [List.all_eq_true]
    intro x hx
    obtain ⟨i, _, rfl⟩ := List.mem_map.mp hx
    rfl
  have h3 : depthB (l.map cD8) = true := by
    unfold depthB
    rw [List.all_eq_true]
    intro x hx
    obtain ⟨i, _, rfl⟩ := List.mem_map.mp hx
    exact decide_eq_true (Nat.le_trans (sh_c i).2 (by decide))
  have h4 : lenOk (l.map cD8) = true := lenOk_of (by rw [List.length_map]; omega)
  have h5 : (l.map cD8).all SeqAt.shaped = true := by
    rw [List.all_eq_true]
    intro x hx
    obtain ⟨i, _, rfl⟩ := List.mem_map.mp hx
    exact shc i
  show (if sortOkB (l.map cD8) then some (PyData.list (sortL (l.map cD8))) else none) = _
  unfold sortOkB
  rw [h1, h2, h3, h4, h5]
  rfl
theorem ne_no (y : Sy) : neD (toD y) (.str "no") = if dep y ≤ 60 then some (.bool (!decide (y = .no))) else neD (toD y) (.str "no") := by
  by_cases h : dep y ≤ 60
  · rw [if_pos h, show (PyData.str "no") = toD .no from rfl, ne_of_sh (shd_toD h) (shd_toD (by decide)), eqv_toD]
  · rw [if_neg h]
theorem isi_toD (y : Sy) : isiD "str" (toD y) = some (.bool (match y with | .nd _ _ _ => false | _ => true)) := by cases y <;> rfl
theorem ev_lletters (y : Sy) (s : S) (h : dep y ≤ 12) : f__law_letters [toD y] s = .ok (.sh (.list ((lts y).map cD8))) s := by
  have hl := lc_typed (T := nmT 1) (tt := andT (tstM (call1 (isiD "str") (vB 1))) (tstM (binD (neD) (vB 1) (retM (.str "no"))))) (te := vS 1) (ρ := [.sh (toD y), .un]) (s := s) toD isL toD (prt y) [] (fun x hx => by
      have hx2 : dep x ≤ 60 := by have := prt_dep y x hx; omega
      refine ⟨_, rfl, ?_, fun _ => by simp⟩
      have e := ne_no x
      rw [if_pos hx2] at e
      cases x <;> simp at e <;> simp [isL, e]) (by have := prt_len y; have := siz_le h; simp; omega)
  rw [filter_let] at hl
  have lf : ((prt y).filterMap let?).length ≤ 1000000 := by
    have h1 := prt_len y
    have h2 := siz_le h
    have h3 := List.length_filterMap_le let? (prt y)
    omega
  have hs := sortD_chr lf
  rw [sort_chr (p := has y) (nodup_let (prt_nodup y)) (fun i => mem_let.trans (lt_prt y i))] at hs
  have ep := ev_lparts FU y s (Nat.lt_of_le_of_lt h (by decide)) h
  show fnM 1 2 m__law_letters [toD y] s = _
  unfold m__law_letters
  generalize (andT (tstM (call1 (isiD "str") (vB 1))) (tstM (binD (neD) (vB 1) (retM (.str "no"))))) = B at hl ⊢
  simp [ep, hl, hs, lts]
theorem ev_key (y : Sy) (s : S) (h : dep y ≤ 12) : f_key [toD y] s = .ok (.sh (.tuple [.int (siz y), .str (shw y)])) s := by
  simp [f_key, m_key, ev_size FU y s (Nat.lt_of_le_of_lt h (by decide)), ev_shown FU y s (Nat.lt_of_le_of_lt h (by decide)) h]
/-! ### values -/
def pv (lot : List (Fin 8)) : Sy → Bool
  | .no => false
  | .lt i => decide (i ∈ lot)
  | .nd .an a b => pv lot a && pv lot b
  | .nd .or a b => pv lot a || pv lot b
  | .nd .im a b => !pv lot a || pv lot b
theorem eqv_c (i j : Fin 8) : PyData.eqv (cD8 i) (cD8 j) = decide (i = j) := chr_inj i j
theorem in_c (i : Fin 8) (l : List (Fin 8)) : inD false (cD8 i) (.tuple (l.map cD8)) = some (.bool (decide (i ∈ l))) := by
  rw [in_t (shc i) ((sh_cl l).sh (by decide))]
  congr 2
  rw [Bool.eq_iff_iff, List.any_eq_true, decide_eq_true_eq]
  constructor
  · rintro ⟨d, hd, h⟩
    obtain ⟨j, hj, rfl⟩ := List.mem_map.mp hd
    rw [eqv_c, decide_eq_true_eq] at h
    rw [← h]; exact hj
  · intro h
    exact ⟨cD8 i, List.mem_map.mpr ⟨i, h, rfl⟩, by rw [eqv_c]; simp⟩
theorem in_no (l : List (Fin 8)) : inD false (.str "no") (.tuple (l.map cD8)) = some (.bool false) := by
  rw [in_t ((Sh.str (x := "no") (by decide +kernel)).sh (by decide)) ((sh_cl l).sh (by decide))]
  congr 2
  rw [List.any_eq_false]
  intro d hd
  obtain ⟨j, hj, rfl⟩ := List.mem_map.mp hd
  show ¬ (chr j == ("no" : Str)) = true
  rw [chr_no]; simp
theorem in_c' (i : Fin 8) (l : List (Fin 8)) : inD false (.str (chr i)) (.tuple (l.map cD8)) = some (.bool (decide (i ∈ l))) := in_c i l
theorem eq_op (o p : Op) : eqD (.str o.t) (.str p.t) = some (.bool (decide (o = p))) := by
  rw [eq_of_sh ((Sh.str (op_ok o)).sh (by decide)) ((Sh.str (op_ok p)).sh (by decide))]
  show some (PyData.bool (o.t == p.t)) = _
  rw [t_inj]
theorem eq_and (o : Op) : eqD (.str o.t) (.str "and") = some (.bool (decide (o = .an))) := eq_op o .an
theorem eq_or (o : Op) : eqD (.str o.t) (.str "or") = some (.bool (decide (o = .or))) := eq_op o .or
theorem eq_if (o : Op) : eqD (.str o.t) (.str "if") = some (.bool (decide (o = .im))) := eq_op o .im
theorem ev_plain : ∀ (n : Nat) (y : Sy) (lot : List (Fin 8)) (s : S), dep y < n → f_plain_value n [toD y, .tuple (lot.map cD8)] s = .ok (.sh (.bool (pv lot y))) s
  | 0, _, _, _, h => absurd h (Nat.not_lt_zero _)
  | n + 1, .no, lot, s, _ => by simp [f_plain_value, m_plain_value, pv, in_no]
  | n + 1, .lt i, lot, s, _ => by simp [f_plain_value, m_plain_value, pv, in_c']
  | n + 1, .nd o a b, lot, s, h => by
    have h : 1 + max (dep a) (dep b) < n + 1 := h
    have ea := ev_plain n a lot s (by omega)
    have eb := ev_plain n b lot s (by omega)
    cases o <;> cases ha : pv lot a <;> rw [ha] at ea <;> simp [f_plain_value, m_plain_value, pv, ea, eb, ha, eq_and, eq_or]
theorem ev_lplain : ∀ (n : Nat) (y : Sy) (lot : List (Fin 8)) (s : S), dep y < n → f__law_plain n [toD y, .tuple (lot.map cD8)] s = .ok (.sh (.bool (pv lot y))) s
  | 0, _, _, _, h => absurd h (Nat.not_lt_zero _)
  | n + 1, .no, lot, s, _ => by simp [f__law_plain, m__law_plain, pv, in_no]
  | n + 1, .lt i, lot, s, _ => by simp [f__law_plain, m__law_plain, pv, in_c']
  | n + 1, .nd o a b, lot, s, h => by
    have h : 1 + max (dep a) (dep b) < n + 1 := h
    have ea := ev_lplain n a lot s (by omega)
    have eb := ev_lplain n b lot s (by omega)
    cases o <;> cases ha : pv lot a <;> rw [ha] at ea <;> cases hb : pv lot b <;> rw [hb] at eb <;> simp [f__law_plain, m__law_plain, pv, ea, eb, ha, hb, eq_and, eq_or]
/-! ### settings -/
def stg (l : List (Fin 8)) (acc : List (List (Fin 8))) : List (List (Fin 8)) := l.foldl (fun acc i => acc ++ acc.map (· ++ [i])) acc
def encL (l : List (Fin 8)) : D := .tuple (l.map cD8)
theorem stg_len : ∀ (l : List (Fin 8)) (acc : List (List (Fin 8))), (stg l acc).length = 2 ^ l.length * acc.length
  | [], acc => by simp [stg]
  | i :: l, acc => by
    show (stg l (acc ++ acc.map (· ++ [i]))).length = _
    rw [stg_len l, List.length_append, List.length_map, List.length_cons, Nat.pow_succ]
    rw [Nat.mul_assoc, Nat.two_mul]
theorem stg_short : ∀ (l : List (Fin 8)) (acc : List (List (Fin 8))) (m : Nat), (∀ x ∈ acc, x.length ≤ m) → ∀ x ∈ stg l acc, x.length ≤ m + l.length
  | [], acc, m, h => by simpa [stg] using h
  | i :: l, acc, m, h => by
    intro x hx
    have := stg_short l (acc ++ acc.map (· ++ [i])) (m + 1) (fun z hz => by
      rcases List.mem_append.mp hz with q | q
      · have := h z q; omega
      · obtain ⟨w, hw, rfl⟩ := List.mem_map.mp q
        have := h w hw
        rw [List.length_append]; simp; omega) x hx
    rw [List.length_cons]; omega
theorem step_settings {r0 : Ent} {s : S} {acc : List (List (Fin 8))} {i : Fin 8} {e : Ent} (ha : ∀ x ∈ acc, x.length ≤ 100) (hl : acc.length ≤ 1000000) :
    (setS 1 (binD addD (vB 1) (lcM (itM (vS 1)) [3] (nmT 3) (retM true) (binD addD (vB 3) (tupM (consM (vS 2) (retM []))))))) [r0, .sh (.list (acc.map encL)), .sh (cD8 i), e] s = .nx [r0, .sh (.list ((acc ++ acc.map (· ++ [i])).map encL)), .sh (cD8 i), e] s := by
  have hc := lc_typed_all (T := nmT 3) (te := binD addD (vB 3) (tupM (consM (vS 2) (retM [])))) (ρ := [r0, .sh (.list (acc.map encL)), .sh (cD8 i), .un]) (s := s) encL (fun l => encL (l ++ [i])) acc (fun x hx => by
    have hx2 := ha x hx
    have ad : addD (encL x) (.tuple [cD8 i]) = some (encL (x ++ [i])) := by
      unfold encL
      rw [List.map_append]
      exact add_tup (by rw [List.length_map]; simp; omega)
    exact ⟨_, rfl, by simp [ad]⟩) (by omega)
  have ad : addD (.list (acc.map encL)) (.list (acc.map fun l => encL (l ++ [i]))) = some (.list ((acc ++ acc.map (· ++ [i])).map encL)) := by
    rw [List.map_append, List.map_map]
    exact add_list (by rw [List.length_map, List.length_map]; omega)
  generalize (binD addD (vB 3) (tupM (consM (vS 2) (retM [])))) = B at hc ⊢
  simp [hc, ad, -List.map_append]
theorem loop_settings {r0 e : Ent} {s : S} : ∀ (l : List (Fin 8)) (acc : List (List (Fin 8))) (e2 : Ent), (∀ x ∈ acc, x.length + l.length ≤ 100) → 2 ^ l.length * acc.length ≤ 1000000 →
    ∃ e3, loopD (nmT 2) (setS 1 (binD addD (vB 1) (lcM (itM (vS 1)) [3] (nmT 3) (retM true) (binD addD (vB 3) (tupM (consM (vS 2) (retM []))))))) (l.map cD8) [r0, .sh (.list (acc.map encL)), e2, e] s = .nx [r0, .sh (.list ((stg l acc).map encL)), e3, e] s
  | [], acc, e2, _, _ => ⟨e2, rfl⟩
  | i :: l, acc, e2, h, hl => by
    have hp : 1 ≤ 2 ^ l.length := Nat.one_le_two_pow
    rw [List.length_cons, Nat.pow_succ] at hl
    have hl2 : acc.length ≤ 1000000 := by
      have : 1 * acc.length ≤ 2 ^ l.length * 2 * acc.length := Nat.mul_le_mul_right _ (by omega)
      omega
    obtain ⟨e3, ih⟩ := loop_settings (r0 := r0) (e := e) (s := s) l (acc ++ acc.map (· ++ [i])) (.sh (cD8 i)) (fun z hz => by
      rcases List.mem_append.mp hz with q | q
      · have := h z q; rw [List.length_cons] at this; omega
      · obtain ⟨w, hw, rfl⟩ := List.mem_map.mp q
        have := h w hw
        rw [List.length_cons] at this
        rw [List.length_append]; simp; omega) (by rw [List.length_append, List.length_map, ← Nat.two_mul, ← Nat.mul_assoc]; exact hl)
    refine ⟨e3, ?_⟩
    rw [List.map_cons, e_loop1]
    show (match (setS 1 (binD addD (vB 1) (lcM (itM (vS 1)) [3] (nmT 3) (retM true) (binD addD (vB 3) (tupM (consM (vS 2) (retM []))))))) [r0, .sh (.list (acc.map encL)), .sh (cD8 i), e] s with
      | .nx ρ2 s2 => loopD (nmT 2) (setS 1 (binD addD (vB 1) (lcM (itM (vS 1)) [3] (nmT 3) (retM true) (binD addD (vB 3) (tupM (consM (vS 2) (retM []))))))) (l.map cD8) ρ2 s2
      | .ct ρ2 s2 => loopD (nmT 2) (setS 1 (binD addD (vB 1) (lcM (itM (vS 1)) [3] (nmT 3) (retM true) (binD addD (vB 3) (tupM (consM (vS 2) (retM []))))))) (l.map cD8) ρ2 s2
      | .bk ρ2 s2 => .nx ρ2 s2
      | r => r) = _
    rw [step_settings (fun x hx => by have := h x hx; omega) hl2]
    exact ih
theorem ev_settings (l : List (Fin 8)) (s : S) (h : l.length ≤ 16) : f_settings [.tuple (l.map cD8)] s = .ok (.sh (.list ((stg l [[]]).map encL))) s := by
  obtain ⟨e3, hl⟩ := loop_settings (r0 := .sh (.tuple (l.map cD8))) (e := .un) (s := s) l [[]] .un (fun x hx => by
    rw [List.mem_singleton.mp hx]; simp; omega) (by
    have : 2 ^ l.length ≤ 2 ^ 16 := Nat.pow_le_pow_right (by decide) h
    simp; omega)
  have e0 : List.map encL [[]] = [.tuple []] := rfl
  rw [e0] at hl
  show fnM 1 4 m_settings [.tuple (l.map cD8)] s = _
  unfold m_settings
  generalize (setS 1 (binD addD (vB 1) (lcM (itM (vS 1)) [3] (nmT 3) (retM true) (binD addD (vB 3) (tupM (consM (vS 2) (retM []))))))) = B at hl ⊢
  simp [hl]
end K01

set_option Elab.async false
set_option linter.all false
set_option maxRecDepth 100000
set_option maxHeartbeats 4000000
namespace K01
open PySem PyProof.Rows L2 Dy
open PySem.W (alike keyToks)
theorem boolsOf_map {α : Type} (p : α → Bool) : ∀ l : List α, boolsOf (l.map fun x => .bool (p x)) = some (l.map p)
  | [] => rfl
  | x :: l => by
    show (boolsOf (l.map fun x => PyData.bool (p x))).map (p x :: ·) = _
    rw [boolsOf_map p l]; rfl
theorem allD_map {α : Type} (p : α → Bool) (l : List α) : allD (.list (l.map fun x => .bool (p x))) = some (.bool (l.all p)) := by
  show (boolsOf _).map _ = _
  rw [boolsOf_map]
  simp
theorem fu_lt {y : Sy} (h : dep y ≤ 12) : dep y < FU := Nat.lt_of_le_of_lt h (by decide)
theorem stg_lts_len (y : Sy) : (stg (lts y) [[]]).length ≤ 256 := by
  rw [stg_len]
  have : 2 ^ (lts y).length ≤ 2 ^ 8 := Nat.pow_le_pow_right (by decide) (lts_len y)
  simp; omega
theorem ev_plainly (y : Sy) (s : S) (h : dep y ≤ 12) : f_is_plainly_so [toD y] s = .ok (.sh (.bool ((stg (lts y) [[]]).all fun lot => pv lot y))) s := by
  have hl := lc_typed_all (T := nmT 1) (te := callM (f_plain_value FU) (consM (vS 0) (consM (vS 1) (retM [])))) (ρ := [.sh (toD y), .un]) (s := s) encL (fun lot => .bool (pv lot y)) (stg (lts y) [[]]) (fun lot _ => by
    exact ⟨_, rfl, by simp [encL, ev_plain FU y lot s (fu_lt h)]⟩) (by have := stg_lts_len y; omega)
  have hle := lts_len y
  show fnM 1 2 m_is_plainly_so [toD y] s = _
  unfold m_is_plainly_so
  generalize (callM (f_plain_value FU) (consM (vS 0) (consM (vS 1) (retM [])))) = B at hl ⊢
  simp [ev_letters FU y s (fu_lt h), ev_settings (lts y) s (by omega), hl, allD_map]
/-! ### put in -/
def sb (t : Fin 8 → Option Sy) : Sy → Sy
  | .no => .no
  | .lt i => (t i).getD (.lt i)
  | .nd o a b => .nd o (sb t a) (sb t b)
structure Told (t : Fin 8 → Option Sy) (l : List (D × D)) : Prop where
  hnd : isHnd l = false
  no : dlook l (.str "no") = none
  lt : ∀ i, dlook l (.str (chr i)) = (t i).map toD
@[simp] theorem e_getM {f g h : M D} : getM f g h = bindM f fun d => if isDictB d then bindM g fun k => bindM h fun x => ofO (getD2 d k x) else fun _ _ => .st := rfl
theorem get_str {l : List (D × D)} (h : isHnd l = false) (x : Str) (z : D) : getD2 (.dict l) (.str x) z = some ((dlook l (.str x)).getD z) := by
  unfold getD2
  simp only [h]
  rfl
theorem isDict_l {l : List (D × D)} (h : isHnd l = false) : isDictB (.dict l) = true := by
  unfold isDictB; simp only [h]; rfl
theorem in_dict {l : List (D × D)} (h : isHnd l = false) (x : Str) : inD false (.str x) (.dict l) = some (.bool (dlook l (.str x)).isSome) := by
  unfold inD
  simp only [h]
  rfl
theorem ix_dict' {l : List (D × D)} (h : isHnd l = false) (x : Str) : ixD (.dict l) (.str x) = dlook l (.str x) := by
  unfold ixD
  simp only [h]
  rfl
theorem ev_put (t : Fin 8 → Option Sy) (l : List (D × D)) (hT : Told t l) : ∀ (n : Nat) (y : Sy) (s : S), dep y < n → f_put_in n [toD y, .dict l] s = .ok (.sh (toD (sb t y))) s
  | 0, _, _, h => absurd h (Nat.not_lt_zero _)
  | n + 1, .no, s, _ => by simp [f_put_in, m_put_in, sb, isDict_l hT.hnd, get_str hT.hnd, hT.no]
  | n + 1, .lt i, s, _ => by
    cases h : t i <;> simp [f_put_in, m_put_in, sb, isDict_l hT.hnd, get_str hT.hnd, hT.lt i, h]
  | n + 1, .nd o a b, s, h => by
    have h : 1 + max (dep a) (dep b) < n + 1 := h
    simp [f_put_in, m_put_in, sb, ev_put t l hT n a s (by omega), ev_put t l hT n b s (by omega)]
theorem ev_lput (t : Fin 8 → Option Sy) (l : List (D × D)) (hT : Told t l) : ∀ (n : Nat) (y : Sy) (s : S), dep y < n → f__law_put n [toD y, .dict l] s = .ok (.sh (toD (sb t y))) s
  | 0, _, _, h => absurd h (Nat.not_lt_zero _)
  | n + 1, .no, s, _ => by simp [f__law_put, m__law_put, sb, in_dict hT.hnd, hT.no]
  | n + 1, .lt i, s, _ => by
    cases h : t i <;> simp [f__law_put, m__law_put, sb, in_dict hT.hnd, ix_dict' hT.hnd, hT.lt i, h]
  | n + 1, .nd o a b, s, h => by
    have h : 1 + max (dep a) (dep b) < n + 1 := h
    simp [f__law_put, m__law_put, sb, ev_lput t l hT n a s (by omega), ev_lput t l hT n b s (by omega)]
theorem sb_none : ∀ y, sb (fun _ => none) y = y
  | .no => rfl
  | .lt _ => rfl
  | .nd o a b => by unfold sb; rw [sb_none a, sb_none b]
theorem sb_dep (t : Fin 8 → Option Sy) (m : Nat) (ht : ∀ i z, t i = some z → dep z ≤ m) : ∀ y, dep (sb t y) ≤ dep y + m
  | .no => Nat.zero_le _
  | .lt i => by
    unfold sb
    cases h : t i with
    | none => exact Nat.zero_le _
    | some z => have := ht i z h; simp; omega
  | .nd o a b => by
    have ha := sb_dep t m ht a
    have hb := sb_dep t m ht b
    show 1 + max (dep (sb t a)) (dep (sb t b)) ≤ 1 + max (dep a) (dep b) + m
    omega
/-! ### signs -/
def sgn : Sy → Bool → Fin 8 → Bool
  | .no, _, _ => false
  | .lt i, w, j => w && decide (i = j)
  | .nd .im a b, w, j => sgn a (!w) j || sgn b w j
  | .nd _ a b, w, j => sgn a w j || sgn b w j
def sgl (y : Sy) (w : Bool) : List (Fin 8) := (List.finRange 8).filter (sgn y w)
theorem mem_sgl {y : Sy} {w : Bool} {i : Fin 8} : i ∈ sgl y w ↔ sgn y w i = true := by
  unfold sgl
  rw [List.mem_filter]
  simp [List.mem_finRange]
theorem sgl_len (y : Sy) (w : Bool) : (sgl y w).length ≤ 8 := by
  have := List.length_filter_le (sgn y w) (List.finRange 8)
  rw [List.length_finRange] at this
  exact this
theorem ss_app {a b : Sy} {u v w : Bool} {c : Sy} (h : ∀ i, sgn c w i = (sgn a u i || sgn b v i)) : sortSetD (.tuple ((sgl a u).map cD8 ++ (sgl b v).map cD8)) = some (.list ((sgl c w).map cD8)) := by
  have la := sgl_len a u
  have lb := sgl_len b v
  rw [← List.map_append]
  exact sortSet_chr (p := sgn c w) (by rw [List.length_append]; omega) fun i => by rw [List.mem_append, mem_sgl, mem_sgl, h]; simp
theorem ev_signs : ∀ (n : Nat) (y : Sy) (s : S), dep y < n → f_signs n [toD y] s = .ok (.sh (.tuple [.tuple ((sgl y true).map cD8), .tuple ((sgl y false).map cD8)])) s
  | 0, _, _, h => absurd h (Nat.not_lt_zero _)
  | n + 1, .no, s, _ => by
    have e : ∀ w, sgl .no w = [] := fun w => List.filter_eq_nil_iff.mpr fun _ _ => by simp [sgn]
    simp [f_signs, m_signs, eq_no_no, e]
  | n + 1, .lt i, s, _ => by
    have e : ∀ i : Fin 8, sgl (.lt i) true = [i] := by decide +kernel
    have e2 : ∀ i : Fin 8, sgl (.lt i) false = [] := by decide +kernel
    simp [f_signs, m_signs, eq_chr_no, e, e2, cD8]
  | n + 1, .nd o a b, s, h => by
    have h : 1 + max (dep a) (dep b) < n + 1 := h
    have ea := ev_signs n a s (by omega)
    have eb := ev_signs n b s (by omega)
    have ad : ∀ u v, addD (.tuple ((sgl a u).map cD8)) (.tuple ((sgl b v).map cD8)) = some (.tuple ((sgl a u).map cD8 ++ (sgl b v).map cD8)) := fun u v => by
      have la := sgl_len a u
      have lb := sgl_len b v
      exact add_tup (by rw [List.length_map, List.length_map]; omega)
    cases o with
    | an =>
      have s1 := ss_app (a := a) (b := b) (u := true) (v := true) (w := true) (c := .nd .an a b) fun i => rfl
      have s2 := ss_app (a := a) (b := b) (u := false) (v := false) (w := false) (c := .nd .an a b) fun i => rfl
      simp [f_signs, m_signs, ea, eb, eq_if, ad, s1, s2]
    | or =>
      have s1 := ss_app (a := a) (b := b) (u := true) (v := true) (w := true) (c := .nd .or a b) fun i => rfl
      have s2 := ss_app (a := a) (b := b) (u := false) (v := false) (w := false) (c := .nd .or a b) fun i => rfl
      simp [f_signs, m_signs, ea, eb, eq_if, ad, s1, s2]
    | im =>
      have s1 := ss_app (a := a) (b := b) (u := false) (v := true) (w := true) (c := .nd .im a b) fun i => rfl
      have s2 := ss_app (a := a) (b := b) (u := true) (v := false) (w := false) (c := .nd .im a b) fun i => rfl
      simp [f_signs, m_signs, ea, eb, eq_if, ad, s1, s2]
def lsg : Sy → Bool → List (Fin 8 × Bool)
  | .no, _ => []
  | .lt i, w => [(i, w)]
  | .nd .im a b, w => lsg a (!w) ++ lsg b w
  | .nd _ a b, w => lsg a w ++ lsg b w
def encP (p : Fin 8 × Bool) : D := .tuple [cD8 p.1, .bool p.2]
theorem lsg_len : ∀ (y : Sy) (w : Bool), (lsg y w).length ≤ siz y
  | .no, _ => by simp [lsg]
  | .lt i, _ => by simp [lsg, siz]
  | .nd o a b, w => by
    have h1 := lsg_len a w
    have h2 := lsg_len a (!w)
    have h3 := lsg_len b w
    cases o <;> simp only [lsg, List.length_append, siz] <;> omega
theorem mem_lsg : ∀ (y : Sy) (w v : Bool) (i : Fin 8), (i, v) ∈ lsg y w ↔ sgn y (v == w) i = true
  | .no, _, _, _ => by simp [lsg, sgn]
  | .lt j, w, v, i => by
    cases w <;> cases v <;> simp [lsg, sgn, eq_comm]
  | .nd o a b, w, v, i => by
    have h1 := mem_lsg a w v i
    have h2 := mem_lsg a (!w) v i
    have h3 := mem_lsg b w v i
    cases o <;> simp only [lsg, List.mem_append, sgn, Bool.or_eq_true, h1, h2, h3]
    cases w <;> cases v <;> simp
theorem ev_lsigns : ∀ (n : Nat) (y : Sy) (w : Bool) (s : S), dep y < n → dep y ≤ 12 → f__law_signs n [toD y, .bool w] s = .ok (.sh (.list ((lsg y w).map encP))) s
  | 0, _, _, _, h, _ => absurd h (Nat.not_lt_zero _)
  | n + 1, .no, w, s, _, _ => by simp [f__law_signs, m__law_signs, eq_no_no, lsg]
  | n + 1, .lt i, w, s, _, _ => by simp [f__law_signs, m__law_signs, eq_chr_no, lsg, encP, cD8]
  | n + 1, .nd o a b, w, s, h, h2 => by
    have h : 1 + max (dep a) (dep b) < n + 1 := h
    have h2 : 1 + max (dep a) (dep b) ≤ 12 := h2
    have ea := fun w => ev_lsigns n a w s (by omega) (by omega)
    have eb := fun w => ev_lsigns n b w s (by omega) (by omega)
    have ad : ∀ u v, addD (.list ((lsg a u).map encP)) (.list ((lsg b v).map encP)) = some (.list ((lsg a u).map encP ++ (lsg b v).map encP)) := fun u v => by
      have la := lsg_len a u
      have lb := lsg_len b v
      have sa := siz_le (y := a) (by omega)
      have sb := siz_le (y := b) (by omega)
      exact add_list (by rw [List.length_map, List.length_map]; omega)
    cases o <;> simp [f__law_signs, m__law_signs, ea, eb, eq_if, ad, lsg]
end K01

set_option Elab.async false
set_option linter.all false
set_option maxRecDepth 100000
set_option maxHeartbeats 4000000
namespace K01
open PySem PyProof.Rows L2 Dy
/-! ### draws -/
def Good (s : S) : Prop := s.cells ≠ [] ∧ ∀ c ∈ s.cells, 0 ≤ c
theorem good_cells (ns : List Int) : Good ⟨0, cellsOf ns⟩ := by
  unfold Good cellsOf
  split
  · exact ⟨by simp, by simp⟩
  · rename_i h
    refine ⟨fun e => h ?_, fun c hc => ?_⟩
    · have := congrArg List.length e
      simpa using this
    · obtain ⟨i, _, rfl⟩ := List.mem_map.mp hc
      unfold abI
      split <;> omega
theorem take_ok {m : Int} {s : S} (g : Good s) (h1 : 1 ≤ m) (h2 : m < 1073741824) : ∃ v s', takeS m s = some (v, s') ∧ 0 ≤ v ∧ v < m ∧ Good s' := by
  unfold takeS
  by_cases hm : m < 2
  · rw [if_pos hm]
    exact ⟨0, s, rfl, by omega, by omega, g⟩
  · rw [if_neg hm]
    have hl : 0 < s.cells.length := List.length_pos_iff.mpr g.1
    have hp := Int.emod_nonneg s.pos (show (s.cells.length : Int) ≠ 0 by omega)
    have hq := Int.emod_lt_of_pos s.pos (show (0 : Int) < s.cells.length by omega)
    have hi : (s.pos % (s.cells.length : Int)).toNat < s.cells.length := by omega
    rw [List.getElem?_eq_getElem hi]
    have hc := g.2 _ (List.getElem_mem hi)
    generalize s.cells[(s.pos % (s.cells.length : Int)).toNat] = c at hc
    dsimp only
    by_cases hb : 1000000000000000000 ≤ c
    · rw [if_pos hb, if_pos h2]
      refine ⟨_, _, rfl, Int.emod_nonneg _ (by omega), Int.emod_lt_of_pos _ (by omega), ⟨fun e => ?_, fun x hx => ?_⟩⟩
      · have := congrArg List.length e
        rw [List.length_set] at this
        simp at this
        exact g.1 this
      · rcases List.mem_or_eq_of_mem_set hx with q | q
        · exact g.2 x q
        · rw [q]; exact Int.ediv_nonneg hc (by omega)
    · rw [if_neg hb]
      exact ⟨_, _, rfl, Int.emod_nonneg _ (by omega), Int.emod_lt_of_pos _ (by omega), g⟩
theorem ev_take {m : Int} {s : S} (g : Good s) (h1 : 1 ≤ m) (h2 : m < 1073741824) : ∃ v s', takeF [hndD, .int m] s = .ok (.sh (.int v)) s' ∧ 0 ≤ v ∧ v < m ∧ Good s' := by
  obtain ⟨v, s', e, r⟩ := take_ok g h1 h2
  refine ⟨v, s', ?_, r⟩
  show (match takeS m s with
    | some (v, s') => FR.ok (.sh (.int v)) s'
    | none => .st) = _
  rw [e]
theorem atI_in {α : Type} {xs : List α} {v : Int} (h0 : 0 ≤ v) (h1 : v < xs.length) : ∃ x ∈ xs, atI xs v = some x := by
  have hi : v.toNat < xs.length := by omega
  refine ⟨xs[v.toNat], List.getElem_mem hi, ?_⟩
  unfold atI ixN
  rw [if_pos h0, if_pos h1]
  exact List.getElem?_eq_getElem hi
theorem ev_pick {ds : List D} {s : S} (g : Good s) (hd : ds ≠ []) (hl : ds.length ≤ 1000) : ∃ d ∈ ds, ∃ s', f__law_pick [hndD, .list ds] s = .ok (.sh d) s' ∧ Good s' := by
  have hp : 0 < ds.length := List.length_pos_iff.mpr hd
  obtain ⟨v, s', e, v0, v1, g'⟩ := ev_take (m := ds.length) g (by omega) (by omega)
  obtain ⟨x, hx, hx2⟩ := atI_in (xs := ds) v0 v1
  have hx3 : ixD (.list ds) (.int v) = some x := hx2
  refine ⟨x, hx, s', ?_, g'⟩
  have e' : f__law_take [hndD, .int ds.length] s = .ok (.sh (.int v)) s' := e
  simp [f__law_pick, m__law_pick, e', hx3]
theorem eq_int (a b : Int) : eqD (.int a) (.int b) = some (.bool (decide (a = b))) := by
  rw [eq_of_sh (Sh.int.sh (by decide)) (Sh.int.sh (by decide))]
  show some (PyData.bool (a == b)) = _
  congr 2
theorem ev_drawn {ls : List (Fin 8)} (hls : ls ≠ []) (hll : ls.length ≤ 100) : ∀ (n : Nat) (dp : Nat) (s : S), dp < n → Good s → ∃ y s', f__law_drawn n [hndD, .int dp, .list (ls.map cD8)] s = .ok (.sh (toD y)) s' ∧ dep y ≤ dp ∧ Good s'
  | 0, _, _, h, _ => absurd h (Nat.not_lt_zero _)
  | n + 1, dp, s, h, g => by
    have hm : (if (0 : Int) < dp then PyData.int 6 else .int 2) = .int (if (0 : Int) < dp then 6 else 2) := by split <;> rfl
    obtain ⟨v, s1, e1, v0, v1, g1⟩ := ev_take (m := if (0 : Int) < dp then 6 else 2) g (by split <;> omega) (by split <;> omega)
    by_cases h2 : v < 2
    · obtain ⟨u, s2, e2, u0, u1, g2⟩ := ev_take (m := 3) g1 (by omega) (by omega)
      have pk : ∀ s, Good s → ∃ y s', f__law_pick [hndD, .list (ls.map cD8)] s = .ok (.sh (toD y)) s' ∧ dep y = 0 ∧ Good s' := fun s g => by
        obtain ⟨d, hd, s', e, g'⟩ := ev_pick (ds := ls.map cD8) g (by simpa using hls) (by rw [List.length_map]; omega)
        obtain ⟨i, _, rfl⟩ := List.mem_map.mp hd
        exact ⟨.lt i, s', e, rfl, g'⟩
      by_cases h3 : v = 1
      · by_cases h4 : u = 0
        · refine ⟨.no, s2, ?_, Nat.zero_le _, g2⟩
          by_cases hd : 0 < dp <;> simp [hd] at e1 <;> simp [f__law_drawn, m__law_drawn, hd, e1, h2, eq_int, h3, e2, h4]
        · obtain ⟨y, s3, e3, hy, g3⟩ := pk s2 g2
          refine ⟨y, s3, ?_, by omega, g3⟩
          by_cases hd : 0 < dp <;> simp [hd] at e1 <;> simp [f__law_drawn, m__law_drawn, hd, e1, h2, eq_int, h3, e2, h4, e3]
      · obtain ⟨y, s3, e3, hy, g3⟩ := pk s1 g1
        refine ⟨y, s3, ?_, by omega, g3⟩
        by_cases hd : 0 < dp <;> simp [hd] at e1 <;> simp [f__law_drawn, m__law_drawn, hd, e1, h2, eq_int, h3, e3]
    · have hd : (0 : Int) < dp := by
        by_cases hd : (0 : Int) < dp
        · exact hd
        · rw [if_neg hd] at v1; omega
      obtain ⟨dq, rfl⟩ : ∃ dq, dp = dq + 1 := ⟨dp - 1, by omega⟩
      obtain ⟨a, s2, ea, ha, g2⟩ := ev_drawn hls hll n dq s1 (by omega) g1
      obtain ⟨b, s3, eb, hb, g3⟩ := ev_drawn hls hll n dq s2 (by omega) g2
      rw [if_pos hd] at e1 v1
      have hsub : ((dq + 1 : Nat) : Int) - 1 = (dq : Int) := by omega
      have hop : ∃ o : Op, ixD (.list [.str "and", .str "or", .str "if", .str "if"]) (.int (v - 2)) = some (.str o.t) := by
        have : v = 2 ∨ v = 3 ∨ v = 4 ∨ v = 5 := by omega
        rcases this with rfl | rfl | rfl | rfl
        · exact ⟨.an, rfl⟩
        · exact ⟨.or, rfl⟩
        · exact ⟨.im, rfl⟩
        · exact ⟨.im, rfl⟩
      obtain ⟨o, ho⟩ := hop
      refine ⟨.nd o a b, s3, ?_, by show 1 + max (dep a) (dep b) ≤ dq + 1; omega, g3⟩
      have e1' : takeF [hndD, .int 6] s = .ok (.sh (.int v)) s1 := e1
      have hd' : (0 : Int) < (dq : Int) + 1 := by omega
      have hs2 : (dq : Int) + 1 - 1 = (dq : Int) := by omega
      simp [f__law_drawn, m__law_drawn, hd', e1', h2, ho, hs2, ea, eb]
end K01

set_option Elab.async false
set_option linter.all false
set_option maxRecDepth 100000
set_option maxHeartbeats 4000000
namespace K01
open PySem PyProof.Rows L2 Dy
def wi : Sy → List Int → Option Sy
  | y, [] => some y
  | .nd _ a b, k :: p => if k = 1 then wi a p else if k = 2 then wi b p else none
  | .no, _ :: _ => none
  | .lt _, _ :: _ => none
theorem wi_nd {o : Op} {a b : Sy} {k : Int} {p : List Int} : wi (.nd o a b) (k :: p) = if k = 1 then wi a p else if k = 2 then wi b p else none := rfl
theorem wi_app : ∀ (p : List Int) (y : Sy) (q : List Int), wi y (p ++ q) = (wi y p).bind fun z => wi z q
  | [], y, q => by cases y <;> rfl
  | k :: p, .no, q => rfl
  | k :: p, .lt _, q => rfl
  | k :: p, .nd o a b, q => by
    show wi (.nd o a b) (k :: (p ++ q)) = _
    rw [wi_nd, wi_nd]
    split
    · exact wi_app p a q
    · split
      · exact wi_app p b q
      · rfl
theorem wi_dep : ∀ (p : List Int) (y z : Sy), wi y p = some z → dep z ≤ dep y
  | [], y, z, h => by
    cases y <;> (cases h; exact Nat.le_refl _)
  | k :: p, .no, z, h => by cases h
  | k :: p, .lt _, z, h => by cases h
  | k :: p, .nd o a b, z, h => by
    unfold wi at h
    show dep z ≤ 1 + max (dep a) (dep b)
    split at h
    · have := wi_dep p a z h; omega
    · split at h
      · have := wi_dep p b z h; omega
      · cases h
theorem wi_bad (z : Sy) {k : Int} (h1 : k ≠ 1) (h2 : k ≠ 2) : wi z [k] = none := by
  cases z with
  | nd o a b => unfold wi; rw [if_neg h1, if_neg h2]
  | no => rfl
  | lt i => rfl
abbrev exM : Exn := ("Misstep", [("word", .str "path")])
abbrev bodyW : MS := seqS (ifS (orT (tstM (call1 (isiD "str") (vB 0))) (tstM (binD (inD true) (vB 2) (tupM (consM (retM (.int 1)) (consM (retM (.int 2)) (retM []))))))) (raiseS "Misstep" ["word"] pStr (consM (retM (.str "path")) (retM []))) (skipS)) (setS 0 (binD ixD (vB 0) (vB 2)))
@[simp ↓] theorem e_raiseS {x : Str} {fs : List Str} {p : List D → Bool} {fa : M (List D)} : raiseS x fs p fa = liftE fa fun ds ρ s => if p ds then .ex (x, fs.zip ds) ρ s else .st := rfl
theorem pstr_path : pStr [.str "path"] = true := by kernel_rfl
theorem in12 (k : Int) : inD true (.int k) (.tuple [.int 1, .int 2]) = some (.bool (!(decide (k = 1) || decide (k = 2)))) := by
  rw [ni_t (Sh.int.sh (by decide)) (by kernel_rfl)]
  have a : ((1 : Int) == k) = decide (k = 1) := by rw [Bool.eq_iff_iff]; simp; exact eq_comm
  have b : ((2 : Int) == k) = decide (k = 2) := by rw [Bool.eq_iff_iff]; simp; exact eq_comm
  simp only [List.any_cons, List.any_nil, PyData.eqv, Bool.or_false, a, b]
theorem step_within (y : Sy) (k : Int) (P : Ent) (s : S) : bodyW [.sh (toD y), P, .sh (.int k)] s = (match wi y [k] with
    | some z => .nx [.sh (toD z), P, .sh (.int k)] s
    | none => .ex exM [.sh (toD y), P, .sh (.int k)] s) := by
  cases y with
  | no => simp [bodyW, wi, pstr_path]
  | lt i => simp [bodyW, wi, pstr_path]
  | nd o a b =>
    by_cases h1 : k = 1
    · subst h1; cases a <;> simp [bodyW, wi, in12]
    · by_cases h2 : k = 2
      · subst h2; cases b <;> simp [bodyW, wi, in12]
      · simp [bodyW, wi, in12, h1, h2, pstr_path]
theorem loop_within (P : Ent) (s : S) : ∀ (p : List Int) (y : Sy) (e : Ent), ∃ ρ' : Env', ∃ e' : Ent, loopD (nmT 2) bodyW (p.map .int) [.sh (toD y), P, e] s = (match wi y p with
    | some z => .nx [.sh (toD z), P, e'] s
    | none => .ex exM ρ' s) ∧ 2 < ρ'.length
  | [], y, e => ⟨[e, e, e], e, by cases y <;> rfl, by show 2 < 3; decide⟩
  | k :: p, y, e => by
    have e1 : wi y (k :: p) = (wi y [k]).bind fun z => wi z p := wi_app [k] y p
    rw [List.map_cons, e_loop1]
    show ∃ ρ' e', (match bodyW [.sh (toD y), P, .sh (.int k)] s with
      | .nx ρ2 s2 => loopD (nmT 2) bodyW (p.map .int) ρ2 s2
      | .ct ρ2 s2 => loopD (nmT 2) bodyW (p.map .int) ρ2 s2
      | .bk ρ2 s2 => .nx ρ2 s2
      | r => r) = _ ∧ _
    rw [step_within, e1]
    cases h : wi y [k] with
    | none => exact ⟨[.sh (toD y), P, .sh (.int k)], e, rfl, by show 2 < 3; decide⟩
    | some z =>
      obtain ⟨ρ', e', ih⟩ := loop_within P s p z (.sh (.int k))
      exact ⟨ρ', e', ih⟩
theorem ev_within (y : Sy) (p : List Int) (s : S) : f_within [toD y, .tuple (p.map .int)] s = (match wi y p with
    | some z => .ok (.sh (toD z)) s
    | none => .ex exM s) := by
  obtain ⟨ρ', e', hl, _⟩ := loop_within (.sh (.tuple (p.map .int))) s p y .un
  show fnM 2 3 m_within [toD y, .tuple (p.map .int)] s = _
  unfold m_within
  show fnM 2 3 (seqS (forS (itM (vS 1)) (nmT 2) bodyW) (retS (vS 0))) _ s = _
  generalize bodyW = B at hl ⊢
  cases h : wi y p with
  | none => rw [h] at hl; simp [hl]
  | some z => rw [h] at hl; simp [hl]
def told (y : Sy) (p : List Int) : D := match wi y p with
  | some z => toD z
  | none => .str "path"
theorem ev_told (y : Sy) (p : List Int) (s : S) : f__law_told [toD y, .tuple (p.map .int)] s = .ok (.sh (told y p)) s := by
  have hw := ev_within y p s
  show finS (m__law_told [.sh (toD y), .sh (.tuple (p.map .int)), .un] s) = _
  unfold m__law_told tryAs told
  cases h : wi y p with
  | some z =>
    rw [h] at hw
    simp [hw]
  | none =>
    rw [h] at hw
    have hc : (["Misstep"] : List Str).contains ("Misstep" : Str) = true := by kernel_rfl
    have hr : ∀ ρ : Env', retX "word" exM ρ s = .rt (.sh (.str "path")) s := fun ρ => by kernel_rfl
    simp [hw, hc, hr, unS]
/-! ### the paths -/
theorem shp {y : Sy} (h : dep y ≤ 12) : SeqAt.shaped (toD y) = true := shd_toD (by omega)
theorem sh_path : SeqAt.shaped (.str "path") = true := by kernel_rfl
abbrev bodyP : MS := ifS (notT (tstM (call1 (isiD "str") (vB 3)))) (seqS (setS 5 (binD addD (retM (.int 1)) (callM f__law_take (consM (vS 0) (consM (retM (.int 2)) (retM [])))))) (parS 2 3 (consM (binD addD (vB 2) (tupM (consM (vS 5) (retM [])))) (consM (binD ixD (vB 3) (vB 5)) (retM []))))) (skipS)
def PathOk (y : Sy) (ds : List D) (ρ : Env') (s : S) : Prop := ∃ p now e4 e5, ρ = [.sh hndD, .sh (toD y), .sh (.tuple (p.map .int)), .sh (toD now), e4, e5] ∧ wi y p = some now ∧ p.length + ds.length ≤ 100 ∧ Good s
theorem step_path (y : Sy) (d : D) (ds : List D) (ρ : Env') (s : S) (h : PathOk y (d :: ds) ρ s) : ∃ ρ1 ρ2 s2, (nmT 4).f d ρ = some ρ1 ∧ bodyP ρ1 s = .nx ρ2 s2 ∧ PathOk y ds ρ2 s2 := by
  obtain ⟨p, now, e4, e5, rfl, hw, hl, g⟩ := h
  rw [List.length_cons] at hl
  cases now with
  | no => exact ⟨_, [.sh hndD, .sh (toD y), .sh (.tuple (p.map .int)), .sh (toD .no), .sh d, e5], s, rfl, by simp [bodyP], p, .no, .sh d, e5, rfl, hw, by omega, g⟩
  | lt i => exact ⟨_, [.sh hndD, .sh (toD y), .sh (.tuple (p.map .int)), .sh (toD (.lt i)), .sh d, e5], s, rfl, by simp [bodyP], p, .lt i, .sh d, e5, rfl, hw, by omega, g⟩
  | nd o a b =>
    obtain ⟨v, s', e, v0, v1, g'⟩ := ev_take (m := 2) g (by omega) (by omega)
    have ad : ∀ k : Int, addD (.tuple (p.map .int)) (.tuple [.int k]) = some (.tuple ((p ++ [k]).map .int)) := fun k => by
      rw [List.map_append]
      exact add_tup (by rw [List.length_map]; simp; omega)
    have hv : v = 0 ∨ v = 1 := by omega
    rcases hv with rfl | rfl
    · exact ⟨_, [.sh hndD, .sh (toD y), .sh (.tuple ((p ++ [1]).map .int)), .sh (toD a), .sh d, .sh (.int 1)], s', rfl, by simp [bodyP, e, ad, -List.map_append], p ++ [1], a, .sh d, .sh (.int 1), rfl, by rw [wi_app, hw]; cases a <;> rfl, by rw [List.length_append]; simp; omega, g'⟩
    · exact ⟨_, [.sh hndD, .sh (toD y), .sh (.tuple ((p ++ [2]).map .int)), .sh (toD b), .sh d, .sh (.int 2)], s', rfl, by simp [bodyP, e, ad, -List.map_append], p ++ [2], b, .sh d, .sh (.int 2), rfl, by rw [wi_app, hw]; cases b <;> rfl, by rw [List.length_append]; simp; omega, g'⟩
@[simp ↓] theorem e_rng1M {fs : M (List D)} : rng1M fs = bindM fs fun ds => ofO (rng1D ds) := rfl
theorem rng1_ok {v : Int} (h0 : 0 ≤ v) (h1 : v < 1000) : rng1D [.int v] = some (rngL 0 v.toNat) := by
  show (if okR v then some (rngL 0 v.toNat) else none) = _
  have : okR v = true := by
    unfold okR
    simp
    omega
  rw [this]; rfl
theorem ev_paths (y : Sy) (s : S) (h : dep y ≤ 12) (g : Good s) : ∃ s', f__law_paths [hndD, toD y] s = .ok (.sh (.bool true)) s' := by
  obtain ⟨v, s1, e, v0, v1, g1⟩ := ev_take (m := 4) g (by omega) (by omega)
  have hr := rng1_ok v0 (by omega)
  obtain ⟨ρ', s2, hl, p, now, e4, e5, rfl, hw, hp, g2⟩ := loop_ok (T := nmT 4) (body := bodyP) (PathOk y) (step_path y) (rngL 0 v.toNat) [.sh hndD, .sh (toD y), .sh (.tuple []), .sh (toD y), .un, .un] s1
    ⟨[], y, .un, .un, rfl, by cases y <;> rfl, by unfold rngL; rw [List.length_map, List.length_range]; simp; omega, g1⟩
  have hd := wi_dep p y now hw
  have sn : SeqAt.shaped (toD now) = true := shp (by omega)
  have ad : ∀ k : Int, addD (.tuple (p.map .int)) (.tuple [.int k]) = some (.tuple ((p ++ [k]).map .int)) := fun k => by
    simp only [List.length_nil, Nat.add_zero] at hp
    rw [List.map_append]
    exact add_tup (by rw [List.length_map]; simp; omega)
  have t0 : told y p = toD now := by unfold told; rw [hw]
  have t3 : told y (p ++ [3]) = .str "path" := by unfold told; rw [wi_app, hw]; show (match wi now [3] with | some z => toD z | none => .str "path") = _; rw [wi_bad now (by omega) (by omega)]
  have t00 : told y (p ++ [0]) = .str "path" := by unfold told; rw [wi_app, hw]; show (match wi now [0] with | some z => toD z | none => .str "path") = _; rw [wi_bad now (by omega) (by omega)]
  refine ⟨s2, ?_⟩
  show fnM 2 6 m__law_paths [hndD, toD y] s = _
  unfold m__law_paths
  show fnM 2 6 (seqS _ (seqS (forS _ (nmT 4) bodyP) _)) _ s = _
  generalize bodyP = B at hl ⊢
  have e' : f__law_take [hndD, .int 4] s = .ok (.sh (.int v)) s1 := e
  cases now with
  | nd o a b =>
    simp only [toD_nd] at hl t0 sn
    simp [e', hr, hl, ev_told, t0, t3, t00, ad, ne_self sn, ne_self sh_path, -List.map_append]
  | no =>
    have t1 : told y (p ++ [1]) = .str "path" := by unfold told; rw [wi_app, hw]; rfl
    simp only [toD_no] at hl t0 sn
    simp [e', hr, hl, ev_told, t0, t3, t00, t1, ad, ne_self sn, ne_self sh_path, Dy.eq_self sh_path, -List.map_append]
  | lt i =>
    have t1 : told y (p ++ [1]) = .str "path" := by unfold told; rw [wi_app, hw]; rfl
    simp only [toD_lt] at hl t0 sn
    simp [e', hr, hl, ev_told, t0, t3, t00, t1, ad, ne_self sn, ne_self sh_path, Dy.eq_self sh_path, -List.map_append]
end K01

set_option Elab.async false
set_option linter.all false
set_option maxRecDepth 100000
set_option maxHeartbeats 4000000
namespace K01
open PySem PyProof.Rows L2 Dy
open PySem.W (alike keyToks dataLe)
/-! ### the shown text tells the formula -/
theorem cps_app (a b : Str) : (a ++ b).cps.toList = a.cps.toList ++ b.cps.toList := by
  obtain ⟨a⟩ := a
  obtain ⟨b⟩ := b
  show (a ++ b).toList = _
  simp
theorem shw_nd (o : Op) (a b : Sy) (r : List Nat) : (shw (.nd o a b)).cps.toList ++ r = 40 :: ((shw a).cps.toList ++ (32 :: (o.t.cps.toList ++ (32 :: ((shw b).cps.toList ++ (41 :: r)))))) := by
  show ("(" ++ shw a ++ " " ++ o.t ++ " " ++ shw b ++ ")" : Str).cps.toList ++ r = _
  have e1 : ("(" : Str).cps.toList = [40] := by kernel_rfl
  have e2 : (")" : Str).cps.toList = [41] := by kernel_rfl
  have e3 : (" " : Str).cps.toList = [32] := by kernel_rfl
  simp only [cps_app, e1, e2, e3, List.append_assoc, List.cons_append, List.nil_append]
theorem shw_no (r : List Nat) : (shw .no).cps.toList ++ r = 110 :: 111 :: r := by
  have e : (shw .no).cps.toList = [110, 111] := by kernel_rfl
  rw [e]; rfl
theorem shw_lt (i : Fin 8) (r : List Nat) : (shw (.lt i)).cps.toList ++ r = (97 + i.val) :: r := rfl
theorem op_cps (o : Op) : o.t.cps.toList = match o with | .an => [97, 110, 100] | .or => [111, 114] | .im => [105, 102] := by cases o <;> kernel_rfl
theorem shw_pf : ∀ (x y : Sy) (r r' : List Nat), (shw x).cps.toList ++ r = (shw y).cps.toList ++ r' → x = y ∧ r = r'
  | .no, .no, r, r', h => by rw [shw_no, shw_no] at h; simp at h; exact ⟨rfl, h⟩
  | .no, .lt i, r, r', h => by rw [shw_no, shw_lt] at h; have := (List.cons.inj h).1; omega
  | .no, .nd o a b, r, r', h => by rw [shw_no, shw_nd] at h; have := (List.cons.inj h).1; omega
  | .lt i, .no, r, r', h => by rw [shw_no, shw_lt] at h; have := (List.cons.inj h).1; omega
  | .lt i, .lt j, r, r', h => by
    rw [shw_lt, shw_lt] at h
    have h1 := (List.cons.inj h).1
    have h2 := (List.cons.inj h).2
    have : i = j := Fin.ext (by omega)
    exact ⟨by rw [this], h2⟩
  | .lt i, .nd o a b, r, r', h => by rw [shw_lt, shw_nd] at h; have := (List.cons.inj h).1; omega
  | .nd o a b, .no, r, r', h => by rw [shw_no, shw_nd] at h; have := (List.cons.inj h).1; omega
  | .nd o a b, .lt i, r, r', h => by rw [shw_lt, shw_nd] at h; have := (List.cons.inj h).1; omega
  | .nd o a b, .nd p c d, r, r', h => by
    rw [shw_nd, shw_nd] at h
    obtain ⟨rfl, h2⟩ := shw_pf a c _ _ (List.cons.inj h).2
    have h3 := (List.cons.inj h2).2
    rw [op_cps, op_cps] at h3
    have key : o = p ∧ 32 :: ((shw b).cps.toList ++ (41 :: r)) = 32 :: ((shw d).cps.toList ++ (41 :: r')) := by
      cases o <;> cases p <;> simp at h3 <;> first | (exact ⟨rfl, by simpa using h3⟩) | omega
    obtain ⟨rfl, h4⟩ := key
    obtain ⟨rfl, h5⟩ := shw_pf b d _ _ (List.cons.inj h4).2
    exact ⟨rfl, (List.cons.inj h5).2⟩
theorem shw_inj {x y : Sy} (h : shw x = shw y) : x = y := (shw_pf x y [] [] (by rw [h])).1
/-! ### keys -/
def kD (y : Sy) : D := .tuple [.int (siz y), .str (shw y)]
def tD (y : Sy) : D := .tuple [.int (siz y), .str (shw y), toD y]
def leY (a b : Sy) : Bool := !lex3 ((siz b : Int), shw b) ((siz a : Int), shw a)
theorem ded_n {α : Type} [DecidableEq α] (xs : List α) (d0 : α) : ∀ n, n ≤ xs.length → ((List.range n).filter fun k => !decide (xs.getD k d0 ∈ xs.take k)).map (fun k => xs.getD k d0) = uni [] (xs.take n)
  | 0, _ => rfl
  | n + 1, h => by
    have hn : n < xs.length := h
    have e1 : xs.take (n + 1) = xs.take n ++ [xs[n]] := by rw [List.take_succ, List.getElem?_eq_getElem hn]; rfl
    have e2 : xs.getD n d0 = xs[n] := by simp [List.getD, List.getElem?_eq_getElem hn]
    rw [List.range_succ, List.filter_append, List.map_append, ded_n xs d0 n (by omega), e1, uni_append]
    have hm : xs[n] ∈ uni [] (xs.take n) ↔ xs[n] ∈ xs.take n := by rw [mem_uni]; simp
    show _ = add1 (uni [] (xs.take n)) xs[n]
    unfold add1
    by_cases hx : xs[n] ∈ xs.take n
    · rw [if_pos (hm.mpr hx)]
      simp [List.getElem?_eq_getElem hn, hx, List.filter_cons]
    · rw [if_neg fun z => hx (hm.mp z)]
      simp [List.getElem?_eq_getElem hn, hx, List.filter_cons]
theorem ded {α : Type} [DecidableEq α] (xs : List α) (d0 : α) : ((List.range xs.length).filter fun k => !decide (xs.getD k d0 ∈ xs.take k)).map (fun k => xs.getD k d0) = uni [] xs := by
  rw [ded_n xs d0 xs.length (Nat.le_refl _), List.take_length]
theorem key3_tD (y : Sy) : key3 (tD y) = ((siz y : Int), shw y) := rfl
theorem dist_tD : ∀ {l : List Sy}, l.Nodup → dist3 (l.map tD) = true
  | [], _ => rfl
  | y :: l, h => by
    have h1 := (List.nodup_cons.mp h).1
    have h2 := (List.nodup_cons.mp h).2
    rw [List.map_cons]
    unfold dist3
    rw [Bool.and_eq_true, List.all_eq_true]
    refine ⟨fun d hd => ?_, dist_tD h2⟩
    obtain ⟨z, hz, rfl⟩ := List.mem_map.mp hd
    rw [decide_eq_true_eq, key3_tD, key3_tD]
    intro e
    have e2 : shw z = shw y := congrArg Prod.snd e
    exact h1 (shw_inj e2 ▸ hz)
theorem sort3_tD {l : List Sy} (h : l.Nodup) : sort3D (.list (l.map tD)) = some (.list ((l.mergeSort leY).map tD)) := by
  have h1 : (l.map tD).all is3 = true := by
    rw [List.all_eq_true]
    intro d hd
    obtain ⟨z, _, rfl⟩ := List.mem_map.mp hd
    rfl
  show (if sort3OkB (l.map tD) then some (PyData.list (sort3L (l.map tD))) else none) = _
  unfold sort3OkB
  rw [h1, dist_tD h]
  have e : sort3L (l.map tD) = (l.mergeSort leY).map tD := (List.map_mergeSort (f := tD) (r := leY) (s := le3) (l := l) fun a _ b _ => rfl).symm
  rw [e]; rfl
theorem le_kD (a b : Sy) : leS (kD a) (kD b) = leY a b := by
  show (!PyProof.Rows.lexLt PyProof.Rows.itemOrd (keyToks (kD b)) (keyToks (kD a))) = !lex3 _ _
  congr 1
  show PyProof.Rows.lexLt PyProof.Rows.itemOrd [.inl 1, .inl (siz b : Int), .inl 1, .inr (shw b).cps.toList, .inl 0] [.inl 1, .inl (siz a : Int), .inl 1, .inr (shw a).cps.toList, .inl 0] = _
  unfold lex3
  simp only [PyProof.Rows.lexLt, PyProof.Rows.itemLt]
  by_cases e : (siz b : Int) = (siz a : Int)
  · simp [e]
  · simp [e]
    omega
theorem sortBy_kD (l : List Sy) : sortByL (l.map toD) (l.map kD) = (l.mergeSort leY).map toD := by
  unfold sortByL
  rw [List.zip_map', ← List.map_mergeSort (f := fun y => (toD y, kD y)) (r := leY) (s := dataLe false fun x : D × D => x.2) (l := l) (fun a _ b _ => (le_kD a b).symm), List.map_map]
  rfl
end K01

set_option Elab.async false
set_option linter.all false
set_option maxRecDepth 100000
set_option maxHeartbeats 4000000
namespace K01
open PySem PyProof.Rows L2 Dy
open PySem.W (alike keyToks dataLe)
theorem sh_kD (y : Sy) : Sh 1 (kD y) := Sh.tup fun d hd => by
  simp only [List.mem_cons, List.not_mem_nil, or_false] at hd
  rcases hd with rfl | rfl
  · exact Sh.int
  · exact Sh.str (shw_ok y)
theorem keysGo_key (s : S) : ∀ l : List Sy, (∀ y ∈ l, dep y ≤ 12) → keysGo f_key (l.map toD) s = some (l.map kD, s)
  | [], _ => rfl
  | y :: l, h => by
    show (match f_key [toD y] s with
      | .ok (.sh k) s1 => (keysGo f_key (l.map toD) s1).map fun (p : List D × S) => (k :: p.1, p.2)
      | _ => none) = _
    rw [ev_key y s (h y (by simp))]
    simp only [keysGo_key s l fun z hz => h z (by simp [hz])]
    rfl
theorem keyOk_kD {l : List Sy} (hl : l.length ≤ 1000) : keyOkB (l.map toD) (l.map kD) = true := by
  have h1 : alikeB (l.map kD) = true := by
    unfold alikeB
    rw [List.all_eq_true]
    intro x hx
    rw [List.all_eq_true]
    intro y hy
    obtain ⟨i, _, rfl⟩ := List.mem_map.mp hx
    obtain ⟨j, _, rfl⟩ := List.mem_map.mp hy
    rfl
  have h2 : sortableB (l.map kD) = true := by
    unfold sortableB
    rw [Bool.or_eq_true]
    left
    rw [List.all_eq_true]
    intro x hx
    obtain ⟨i, _, rfl⟩ := List.mem_map.mp hx
    rfl
  have h3 : depthB (l.map kD) = true := by
    unfold depthB
    rw [List.all_eq_true]
    intro x hx
    obtain ⟨i, _, rfl⟩ := List.mem_map.mp hx
    exact decide_eq_true (Nat.le_trans (sh_kD i).2 (by decide))
  have h4 : lenOk (l.map toD) = true := lenOk_of (by rw [List.length_map]; omega)
  have h5 : (l.map kD).all SeqAt.shaped = true := by
    rw [List.all_eq_true]
    intro x hx
    obtain ⟨i, _, rfl⟩ := List.mem_map.mp hx
    exact (sh_kD i).sh (by decide)
  unfold keyOkB
  rw [h1, h2, h3, h4, h5]
  rfl
theorem ev_in_order (xs : List Sy) (s : S) (h : ∀ y ∈ xs, dep y ≤ 12) (hl : xs.length ≤ 500) : f_in_order [.list (xs.map toD)] s = .ok (.sh (.list (((uni [] xs).mergeSort leY).map toD))) s := by
  obtain ⟨e', hL⟩ := loop_uni (r0 := .sh (.list (xs.map toD))) (s := s) xs [] .un (fun y hy => by
    have := h y (by simpa using hy); omega) (by simp; omega)
  have hd : ∀ y ∈ uni [] xs, dep y ≤ 12 := fun y hy => by
    rcases mem_uni.mp hy with q | q
    · simp at q
    · exact h y q
  have hn : (uni ([] : List Sy) xs).length ≤ 1000 := by
    have := len_uni (acc := ([] : List Sy)) (xs := xs)
    simp at this
    omega
  have hk := keysGo_key s (uni [] xs) hd
  have ho := keyOk_kD hn
  have e0 : List.map toD [] = [] := rfl
  rw [e0] at hL
  have hs : ∀ ρ : Env', ρ[1]? = some (.pr (.list ((uni [] xs).map toD))) → sortByM f_key (vB 1) ρ s = .ok (.list (((uni [] xs).mergeSort leY).map toD)) s := fun ρ hρ => by
    show bindM (vB 1) _ ρ s = _
    simp only [e_bindM, e_vB, hρ, hk, ho, if_true, sortBy_kD]
  show fnM 1 3 m_in_order [.list (xs.map toD)] s = _
  unfold m_in_order
  generalize ifS (tstM (binD (inD true) (vB 2) (vB 1))) (appS 1 (vS 2)) skipS = B at hL ⊢
  simp [hL, hs]
theorem take_map {α β : Type} (f : α → β) (l : List α) (n : Nat) : (l.map f).take n = (l.take n).map f := (List.map_take ..).symm
theorem cut_take {α : Type} (xs : List α) (k : Nat) : Dy.cutD xs none (some ((0 : Int) + (k : Nat))) = xs.take k := by
  unfold Dy.cutD
  rw [Int.zero_add, HT.sIx_none, HT.sIx_nat, List.drop_zero, Nat.sub_zero, List.take_eq_take_iff]
  omega
/-- what stands in a list once, by places -/
theorem lc_ded {α : Type} [DecidableEq α] (enc : α → D) (d0 : α) {r k : Nat} {ρ : Env'} {s : S} (xs : List α) (hr : ρ[r]? = some (.sh (.list (xs.map enc)))) (hk : k < ρ.length) (hrk : k ≠ r) (hl : xs.length ≤ 1000)
    (hin : ∀ x ∈ xs, ∀ n, inD true (enc x) (.list ((xs.take n).map enc)) = some (.bool (!decide (x ∈ xs.take n)))) :
    lcD (nmT k) (tstM (binD (inD true) (binD ixD (vB r) (vB k)) (slM slD (vB r) (retM none) (partM (vS k))))) (binD ixD (vB r) (vB k)) (rngL 0 xs.length) [] ρ s = .ok ((uni [] xs).map enc) s := by
  have e := lc_typed (T := nmT k) (tt := tstM (binD (inD true) (binD ixD (vB r) (vB k)) (slM slD (vB r) (retM none) (partM (vS k))))) (te := binD ixD (vB r) (vB k)) (ρ := ρ) (s := s) (fun i : Nat => .int ((0 : Int) + (i : Nat))) (fun i => !decide (xs.getD i d0 ∈ xs.take i)) (fun i => enc (xs.getD i d0)) (List.range xs.length) [] (fun i hi => by
    have hi2 : i < xs.length := List.mem_range.mp hi
    have e1 : (ρ.set k (.sh (.int ((0 : Int) + (i : Nat)))))[r]? = some (.sh (.list (xs.map enc))) := by rw [List.getElem?_set_ne hrk, hr]
    have e2 : (ρ.set k (.sh (.int ((0 : Int) + (i : Nat)))))[k]? = some (.sh (.int ((0 : Int) + (i : Nat)))) := List.getElem?_set_self hk
    have e3 : ixD (.list (xs.map enc)) (.int ((0 : Int) + (i : Nat))) = some (enc (xs.getD i d0)) := by
      show atI _ _ = _
      unfold atI ixN
      rw [if_pos (by omega), if_pos (by rw [List.length_map]; omega)]
      show (xs.map enc)[((0 : Int) + (i : Nat)).toNat]? = _
      have : ((0 : Int) + (i : Nat)).toNat = i := by omega
      rw [this, List.getElem?_map, List.getElem?_eq_getElem hi2]
      simp [List.getElem?_eq_getElem hi2]
    have hx : xs.getD i d0 ∈ xs := by
      rw [show xs.getD i d0 = xs[i] by simp [List.getElem?_eq_getElem hi2]]
      exact List.getElem_mem hi2
    have e4 := hin _ hx i
    refine ⟨_, rfl, ?_, fun _ => ?_⟩
    · simp only [e_tstM, e_binD, e_bindM, e_vB, e_vS, e1, e2, e3, e_ofO, e_slM, e_partM, e_intOf, e_retM, e_slDl, cut_take, take_map, e4, e_boolD]
    · simp only [e_binD, e_bindM, e_vB, e1, e2, e3, e_ofO]) (by simp; omega)
  rw [show rngL 0 xs.length = (List.range xs.length).map (fun i : Nat => .int ((0 : Int) + (i : Nat))) from rfl, e, List.nil_append, ← ded xs d0, List.map_map]
  rfl
end K01

set_option Elab.async false
set_option linter.all false
set_option maxRecDepth 100000
set_option maxHeartbeats 8000000
namespace K01
open PySem PyProof.Rows L2 Dy
theorem uni_sub {α : Type} [DecidableEq α] : ∀ (xs acc : List α), ∃ ys, List.Sublist ys xs ∧ uni acc xs = acc ++ ys
  | [], acc => ⟨[], .slnil, by simp [uni]⟩
  | x :: xs, acc => by
    obtain ⟨ys, h1, h2⟩ := uni_sub xs (add1 acc x)
    rw [uni_cons, h2]
    unfold add1
    by_cases hx : x ∈ acc
    · rw [if_pos hx]; exact ⟨ys, h1.cons _, rfl⟩
    · rw [if_neg hx]; exact ⟨x :: ys, h1.cons₂ _, by simp⟩
theorem le_c : ∀ i j : Fin 8, leS (cD8 i) (cD8 j) = decide (i ≤ j) := by decide +kernel
def srt (l : List (Fin 8)) : List (Fin 8) := l.mergeSort fun i j => decide (i ≤ j)
theorem sortL_c (l : List (Fin 8)) : sortL (l.map cD8) = (srt l).map cD8 := by
  unfold sortL srt
  exact (List.map_mergeSort (f := cD8) (r := fun i j => decide (i ≤ j)) (s := leS) (l := l) fun a _ b _ => (le_c a b).symm).symm
theorem srt_pw (l : List (Fin 8)) : (srt l).Pairwise fun i j => i ≤ j := by
  have h := List.pairwise_mergeSort (le := fun i j : Fin 8 => decide (i ≤ j)) (fun a b c h1 h2 => by
    simp only [decide_eq_true_eq] at *
    exact Nat.le_trans h1 h2) (fun a b => by
    rw [Bool.or_eq_true, decide_eq_true_eq, decide_eq_true_eq]
    exact Nat.le_total a.val b.val) l
  exact h.imp fun h => of_decide_eq_true h
theorem uni_srt {l : List (Fin 8)} {p : Fin 8 → Bool} (hm : ∀ i, i ∈ l ↔ p i = true) : uni [] (srt l) = (List.finRange 8).filter p := by
  obtain ⟨ys, h1, h2⟩ := uni_sub (srt l) []
  have hn := nodup_uni (xs := srt l) (acc := []) .nil
  have hpw : (uni [] (srt l)).Pairwise fun i j => i ≤ j := by
    rw [h2, List.nil_append]
    exact (srt_pw l).sublist h1
  refine List.Perm.eq_of_pairwise (le := fun i j : Fin 8 => i ≤ j) (fun a b _ _ x y => Fin.ext (Nat.le_antisymm x y)) hpw (fin_sorted.filter _) ?_
  refine (List.perm_ext_iff_of_nodup hn (fin_nodup.filter _)).mpr fun i => ?_
  rw [mem_uni, List.mem_filter, show (i ∈ srt l ↔ i ∈ l) from List.mem_mergeSort, hm]
  simp [List.mem_finRange]
end K01

set_option Elab.async false
set_option linter.all false
set_option maxRecDepth 100000
set_option maxHeartbeats 8000000
namespace K01
open PySem PyProof.Rows L2 Dy
theorem seq_step {g h : MS} {ρ ρ' : Env'} {s s' : S} {r : SR} (h1 : g ρ s = .nx ρ' s') (h2 : h ρ' s' = r) : seqS g h ρ s = r := by
  unfold seqS
  rw [h1]
  exact h2
/-- a test that is false: the law goes on -/
theorem if_off {t : M Bool} {g : MS} {ρ : Env'} {s : S} (h : t ρ s = .ok false s) : ifS t g skipS ρ s = .nx ρ s := by
  unfold ifS liftE
  rw [h]
  rfl
theorem or_off {ta tb : M Bool} {ρ : Env'} {s : S} (h1 : ta ρ s = .ok false s) (h2 : tb ρ s = .ok false s) : orT ta tb ρ s = .ok false s := by
  unfold orT Dy.bindM
  rw [h1]
  exact h2
/-- f(..) != g(..) where both are d -/
theorem ne_off {fa fb : M D} {ρ : Env'} {s : S} {d : D} (h1 : fa ρ s = .ok d s) (h2 : fb ρ s = .ok d s) (hd : SeqAt.shaped d = true) : tstM (binD neD fa fb) ρ s = .ok false s := by
  simp [h1, h2, ne_self hd]
abbrev rows : List Ent → Nat → Env' := fun l n => l ++ List.replicate n .un
theorem abcd : [PyData.str "a", .str "b", .str "c", .str "d"] = ([0, 1, 2, 3] : List (Fin 8)).map cD8 := by kernel_rfl
theorem aeh : [PyData.str "a", .str "e", .str "h"] = ([0, 4, 7] : List (Fin 8)).map cD8 := by kernel_rfl

theorem frz_pr {g : MS} {i : Nat} {ρ : Env'} {s : S} {d : D} {r : SR} (h : ρ[i]? = some (.pr d)) (h2 : g (ρ.set i (.sh d)) s = r) : frzS i g ρ s = r := by
  unfold frzS
  rw [h]
  exact h2
/-- the law's frame: the slots 4 .. 16 -/
abbrev fr (x y : Sy) (a4 a5 a6 a7 a8 a9 a10 a11 a12 a13 a14 a15 a16 : Ent) : Env' := [.un, .sh hndD, .sh (toD x), .sh (toD y), a4, a5, a6, a7, a8, a9, a10, a11, a12, a13, a14, a15, a16, .un, .un, .un, .un, .un, .un]
def rowY (x y : Sy) : List Sy := [x, y, .no, x, .lt 0, .nd .an (.lt 0) .no]
abbrev bodyL : MS := setS 8 (binD addD (vB 8) (lcM (itM (vS 8)) [21] (nmT 21) (retM true) (binD addD (vB 21) (tupM (consM (vS 9) (retM []))))))
theorem step_lots {x y : Sy} {a4 a5 a6 a7 a10 a11 a12 a13 a14 a15 a16 : Ent} {s : S} {acc : List (List (Fin 8))} {i : Fin 8} (ha : ∀ x ∈ acc, x.length ≤ 100) (hl : acc.length ≤ 1000000) :
    bodyL (fr x y a4 a5 a6 a7 (.sh (.list (acc.map encL))) (.sh (cD8 i)) a10 a11 a12 a13 a14 a15 a16) s = .nx (fr x y a4 a5 a6 a7 (.sh (.list ((acc ++ acc.map (· ++ [i])).map encL))) (.sh (cD8 i)) a10 a11 a12 a13 a14 a15 a16) s := by
  have hc := lc_typed_all (T := nmT 21) (te := binD addD (vB 21) (tupM (consM (vS 9) (retM [])))) (ρ := fr x y a4 a5 a6 a7 (.sh (.list (acc.map encL))) (.sh (cD8 i)) a10 a11 a12 a13 a14 a15 a16) (s := s) encL (fun l => encL (l ++ [i])) acc (fun x hx => by
    have hx2 := ha x hx
    have ad : addD (encL x) (.tuple [cD8 i]) = some (encL (x ++ [i])) := by
      unfold encL
      rw [List.map_append]
      exact add_tup (by rw [List.length_map]; simp; omega)
    exact ⟨_, rfl, by simp [ad]⟩) (by omega)
  have ad : addD (.list (acc.map encL)) (.list (acc.map fun l => encL (l ++ [i]))) = some (.list ((acc ++ acc.map (· ++ [i])).map encL)) := by
    rw [List.map_append, List.map_map]
    exact add_list (by rw [List.length_map, List.length_map]; omega)
  unfold bodyL
  generalize (binD addD (vB 21) (tupM (consM (vS 9) (retM [])))) = B at hc ⊢
  simp [hc, ad, -List.map_append]
theorem loop_lots {x y : Sy} {a4 a5 a6 a7 a10 a11 a12 a13 a14 a15 a16 : Ent} {s : S} : ∀ (l : List (Fin 8)) (acc : List (List (Fin 8))) (e2 : Ent), (∀ x ∈ acc, x.length + l.length ≤ 100) → 2 ^ l.length * acc.length ≤ 1000000 →
    ∃ e3, loopD (nmT 9) bodyL (l.map cD8) (fr x y a4 a5 a6 a7 (.sh (.list (acc.map encL))) e2 a10 a11 a12 a13 a14 a15 a16) s = .nx (fr x y a4 a5 a6 a7 (.sh (.list ((stg l acc).map encL))) e3 a10 a11 a12 a13 a14 a15 a16) s
  | [], acc, e2, _, _ => ⟨e2, rfl⟩
  | i :: l, acc, e2, h, hl => by
    have hp : 1 ≤ 2 ^ l.length := Nat.one_le_two_pow
    rw [List.length_cons, Nat.pow_succ] at hl
    have hl2 : acc.length ≤ 1000000 := by
      have : 1 * acc.length ≤ 2 ^ l.length * 2 * acc.length := Nat.mul_le_mul_right _ (by omega)
      omega
    obtain ⟨e3, ih⟩ := loop_lots (x := x) (y := y) (a4 := a4) (a5 := a5) (a6 := a6) (a7 := a7) (a10 := a10) (a11 := a11) (a12 := a12) (a13 := a13) (a14 := a14) (a15 := a15) (a16 := a16) (s := s) l (acc ++ acc.map (· ++ [i])) (.sh (cD8 i)) (fun z hz => by
      rcases List.mem_append.mp hz with q | q
      · have := h z q; rw [List.length_cons] at this; omega
      · obtain ⟨w, hw, rfl⟩ := List.mem_map.mp q
        have := h w hw
        rw [List.length_cons] at this
        rw [List.length_append]; simp; omega) (by rw [List.length_append, List.length_map, ← Nat.two_mul, ← Nat.mul_assoc]; exact hl)
    refine ⟨e3, ?_⟩
    rw [List.map_cons, e_loop1]
    show (match bodyL (fr x y a4 a5 a6 a7 (.sh (.list (acc.map encL))) (.sh (cD8 i)) a10 a11 a12 a13 a14 a15 a16) s with
      | .nx ρ2 s2 => loopD (nmT 9) bodyL (l.map cD8) ρ2 s2
      | .ct ρ2 s2 => loopD (nmT 9) bodyL (l.map cD8) ρ2 s2
      | .bk ρ2 s2 => .nx ρ2 s2
      | r => r) = _
    rw [step_lots (fun x hx => by have := h x hx; omega) hl2]
    exact ih
def tl (y : Sy) (i : Fin 8) : Option Sy := if i = 0 then some y else if i = 3 then some (.nd .or (.lt 0) .no) else none
def tL (y : Sy) : List (D × D) := [(.str "a", toD y), (.str "d", .tuple [.str "or", .str "a", .str "no"])]
theorem told_tL (y : Sy) : Told (tl y) (tL y) := by
  refine ⟨rfl, by kernel_rfl, fun i => ?_⟩
  have h : ∀ i : Fin 8, i = 0 ∨ i = 1 ∨ i = 2 ∨ i = 3 ∨ i = 4 ∨ i = 5 ∨ i = 6 ∨ i = 7 := by decide +kernel
  rcases h i with rfl | rfl | rfl | rfl | rfl | rfl | rfl | rfl <;> kernel_rfl
theorem told_nil : Told (fun _ => none) [] := ⟨rfl, rfl, fun _ => rfl⟩
theorem row_eq (x y : Sy) : (rowY x y).map toD = [toD x, toD y, .str "no", toD x, .str "a", .tuple [.str "and", .str "a", .str "no"]] := by kernel_rfl
theorem row_dep {x y : Sy} (dx : dep x ≤ 12) (dy : dep y ≤ 12) : ∀ z ∈ rowY x y, dep z ≤ 12 := by
  intro z hz
  simp only [rowY, List.mem_cons, List.not_mem_nil, or_false] at hz
  rcases hz with rfl | rfl | rfl | rfl | rfl | rfl
  · exact dx
  · exact dy
  · exact Nat.zero_le _
  · exact dx
  · exact Nat.zero_le _
  · show 1 + max 0 0 ≤ 12; decide
theorem rngL_cons (a : Int) (n : Nat) : rngL a (n + 1) = .int a :: rngL (a + 1) n := by
  unfold rngL
  rw [List.range_succ_eq_map, List.map_cons, List.map_map]
  congr 1
  · show PyData.int (a + 0) = _
    rw [Int.add_zero]
  · apply List.map_congr_left
    intro i _
    show PyData.int (a + ((i + 1 : Nat) : Int)) = PyData.int (a + 1 + (i : Int))
    congr 1
    omega
def dk : Nat → Sy
  | 0 => .lt 0
  | k + 1 => .nd .or .no (dk k)
theorem dk_dep : ∀ k, dep (dk k) = k
  | 0 => rfl
  | k + 1 => by
    have := dk_dep k
    show 1 + max (dep .no) (dep (dk k)) = k + 1
    have h0 : dep .no = 0 := rfl
    omega
abbrev bodyD : MS := seqS (ifS (orT (tstM (binD (neD) (callM f_is_saying (consM (vS 14) (retM []))) (binD (ltD) (vB 15) (retM (.int 9))))) (tstM (binD (neD) (callM (f_has_form FU) (consM (vS 14) (consM (retM (.int 3)) (retM [])))) (binD (ltD) (vB 15) (retM (.int 6)))))) (retS (retM (.bool false))) (skipS)) (setS 14 (tupM (consM (retM (.str "or")) (consM (retM (.str "no")) (consM (vS 14) (retM []))))))
theorem step_deep {x y : Sy} {a4 a5 a6 a7 a8 a9 a10 a11 a12 a13 a16 : Ent} {s : S} {k : Nat} (hk : k < 11) :
    bodyD (fr x y a4 a5 a6 a7 a8 a9 a10 a11 a12 a13 (.sh (toD (dk k))) (.sh (.int k)) a16) s = .nx (fr x y a4 a5 a6 a7 a8 a9 a10 a11 a12 a13 (.sh (toD (dk (k + 1)))) (.sh (.int k)) a16) s := by
  have hd := dk_dep k
  have h1 : f_is_saying [toD (dk k)] s = .ok (.sh (.bool (decide ((k : Int) < 9)))) s := by
    have : frm (dk k) 0 = decide ((k : Int) < 9) := by
      rw [frm_iff, hd]
      exact decide_eq_decide.mpr (by omega)
    simp [f_is_saying, m_is_saying, ev_form FU (dk k) 0 s (by rw [hd]; show k < 14; omega), this]
  have h2 : f_has_form FU [toD (dk k), .int 3] s = .ok (.sh (.bool (decide ((k : Int) < 6)))) s := by
    have : frm (dk k) 3 = decide ((k : Int) < 6) := by
      rw [frm_iff, hd]
      exact decide_eq_decide.mpr (by omega)
    rw [ev_form FU (dk k) 3 s (by rw [hd]; show k < 14; omega), this]
  have shb : ∀ b : Bool, SeqAt.shaped (.bool b) = true := fun b => Sh.bool.sh (by decide)
  unfold bodyD
  generalize hQ : dk k = q at h1 h2
  have e : toD (dk (k + 1)) = .tuple [.str "or", .str "no", toD q] := by rw [← hQ]; rfl
  rw [e]
  refine seq_step (if_off (or_off (ne_off (d := .bool (decide ((k : Int) < 9))) (by simp [h1]) (by simp) (shb _)) (ne_off (d := .bool (decide ((k : Int) < 6))) (by simp [h2]) (by simp) (shb _)))) ?_
  simp
theorem loop_deep {x y : Sy} {a4 a5 a6 a7 a8 a9 a10 a11 a12 a13 a16 : Ent} {s : S} : ∀ (n k : Nat) (e2 : Ent), k + n = 11 →
    ∃ e3, loopD (nmT 15) bodyD (rngL k n) (fr x y a4 a5 a6 a7 a8 a9 a10 a11 a12 a13 (.sh (toD (dk k))) e2 a16) s = .nx (fr x y a4 a5 a6 a7 a8 a9 a10 a11 a12 a13 (.sh (toD (dk 11))) e3 a16) s
  | 0, k, e2, h => by
    have : k = 11 := by omega
    subst this
    exact ⟨e2, rfl⟩
  | n + 1, k, e2, h => by
    obtain ⟨e3, ih⟩ := loop_deep (x := x) (y := y) (a4 := a4) (a5 := a5) (a6 := a6) (a7 := a7) (a8 := a8) (a9 := a9) (a10 := a10) (a11 := a11) (a12 := a12) (a13 := a13) (a16 := a16) (s := s) n (k + 1) (.sh (.int k)) (by omega)
    refine ⟨e3, ?_⟩
    rw [rngL_cons, e_loop1]
    show (match bodyD (fr x y a4 a5 a6 a7 a8 a9 a10 a11 a12 a13 (.sh (toD (dk k))) (.sh (.int k)) a16) s with
      | .nx ρ2 s2 => loopD (nmT 15) bodyD (rngL ((k : Int) + 1) n) ρ2 s2
      | .ct ρ2 s2 => loopD (nmT 15) bodyD (rngL ((k : Int) + 1) n) ρ2 s2
      | .bk ρ2 s2 => .nx ρ2 s2
      | r => r) = _
    rw [step_deep (by omega)]
    exact ih
theorem ixm1 (a : D) : ixD (.list [a]) (.int (-1)) = some a := by kernel_rfl
theorem ixm3 (a b c : D) : ixD (.list [a, b, c]) (.int (-1)) = some c := by kernel_rfl
theorem rv1 (a : D) : rev2D (.list [a]) = some (.list []) := rfl
theorem rv3 (a b c : D) : rev2D (.list [a, b, c]) = some (.list [b, a]) := rfl
def badL : List D := [.none, .str "", .str "i", .str "ab", .str "A", .int 3, .tuple [.str "and", .str "a"], .list [.str "and", .str "a", .str "b"], .tuple [.str "not", .str "a", .str "b"], .tuple [.str "if", .str "a", .str "b", .str "c"], .tuple [.str "or", .str "a", .none], .tuple [.tuple [.int 1], .str "a", .str "b"], .str "yes"]
theorem bad_ok (s : S) : ∀ d ∈ badL, f_is_saying [d] s = .ok (.sh (.bool false)) s ∧ f__law_is FU [d, .int 0] s = .ok (.sh (.bool false)) s := by
  intro d hd
  simp only [badL, List.mem_cons, List.not_mem_nil, or_false] at hd
  rcases hd with rfl | rfl | rfl | rfl | rfl | rfl | rfl | rfl | rfl | rfl | rfl | rfl | rfl <;> exact ⟨by kernel_rfl, by kernel_rfl⟩
def letL : List (D × Bool) := [(.str "a", true), (.str "h", true), (.str "i", false), (.str "no", false), (.str "", false), (.none, false), (.str "ab", false)]
theorem let_ok (s : S) : ∀ d ∈ letL, f_is_letter [d.1] s = .ok (.sh (.bool d.2)) s := by
  intro d hd
  simp only [letL, List.mem_cons, List.not_mem_nil, or_false] at hd
  rcases hd with rfl | rfl | rfl | rfl | rfl | rfl | rfl <;> kernel_rfl
theorem setS_of {f : M D} {i : Nat} {ρ : Env'} {s s' : S} {d : D} (h : f ρ s = .ok d s') : setS i f ρ s = .nx (ρ.set i (.sh d)) s' := by
  show liftE f _ ρ s = _
  unfold liftE
  rw [h]
theorem call1_of {f : M D} {g : D → Option D} {ρ : Env'} {s s' : S} {d e : D} (h : f ρ s = .ok d s') (hg : g d = some e) : call1 g f ρ s = .ok e s' := by
  show Dy.bindM f _ ρ s = _
  unfold Dy.bindM
  rw [h]
  show ofO (g d) ρ s' = _
  rw [hg]; rfl
theorem lcM_of {src : M (List D)} {vs : List Nat} {T : Tg} {tt : M Bool} {te : M D} {ρ : Env'} {s s1 s2 : S} {ds xs : List D} (hs : src ρ s = .ok ds s1) (hl : lcD T tt te ds [] (wipeE ρ vs) s1 = .ok xs s2) : lcM src vs T tt te ρ s = .ok (.list xs) s2 := by
  show Dy.bindM src _ ρ s = _
  unfold Dy.bindM
  rw [hs]
  show lcFin _ = _
  rw [hl]; rfl
theorem rng1M_of {f : M D} {ρ : Env'} {s s' : S} {d : D} {ds : List D} (h : f ρ s = .ok d s') (hr : rng1D [d] = some ds) : rng1M (consM f (retM [])) ρ s = .ok ds s' := by
  show Dy.bindM (consM f (retM [])) _ ρ s = _
  unfold Dy.bindM consM Dy.bindM
  rw [h]
  show ofO (rng1D [d]) ρ s' = _
  rw [hr]; rfl
theorem tup2_of {f g : M D} {ρ : Env'} {s s1 s2 : S} {d e : D} (h1 : f ρ s = .ok d s1) (h2 : g ρ s1 = .ok e s2) : tupM (consM f (consM g (retM []))) ρ s = .ok (.tuple [d, e]) s2 := by
  show Dy.bindM (consM f (consM g (retM []))) _ ρ s = _
  unfold Dy.bindM consM Dy.bindM
  rw [h1]
  simp only [h2]
  rfl
theorem law_c (x y : Sy) (dx : dep x ≤ 12) (dx4 : dep x ≤ 4) (dy : dep y ≤ 12) (A4 A5 A6 A7 A8 e9 A10 A11 A12 A13 : Ent) (s2 s3 : S) (hp : f__law_paths [hndD, toD x] s2 = .ok (.sh (.bool true)) s3) :
    m_law_18 (fr x y A4 A5 A6 A7 A8 e9 A10 A11 A12 A13 .un .un .un) s2 = .rt (.sh (.bool true)) s3 := by
  have sx : SeqAt.shaped (toD x) = true := shp dx
  have hfx : frm x 0 = true := by rw [frm_iff]; exact decide_eq_true (.inr (by omega))
  have isx : ∀ s, f_is_saying [toD x] s = .ok (.sh (.bool true)) s := fun s => by
    simp [f_is_saying, m_is_saying, ev_form FU x 0 s (fu_lt dx), hfx]
  have lx := fu_lt dx
  have shb : ∀ b : Bool, SeqAt.shaped (.bool b) = true := fun b => Sh.bool.sh (by decide)
  unfold m_law_18
  have h1 : SeqAt.shaped (.tuple [.str "if", toD x, .str "no"]) = true := shd_toD (y := .nd .im x .no) (by show 1 + max (dep x) 0 ≤ 60; omega)
  have h2 : SeqAt.shaped (.tuple [.str "if", .str "no", .str "no"]) = true := shd_toD (y := .nd .im .no .no) (by show 1 + max 0 0 ≤ 60; omega)
  have h3 : SeqAt.shaped (.tuple [.str "and", .tuple [.str "if", toD x, toD y], .tuple [.str "if", toD y, toD x]]) = true := shd_toD (y := .nd .an (.nd .im x y) (.nd .im y x)) (by show 1 + max (1 + max (dep x) (dep y)) (1 + max (dep y) (dep x)) ≤ 60; omega)
  have h4 : SeqAt.shaped (.tuple [.str "and", toD x, .tuple [.str "and", toD y, .str "a"]]) = true := shd_toD (y := .nd .an x (.nd .an y (.lt 0))) (by show 1 + max (dep x) (1 + max (dep y) 0) ≤ 60; omega)
  have h5 : SeqAt.shaped (.tuple [.str "or", toD x, .tuple [.str "or", toD y, .str "a"]]) = true := shd_toD (y := .nd .or x (.nd .or y (.lt 0))) (by show 1 + max (dep x) (1 + max (dep y) 0) ≤ 60; omega)
  have h6 : SeqAt.shaped (.str "no") = true := by kernel_rfl
  refine seq_step (ρ' := fr x y A4 A5 A6 A7 A8 e9 A10 A11 A12 A13 .un .un .un) (s' := s2) (if_off (or_off (ne_off (d := .tuple [.str "if", toD x, .str "no"]) (by simp [f_never, m_never]) (by simp) h1)
    (or_off (ne_off (d := .tuple [.str "if", .str "no", .str "no"]) (by simp [f_yes, m_yes]) (by simp) h2)
      (ne_off (d := .tuple [.str "and", .tuple [.str "if", toD x, toD y], .tuple [.str "if", toD y, toD x]]) (by simp [f_both_ways, m_both_ways]) (by simp) h3)))) ?_
  have y0 : f_yes [] s2 = .ok (.sh (.tuple [.str "if", .str "no", .str "no"])) s2 := by simp [f_yes, m_yes]
  refine seq_step (ρ' := fr x y A4 A5 A6 A7 A8 e9 A10 A11 A12 A13 .un .un .un) (s' := s2) (if_off (or_off (ne_off (d := .tuple [.str "if", .str "no", .str "no"]) (by simp [f_all_of, m_all_of, eq_int, y0]) (by simp) h2)
    (or_off (ne_off (d := .str "no") (by simp [f_some_of, m_some_of, eq_int]) (by simp) h6)
      (or_off (ne_off (d := toD x) (by simp [f_all_of, m_all_of, eq_int, ixm1, rv1]) (by simp) sx)
        (ne_off (d := toD x) (by simp [f_some_of, m_some_of, eq_int, ixm1, rv1]) (by simp) sx))))) ?_
  refine seq_step (ρ' := fr x y A4 A5 A6 A7 A8 e9 A10 A11 A12 A13 .un .un .un) (s' := s2) (if_off (or_off (ne_off (d := .tuple [.str "and", toD x, .tuple [.str "and", toD y, .str "a"]]) (by simp [f_all_of, m_all_of, eq_int, ixm3, rv3, e_loop1]) (by simp) h4)
      (ne_off (d := .tuple [.str "or", toD x, .tuple [.str "or", toD y, .str "a"]]) (by simp [f_some_of, m_some_of, eq_int, ixm3, rv3, e_loop1]) (by simp) h5))) ?_
  have k0 : (PyData.str "a" : D) = toD (dk 0) := by kernel_rfl
  refine seq_step (ρ' := fr x y A4 A5 A6 A7 A8 e9 A10 A11 A12 A13 (.sh (toD (dk 0))) .un .un) (s' := s2) (by rw [← k0]; simp) ?_
  obtain ⟨e15, hdp⟩ := loop_deep (x := x) (y := y) (a4 := A4) (a5 := A5) (a6 := A6) (a7 := A7) (a8 := A8) (a9 := e9) (a10 := A10) (a11 := A11) (a12 := A12) (a13 := A13) (a16 := .un) (s := s2) 11 0 .un rfl
  have r11 := rng1_ok (v := 11) (by decide) (by decide)
  refine seq_step (ρ' := fr x y A4 A5 A6 A7 A8 e9 A10 A11 A12 A13 (.sh (toD (dk 11))) e15 .un) (s' := s2) (by
    show forS (rng1M (consM (retM (.int 11)) (retM []))) (nmT 15) bodyD _ _ = _
    generalize bodyD = B at hdp ⊢
    simp [r11]
    exact hdp) ?_
  generalize Ent.sh (toD (dk 11)) = A14
  have lb : lenOk badL = true := lenOk_of (by show 13 ≤ 16777216; decide)
  refine seq_step (ρ' := fr x y A4 A5 A6 A7 A8 e9 A10 A11 A12 A13 A14 e15 (.sh (.list badL))) (s' := s2) (by
    have lb2 : lenOk [.none, .str "", .str "i", .str "ab", .str "A", .int 3, .tuple [.str "and", .str "a"], .list [.str "and", .str "a", .str "b"], .tuple [.str "not", .str "a", .str "b"], .tuple [.str "if", .str "a", .str "b", .str "c"], .tuple [.str "or", .str "a", .none], .tuple [.tuple [.int 1], .str "a", .str "b"], (.str "yes" : D)] = true := lb
    simp [lb2, badL]) ?_
  have cb := lc_pure (T := nmT 20) (tt := orT (tstM (binD (isD true) (callM f_is_saying (consM (vS 20) (retM []))) (retM (.bool false)))) (tstM (callM (f__law_is FU) (consM (vS 20) (consM (retM (.int 0)) (retM [])))))) (te := vS 20) (ρ := fr x y A4 A5 A6 A7 A8 e9 A10 A11 A12 A13 A14 e15 (.sh (.list badL))) (s := s2) (fun _ => false) id badL [] (fun d hd => ⟨_, rfl, by
    obtain ⟨b1, b2⟩ := bad_ok s2 d hd
    simp [b1, b2, isD], fun h => by cases h⟩) (by show 0 + 13 ≤ 16777216; decide)
  have eb : (badL.filter fun _ => false) = [] := List.filter_eq_nil_iff.mpr fun _ _ => by simp
  rw [eb] at cb
  refine seq_step (ρ' := fr x y A4 A5 A6 A7 A8 e9 A10 A11 A12 A13 A14 e15 (.sh (.list badL))) (s' := s2) (if_off (by
    generalize orT (tstM (binD (isD true) (callM f_is_saying (consM (vS 20) (retM []))) (retM (.bool false)))) (tstM (callM (f__law_is FU) (consM (vS 20) (consM (retM (.int 0)) (retM []))))) = B at cb ⊢
    simp [cb])) ?_
  have cl := lc_typed_all (T := nmT 20) (te := callM f_is_letter (consM (vS 20) (retM []))) (ρ := fr x y A4 A5 A6 A7 A8 e9 A10 A11 A12 A13 A14 e15 (.sh (.list badL))) (s := s2) (fun p : D × Bool => p.1) (fun p => .bool p.2) letL (fun d hd => ⟨_, rfl, by
    have b1 := let_ok s2 d hd
    simp [b1]⟩) (by show 7 ≤ 16777216; decide)
  have l7 : ∀ {a b c d e f g : D}, lenOk [a, b, c, d, e, f, g] = true := fun {a b c d e f g} => lenOk_of (by show 7 ≤ 16777216; decide)
  refine seq_step (ρ' := fr x y A4 A5 A6 A7 A8 e9 A10 A11 A12 A13 A14 e15 (.sh (.list badL))) (s' := s2) (if_off (ne_off (d := .list [.bool true, .bool true, .bool false, .bool false, .bool false, .bool false, .bool false]) (by
    have cl2 : lcD (nmT 20) (retM true) (callM f_is_letter (consM (vS 20) (retM []))) [.str "a", .str "h", .str "i", .str "no", .str "", .none, .str "ab"] [] (fr x y A4 A5 A6 A7 A8 e9 A10 A11 A12 A13 A14 e15 (.sh (.list badL))) s2 = .ok [.bool true, .bool true, .bool false, .bool false, .bool false, .bool false, .bool false] s2 := cl
    generalize callM f_is_letter (consM (vS 20) (retM [])) = B at cl2 ⊢
    simp [l7, cl2]) (by simp [l7]) (by kernel_rfl))) ?_
  have ec : eqD (.tuple [.int 8, .str "abcdefgh"]) (.tuple [.int 8, .str "abcdefgh"]) = some (.bool true) := eq_self (by kernel_rfl)
  have eb2 : eqD (.bool true) (.bool true) = some (.bool true) := eq_self (shb _)
  simp [ec, hp, ev_lis FU x 0 s3 lx, isx, hfx, eb2]
theorem law_b2 (x y : Sy) (dx : dep x ≤ 12) (dx4 : dep x ≤ 4) (dy : dep y ≤ 12) (A4 A5 A6 A7 A8 e9 : Ent) (s2 s3 : S) (hp : f__law_paths [hndD, toD x] s2 = .ok (.sh (.bool true)) s3) :
    m_law_14 (fr x y A4 A5 A6 A7 A8 e9 .un .un .un .un .un .un .un) s2 = .rt (.sh (.bool true)) s3 := by
  have lx := fu_lt dx
  unfold m_law_14
  have esg := ev_lsigns FU x true s2 lx dx
  have lsl := lsg_len x true
  have szx : siz x ≤ 31 := by
    have h1 := siz_lt x
    have h2 : 2 ^ (dep x + 1) ≤ 2 ^ 5 := Nat.pow_le_pow_right (by decide) (by omega)
    omega
  refine seq_step (ρ' := fr x y A4 A5 A6 A7 A8 e9 (.sh (.list ((lsg x true).map encP))) .un .un .un .un .un .un) (s' := s2) (by simp [esg]) ?_
  have tf : ∀ (p : Fin 8 × Bool) (ρ : Env'), (tupT 2 (consT (nmT 9) (consT (nmT 22) (nilT)))).f (encP p) ρ = some ((ρ.set 9 (.sh (cD8 p.1))).set 22 (.sh (.bool p.2))) := fun p ρ => rfl
  have c15 := lc_typed (T := tupT 2 (consT (nmT 9) (consT (nmT 22) (nilT)))) (tt := tstM (vS 22)) (te := vS 9) (ρ := fr x y A4 A5 A6 A7 A8 .un (.sh (.list ((lsg x true).map encP))) .un .un .un .un .un .un) (s := s2) encP (fun p => p.2) (fun p => cD8 p.1) (lsg x true) [] (fun p _ => ⟨_, tf p _, by simp, fun _ => by simp⟩) (by simp; omega)
  have c16 := lc_typed (T := tupT 2 (consT (nmT 9) (consT (nmT 22) (nilT)))) (tt := notT (tstM (vS 22))) (te := vS 9) (ρ := fr x y A4 A5 A6 A7 A8 .un (.sh (.list ((lsg x true).map encP))) .un .un .un .un .un .un) (s := s2) encP (fun p => !p.2) (fun p => cD8 p.1) (lsg x true) [] (fun p _ => ⟨_, tf p _, by simp, fun _ => by simp⟩) (by simp; omega)
  have m1 : ∀ i, i ∈ ((lsg x true).filter fun p => p.2).map (·.1) ↔ sgn x true i = true := fun i => by
    have h := mem_lsg x true true i
    rw [show (true == true) = true from rfl] at h
    rw [← h, List.mem_map]
    constructor
    · rintro ⟨⟨j, v⟩, hj, rfl⟩
      obtain ⟨h1, h2⟩ := List.mem_filter.mp hj
      have h2 : v = true := h2
      subst h2; exact h1
    · intro h1; exact ⟨(i, true), List.mem_filter.mpr ⟨h1, rfl⟩, rfl⟩
  have m2 : ∀ i, i ∈ ((lsg x true).filter fun p => !p.2).map (·.1) ↔ sgn x false i = true := fun i => by
    have h := mem_lsg x true false i
    rw [show (false == true) = false from rfl] at h
    rw [← h, List.mem_map]
    constructor
    · rintro ⟨⟨j, v⟩, hj, rfl⟩
      obtain ⟨h1, h2⟩ := List.mem_filter.mp hj
      have h2 : v = false := by simpa using h2
      subst h2; exact h1
    · intro h1; exact ⟨(i, false), List.mem_filter.mpr ⟨h1, rfl⟩, rfl⟩
  have e15 : ((lsg x true).filter fun p => p.2).map (fun p => cD8 p.1) = (((lsg x true).filter fun p => p.2).map (·.1)).map cD8 := by rw [List.map_map]; rfl
  have e16 : ((lsg x true).filter fun p => !p.2).map (fun p => cD8 p.1) = (((lsg x true).filter fun p => !p.2).map (·.1)).map cD8 := by rw [List.map_map]; rfl
  have l1 : (((lsg x true).filter fun p => p.2).map (·.1)).length ≤ 31 := by
    rw [List.length_map]
    have := List.length_filter_le (fun p : Fin 8 × Bool => p.2) (lsg x true); omega
  have l2 : (((lsg x true).filter fun p => !p.2).map (·.1)).length ≤ 31 := by
    rw [List.length_map]
    have := List.length_filter_le (fun p : Fin 8 × Bool => !p.2) (lsg x true); omega
  rw [e15] at c15
  rw [e16] at c16
  generalize ((lsg x true).filter fun p => p.2).map (·.1) = W1 at c15 m1 l1
  generalize ((lsg x true).filter fun p => !p.2).map (·.1) = W2 at c16 m2 l2
  have u1 := uni_srt m1
  have u2 := uni_srt m2
  have sd1 := sortD_chr (l := W1) (by omega)
  have sd2 := sortD_chr (l := W2) (by omega)
  rw [sortL_c] at sd1 sd2
  generalize hA10 : Ent.sh (PyData.list ((lsg x true).map encP)) = A10 at c15 c16
  refine seq_step (ρ' := fr x y A4 A5 A6 A7 A8 e9 A10 (.sh (.list ((srt W1).map cD8))) (.sh (.list ((srt W2).map cD8))) .un .un .un .un) (s' := s2) (by
    generalize (tupT 2 (consT (nmT 9) (consT (nmT 22) (nilT)))) = T9 at c15 c16 ⊢
    generalize notT (tstM (vS 22)) = B2 at c16 ⊢
    generalize tstM (vS 22) = B1 at c15 ⊢
    subst hA10
    simp [c15, c16, sd1, sd2, tupT, consT, nilT]) ?_
  have hin : ∀ W : List (Fin 8), ∀ z ∈ W, ∀ n, inD true (cD8 z) (.list ((W.take n).map cD8)) = some (.bool (!decide (z ∈ W.take n))) := fun W z _ n => by
    rw [ni_l (shc z) ((sh_cll _).sh (by decide))]
    congr 3
    rw [Bool.eq_iff_iff, List.any_eq_true, decide_eq_true_eq]
    constructor
    · rintro ⟨d, hd, h⟩
      obtain ⟨j, hj, rfl⟩ := List.mem_map.mp hd
      rw [eqv_c, decide_eq_true_eq] at h
      rw [← h]; exact hj
    · intro h
      exact ⟨cD8 z, List.mem_map.mpr ⟨z, h, rfl⟩, by rw [eqv_c]; simp⟩
  have ls1 : (srt W1).length ≤ 31 := by unfold srt; rw [List.length_mergeSort]; exact l1
  have ls2 : (srt W2).length ≤ 31 := by unfold srt; rw [List.length_mergeSort]; exact l2
  have d1 := lc_ded cD8 0 (r := 11) (k := 15) (ρ := fr x y A4 A5 A6 A7 A8 e9 A10 (.sh (.list ((srt W1).map cD8))) (.sh (.list ((srt W2).map cD8))) .un .un .un .un) (s := s2) (srt W1) rfl (by show 15 < 23; decide) (by decide) (by omega) (hin _)
  have d2 := lc_ded cD8 0 (r := 12) (k := 15) (ρ := fr x y A4 A5 A6 A7 A8 e9 A10 (.sh (.list ((srt W1).map cD8))) (.sh (.list ((srt W2).map cD8))) (.sh (.tuple ((sgl x true).map cD8))) .un .un .un) (s := s2) (srt W2) rfl (by show 15 < 23; decide) (by decide) (by omega) (hin _)
  rw [u1] at d1
  rw [u2] at d2
  have r1 := rng1_ok (v := ((srt W1).length : Int)) (by omega) (by omega)
  have r2 := rng1_ok (v := ((srt W2).length : Int)) (by omega) (by omega)
  rw [Int.toNat_natCast] at r1 r2
  refine seq_step (ρ' := fr x y A4 A5 A6 A7 A8 e9 A10 (.sh (.list ((srt W1).map cD8))) (.sh (.list ((srt W2).map cD8))) (.sh (.tuple ((sgl x true).map cD8))) .un .un .un) (s' := s2) (by
    exact setS_of (call1_of (lcM_of (rng1M_of (d := .int (srt W1).length) (by simp) r1) d1) rfl)) ?_
  refine seq_step (ρ' := fr x y A4 A5 A6 A7 A8 e9 A10 (.sh (.list ((srt W1).map cD8))) (.sh (.list ((srt W2).map cD8))) (.sh (.tuple ((sgl x true).map cD8))) .un .un .un) (if_off (ne_off (d := .tuple [.tuple ((sgl x true).map cD8), .tuple ((sgl x false).map cD8)]) (by simp [ev_signs FU x s2 lx]) (by
    exact tup2_of rfl (call1_of (lcM_of (rng1M_of (d := .int (srt W2).length) (by simp) r2) d2) rfl)) ((Sh.tup (n := 1) fun d hd => by
      simp only [List.mem_cons, List.not_mem_nil, or_false] at hd
      rcases hd with rfl | rfl
      · exact sh_cl _
      · exact sh_cl _).sh (by decide)))) ?_
  generalize hA11 : Ent.sh (PyData.list ((srt W1).map cD8)) = A11
  generalize hA12 : Ent.sh (PyData.list ((srt W2).map cD8)) = A12
  generalize hA13 : Ent.sh (PyData.tuple ((sgl x true).map cD8)) = A13
  exact law_c x y dx dx4 dy _ _ _ _ _ _ _ _ _ _ s2 s3 hp
theorem law_b (x y : Sy) (dx : dep x ≤ 12) (dx4 : dep x ≤ 4) (dy : dep y ≤ 12) (A5 A6 A7 : Ent) (s2 s3 : S) (hp : f__law_paths [hndD, toD x] s2 = .ok (.sh (.bool true)) s3) :
    m_law_10 (fr x y (.sh (.list ((lts x).map cD8))) A5 A6 A7 .un .un .un .un .un .un .un .un .un) s2 = .rt (.sh (.bool true)) s3 := by
  have sx : SeqAt.shaped (toD x) = true := shp dx
  have lx := fu_lt dx
  unfold m_law_10
  generalize hA4 : Ent.sh (PyData.list ((lts x).map cD8)) = A4
  have hlx := lts_len x
  refine seq_step (ρ' := fr x y A4 A5 A6 A7 (.sh (.list ([[]].map encL))) .un .un .un .un .un .un .un .un) (s' := s2) (by simp; rfl) ?_
  obtain ⟨e9, hlo⟩ := loop_lots (x := x) (y := y) (a4 := A4) (a5 := A5) (a6 := A6) (a7 := A7) (a10 := .un) (a11 := .un) (a12 := .un) (a13 := .un) (a14 := .un) (a15 := .un) (a16 := .un) (s := s2) (lts x) [[]] .un (fun z hz => by
    rw [List.mem_singleton.mp hz]; simp; omega) (by
    have : 2 ^ (lts x).length ≤ 2 ^ 8 := Nat.pow_le_pow_right (by decide) hlx
    simp; omega)
  refine seq_step (ρ' := fr x y A4 A5 A6 A7 (.sh (.list ((stg (lts x) [[]]).map encL))) e9 .un .un .un .un .un .un .un) (s' := s2) (by
    show forS (itM (vS 4)) (nmT 9) bodyL _ _ = _
    generalize bodyL = B at hlo ⊢
    subst hA4
    simp
    exact hlo) ?_
  have hsl := stg_lts_len x
  generalize hQ : stg (lts x) [[]] = Q at hsl ⊢
  have shQ : SeqAt.shaped (.list (Q.map encL)) = true := (Sh.list (n := 1) fun d hd => by
    obtain ⟨l, _, rfl⟩ := List.mem_map.mp hd
    exact sh_cl l).sh (by decide)
  have est := ev_settings (lts x) s2 (by omega)
  rw [hQ] at est
  have shb : ∀ b : Bool, SeqAt.shaped (.bool b) = true := fun b => Sh.bool.sh (by decide)
  have c13 := lc_typed (T := nmT 21) (tt := tstM (binD (neD) (callM (f_plain_value FU) (consM (vS 2) (consM (vS 21) (retM [])))) (callM (f__law_plain FU) (consM (vS 2) (consM (vS 21) (retM [])))))) (te := vS 21) (ρ := fr x y A4 A5 A6 A7 (.sh (.list (Q.map encL))) e9 .un .un .un .un .un .un .un) (s := s2) encL (fun _ => false) encL Q [] (fun lot _ => ⟨_, rfl, by
    simp [encL, ev_plain FU x lot s2 lx, ev_lplain FU x lot s2 lx, ne_self (shb _)], fun h => by cases h⟩) (by simp; omega)
  have c14 := lc_typed (T := nmT 21) (tt := notT (tstM (callM (f__law_plain FU) (consM (vS 2) (consM (vS 21) (retM [])))))) (te := vS 21) (ρ := fr x y A4 A5 A6 A7 (.sh (.list (Q.map encL))) e9 .un .un .un .un .un .un .un) (s := s2) encL (fun lot => !pv lot x) encL Q [] (fun lot _ => ⟨_, rfl, by
    simp [encL, ev_lplain FU x lot s2 lx], fun h => by simp⟩) (by simp; omega)
  refine seq_step (ρ' := fr x y A4 A5 A6 A7 (.sh (.list (Q.map encL))) e9 .un .un .un .un .un .un .un) (if_off (or_off (ne_off (d := .list (Q.map encL)) (by subst hA4; simp [est]) (by simp) shQ) (by
    generalize (tstM (binD (neD) (callM (f_plain_value FU) (consM (vS 2) (consM (vS 21) (retM [])))) (callM (f__law_plain FU) (consM (vS 2) (consM (vS 21) (retM [])))))) = B at c13 ⊢
    have e0 : (Q.filter fun _ => false) = [] := List.filter_eq_nil_iff.mpr fun _ _ => by simp
    rw [e0] at c13
    simp [c13]))) ?_
  have epl := ev_plainly x s2 dx
  rw [hQ] at epl
  refine seq_step (ρ' := fr x y A4 A5 A6 A7 (.sh (.list (Q.map encL))) e9 .un .un .un .un .un .un .un) (if_off (ne_off (d := .bool (Q.all fun lot => pv lot x)) (by simp [epl]) (by
    generalize (notT (tstM (callM (f__law_plain FU) (consM (vS 2) (consM (vS 21) (retM [])))))) = B at c14 ⊢
    have e0 : decide (((Q.filter fun lot => !pv lot x).length : Int) = 0) = Q.all fun lot => pv lot x := by
      rw [Bool.eq_iff_iff, decide_eq_true_eq, List.all_eq_true]
      constructor
      · intro h z hz
        have h2 : (Q.filter fun lot => !pv lot x) = [] := List.length_eq_zero_iff.mp (by omega)
        have := List.filter_eq_nil_iff.mp h2 z hz
        simpa using this
      · intro h
        have h2 : (Q.filter fun lot => !pv lot x) = [] := List.filter_eq_nil_iff.mpr fun z hz => by simp [h z hz]
        rw [h2]; rfl
    simp [c14, eq_int]
    simpa using e0) (shb _))) ?_
  exact law_b2 x y dx dx4 dy _ _ _ _ _ _ s2 s3 hp
theorem law_ok : LawOk 23 m_law := by
  intro ns hns
  obtain ⟨x, s1, ex, hx, g1⟩ := ev_drawn (ls := [0, 1, 2, 3]) (by simp) (by simp) FU 4 ⟨0, cellsOf ns⟩ (by decide) (good_cells ns)
  obtain ⟨y, s2, ey, hy, g2⟩ := ev_drawn (ls := [0, 4, 7]) (by simp) (by simp) FU 2 s1 (by decide) g1
  rw [← abcd] at ex
  rw [← aeh] at ey
  have dx : dep x ≤ 12 := by omega
  have dy : dep y ≤ 12 := by omega
  have sx : SeqAt.shaped (toD x) = true := shp dx
  have hfx : frm x 0 = true := by rw [frm_iff]; exact decide_eq_true (.inr (by omega))
  have isx : ∀ s, f_is_saying [toD x] s = .ok (.sh (.bool true)) s := fun s => by
    simp [f_is_saying, m_is_saying, ev_form FU x 0 s (fu_lt dx), hfx]
  generalize (⟨0, cellsOf ns⟩ : S) = s0 at ex
  obtain ⟨s3, hp⟩ := ev_paths x s2 dx g2
  refine ⟨s3, ?_⟩
  unfold m_law
  refine seq_step (ρ' := fr x y .un .un .un .un .un .un .un .un .un .un .un .un .un) (s' := s2) (by
    have ex' : f__law_drawn FU [hndD, .int 4, .list [.str "a", .str "b", .str "c", .str "d"]] s0 = .ok (.sh (toD x)) s1 := ex
    have ey' : f__law_drawn FU [hndD, .int 2, .list [.str "a", .str "e", .str "h"]] s1 = .ok (.sh (toD y)) s2 := ey
    simp [lawE, ex', ey', tupT, consT, nilT, nmT]) ?_
  have lx := fu_lt dx
  refine seq_step (if_off (or_off (by simp [isx, isD]) (or_off (ne_off (d := .int (dep x)) (by simp [ev_depth FU x s2 lx]) (by simp [deep_eq, ev_depth FU x s2 lx]) (Sh.int.sh (by decide)))
    (or_off (ne_off (d := .int (siz x)) (by simp [ev_size FU x s2 lx]) (by simp [lsize_eq, ev_size FU x s2 lx]) (Sh.int.sh (by decide)))
      (ne_off (d := .str (shw x)) (by simp [ev_shown FU x s2 lx dx]) (by simp [ev_lshown FU x s2 lx dx]) ((Sh.str (shw_ok x)).sh (by decide))))))) ?_
  refine seq_step (ρ' := fr x y (.sh (.list ((lts x).map cD8))) .un .un .un .un .un .un .un .un .un .un .un .un) (s' := s2) (by simp [ev_lletters x s2 dx]) ?_
  refine seq_step (if_off (or_off (ne_off (d := .list ((prt x).map toD)) (by simp [ev_parts FU x s2 lx dx]) (by simp [ev_lparts FU x s2 lx dx]) ((sh_list fun z hz => Nat.le_trans (prt_dep x z hz) dx).sh (by decide)))
    (or_off (ne_off (d := .tuple ((lts x).map cD8)) (by simp [ev_letters FU x s2 lx]) (by simp) ((sh_cl _).sh (by decide)))
      (ne_off (d := kD x) (by simp [ev_key x s2 dx, kD]) (by simp [lsize_eq, ev_size FU x s2 lx, ev_lshown FU x s2 lx dx, kD]) ((sh_kD x).sh (by decide)))))) ?_
  have hrow := row_dep dx dy
  have er := row_eq x y
  have l6 : lenOk [toD x, toD y, .str "no", toD x, .str "a", .tuple [.str "and", .str "a", .str "no"]] = true := lenOk_of (by simp)
  refine seq_step (ρ' := fr x y (.sh (.list ((lts x).map cD8))) (.sh (.list ((rowY x y).map toD))) .un .un .un .un .un .un .un .un .un .un .un) (s' := s2) (by simp [er, l6]) ?_
  have hd6 := lc_ded toD Sy.no (r := 5) (k := 15) (ρ := fr x y (.sh (.list ((lts x).map cD8))) (.sh (.list ((rowY x y).map toD))) .un .un .un .un .un .un .un .un .un .un .un) (s := s2) (rowY x y) rfl (by show 15 < 23; decide) (by decide) (by show 6 ≤ 1000; decide) (fun z hz n => ni_toD (by have := hrow z hz; omega) fun w hw => by have := hrow w (List.mem_of_mem_take hw); omega)
  refine seq_step (ρ' := fr x y (.sh (.list ((lts x).map cD8))) (.sh (.list ((rowY x y).map toD))) (.pr (.list ((uni [] (rowY x y)).map toD))) .un .un .un .un .un .un .un .un .un .un) (s' := s2) (by
    have rl : (rowY x y).length = 6 := rfl
    rw [rl] at hd6
    generalize (tstM (binD (inD true) (binD ixD (vB 5) (vB 15)) (slM slD (vB 5) (retM none) (partM (vS 15))))) = B1 at hd6 ⊢
    generalize (binD ixD (vB 5) (vB 15)) = B2 at hd6 ⊢
    simp [rl, rng1_ok, hd6]) ?_
  refine frz_pr rfl ?_
  generalize hU : uni [] (rowY x y) = U at hd6 ⊢
  have dU : ∀ z ∈ U, dep z ≤ 12 := fun z hz => by
    rw [← hU] at hz
    rcases mem_uni.mp hz with q | q
    · simp at q
    · exact hrow z q
  have nU : U.Nodup := by rw [← hU]; exact nodup_uni .nil
  have lU : U.length ≤ 6 := by
    have := len_uni (acc := ([] : List Sy)) (xs := rowY x y)
    rw [hU] at this
    exact this
  have in7 := lc_typed_all (T := nmT 19) (te := tupM (consM (callM (f__law_size FU) (consM (vS 19) (retM []))) (consM (callM (f__law_shown FU) (consM (vS 19) (retM []))) (consM (vS 19) (retM [])))))
    (ρ := fr x y (.sh (.list ((lts x).map cD8))) (.sh (.list ((rowY x y).map toD))) (.sh (.list (U.map toD))) .un .un .un .un .un .un .un .un .un .un) (s := s2) toD tD U (fun z hz => ⟨_, rfl, by
      simp [lsize_eq, ev_size FU z s2 (fu_lt (dU z hz)), ev_lshown FU z s2 (fu_lt (dU z hz)) (dU z hz), tD]⟩) (by omega)
  have st7 := sort3_tD nU
  have out7 := lc_typed_all (T := tupT 3 (consT (nmT 17) (consT (nmT 18) (consT (nmT 19) (nilT))))) (te := vS 19)
    (ρ := fr x y (.sh (.list ((lts x).map cD8))) (.sh (.list ((rowY x y).map toD))) (.sh (.list (U.map toD))) .un .un .un .un .un .un .un .un .un .un) (s := s2) tD toD (U.mergeSort leY) (fun z hz => ⟨_, rfl, by simp⟩) (by rw [List.length_mergeSort]; omega)
  generalize hZ : U.mergeSort leY = Z at st7 out7
  have dZ : ∀ z ∈ Z, dep z ≤ 12 := fun z hz => by
    rw [← hZ] at hz
    exact dU z (List.mem_mergeSort.mp hz)
  refine seq_step (ρ' := fr x y (.sh (.list ((lts x).map cD8))) (.sh (.list ((rowY x y).map toD))) (.pr (.list (Z.map toD))) .un .un .un .un .un .un .un .un .un .un) (s' := s2) (by
    generalize (tupM (consM (callM (f__law_size FU) (consM (vS 19) (retM []))) (consM (callM (f__law_shown FU) (consM (vS 19) (retM []))) (consM (vS 19) (retM []))))) = B1 at in7 ⊢
    generalize (tupT 3 (consT (nmT 17) (consT (nmT 18) (consT (nmT 19) (nilT))))) = B2 at out7 ⊢
    simp [in7, st7, out7]) ?_
  refine frz_pr rfl ?_
  have cp := lc_typed_all (T := nmT 19) (te := vS 19) (ρ := fr x y (.sh (.list ((lts x).map cD8))) (.sh (.list ((rowY x y).map toD))) (.sh (.list (Z.map toD))) .un .un .un .un .un .un .un .un .un .un) (s := s2) toD toD (rowY x y) (fun z _ => ⟨_, rfl, by simp⟩) (by show 6 ≤ 16777216; decide)
  have io := ev_in_order (rowY x y) s2 hrow (by show 6 ≤ 500; decide)
  rw [hU, hZ] at io
  refine seq_step (ρ' := fr x y (.sh (.list ((lts x).map cD8))) (.sh (.list ((rowY x y).map toD))) (.sh (.list (Z.map toD))) .un .un .un .un .un .un .un .un .un .un) (if_off (ne_off (d := .list (Z.map toD)) (by simp [cp, io]) (by simp) ((sh_list dZ).sh (by decide)))) ?_
  refine seq_step (ρ' := fr x y (.sh (.list ((lts x).map cD8))) (.sh (.list ((rowY x y).map toD))) (.sh (.list (Z.map toD))) (.sh (.dict (tL y))) .un .un .un .un .un .un .un .un .un) (s' := s2) (by
    have k1 : keysOk [((.str "a" : D), toD y), (.str "d", .tuple [.str "or", .str "a", .str "no"])] = true := by kernel_rfl
    have k2 : mergeD [] [((.str "a" : D), toD y), (.str "d", .tuple [.str "or", .str "a", .str "no"])] = tL y := by kernel_rfl
    simp [dictM, pairsM, k1, k2]) ?_
  have dsb : dep (sb (tl y) x) ≤ 60 := by
    have := sb_dep (tl y) 12 (fun i z h => by
      unfold tl at h
      split at h
      · cases h; exact dy
      · split at h
        · cases h; show 1 + max 0 0 ≤ 12; decide
        · cases h) x
    omega
  have pn : ∀ s, f_put_in FU [toD x, .dict []] s = .ok (.sh (toD x)) s := fun s => by
    have := ev_put _ [] told_nil FU x s lx
    rw [sb_none] at this
    exact this
  refine seq_step (if_off (or_off (ne_off (d := toD (sb (tl y) x)) (by simp [ev_put _ _ (told_tL y) FU x s2 lx]) (by simp [ev_lput _ _ (told_tL y) FU x s2 lx]) (shd_toD dsb)) (ne_off (d := toD x) (by simp [pn]) (by simp) sx))) ?_
  exact law_b x y dx (by omega) dy _ _ _ s2 s3 hp
end K01

set_option maxHeartbeats 0
namespace K01
open PySem PySem.Spec PyProof.Rows L2 Dy
/-! ### the head -/
def s_x_Misstep : Stmt := match top 2 with | .ClassDef _ _ _ b _ _ _ _ _ _ _ => b.getD 0 (.Pass ⟨0, 0, 0, 0⟩) | st => st
def x_Misstep : Dh.XD := ⟨"Misstep", ["word"], "Misstep.__init__", defArgs s_x_Misstep, defBody s_x_Misstep, defScope s_x_Misstep⟩
def d__law_take : He.DefD := ⟨("_law_take", none), "_law_take", "_law_take", defArgs s__law_take, defBody s__law_take, defScope s__law_take, [], []⟩
def d__law_state : He.DefD := ⟨("_law_state", none), "_law_state", "_law_state", defArgs s__law_state, defBody s__law_state, defScope s__law_state, [], []⟩
def d_is_letter : He.DefD := ⟨("is_letter", none), "is_letter", "is_letter", defArgs s_is_letter, defBody s_is_letter, defScope s_is_letter, [], []⟩
def d_has_form : He.DefD := ⟨("has_form", none), "has_form", "has_form", defArgs s_has_form, defBody s_has_form, defScope s_has_form, [], []⟩
def d_is_saying : He.DefD := ⟨("is_saying", none), "is_saying", "is_saying", defArgs s_is_saying, defBody s_is_saying, defScope s_is_saying, [], []⟩
def d_never : He.DefD := ⟨("never", none), "never", "never", defArgs s_never, defBody s_never, defScope s_never, [], []⟩
def d_yes : He.DefD := ⟨("yes", none), "yes", "yes", defArgs s_yes, defBody s_yes, defScope s_yes, [], []⟩
def d_both_ways : He.DefD := ⟨("both_ways", none), "both_ways", "both_ways", defArgs s_both_ways, defBody s_both_ways, defScope s_both_ways, [], []⟩
def d_all_of : He.DefD := ⟨("all_of", none), "all_of", "all_of", defArgs s_all_of, defBody s_all_of, defScope s_all_of, [], []⟩
def d_some_of : He.DefD := ⟨("some_of", none), "some_of", "some_of", defArgs s_some_of, defBody s_some_of, defScope s_some_of, [], []⟩
def d_depth : He.DefD := ⟨("depth", none), "depth", "depth", defArgs s_depth, defBody s_depth, defScope s_depth, [], []⟩
def d_size : He.DefD := ⟨("size", none), "size", "size", defArgs s_size, defBody s_size, defScope s_size, [], []⟩
def d_letters : He.DefD := ⟨("letters", none), "letters", "letters", defArgs s_letters, defBody s_letters, defScope s_letters, [], []⟩
def d_parts : He.DefD := ⟨("parts", none), "parts", "parts", defArgs s_parts, defBody s_parts, defScope s_parts, [], []⟩
def d_put_in : He.DefD := ⟨("put_in", none), "put_in", "put_in", defArgs s_put_in, defBody s_put_in, defScope s_put_in, [], []⟩
def d_shown : He.DefD := ⟨("shown", none), "shown", "shown", defArgs s_shown, defBody s_shown, defScope s_shown, [], []⟩
def d_key : He.DefD := ⟨("key", none), "key", "key", defArgs s_key, defBody s_key, defScope s_key, [], []⟩
def d_in_order : He.DefD := ⟨("in_order", none), "in_order", "in_order", defArgs s_in_order, defBody s_in_order, defScope s_in_order, [], []⟩
def d_plain_value : He.DefD := ⟨("plain_value", none), "plain_value", "plain_value", defArgs s_plain_value, defBody s_plain_value, defScope s_plain_value, [], []⟩
def d_settings : He.DefD := ⟨("settings", none), "settings", "settings", defArgs s_settings, defBody s_settings, defScope s_settings, [], []⟩
def d_is_plainly_so : He.DefD := ⟨("is_plainly_so", none), "is_plainly_so", "is_plainly_so", defArgs s_is_plainly_so, defBody s_is_plainly_so, defScope s_is_plainly_so, [], []⟩
def d_signs : He.DefD := ⟨("signs", none), "signs", "signs", defArgs s_signs, defBody s_signs, defScope s_signs, [], []⟩
def d_within : He.DefD := ⟨("within", none), "within", "within", defArgs s_within, defBody s_within, defScope s_within, [], []⟩
def d__law_pick : He.DefD := ⟨("_law_pick", none), "_law_pick", "_law_pick", defArgs s__law_pick, defBody s__law_pick, defScope s__law_pick, [], []⟩
def d__law_drawn : He.DefD := ⟨("_law_drawn", none), "_law_drawn", "_law_drawn", defArgs s__law_drawn, defBody s__law_drawn, defScope s__law_drawn, [], []⟩
def d__law_parts : He.DefD := ⟨("_law_parts", none), "_law_parts", "_law_parts", defArgs s__law_parts, defBody s__law_parts, defScope s__law_parts, [], []⟩
def d__law_letters : He.DefD := ⟨("_law_letters", none), "_law_letters", "_law_letters", defArgs s__law_letters, defBody s__law_letters, defScope s__law_letters, [], []⟩
def d__law_deep : He.DefD := ⟨("_law_deep", none), "_law_deep", "_law_deep", defArgs s__law_deep, defBody s__law_deep, defScope s__law_deep, [], []⟩
def d__law_order : He.DefD := ⟨("_law_order", none), "_law_order", "_law_order", defArgs s__law_order, defBody s__law_order, defScope s__law_order, [], []⟩
def d__law_world : He.DefD := ⟨("_law_world", none), "_law_world", "_law_world", defArgs s__law_world, defBody s__law_world, defScope s__law_world, [], []⟩
def d__law_forced : He.DefD := ⟨("_law_forced", none), "_law_forced", "_law_forced", defArgs s__law_forced, defBody s__law_forced, defScope s__law_forced, [], []⟩
def d__law_is : He.DefD := ⟨("_law_is", none), "_law_is", "_law_is", defArgs s__law_is, defBody s__law_is, defScope s__law_is, [], []⟩
def d__law_plain : He.DefD := ⟨("_law_plain", none), "_law_plain", "_law_plain", defArgs s__law_plain, defBody s__law_plain, defScope s__law_plain, [], []⟩
def d__law_size : He.DefD := ⟨("_law_size", none), "_law_size", "_law_size", defArgs s__law_size, defBody s__law_size, defScope s__law_size, [], []⟩
def d__law_shown : He.DefD := ⟨("_law_shown", none), "_law_shown", "_law_shown", defArgs s__law_shown, defBody s__law_shown, defScope s__law_shown, [], []⟩
def d__law_put : He.DefD := ⟨("_law_put", none), "_law_put", "_law_put", defArgs s__law_put, defBody s__law_put, defScope s__law_put, [], []⟩
def d__law_signs : He.DefD := ⟨("_law_signs", none), "_law_signs", "_law_signs", defArgs s__law_signs, defBody s__law_signs, defScope s__law_signs, [], []⟩
def d__law_told : He.DefD := ⟨("_law_told", none), "_law_told", "_law_told", defArgs s__law_told, defBody s__law_told, defScope s__law_told, [], []⟩
def d__law_paths : He.DefD := ⟨("_law_paths", none), "_law_paths", "_law_paths", defArgs s__law_paths, defBody s__law_paths, defScope s__law_paths, [], []⟩
def d_law : He.DefD := ⟨("law", none), "law", "law", defArgs s_law, defBody s_law, defScope s_law, [], []⟩
def fn : List He.DefD := ([d__law_take, d__law_state, d_is_letter, d_has_form, d_is_saying, d_never, d_yes, d_both_ways, d_all_of, d_some_of, d_depth, d_size, d_letters, d_parts, d_put_in, d_shown, d_key, d_in_order, d_plain_value, d_settings, d_is_plainly_so, d_signs, d_within, d__law_pick, d__law_drawn, d__law_parts, d__law_letters, d__law_deep, d__law_order, d__law_world] : List He.DefD) ++ ([d__law_forced, d__law_is, d__law_plain, d__law_size, d__law_shown, d__law_put, d__law_signs, d__law_told, d__law_paths, d_law] : List He.DefD)
def fa : List He.Fa := ([.glo "_law_take", .glo "_law_state", .glo "is_letter", .glo "has_form", .glo "is_saying", .glo "never", .glo "yes", .glo "both_ways", .glo "all_of", .glo "some_of", .glo "depth", .glo "size", .glo "letters", .glo "parts", .glo "put_in", .glo "shown", .glo "key", .glo "in_order", .glo "plain_value", .glo "settings", .glo "is_plainly_so", .glo "signs", .glo "within", .glo "_law_pick", .glo "_law_drawn", .glo "_law_parts", .glo "_law_letters", .glo "_law_deep", .glo "_law_order", .glo "_law_world"] : List He.Fa) ++ ([.glo "_law_forced", .glo "_law_is", .glo "_law_plain", .glo "_law_size", .glo "_law_shown", .glo "_law_put", .glo "_law_signs", .glo "_law_told", .glo "_law_paths", .glo "law", .glo "Misstep", .exm "Misstep" "Misstep" true, .int "MOST_DEEP" 8, .str "LETTERS" "abcdefgh", .free "abs", .free "all", .free "any", .free "bool", .free "dict", .free "int", .free "isinstance", .free "len", .free "list", .free "max", .free "min", .free "range", .free "set", .free "sorted", .free "str", .free "sum"] : List He.Fa) ++ ([.free "super", .free "tuple"] : List He.Fa)
def xs : List Dh.XD := [x_Misstep]
def loose : List Str := (["Wrong", "Misstep", "MOST_DEEP", "LETTERS", "is_saying", "has_form", "is_letter", "never", "yes", "both_ways", "all_of", "some_of", "depth", "size", "letters", "parts", "put_in", "key", "in_order", "shown", "plain_value", "settings", "is_plainly_so", "signs", "within", "_law_state", "_law_take", "_law_pick", "_law_drawn", "_law_parts"] : List Str) ++ (["_law_letters", "_law_deep", "_law_order", "_law_world", "_law_forced", "_law_is", "_law_plain", "_law_size", "_law_shown", "_law_put", "_law_signs", "_law_told", "_law_paths"] : List Str)
abbrev R : PySem.W.OpenRow := PySem.W.OpenLaw.row PySem.Challenge.rw_shownwright_k01_whole_sayings_of_letters
abbrev P0 : Program := (PySem.Challenge.rw_shownwright_k01_whole_sayings_of_letters).prog
abbrev hk : PySem.W.Hook := Dh.hookX P0 5 fa fn xs
def ob (s : PySem.W.SharedT) : Dh.AlX := Dh.obsXG P0 5 fa fn xs (HandSHeadRun.getT s)
theorem ob_eq (s : PySem.W.SharedT) : ob s = hk.obs s.abs := Dh.obsXG_eq (HandSHeadRun.getT_eq s)
theorem run (w : World) : HandSHeadRun.RunEq R (PySem.W.view R.prog [46]) hk ob 4000 loose w := by
  intro os
  kernel_rfl
theorem b_Misstep : x_Misstep.body = [PySem.XI.supS (.BinOp (.Constant (.str "this may not be done: ") 0 ⟨7, 25, 7, 49⟩) .Add (.Name "word" ⟨7, 52, 7, 56⟩) ⟨7, 25, 7, 56⟩) ⟨7, 8, 7, 13⟩ ⟨7, 8, 7, 15⟩ ⟨7, 8, 7, 24⟩ ⟨7, 8, 7, 57⟩ ⟨7, 8, 7, 57⟩, PySem.XI.setF "word" (⟨8, 8, 8, 12⟩, ⟨8, 8, 8, 17⟩, ⟨8, 20, 8, 24⟩, ⟨8, 8, 8, 24⟩)] := by kernel_rfl
theorem mk_Misstep {w : World} {K : PySem.W.Frag} {mg : Str → Option Value} (gC : mg "Misstep" = some (.ref (He.ga K "Misstep"))) (gs : mg "super" = none) (f : Dh.XF K P0 x_Misstep) : ∀ X : Cx, X.prog = P0 → X.K = K → X.mg = mg → X.w = w → MkX X "Misstep" (He.ga K "Misstep") ["word"] PStr := by
  intro X hp hK hm hw
  cases X
  dsimp only at hp hK hm hw
  subst hp hK hm hw
  obtain ⟨cda, cc, T⟩ := f.txt
  rw [b_Misstep] at T
  exact mkx1 gC f.kp f.ex f.ty T ⟨rfl, rfl, rfl, rfl, rfl, by decide, by decide, rfl, rfl⟩ (by decide) (by decide) (fun s x v doc pm an ct => BindsTo.of_eq rfl) ⟨⟨_, fun _ _ _ _ => rfl⟩, fun _ _ _ _ => rfl, fun _ _ _ _ => rfl, fun _ _ _ _ => rfl⟩ (fun _ _ _ _ => rfl) gs (by rfl)
theorem facts {w : World} {K : PySem.W.Frag} {h : Heap} {mg : Str → Option Value} {f : Addr} (hL : LawOk 23 m_law) (Y : K.In h) (G : h.Ns mainGlobals mg) (hfa : mg ("law" : Str) = some (.ref f)) (c : Dh.SaysX P0 fa fn xs K) :
    ∃ fd : FuncData, (∀ (s : Shared) (v : Value), BindsTo s fd ⟨[v], []⟩ [("script", v)]) ∧ ∀ base : Heap, K.In base → base.Ns mainGlobals mg → FnOk P0 w K mg base (L2.CX P0 w) 19 f fd ["script"] (spLaw K) := by
  have Z : Bfr mg := fun x hx => by
    simp only [bnames, List.mem_cons, List.not_mem_nil, or_false] at hx
    rcases hx with rfl | rfl | rfl | rfl | rfl | rfl | rfl | rfl | rfl | rfl | rfl | rfl | rfl | rfl | rfl | rfl | rfl | rfl
    · exact He.free_ok Y G (c.d.fact 44 (f := .free "abs") rfl)
    · exact He.free_ok Y G (c.d.fact 45 (f := .free "all") rfl)
    · exact He.free_ok Y G (c.d.fact 46 (f := .free "any") rfl)
    · exact He.free_ok Y G (c.d.fact 47 (f := .free "bool") rfl)
    · exact He.free_ok Y G (c.d.fact 48 (f := .free "dict") rfl)
    · exact He.free_ok Y G (c.d.fact 49 (f := .free "int") rfl)
    · exact He.free_ok Y G (c.d.fact 50 (f := .free "isinstance") rfl)
    · exact He.free_ok Y G (c.d.fact 51 (f := .free "len") rfl)
    · exact He.free_ok Y G (c.d.fact 52 (f := .free "list") rfl)
    · exact He.free_ok Y G (c.d.fact 53 (f := .free "max") rfl)
    · exact He.free_ok Y G (c.d.fact 54 (f := .free "min") rfl)
    · exact He.free_ok Y G (c.d.fact 55 (f := .free "range") rfl)
    · exact He.free_ok Y G (c.d.fact 56 (f := .free "set") rfl)
    · exact He.free_ok Y G (c.d.fact 57 (f := .free "sorted") rfl)
    · exact He.free_ok Y G (c.d.fact 58 (f := .free "str") rfl)
    · exact He.free_ok Y G (c.d.fact 59 (f := .free "sum") rfl)
    · exact He.free_ok Y G (c.d.fact 60 (f := .free "super") rfl)
    · exact He.free_ok Y G (c.d.fact 61 (f := .free "tuple") rfl)
  obtain ⟨fd__law_take, F__law_take⟩ := c.d.def_ 0 (d := d__law_take) rfl
  have g__law_take := He.glo_ok Y G (c.d.fact 0 (f := .glo "_law_take") rfl)
  obtain ⟨fd__law_state, F__law_state⟩ := c.d.def_ 1 (d := d__law_state) rfl
  have g__law_state := He.glo_ok Y G (c.d.fact 1 (f := .glo "_law_state") rfl)
  obtain ⟨fd_is_letter, F_is_letter⟩ := c.d.def_ 2 (d := d_is_letter) rfl
  have g_is_letter := He.glo_ok Y G (c.d.fact 2 (f := .glo "is_letter") rfl)
  obtain ⟨fd_has_form, F_has_form⟩ := c.d.def_ 3 (d := d_has_form) rfl
  have g_has_form := He.glo_ok Y G (c.d.fact 3 (f := .glo "has_form") rfl)
  obtain ⟨fd_is_saying, F_is_saying⟩ := c.d.def_ 4 (d := d_is_saying) rfl
  have g_is_saying := He.glo_ok Y G (c.d.fact 4 (f := .glo "is_saying") rfl)
  obtain ⟨fd_never, F_never⟩ := c.d.def_ 5 (d := d_never) rfl
  have g_never := He.glo_ok Y G (c.d.fact 5 (f := .glo "never") rfl)
  obtain ⟨fd_yes, F_yes⟩ := c.d.def_ 6 (d := d_yes) rfl
  have g_yes := He.glo_ok Y G (c.d.fact 6 (f := .glo "yes") rfl)
  obtain ⟨fd_both_ways, F_both_ways⟩ := c.d.def_ 7 (d := d_both_ways) rfl
  have g_both_ways := He.glo_ok Y G (c.d.fact 7 (f := .glo "both_ways") rfl)
  obtain ⟨fd_all_of, F_all_of⟩ := c.d.def_ 8 (d := d_all_of) rfl
  have g_all_of := He.glo_ok Y G (c.d.fact 8 (f := .glo "all_of") rfl)
  obtain ⟨fd_some_of, F_some_of⟩ := c.d.def_ 9 (d := d_some_of) rfl
  have g_some_of := He.glo_ok Y G (c.d.fact 9 (f := .glo "some_of") rfl)
  obtain ⟨fd_depth, F_depth⟩ := c.d.def_ 10 (d := d_depth) rfl
  have g_depth := He.glo_ok Y G (c.d.fact 10 (f := .glo "depth") rfl)
  obtain ⟨fd_size, F_size⟩ := c.d.def_ 11 (d := d_size) rfl
  have g_size := He.glo_ok Y G (c.d.fact 11 (f := .glo "size") rfl)
  obtain ⟨fd_letters, F_letters⟩ := c.d.def_ 12 (d := d_letters) rfl
  have g_letters := He.glo_ok Y G (c.d.fact 12 (f := .glo "letters") rfl)
  obtain ⟨fd_parts, F_parts⟩ := c.d.def_ 13 (d := d_parts) rfl
  have g_parts := He.glo_ok Y G (c.d.fact 13 (f := .glo "parts") rfl)
  obtain ⟨fd_put_in, F_put_in⟩ := c.d.def_ 14 (d := d_put_in) rfl
  have g_put_in := He.glo_ok Y G (c.d.fact 14 (f := .glo "put_in") rfl)
  obtain ⟨fd_shown, F_shown⟩ := c.d.def_ 15 (d := d_shown) rfl
  have g_shown := He.glo_ok Y G (c.d.fact 15 (f := .glo "shown") rfl)
  obtain ⟨fd_key, F_key⟩ := c.d.def_ 16 (d := d_key) rfl
  have g_key := He.glo_ok Y G (c.d.fact 16 (f := .glo "key") rfl)
  obtain ⟨fd_in_order, F_in_order⟩ := c.d.def_ 17 (d := d_in_order) rfl
  have g_in_order := He.glo_ok Y G (c.d.fact 17 (f := .glo "in_order") rfl)
  obtain ⟨fd_plain_value, F_plain_value⟩ := c.d.def_ 18 (d := d_plain_value) rfl
  have g_plain_value := He.glo_ok Y G (c.d.fact 18 (f := .glo "plain_value") rfl)
  obtain ⟨fd_settings, F_settings⟩ := c.d.def_ 19 (d := d_settings) rfl
  have g_settings := He.glo_ok Y G (c.d.fact 19 (f := .glo "settings") rfl)
  obtain ⟨fd_is_plainly_so, F_is_plainly_so⟩ := c.d.def_ 20 (d := d_is_plainly_so) rfl
  have g_is_plainly_so := He.glo_ok Y G (c.d.fact 20 (f := .glo "is_plainly_so") rfl)
  obtain ⟨fd_signs, F_signs⟩ := c.d.def_ 21 (d := d_signs) rfl
  have g_signs := He.glo_ok Y G (c.d.fact 21 (f := .glo "signs") rfl)
  obtain ⟨fd_within, F_within⟩ := c.d.def_ 22 (d := d_within) rfl
  have g_within := He.glo_ok Y G (c.d.fact 22 (f := .glo "within") rfl)
  obtain ⟨fd__law_pick, F__law_pick⟩ := c.d.def_ 23 (d := d__law_pick) rfl
  have g__law_pick := He.glo_ok Y G (c.d.fact 23 (f := .glo "_law_pick") rfl)
  obtain ⟨fd__law_drawn, F__law_drawn⟩ := c.d.def_ 24 (d := d__law_drawn) rfl
  have g__law_drawn := He.glo_ok Y G (c.d.fact 24 (f := .glo "_law_drawn") rfl)
  obtain ⟨fd__law_parts, F__law_parts⟩ := c.d.def_ 25 (d := d__law_parts) rfl
  have g__law_parts := He.glo_ok Y G (c.d.fact 25 (f := .glo "_law_parts") rfl)
  obtain ⟨fd__law_letters, F__law_letters⟩ := c.d.def_ 26 (d := d__law_letters) rfl
  have g__law_letters := He.glo_ok Y G (c.d.fact 26 (f := .glo "_law_letters") rfl)
  obtain ⟨fd__law_deep, F__law_deep⟩ := c.d.def_ 27 (d := d__law_deep) rfl
  have g__law_deep := He.glo_ok Y G (c.d.fact 27 (f := .glo "_law_deep") rfl)
  obtain ⟨fd__law_order, F__law_order⟩ := c.d.def_ 28 (d := d__law_order) rfl
  have g__law_order := He.glo_ok Y G (c.d.fact 28 (f := .glo "_law_order") rfl)
  obtain ⟨fd__law_world, F__law_world⟩ := c.d.def_ 29 (d := d__law_world) rfl
  have g__law_world := He.glo_ok Y G (c.d.fact 29 (f := .glo "_law_world") rfl)
  obtain ⟨fd__law_forced, F__law_forced⟩ := c.d.def_ 30 (d := d__law_forced) rfl
  have g__law_forced := He.glo_ok Y G (c.d.fact 30 (f := .glo "_law_forced") rfl)
  obtain ⟨fd__law_is, F__law_is⟩ := c.d.def_ 31 (d := d__law_is) rfl
  have g__law_is := He.glo_ok Y G (c.d.fact 31 (f := .glo "_law_is") rfl)
  obtain ⟨fd__law_plain, F__law_plain⟩ := c.d.def_ 32 (d := d__law_plain) rfl
  have g__law_plain := He.glo_ok Y G (c.d.fact 32 (f := .glo "_law_plain") rfl)
  obtain ⟨fd__law_size, F__law_size⟩ := c.d.def_ 33 (d := d__law_size) rfl
  have g__law_size := He.glo_ok Y G (c.d.fact 33 (f := .glo "_law_size") rfl)
  obtain ⟨fd__law_shown, F__law_shown⟩ := c.d.def_ 34 (d := d__law_shown) rfl
  have g__law_shown := He.glo_ok Y G (c.d.fact 34 (f := .glo "_law_shown") rfl)
  obtain ⟨fd__law_put, F__law_put⟩ := c.d.def_ 35 (d := d__law_put) rfl
  have g__law_put := He.glo_ok Y G (c.d.fact 35 (f := .glo "_law_put") rfl)
  obtain ⟨fd__law_signs, F__law_signs⟩ := c.d.def_ 36 (d := d__law_signs) rfl
  have g__law_signs := He.glo_ok Y G (c.d.fact 36 (f := .glo "_law_signs") rfl)
  obtain ⟨fd__law_told, F__law_told⟩ := c.d.def_ 37 (d := d__law_told) rfl
  have g__law_told := He.glo_ok Y G (c.d.fact 37 (f := .glo "_law_told") rfl)
  obtain ⟨fd__law_paths, F__law_paths⟩ := c.d.def_ 38 (d := d__law_paths) rfl
  have g__law_paths := He.glo_ok Y G (c.d.fact 38 (f := .glo "_law_paths") rfl)
  obtain ⟨fd_law, F_law⟩ := c.d.def_ 39 (d := d_law) rfl
  have g_law := He.glo_ok Y G (c.d.fact 39 (f := .glo "law") rfl)
  have T_Misstep := He.glo_ok Y G (c.d.fact 40 (f := .glo "Misstep") rfl)
  have f_Misstep := c.x 0 (d := x_Misstep) rfl
  have X_Misstep := mk_Misstep (w := w) T_Misstep (He.free_ok Y G (c.d.fact 60 (f := .free "super") rfl)) f_Misstep
  have exm_Misstep : ∀ X : Cx, X.K = K → X.mg = mg → Exm X ["Misstep"] "Misstep" (.ref (He.ga K "Misstep")) := by
    intro X hK hm y hy C hC
    rw [hm] at hC
    rw [hK]
    simp only [List.mem_cons, List.not_mem_nil, or_false] at hy
    rcases hy with rfl
    · have e := hC.symm.trans (He.glo_ok Y G (c.d.fact 40 (f := .glo "Misstep") rfl))
      cases e
      exact He.exm_ok (c.d.fact 41 (f := .exm "Misstep" "Misstep" true) rfl)
  have A_Misstep_word : AtX K (He.ga K "Misstep") "word" := f_Misstep.at_ _ (by simp [x_Misstep])
  have k_MOST_DEEP := He.int_ok Y G (c.d.fact 42 (f := .int "MOST_DEEP" 8) rfl)
  have k_LETTERS := He.str_ok Y G (c.d.fact 43 (f := .str "LETTERS" "abcdefgh") rfl)
  have e := hfa.symm.trans g_law
  cases e
  have bl := FunD.bindsA (ps := ["script"]) F_law fun _ _ _ _ _ _ us hl => match us, hl with | [_], _ => rfl
  refine ⟨fd_law, fun s v => bl s [v] rfl, fun base _ _ => ?_⟩
  have c__law_take : Cd P0 w K mg base "_law_take" 1 takeF := w__law_take F__law_take g__law_take Z
  have c0 : FnOk P0 w K mg base (L2.CX P0 w) 1 _ fd__law_state ["script"] (spState K) := w__law_state F__law_state Z
  have b0 : Binds K fd__law_state ["script"] [] := F__law_state.bindsN fun _ _ _ _ _ _ us hl => match us, hl with | [_], _ => rfl
  have c_is_letter : Cd P0 w K mg base "is_letter" 1 f_is_letter := w_is_letter F_is_letter g_is_letter Z k_LETTERS
  have c_has_form : Cd P0 w K mg base "has_form" 15 (f_has_form FU) := w_has_form F_has_form g_has_form Z c_is_letter k_MOST_DEEP FU
  have c_is_saying : Cd P0 w K mg base "is_saying" 16 f_is_saying := w_is_saying F_is_saying g_is_saying Z c_has_form
  have c_never : Cd P0 w K mg base "never" 1 f_never := w_never F_never g_never Z
  have c_yes : Cd P0 w K mg base "yes" 1 f_yes := w_yes F_yes g_yes Z
  have c_both_ways : Cd P0 w K mg base "both_ways" 1 f_both_ways := w_both_ways F_both_ways g_both_ways Z
  have c_all_of : Cd P0 w K mg base "all_of" 2 f_all_of := w_all_of F_all_of g_all_of Z c_yes
  have c_some_of : Cd P0 w K mg base "some_of" 1 f_some_of := w_some_of F_some_of g_some_of Z
  have c_depth : Cd P0 w K mg base "depth" 14 (f_depth FU) := w_depth F_depth g_depth Z FU
  have c_size : Cd P0 w K mg base "size" 14 (f_size FU) := w_size F_size g_size Z FU
  have c_letters : Cd P0 w K mg base "letters" 14 (f_letters FU) := w_letters F_letters g_letters Z FU
  have c_parts : Cd P0 w K mg base "parts" 14 (f_parts FU) := w_parts F_parts g_parts Z FU
  have c_put_in : Cd P0 w K mg base "put_in" 14 (f_put_in FU) := w_put_in F_put_in g_put_in Z FU
  have c_shown : Cd P0 w K mg base "shown" 14 (f_shown FU) := w_shown F_shown g_shown Z FU
  have c_key : Cd P0 w K mg base "key" 15 f_key := w_key F_key g_key Z c_shown c_size
  have c_in_order : Cd P0 w K mg base "in_order" 18 f_in_order := w_in_order F_in_order g_in_order Z c_key
  have c_plain_value : Cd P0 w K mg base "plain_value" 14 (f_plain_value FU) := w_plain_value F_plain_value g_plain_value Z FU
  have c_settings : Cd P0 w K mg base "settings" 1 f_settings := w_settings F_settings g_settings Z
  have c_is_plainly_so : Cd P0 w K mg base "is_plainly_so" 15 f_is_plainly_so := w_is_plainly_so F_is_plainly_so g_is_plainly_so Z c_settings c_letters c_plain_value
  have c_signs : Cd P0 w K mg base "signs" 14 (f_signs FU) := w_signs F_signs g_signs Z FU
  have c_within : Cd P0 w K mg base "within" 1 f_within := w_within F_within g_within Z X_Misstep
  have c__law_pick : Cd P0 w K mg base "_law_pick" 2 f__law_pick := w__law_pick F__law_pick g__law_pick Z c__law_take
  have c__law_drawn : Cd P0 w K mg base "_law_drawn" 16 (f__law_drawn FU) := w__law_drawn F__law_drawn g__law_drawn Z c__law_take c__law_pick FU
  have c__law_parts : Cd P0 w K mg base "_law_parts" 14 (f__law_parts FU) := w__law_parts F__law_parts g__law_parts Z FU
  have c__law_letters : Cd P0 w K mg base "_law_letters" 15 f__law_letters := w__law_letters F__law_letters g__law_letters Z c__law_parts
  have c__law_deep : Cd P0 w K mg base "_law_deep" 14 (f__law_deep FU) := w__law_deep F__law_deep g__law_deep Z FU
  have c__law_order : Cd P0 w K mg base "_law_order" 2 f__law_order := w__law_order F__law_order g__law_order Z c__law_take
  have c__law_world : Cd P0 w K mg base "_law_world" 3 f__law_world := w__law_world F__law_world g__law_world Z c__law_order c__law_take
  have c__law_forced : Cd P0 w K mg base "_law_forced" 14 (f__law_forced FU) := w__law_forced F__law_forced g__law_forced Z FU
  have c__law_is : Cd P0 w K mg base "_law_is" 14 (f__law_is FU) := w__law_is F__law_is g__law_is Z FU
  have c__law_plain : Cd P0 w K mg base "_law_plain" 14 (f__law_plain FU) := w__law_plain F__law_plain g__law_plain Z FU
  have c__law_size : Cd P0 w K mg base "_law_size" 14 (f__law_size FU) := w__law_size F__law_size g__law_size Z FU
  have c__law_shown : Cd P0 w K mg base "_law_shown" 14 (f__law_shown FU) := w__law_shown F__law_shown g__law_shown Z FU
  have c__law_put : Cd P0 w K mg base "_law_put" 14 (f__law_put FU) := w__law_put F__law_put g__law_put Z FU
  have c__law_signs : Cd P0 w K mg base "_law_signs" 14 (f__law_signs FU) := w__law_signs F__law_signs g__law_signs Z FU
  have c__law_told : Cd P0 w K mg base "_law_told" 2 f__law_told := w__law_told F__law_told g__law_told Z c_within T_Misstep exm_Misstep A_Misstep_word
  have c__law_paths : Cd P0 w K mg base "_law_paths" 3 f__law_paths := w__law_paths F__law_paths g__law_paths Z c__law_take c__law_told
  exact w_law hL c0 g__law_state F__law_state.kp b0 F_law g_law Z c__law_drawn c_is_saying c_depth c__law_deep c_size c__law_size c_shown c__law_shown c__law_letters c_parts c__law_parts c_letters c_key c_in_order c_put_in c__law_put c_settings c_plain_value c__law_plain c_is_plainly_so c__law_signs c_signs c_never c_yes c_both_ways c_all_of c_some_of c_has_form c__law_is c_is_letter c__law_paths k_LETTERS k_MOST_DEEP
end K01
open PySem PySem.W PySem.Calls PyProof.Rows
theorem PySem.Challenge.cw_shownwright_k01_whole_sayings_of_letters_holds : PySem.Challenge.rw_shownwright_k01_whole_sayings_of_letters.Holds := by
  w_on; o_law
  refine HandSHeadRun.head_any (r := OpenLaw.row PySem.Challenge.rw_shownwright_k01_whole_sayings_of_letters) (q := view (OpenLaw.row PySem.Challenge.rw_shownwright_k01_whole_sayings_of_letters).prog [46]) (H := K01.hk) (ob := K01.ob) (M := 4000) (loose := K01.loose) (d := HandSHeadRun.topDef (OpenLaw.row PySem.Challenge.rw_shownwright_k01_whole_sayings_of_letters).prog 46) (kwd := []) K01.ob_eq
    (by kernel_rfl) (fun s => by kernel_rfl) K01.run (by kernel_rfl) (by kernel_rfl) (by kernel_rfl) (by rfl) (by first | assumption | decide +kernel) (by decide +kernel) ⟨rfl, rfl, rfl, rfl, rfl, by decide +kernel⟩ ?hw ?hc
  case hw => w_witness2
  case hc =>
    refine L2.walk_ofEw (l := PySem.Challenge.rw_shownwright_k01_whole_sayings_of_letters) (n := 63) (k := 19) (x := "script") (CX := fun w => L2.CX (PySem.Challenge.rw_shownwright_k01_whole_sayings_of_letters).prog w) rfl (by decide) (by kernel_rfl) ⟨rfl, by decide, by decide⟩ ?F (fun _ _ _ _ _ z => L2.cx_no z)
    case F =>
      intro w mg fa h Y G hmg0
      obtain ⟨K, KX, c⟩ := Y
      have hmg : mg ("law" : PySem.Str) = some (.ref fa) := by
        have e : (HandSHeadRun.topDef (OpenLaw.row PySem.Challenge.rw_shownwright_k01_whole_sayings_of_letters).prog 46).name = ("law" : PySem.Str) := by kernel_rfl
        rw [← e]
        exact hmg0
      obtain ⟨fd, hb, hF⟩ := K01.facts (w := w) K01.law_ok KX G hmg c
      exact ⟨K, fd, Dy.spLaw K, KX, hb, fun H a ns hl _ hS => ⟨a, ns, rfl, hl, hS, fun _ => rfl⟩, hF⟩

