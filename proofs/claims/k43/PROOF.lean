import PyProof.Rows.All
import Wide.All
import OpenK.AllK
import Wide.FinOn
import HandS.ForMost
import HandS.IsInst
import HandS.Walk
import HandS.Text
import HandS.Defaults
import HandS.DictComp
import HandS.ListItems
import HandS.More
import HandS.Style
import HandS.Wide
import HandS.Conv
import HandS.MakeKwOnly
import HandS.Deep
import HandS.SortRule
import HandS.TupSets
import PyProof.Rows.SortShellAny
import HandS.Set
import HandS.SetBool
import HandS.Comp
import KE.GoesMore
import KE.GoesEnum
import HandS.DictTup
import KE.KDictItemsList
import HandS.Zip
import HandS.RevRange
import PySem.Challenge.RW_deedranks_k43_whole_greatest_plans
set_option Elab.async false
set_option linter.all false
set_option maxRecDepth 100000
set_option maxHeartbeats 4000000
/-! sorted of pairs of texts, any number of them. -/
namespace Dr
open PySem PySem.Spec PyProof.Rows L2

/-- texts by their code points -/
def slt (x y : Str) : Bool := decide (x.cps.toList < y.cps.toList)
theorem str_ext {x y : Str} (h : x.cps.toList = y.cps.toList) : x = y := by
  cases x; cases y
  have := Array.toList_inj.mp h
  subst this
  rfl
theorem slt_irrefl (x : Str) : slt x x = false := decide_eq_false (List.lt_irrefl _)
theorem slt_trans {x y z : Str} (h : slt x y = true) (k : slt y z = true) : slt x z = true :=
  decide_eq_true (List.lt_trans (of_decide_eq_true h) (of_decide_eq_true k))
theorem slt_asymm {x y : Str} (h : slt x y = true) : slt y x = false := by
  cases e : slt y x with
  | false => rfl
  | true =>
    have := slt_trans h e
    rw [slt_irrefl] at this
    cases this
theorem slt_conn {x y : Str} (h : slt x y = false) (k : slt y x = false) : x = y := by
  have h1 : ¬ x.cps.toList < y.cps.toList := of_decide_eq_false h
  have h2 : ¬ y.cps.toList < x.cps.toList := of_decide_eq_false k
  exact str_ext (List.le_antisymm (List.not_lt.mp h2) (List.not_lt.mp h1))
/-- pairs: by the first, then by the second -/
def plt (p q : Str × Str) : Bool := if p.1 = q.1 then slt p.2 q.2 else slt p.1 q.1
theorem plt_irrefl (p : Str × Str) : plt p p = false := by
  unfold plt
  rw [if_pos rfl, slt_irrefl]
theorem plt_trans {p q r : Str × Str} (h : plt p q = true) (k : plt q r = true) : plt p r = true := by
  unfold plt at *
  by_cases e1 : p.1 = q.1
  · rw [if_pos e1] at h
    by_cases e2 : q.1 = r.1
    · rw [if_pos e2] at k
      rw [if_pos (e1.trans e2)]
      exact slt_trans h k
    · rw [if_neg e2] at k
      rw [if_neg (fun z => e2 (e1.symm.trans z)), e1]
      exact k
  · rw [if_neg e1] at h
    by_cases e2 : q.1 = r.1
    · rw [if_neg (fun z => e1 (z.trans e2.symm)), ← e2]
      exact h
    · rw [if_neg e2] at k
      have hk := slt_trans h k
      by_cases e3 : p.1 = r.1
      · rw [e3, slt_irrefl] at hk
        cases hk
      · rw [if_neg e3]
        exact hk
theorem plt_asymm {p q : Str × Str} (h : plt p q = true) : plt q p = false := by
  cases e : plt q p with
  | false => rfl
  | true =>
    have := plt_trans h e
    rw [plt_irrefl] at this
    cases this
theorem plt_conn {p q : Str × Str} (h : plt p q = false) (k : plt q p = false) : p = q := by
  unfold plt at *
  by_cases e : p.1 = q.1
  · rw [if_pos e] at h
    rw [if_pos e.symm] at k
    exact Prod.ext e (slt_conn h k)
  · rw [if_neg e] at h
    rw [if_neg (fun z => e z.symm)] at k
    exact absurd (slt_conn h k) e
theorem plt_negtrans {p q r : Str × Str} (h : plt p q = false) (k : plt q r = false) : plt p r = false := by
  cases e : plt p r with
  | false => rfl
  | true =>
    cases e2 : plt q p with
    | true =>
      have := plt_trans e2 e
      rw [k] at this
      cases this
    | false =>
      have := plt_conn h e2
      subst this
      rw [k] at e
      cases e

def IsSP (h : Heap) (v : Value) (p : Str × Str) : Prop := ∃ a o t u n, v = .ref a ∧ h.get? a = some o ∧ o.cls = .type "tuple" ∧ o.data = .seq #[.str p.1 t, .str p.2 u] n
theorem IsSP.stay {h h' : Heap} {v : Value} {p : Str × Str} (x : IsSP h v p) (k : ∀ b o, h.get? b = some o → o.cls = .type "tuple" → h'.get? b = some o) : IsSP h' v p := by
  obtain ⟨a, o, t, u, n, e, ho, hc, hd⟩ := x
  exact ⟨a, o, t, u, n, e, k a o ho hc, hc, hd⟩
theorem sp_firsts {h : Heap} : ∀ {vs : List Value}, (∀ v ∈ vs, ∃ p, IsSP h v p) → ∃ fs : List Value, PySem.W.KatTups h vs fs ∧ fs.length = vs.length ∧ ∀ f ∈ fs, ∃ x t, f = Value.str x t
  | [], _ => ⟨[], PySem.W.KatTups.nil, rfl, fun _ hm => by simp at hm⟩
  | v :: vs, hp => by
    obtain ⟨fs, h1, h2, h3⟩ := sp_firsts (vs := vs) fun z hz => hp z (List.mem_cons_of_mem _ hz)
    obtain ⟨p, a, o, t, u, n, rfl, ho, hc, hd⟩ := hp v List.mem_cons_self
    refine ⟨.str p.1 t :: fs, PySem.W.KatTups.cons ho hc hd rfl h1, by simp [h2], fun f hf => ?_⟩
    rcases List.mem_cons.mp hf with rfl | hf
    · exact ⟨_, t, rfl⟩
    · exact h3 f hf
section
variable {prog : Program} {w : World} {A : Around} {E : Value → Shared → Prop} {s : Shared}
theorem sp_cmp {vs : List Value} {k : Value → Str × Str} (hp : ∀ v ∈ vs, IsSP s.heap v (k v)) : SrtO.Cmp prog w A s (tuples' true) (fun p => p.1 ∈ vs) (SrtO.lt2 fun v u => plt (k v) (k u)) := by
  intro p q hm hm'
  have g1 := hp _ hm
  have g2 := hp _ hm'
  show wpAny (model prog w) A (keyLt' (tuples' true) p.1 q.1) (fun r s' => s' = s ∧ r = plt (k p.1) (k q.1)) (fun _ _ => False) s
  generalize k p.1 = a at g1 ⊢
  generalize k q.1 = b at g2 ⊢
  obtain ⟨c, o, t, u, n, e, ho, hc, hd⟩ := g1
  obtain ⟨c', o', t', u', n', e', ho', hc', hd'⟩ := g2
  rw [e, e']
  refine PySem.W.kat_lt ho hd ho' hd' ?_
  show PySem.W.KatLex prog w A true (decide (2 < 2)) _ [(.str a.1 t, .str b.1 t'), (.str a.2 u, .str b.2 u')] 0 s
  refine PySem.W.kat_cons (wpAny_eqBool_str ?_)
  refine PySem.W.kat_go (fun q1 => ?_) (fun q1 => ?_)
  · have x1 : a.1 = b.1 := of_decide_eq_true q1
    refine PySem.W.kat_yes (PySem.W.kat_cons (wpAny_eqBool_str ?_))
    refine PySem.W.kat_go (fun q2 => ?_) (fun q2 => ?_)
    · have x2 : a.2 = b.2 := of_decide_eq_true q2
      have x3 : plt a b = false := by
        unfold plt
        rw [if_pos x1, x2, slt_irrefl]
      exact PySem.W.kat_yes (PySem.W.kat_nil ⟨rfl, x3.symm⟩)
    · have x3 : plt a b = slt a.2 b.2 := if_pos x1
      refine PySem.W.kat_no (PySem.W.kat_one _ _ (PyProof.Rows.lt_str ?_))
      exact (show s = s ∧ decide (a.2.cps.toList < b.2.cps.toList) = plt a b from ⟨rfl, x3.symm⟩)
  · have x1 : ¬ a.1 = b.1 := of_decide_eq_false q1
    have x3 : plt a b = slt a.1 b.1 := if_neg x1
    exact PySem.W.kat_no (oneLt_str ⟨rfl, x3.symm⟩)
theorem sp_sortable {a : Addr} {vs : List Value} {k : Value → Str × Str} (h0 : 0 < vs.length) (hp : ∀ v ∈ vs, IsSP s.heap v (k v)) (ha : ∀ o, s.heap.get? a = some o → o.cls ≠ .type "tuple") : SrtO.SortableO prog w A s a vs fun v u => plt (k v) (k u) := by
  intro h' keep
  have hp' : ∀ v ∈ vs, IsSP h' v (k v) := fun v hm => (hp v hm).stay fun b o e c => keep b o (fun z => by subst z; exact ha o e c) e
  obtain ⟨fs, f1, f2, f3⟩ := sp_firsts fun v hm => ⟨_, hp' v hm⟩
  refine ⟨tuples' true, fun Q E hq => ?_, sp_cmp hp'⟩
  refine PySem.W.kat_kind (T := .type "str") f1 (by omega) (fun f hm => ?_) (by rfl) ?_
  · obtain ⟨x, t, rfl⟩ := f3 f hm
    exact PySem.W.Looks.now
  · have z : (Value.type "str" != Value.type "tuple") = true := by decide +kernel
    rw [z]
    exact hq
theorem plt_swo {α : Type} (k : α → Str × Str) : SrtO.Swo fun v u => plt (k v) (k u) := ⟨fun x y h => plt_asymm h, fun x y z h1 h2 => plt_negtrans h2 h1⟩
theorem sorted_sp {l : Addr} {vs : List Value} {k : Value → Str × Str} {Q : Value → Shared → Prop} (hl : s.heap.IsList l vs.toArray) (hz : vs.length ≤ sizeLine) (hp : ∀ v ∈ vs, IsSP s.heap v (k v))
    (h : ∀ (h' : Heap) (d : Addr) (out : List Value), SrtO.Srtd (fun v u => plt (k v) (k u)) out → SrtO.Stb (fun v u => plt (k v) (k u)) out vs → (∀ b o, s.heap.get? b = some o → h'.get? b = some o) → s.heap.objs.size ≤ d → (∃ n, h'.get? d = some (seqObj "list" out.toArray n)) → Q (.ref d) { s with heap := h' }) :
    wpAny (model prog w) A (call (.builtin "sorted") [.ref l]) Q E s := by
  refine SrtO.sorted_ord (plt_swo k) hl hz (fun h2 h₁ a ha kk => ?_) fun out hs hb => ?_
  · refine sp_sortable (s := { s with heap := h₁ }) (by omega) (fun v hm => (hp v hm).stay fun b o e _ => (kk b o e).2) fun o e => ?_
    rw [ha] at e
    cases e
    intro c
    exact absurd (Value.type.inj c) (by decide)
  · exact h _ _ out hs hb (fun b o e => sortedAll_old e) (Nat.le_succ _) (sortedAll_at s.heap vs out.toArray)
end

/-- the two texts of a pair in the heap -/
def spOf (H : Hp) : V → Str × Str
  | .ref t => match H t with
    | some (.tup [.str x, .str y]) => (x, y)
    | _ => ("", "")
  | _ => ("", "")
def adr : V → Addr
  | .ref a => a
  | _ => 0
/-- sorted(xs), xs a list of pairs of texts -/
def rSortSP (K : PySem.W.Frag) : List V → Hp → VK → Prop := fun vs H Q => ∃ (a : Addr) (ks : List (Addr × (Str × Str))), vs = [V.ref a] ∧ SqL K H a (ks.map fun e => V.ref e.1) ∧ (∀ e ∈ ks, H e.1 = some (.tup [.str e.2.1, .str e.2.2])) ∧
  ∀ (ks' : List (Addr × (Str × Str))) (p : Addr), ks'.Perm ks → ks'.Pairwise (fun e f => plt f.2 e.2 = false) → H p = none → Q (.ref p) (upd H p (.lst (ks'.map fun e => V.ref e.1)))
theorem refs_val : ∀ {ks : List Addr} {us : List Value}, Vals (ks.map V.ref) us → us = ks.map Value.ref
  | [], _, .nil => rfl
  | _ :: _, _, .cons r t => by
    cases r
    rw [refs_val t]
    rfl
section
variable {X : Cx}
theorem cr_sortSP : CallR X (.builtin "sorted") (rSortSP X.K) := by
  intro pins s σ H vs us Q I r h
  obtain ⟨a, ks, rfl, hs, hx, q⟩ := h
  obtain ⟨its, rv, hl, hz⟩ := I.list hs
  obtain ⟨u, rfl, ru⟩ := vals1 r
  obtain rfl : u = Value.ref a := ru
  have rv' : Vals ((ks.map (·.1)).map V.ref) its := by rw [List.map_map]; exact rv
  have hits := refs_val rv'
  let k : Value → Str × Str := fun v => match v with
    | .ref t => spOf H (.ref t)
    | _ => ("", "")
  have hk : ∀ e ∈ ks, k (.ref e.1) = e.2 := fun e he => by
    show spOf H (.ref e.1) = e.2
    simp only [spOf, hx e he]
  refine sorted_sp (k := k) hl.isList (by rw [← rv.length]; exact hz) (fun v hv => ?_) fun h' d out h1 h2 kp hd hn => ?_
  · rw [hits] at hv
    obtain ⟨b, hb, rfl⟩ := List.mem_map.mp hv
    obtain ⟨e, he, rfl⟩ := List.mem_map.mp hb
    rw [hk e he]
    obtain ⟨_, i2, r2, o, ho, hc, n, hd⟩ := I.hok _ _ (hx e he)
    obtain ⟨u1, u2, rfl, ri, rj⟩ := vals2 r2
    obtain ⟨t1, rfl⟩ := ri
    obtain ⟨t2, rfl⟩ := rj
    exact ⟨e.1, o, t1, t2, n, rfl, ho, hc, hd⟩
  · have hperm := h2.perm
    rw [hits] at hperm
    have hall : ∀ u ∈ out, ∃ e ∈ ks, u = Value.ref e.1 := fun u hu => by
      obtain ⟨b, hb, rfl⟩ := List.mem_map.mp (hperm.mem_iff.mp hu)
      obtain ⟨e, he, rfl⟩ := List.mem_map.mp hb
      exact ⟨e, he, rfl⟩
    let bk : Value → Addr × (Str × Str) := fun u => match u with
      | .ref t => (t, spOf H (.ref t))
      | _ => (0, ("", ""))
    have hbk : ∀ e ∈ ks, bk (.ref e.1) = e := fun e he => by
      have := hk e he
      exact Prod.ext rfl this
    have e1 : (ks.map fun e => Value.ref e.1).map bk = ks := by
      rw [List.map_map]
      conv => rhs; rw [← List.map_id ks]
      exact List.map_congr_left fun e he => hbk e he
    have p1 : (out.map bk).Perm ks := by
      have z := hperm.map bk
      rw [List.map_map] at z
      have e1' : (ks.map (·.1)).map (bk ∘ Value.ref) = ks := by
        rw [List.map_map]
        conv => rhs; rw [← List.map_id ks]
        exact List.map_congr_left fun e he => hbk e he
      rw [e1'] at z
      exact z
    have e2 : (out.map bk).map (fun e => V.ref e.1) = out.map fun u => match u with
      | .ref t => V.ref t
      | _ => V.ref 0 := by
      rw [List.map_map]
      refine List.map_congr_left fun u hu => ?_
      obtain ⟨e, _, rfl⟩ := hall u hu
      rfl
    have vals : Vals ((out.map bk).map (fun e => V.ref e.1)) out := by
      rw [e2]
      have go : ∀ l : List Value, (∀ u ∈ l, ∃ e ∈ ks, u = Value.ref e.1) → Vals (l.map fun u => match u with
        | .ref t => V.ref t
        | _ => V.ref 0) l := by
        intro l
        induction l with
        | nil => exact fun _ => .nil
        | cons u l ih =>
          intro hm
          obtain ⟨e, _, rfl⟩ := hm u List.mem_cons_self
          exact .cons rfl (ih fun z hz => hm z (List.mem_cons_of_mem _ hz))
      exact go out hall
    obtain ⟨n, hn⟩ := hn
    refine ⟨.ref d, upd H d (.lst ((out.map bk).map fun e => V.ref e.1)), I.laid (t' := s.toks) kp hd ⟨?_, out, n, vals, hn⟩, rfl, q _ d p1 ?_ (I.hok.fresh hd)⟩
    · rw [List.length_map, p1.length_eq]
      rw [List.length_map] at hz
      exact hz
    · refine List.pairwise_map.mpr ?_
      have h1' : out.Pairwise fun v u => plt (k u) (k v) = false := h1
      refine List.Pairwise.imp_of_mem (fun {v u} hv hu hq => ?_) h1'
      obtain ⟨e, he, rfl⟩ := hall v hv
      obtain ⟨f, hf, rfl⟩ := hall u hu
      rw [hbk e he, hbk f hf]
      rw [hk e he, hk f hf] at hq
      exact hq
end
end Dr

set_option maxHeartbeats 4000000
/-! Sets of texts: filled, gathered, sorted. -/
namespace Dr
open PySem PySem.Spec PyProof.Rows L2

def txt (e : Int × Value) : Str := match e.2 with | .str x _ => x | _ => ""
def IsTxt (w : World) (e : Int × Value) : Prop := ∃ x tk, e = (hashStr w x, Value.str x tk)
def insS (x : Str) (L : List Str) : List Str := if x ∈ L then L else x :: L
/-- the set of the texts L (in any order) at a -/
structure SetS (w : World) (h : Heap) (a : Addr) (L : List Str) : Prop where
  ex : ∃ o es ep t, (h.get? a = some o ∧ o.ExactSet ∧ o.data = .set es ep t) ∧ (∀ e ∈ es.toList, IsTxt w e) ∧ (es.toList.map txt).Perm L ∧ es.size < scanBound ∧ t.fits es.size = true ∧ Ris t.place.toList ∧ (w.params.followText "set-order" = true ∨ t.led = true)
  nd : L.Nodup
section
variable {P : Program} {w : World} {h h' : Heap} {a : Addr} {L : List Str}
theorem SetS.there (R : SetS w h a L) : ∃ o, h.get? a = some o := let ⟨o, _, _, _, q, _⟩ := R.ex; ⟨o, q.1⟩
theorem SetS.move (R : SetS w h a L) (k : ∀ o, h.get? a = some o → h'.get? a = some o) : SetS w h' a L :=
  ⟨let ⟨o, es, ep, t, q, r⟩ := R.ex; ⟨o, es, ep, t, ⟨k o q.1, q.2⟩, r⟩, R.nd⟩
theorem txt_elems {l : List (Int × Value)} (g : ∀ e ∈ l, IsTxt w e) : ElemsOf (strKind P w) l := fun e he => by
  obtain ⟨x, tk, rfl⟩ := g e he
  exact ⟨⟨x, strKind_is P w x tk, rfl⟩, rfl⟩
theorem txt_is {e : Int × Value} (g : IsTxt w e) (x : Str) : (strKind P w).is x e.2 = true ↔ txt e = x := by
  obtain ⟨y, tk, rfl⟩ := g
  constructor
  · intro q
    exact (strKind P w).inj _ _ _ (strKind_is P w y tk) q
  · rintro rfl
    exact strKind_is P w y tk
theorem mem_txt {l : List (Int × Value)} (g : ∀ e ∈ l, IsTxt w e) (x : Str) : x ∈ l.map txt ↔ ∃ e ∈ l, (strKind P w).is x e.2 = true := by
  rw [List.mem_map]
  exact ⟨fun ⟨e, he, q⟩ => ⟨e, he, (txt_is (g e he) x).2 q⟩, fun ⟨e, he, q⟩ => ⟨e, he, (txt_is (g e he) x).1 q⟩⟩
theorem SetS.typeIs {s : Shared} (R : SetS w s.heap a L) : s.TypeIs (.ref a) "set" := let ⟨o, _, _, _, q, _⟩ := R.ex; ⟨o, q.1, q.2.1.1⟩
end
section
variable {P : Program} {w : World} {A : Around} {E : Value → Shared → Prop} {s : Shared} {a : Addr} {L : List Str}
theorem put_at {h : Heap} {a : Addr} {o : Obj} {es es' : Array (Int × Value)} {ep : Nat} {t t' : SetTable} (q : h.get? a = some o ∧ o.ExactSet ∧ o.data = .set es ep t) :
    ∃ o', (h.update a (Obj.putSet es' t')).get? a = some o' ∧ o'.ExactSet ∧ o'.data = .set es' (ep + 1) t' := by
  have e := Heap.get?_update_self (Obj.putSet es' t') q.1 (by rw [putSet_of es' t' q.2.2]; rfl)
  rw [putSet_of es' t' q.2.2] at e
  exact ⟨_, e, q.2.1, rfl⟩
/-- the end of an add: the new table is stored, laid anew where it is too full -/
theorem addS_end {g : Bool → Sem Unit} (hg : ∀ (b : Bool) (s₁ : Shared) (Q' : Unit → Shared → Prop), Q' () s₁ → wpAny (model P w) A (g b) Q' E s₁)
    {o : Obj} {es es1 : Array (Int × Value)} {ep : Nat} {t t1 : SetTable} (q : s.heap.get? a = some o ∧ o.ExactSet ∧ o.data = .set es ep t) {M : List Str} (hM : M.Nodup)
    (r1 : ∀ e ∈ es1.toList, IsTxt w e) (r2 : (es1.toList.map txt).Perm M) (r3 : es1.size < scanBound) (r4 : t1.fits es1.size = true) (r5 : Ris t1.place.toList) (r6 : w.params.followText "set-order" = true ∨ t1.led = true)
    {old : Bool} {R : Option Bool → Shared → Prop} (hR : ∀ h', Heap.SameBut a s.heap h' → SetS w h' a M → R (some true) { s with heap := h' }) :
    wpAny (model P w) A (do
        storeSet a es1 t1
        if (!old && t1.tooFull) = true then do
            g (relayAll t1 es1 (SetTable.grown es1.size)).2.2
            storeSet a (relayAll t1 es1 (SetTable.grown es1.size)).1 (relayAll t1 es1 (SetTable.grown es1.size)).2.1
            pure (some true)
          else pure (some true)) R E s := by
  refine wpAny_bind (wpAny_storeSet_of q.1 q.2.2 ?_ (fits_of_scanBound r3))
  obtain ⟨o1, q1⟩ := put_at (es' := es1) (t' := t1) q
  have b1 := Heap.SameBut.update s.heap a (Obj.putSet es1 t1)
  by_cases c : (!old && t1.tooFull) = true
  · rw [if_pos c]
    have p0 := relayAll_perm t1 es1 (SetTable.grown es1.size)
    have p1 := relayAll_fits t1 es1 (SetTable.grown es1.size)
    have p2 := relayAll_ris t1 es1 (SetTable.grown es1.size)
    have p3 := relayAll_led t1 es1 (SetTable.grown es1.size)
    generalize relayAll t1 es1 (SetTable.grown es1.size) = Z at p0 p1 p2 p3 ⊢
    obtain ⟨es2, t2, gave⟩ := Z
    dsimp only at p0 p1 p2 p3 ⊢
    have hz : es2.size < scanBound := by
      rw [← Array.length_toList, p0.length_eq, Array.length_toList]
      exact r3
    refine wpAny_bind (hg _ _ _ ?_)
    refine wpAny_bind (wpAny_storeSet_of q1.1 q1.2.2 ?_ (fits_of_scanBound hz))
    obtain ⟨o2, q2⟩ := put_at (es' := es2) (t' := t2) q1
    exact wpAny_pure (hR _ (b1.trans (Heap.SameBut.update _ a _)) ⟨⟨o2, es2, _, t2, q2, fun e he => r1 e (p0.mem_iff.mp he), (p0.map txt).trans r2, hz, p1, p2, r6.imp id fun z => p3.trans z⟩, hM⟩)
  · rw [if_neg c]
    exact wpAny_pure (hR _ b1 ⟨⟨o1, es1, _, t1, q1, r1, r2, r3, r4, r5, r6⟩, hM⟩)
theorem insS_nodup {x : Str} {L : List Str} (h : L.Nodup) : (insS x L).Nodup := by
  unfold insS
  by_cases c : x ∈ L
  · rw [if_pos c]; exact h
  · rw [if_neg c]; exact List.nodup_cons.mpr ⟨c, h⟩
theorem mem_insS {x y : Str} {L : List Str} : y ∈ insS x L ↔ y = x ∨ y ∈ L := by
  unfold insS
  by_cases c : x ∈ L
  · rw [if_pos c]
    exact ⟨.inr, fun h => h.elim (fun e => e ▸ c) id⟩
  · rw [if_neg c, List.mem_cons]
theorem len_insS {x : Str} {L : List Str} : (insS x L).length ≤ L.length + 1 := by
  unfold insS
  split <;> simp
theorem addS_hashed {x : Str} {tk : Tok} {Q : Bool → Shared → Prop} (R : SetS w s.heap a L) (room : L.length + 1 < scanBound)
    (hQ : ∀ b h', Heap.SameBut a s.heap h' → SetS w h' a (insS x L) → Q b { s with heap := h' }) : wpAny (model P w) A (setAddHashed a (.str x tk) ((strKind P w).hash x)) Q E s := by
  obtain ⟨⟨o, es, ep, t, q, r1, r2, r3, r4, r5, r6⟩, nd⟩ := id R
  have hel : ElemsOf (strKind P w) es.toList := txt_elems r1
  have hsz : es.size = L.length := by rw [← Array.length_toList, ← r2.length_eq, List.length_map]
  unfold setAddHashed setAddHashedIn
  refine wpAny_holding (wpAny_bind (wpAny_setState_of q.1 q.2.2 r4 ?_))
  dsimp only
  rw [byScan_of (x := .str x tk) rfl r3 hel]
  simp only [↓reduceIte]
  unfold setAddByScan
  refine wpAny_bind ?_
  refine wpAny_bind (wpAny_rule ?_)
  refine wpAny_bind (wpAny_setScan_of (strKind_is P w x tk) q.1 q.2.2 r4 hel ?_)
  cases hfi : List.findIdx? (fun e => (strKind P w).is x e.2) es.toList with
  | some j =>
    dsimp only
    obtain ⟨hj, pj, _⟩ := List.findIdx?_eq_some_iff_getElem.mp hfi
    have hx : x ∈ L := r2.mem_iff.mp ((mem_txt (P := P) r1 x).2 ⟨es.toList[j], List.getElem_mem hj, pj⟩)
    refine wpAny_pure (wpAny_pure (hQ _ s.heap (Heap.SameBut.refl a s.heap) ?_))
    unfold insS
    rw [if_pos hx]
    exact R
  | none =>
    dsimp only
    have hx : x ∉ L := fun z => by
      obtain ⟨e, he, c⟩ := (mem_txt (P := P) r1 x).1 (r2.mem_iff.mpr z)
      have c' := List.findIdx?_eq_none_iff.mp hfi e he
      rw [c] at c'
      cases c'
    have ei : insS x L = x :: L := by unfold insS; rw [if_neg hx]
    rw [ei] at hQ
    have p0 := layNew_perm t es ((strKind P w).hash x) (.str x tk)
    have p1 := layNew_fits t es ((strKind P w).hash x) (.str x tk)
    have p2 := layNew_ris t es ((strKind P w).hash x) (.str x tk) r5
    have p3 := layNew_led t es ((strKind P w).hash x) (.str x tk)
    generalize layNew t es ((strKind P w).hash x) (.str x tk) = Z at p0 p1 p2 p3 ⊢
    obtain ⟨es1, t1, old, gave⟩ := Z
    dsimp only at p0 p1 p2 p3 ⊢
    rw [Array.toList_push] at p0
    have p4 : es1.toList.Perm ((hashStr w x, Value.str x tk) :: es.toList) := p0.trans (List.perm_append_singleton _ _)
    have u1 : ∀ e ∈ es1.toList, IsTxt w e := fun e he => (List.mem_cons.mp (p4.mem_iff.mp he)).elim (fun z => ⟨x, tk, z⟩) (r1 e)
    have u2 : (es1.toList.map txt).Perm (x :: L) := (p4.map txt).trans (r2.cons x)
    have u3 : es1.size < scanBound := by
      rw [← Array.length_toList, p4.length_eq, List.length_cons, Array.length_toList, hsz]
      exact room
    have u6 : w.params.followText "set-order" = true ∨ t1.led = true := r6.imp id fun z => p3.trans z
    have nd' : (x :: L).Nodup := List.nodup_cons.mpr ⟨hx, nd⟩
    have tell : ∀ (b : Bool) (s₁ : Shared) (Q' : Unit → Shared → Prop), Q' () s₁ → wpAny (model P w) A (match b with | true => rule "set.scan.the-table-gave-way" | false => pure ()) Q' E s₁ := fun b s₁ Q' z => by
      cases b
      · exact wpAny_pure z
      · exact wpAny_rule z
    refine wpAny_bind (tell _ _ _ ?_)
    split
    · refine wpAny_bind ?_
      rw [hashByValue_scannable 8 (x := .str x tk) rfl]
      refine wpAny_pure ?_
      refine addS_end ?_ q nd' u1 u2 u3 ?_ ?_ ?_ fun h' sb r => ?_
      · intro b s₁ Q' z
        cases b <;> first | exact wpAny_pure z | exact wpAny_rule z
      · first | (split <;> first | exact p1 | exact SetTable.fits_plain_off p1) | exact p1
      · first | (split <;> exact p2) | exact p2
      · first | (split <;> exact u6) | exact u6
      · dsimp only
        exact wpAny_pure (hQ _ h' sb r)
    · refine wpAny_bind (wpAny_pure ?_)
      simp only [↓reduceIte]
      refine addS_end ?_ q nd' u1 u2 u3 p1 p2 u6 fun h' sb r => ?_
      · intro b s₁ Q' z
        cases b <;> first | exact wpAny_pure z | exact wpAny_rule z
      · dsimp only
        exact wpAny_pure (hQ _ h' sb r)
/-- found.add(x) -/
theorem addS_call {x : Str} {tk : Tok} {Q : Value → Shared → Prop} (R : SetS w s.heap a L) (room : L.length + 1 < scanBound)
    (hQ : ∀ h', Heap.SameBut a s.heap h' → SetS w h' a (insS x L) → Q .none { s with heap := h', toks := s.toks + 1 }) : wpAny (model P w) A (call (.builtin "set.add") [.ref a, .str x tk]) Q E s := by
  refine wpAny_call_entry F.slot_set_add R.typeIs F.entry_set_add ?_ (F.args_set_add_2 _ _)
  unfold Builtin.«set.add» Builtin.Frozenset.oneOther
  simp only [List.isEmpty_nil, bind_assoc]
  unfold Builtin.Frozenset.addrOf setAdd
  refine wpAny_bind (wpAny_pure ?_)
  try dsimp only
  refine wpAny_bind (wpAny_pure ?_)
  try dsimp only
  refine wpAny_bind (wpAny_holding ?_)
  refine wpAny_bind ((strKind P w).pyHash (strKind_is P w x tk) ?_)
  refine addS_hashed (s := { s with toks := s.toks + 1 }) R room fun b h' sb r => ?_
  show wpAny _ _ (ret Value.none) _ _ _
  exact wpAny_pure ⟨_, rfl, hQ h' sb r⟩
theorem setS_fresh {h : Heap} : SetS w (h.push { cls := .type "set", dict := none, data := .set #[] 0 (.fresh 0 0 (!w.params.followText "set-order")) }) h.objs.size [] :=
  ⟨⟨_, #[], 0, _, ⟨Heap.get?_push_size _ rfl, ⟨rfl, rfl, rfl⟩, rfl⟩, fun e he => by simp at he, by simp, by decide, by rfl, List.Pairwise.nil, by
    cases e : w.params.followText "set-order"
    · exact .inr (by simp [SetTable.fresh])
    · exact .inl rfl⟩, List.nodup_nil⟩
end
def SetSO (w : World) (a : Addr) (L : List Str) : HO := .ext fun h => SetS w h a L
theorem setSO_ok {w : World} {P : Program} {H : Hp} {h : Heap} {a : Addr} {L : List Str} (R : SetS w h a L) : ObjOk P w H h a (SetSO w a L) := ⟨R, R.there, fun _ _ p k => p.move k⟩
section
variable {X : Cx}
theorem setSO_get {pins : List (Addr × Obj)} {σ : L2.St} {H : Hp} {s : Shared} {a : Addr} {L : List Str} (I : Inv X pins σ H s) (ha : H a = some (SetSO X.w a L)) : SetS X.w s.heap a L := (I.hok a _ ha).1
theorem addSO {pins : List (Addr × Obj)} {σ : L2.St} {H : Hp} {s : Shared} {E : Value → Shared → Prop} {D : Addr} {L : List Str} {x : Str} {tk : Tok} {Q : Value → Shared → Prop} (I : Inv X pins σ H s) (hD : H D = some (SetSO X.w D L)) (room : L.length + 1 < scanBound)
    (h : ∀ s', Inv X pins σ (upd H D (SetSO X.w D (insS x L))) s' → Q .none s') : wpAny (model X.prog X.w) X.A (call (.builtin "set.add") [.ref D, .str x tk]) Q E s := by
  refine addS_call (setSO_get I hD) room fun h' sb r => ?_
  exact h _ (I.write (e := D) (t' := s.toks + 1) (by rw [hD]; trivial) (.inl rfl) (fun b u hb hu => (sb.2 b hb).trans hu) r.there (setSO_ok r))
end

/-! ### sorted of a set -/
theorem strsAre_txt {w : World} : ∀ (l : List (Int × Value)), (∀ e ∈ l, IsTxt w e) → ∀ vs : List Value, vs = l.map (·.2) → StrsAre vs (l.map txt)
  | [], _, _, rfl => .nil
  | e :: l, g, _, rfl => by
    obtain ⟨x, tk, rfl⟩ := g e List.mem_cons_self
    exact .cons x tk (strsAre_txt l (fun u hu => g u (List.mem_cons_of_mem _ hu)) _ rfl)
def vtx : Value → Str | .str x _ => x | _ => ""
theorem strsAre_of_all : ∀ l : List Value, (∀ v ∈ l, ∃ x tk, v = Value.str x tk) → StrsAre l (l.map vtx)
  | [], _ => .nil
  | v :: l, h => by
    obtain ⟨x, tk, rfl⟩ := h v List.mem_cons_self
    exact .cons x tk (strsAre_of_all l fun u hu => h u (List.mem_cons_of_mem _ hu))
end Dr

set_option maxHeartbeats 4000000
/-! set(xs) and sorted(set) of texts. -/
namespace Dr
open PySem PySem.Spec PyProof.Rows L2

def dedS (xs : List Str) : List Str := xs.foldl (fun L x => insS x L) []
theorem dedS_snoc (xs : List Str) (x : Str) : dedS (xs ++ [x]) = insS x (dedS xs) := by
  unfold dedS
  rw [List.foldl_append]
  rfl
theorem mem_dedS {xs : List Str} {y : Str} : y ∈ dedS xs ↔ y ∈ xs := by
  have go : ∀ (l : List Str) (L : List Str), y ∈ l.foldl (fun L x => insS x L) L ↔ y ∈ L ∨ y ∈ l := by
    intro l
    induction l with
    | nil => intro L; simp
    | cons x l ih =>
      intro L
      rw [List.foldl_cons, ih, mem_insS, List.mem_cons]
      constructor
      · rintro ((h | h) | h)
        · exact .inr (.inl h)
        · exact .inl h
        · exact .inr (.inr h)
      · rintro (h | h | h)
        · exact .inl (.inr h)
        · exact .inl (.inl h)
        · exact .inr h
  have := go xs []
  unfold dedS
  simpa using this
theorem len_dedS (xs : List Str) : (dedS xs).length ≤ xs.length := by
  have go : ∀ (l : List Str) (L : List Str), (l.foldl (fun L x => insS x L) L).length ≤ L.length + l.length := by
    intro l
    induction l with
    | nil => intro L; simp
    | cons x l ih =>
      intro L
      rw [List.foldl_cons, List.length_cons]
      have h1 := ih (insS x L)
      have h2 := len_insS (x := x) (L := L)
      omega
  have := go xs []
  unfold dedS
  simpa using this
section
variable {P : Program} {w : World} {A : Around} {E : Value → Shared → Prop} {s : Shared}
theorem upd_txts {I : Addr} {fp wr : List Addr} {G : Array GenState → Array GenState → Prop} {n : Nat} {Pv : Nat → Value → Prop} {St : Nat → Shared → Prop} {R : Result → Shared → Prop}
    (W : WalksS P w A.in1 I fp wr G n Pv St) (S : Addr) (hSf : S ∉ fp) (xs : List Str) (hn : n = xs.length) (hz : xs.length + 1 < scanBound) (hval : ∀ i v, Pv i v → ∃ x t, xs[i]? = some x ∧ v = .str x t) :
    ∀ (k i : Nat) (s : Shared), n - i = k → i ≤ n → St i s → SetS w s.heap S (dedS (xs.take i)) →
      (∀ s', Moved (S :: wr) G s s' → SetS w s'.heap S (dedS xs) → R (.ok (.ret .none)) s') → codeAny (model P w) A (.builtin "set.update.loop" ⟨[.ref S, .ref I], []⟩) R s := by
  have hSw : S ∉ wr := fun h => hSf (W.sub _ h)
  have hsub : ∀ b ∈ wr, b ∈ S :: wr := fun b hb => List.mem_cons_of_mem _ hb
  intro k
  induction k with
  | zero =>
    intro i s hk hi hst hS hR
    have e : i = n := by omega
    subst e
    refine codeAny_builtin F.entry_set_update_loop ?_
    rw [Around.under_plainId F.plain_set_update_loop _]
    show wpAny _ A.in1 (pyNext (.ref I) >>= _) _ _ s
    refine wpAny_bind (W.done s _ _ hst fun s' hm => ?_)
    show wpAny _ A.in1 (ret Value.none) _ _ s'
    rw [hn, List.take_length] at hS
    exact wpAny_pure (hR s' (hm.mono hsub) (hS.move fun o e => hm.heap S o hSw e))
  | succ k ih =>
    intro i s hk hi hst hS hR
    have hlt : i < n := by omega
    refine codeAny_builtin F.entry_set_update_loop ?_
    rw [Around.under_plainId F.plain_set_update_loop _]
    show wpAny _ A.in1 (pyNext (.ref I) >>= _) _ _ s
    refine wpAny_bind (W.item i s _ _ hlt hst fun v s' hP hst' hm => ?_)
    obtain ⟨x, t, hx, rfl⟩ := hval i v hP
    have hS' : SetS w s'.heap S (dedS (xs.take i)) := hS.move fun o e => hm.heap S o hSw e
    have hlen : (dedS (xs.take i)).length + 1 < scanBound := by
      have h1 := len_dedS (xs.take i)
      rw [List.length_take] at h1
      omega
    show wpAny _ A.in1 (holding [Value.str x t] (setAdd S (.str x t)) >>= _) _ _ s'
    refine wpAny_bind (wpAny_holding ?_)
    unfold setAdd
    refine wpAny_holding ?_
    refine wpAny_bind ((strKind P w).pyHash (strKind_is P w x t) ?_)
    refine addS_hashed (s := { s' with toks := s'.toks + 1 }) hS' hlen fun b h' sb hS2 => ?_
    have hnext : SetS w h' S (dedS (xs.take (i + 1))) := by
      rw [List.take_add_one, hx]
      show SetS w h' S (dedS (xs.take i ++ [x]))
      rw [dedS_snoc]
      exact hS2
    refine wpAny_pure ⟨plainId_quiet F.plain_set_update_loop _, ih (i + 1) _ (by omega) hlt (W.frame _ s' _ _ hst' (Nat.le_succ _) fun b hb o e => ?_) hnext fun s'' hm'' hS'' => ?_⟩
    · rw [sb.2 b fun z : b = S => hSf (by rw [← z]; exact hb)]
      exact e
    · refine hR s'' (Moved.trans W.gtrans ((hm.mono hsub).then_heap (Nat.le_succ _) fun b o hb e => ?_) hm'') hS''
      rw [sb.2 b fun z : b = S => hb (by rw [z]; exact List.mem_cons_self)]
      exact e
theorem txts_at : ∀ {us : List Value} {xs : List Str}, StrsAre us xs → ∀ (i : Nat) (v : Value), us[i]? = some v → ∃ t, v = .str (xs.getD i "") t
  | _, _, .nil, _, _, h => by simp at h
  | _, _, .cons x t r, 0, v, h => ⟨t, by
    have e := Option.some.inj h
    rw [← e]
    rfl⟩
  | _, _, .cons x t r, i + 1, v, h => txts_at r i v h
theorem call_set_txts {l : Addr} {items : Array Value} (xs : List Str) {Q : Value → Shared → Prop} (hh : A.handled = none) (hl : s.heap.IsList l items) (hit : StrsAre items.toList xs) (hz : xs.length + 1 < scanBound)
    (h : ∀ (h' : Heap) (tk : Nat), SetS w h' s.heap.objs.size (dedS xs) → (∀ b o, s.heap.get? b = some o → h'.get? b = some o) → Q (.ref s.heap.objs.size) { s with heap := h', toks := tk }) :
    wpAny (model P w) A (call (.type "set") [.ref l]) Q E s := by
  have hisz : items.size = xs.length := by rw [← Array.length_toList, hit.length]
  obtain ⟨c, tl, hmro⟩ := F.called_set.mro
  have hmade := F.called_set.made
  have hsub := F.called_set.sub
  refine wpAny_call (codeAny_of_tree ?_)
  show wpAny _ _ (callAny (.type "set") _) _ _ _
  refine wpAny_pure ⟨Code.quiet_builtin _ (by decide +kernel), codeAny_builtin F.entry_type_call ?_⟩
  rw [Around.under_plain (weight_type_call_type "set" [.ref l] []) rfl]
  have h1 := F.called_set.notType
  have h2 := F.called_set.canCreate
  have hct := F.typeCall_set_1 (.ref l)
  repeat (any_goals (first | assumption | wp_step))
  refine codeAny_mono (code_set_led1 (.ref l) (E := E) (Q₁ := fun obj s₁ => obj = .ref s.heap.objs.size ∧ s₁ = { s with heap := s.heap.push { cls := .type "set", dict := none, data := .set #[] 0 (.fresh 0 0 (!w.params.followText "set-order")) } }) ⟨rfl, rfl⟩) fun r s₁ hr => ?_
  cases r with
  | error e => exact hr
  | ok fl =>
    cases fl with
    | ret obj =>
      obtain ⟨rfl, rfl⟩ := hr
      have hS : (s.heap.push { cls := .type "set", dict := none, data := .set #[] 0 (.fresh 0 0 (!w.params.followText "set-order")) }).get? s.heap.objs.size = some { cls := .type "set", dict := none, data := .set #[] 0 (.fresh 0 0 (!w.params.followText "set-order")) } := Heap.get?_push_size _ rfl
      have hT : Shared.TypeIs { s with heap := s.heap.push { cls := .type "set", dict := none, data := .set #[] 0 (.fresh 0 0 (!w.params.followText "set-order")) } } (.ref s.heap.objs.size) "set" := ⟨_, hS, rfl⟩
      have hli := F.called_set.init.lookup
      have hbi := F.called_set.init.bind (.ref s.heap.objs.size)
      repeat (any_goals (first | assumption | wp_step))
      refine codeAny_mono (codeAny_call_builtin (R := wants (fun r s₂ => r = .none ∧ ∃ h' tk, s₂ = { s with heap := h', toks := tk } ∧ SetS w h' s.heap.objs.size (dedS xs) ∧ (∀ b o, s.heap.get? b = some o → h'.get? b = some o)) E) F.called_set.init.plain F.entry_set_init (check_set_init_1 hT ?_)) fun r₂ s₂ hr₂ => ?_
      · obtain ⟨ol, hol, hcl, nl, hdl⟩ := hl
        obtain ⟨ocls, odict, odata, oslots⟩ := ol
        simp only at hcl hdl
        subst hcl; subst hdl
        have hol' : (s.heap.push { cls := .type "set", dict := none, data := .set #[] 0 (.fresh 0 0 (!w.params.followText "set-order")) }).get? l = some { cls := .type "list", dict := odict, data := .seq items nl, slots := oslots } := Heap.get?_push_of_some _ hol
        have hsls := F.sub_list_set
        have hslf := F.sub_list_frozenset
        have hne : (Value.type "list" == Value.type "dict") = false := by decide
        have hl1 : (s.heap.push { cls := .type "set", dict := none, data := .set #[] 0 (.fresh 0 0 (!w.params.followText "set-order")) }).IsList l items := ⟨_, hol', rfl, nl, rfl⟩
        unfold Builtin.«set.__init__» noKeywords Builtin.Frozenset.updateFrom
        generalize hPI : pyIter = PI
        wp_walk
        subst hPI
        refine wpAny_pyIter_list hl1 ?_
        refine wpAny_bind (wpAny_runValue ?_)
        have hlS : l < s.heap.objs.size := Heap.lt_size hol
        have hh3 : A.in1.in1.in1.handled = none := by simp [hh]
        have hneI : l ≠ (s.heap.push { cls := .type "set", dict := none, data := .set #[] 0 (.fresh 0 0 (!w.params.followText "set-order")) }).objs.size := by
          rw [Heap.size_push]
          exact Nat.ne_of_lt (Nat.lt_succ_of_lt hlS)
        have hSf : s.heap.objs.size ∉ [(s.heap.push { cls := .type "set", dict := none, data := .set #[] 0 (.fresh 0 0 (!w.params.followText "set-order")) }).objs.size, l] := by
          rw [Heap.size_push]
          simp only [List.mem_cons, List.not_mem_nil, or_false, not_or]
          exact ⟨Nat.ne_of_lt (Nat.lt_succ_self _), Nat.ne_of_gt hlS⟩
        have hval : ∀ (i : Nat) (v : Value), items[i]? = some v → ∃ x t, xs[i]? = some x ∧ v = .str x t := fun i v hv => by
          have q : items.toList[i]? = some v := by rw [Array.getElem?_toList]; exact hv
          have hi : i < xs.length := by
            rw [← hisz]
            exact (Array.getElem?_eq_some_iff.mp hv).1
          obtain ⟨t, e⟩ := txts_at hit i v q
          refine ⟨xs[i], t, List.getElem?_eq_getElem hi, ?_⟩
          rw [e, List.getD_eq_getElem?_getD, List.getElem?_eq_getElem hi]
          rfl
        refine upd_txts ((Walks.list hh3 _ l hneI items).toS) s.heap.objs.size hSf xs hisz hz hval (items.size - 0) 0 _ (by omega) (Nat.zero_le _)
          ⟨⟨_, Heap.get?_push_size _ rfl, rfl, rfl⟩, (hl1.push _)⟩ ?hS0 ?hR
        case hS0 =>
          exact SetS.move (setS_fresh (w := w) (h := s.heap)) fun o e => Heap.get?_push_of_some _ e
        case hR =>
          intro s' hm hS'
          obtain ⟨h', g2, d', tk', os'⟩ := s'
          have eg : g2 = s.gens := hm.gens
          have ed : d' = s.drawn := hm.drawn
          have eo : os' = s.os := hm.os
          subst eg; subst ed; subst eo
          show wpAny _ _ _ _ _ _
          refine wpAny_pure ?_
          show wpAny _ _ (ret Value.none) _ _ _
          refine wpAny_pure ⟨rfl, h', tk', rfl, hS', fun b o e => ?_⟩
          refine hm.heap b o (fun z => ?_) (Heap.get?_push_of_some _ (Heap.get?_push_of_some _ e))
          have hb : b < s.heap.objs.size := Heap.lt_size e
          rcases List.mem_cons.mp z with z | z
          · exact absurd hb (by rw [z]; exact Nat.lt_irrefl _)
          · have z := List.mem_singleton.mp z
            rw [z, Heap.size_push] at hb
            exact absurd hb (Nat.not_lt_of_le (Nat.le_succ _))
      · cases r₂ with
        | error e => exact hr₂
        | ok fl₂ =>
          cases fl₂ with
          | ret r =>
            obtain ⟨rfl, h', tk, rfl, hS', hk'⟩ := hr₂
            repeat (any_goals (first | assumption | wp_step))
            exact h _ _ hS' hk'
          | _ => exact hr₂.elim
    | _ => exact hr.elim

/-! ### sorted texts -/
theorem rising_low : ∀ (l : List Str) (p : Str), risingS p l = true → ∀ x ∈ l, slt x p = false
  | [], _, _, x, hx => by cases hx
  | y :: r, p, h, x, hx => by
    have h' : (!ltCps y.cps.toList p.cps.toList && risingS y r) = true := h
    rw [Bool.and_eq_true] at h'
    have e1 : slt y p = false := by
      have := h'.1
      rw [ltCps_eq] at this
      unfold slt
      simpa using this
    rcases List.mem_cons.mp hx with rfl | hx
    · exact e1
    · have e2 := rising_low r y h'.2 x hx
      cases e : slt x p with
      | false => rfl
      | true =>
        cases e3 : slt y x with
        | true =>
          have := slt_trans e3 e
          rw [e1] at this
          cases this
        | false =>
          have e4 := slt_conn e2 e3
          subst e4
          rw [e1] at e
          cases e
theorem sortedS_pair : ∀ (l : List Str), sortedS l = true → l.Pairwise (fun a b => slt b a = false)
  | [], _ => List.Pairwise.nil
  | x :: r, h => by
    have h' : risingS x r = true := h
    refine List.pairwise_cons.mpr ⟨fun y hy => rising_low r x h' y hy, ?_⟩
    refine sortedS_pair r ?_
    cases r with
    | nil => rfl
    | cons y r =>
      have h2 : (!ltCps y.cps.toList x.cps.toList && risingS y r) = true := h'
      rw [Bool.and_eq_true] at h2
      exact h2.2
theorem strict_of : ∀ (l : List Str), l.Pairwise (fun a b => slt b a = false) → l.Nodup → l.Pairwise (fun a b => slt a b = true)
  | [], _, _ => List.Pairwise.nil
  | x :: r, h, d => by
    obtain ⟨h1, h2⟩ := List.pairwise_cons.mp h
    obtain ⟨d1, d2⟩ := List.nodup_cons.mp d
    refine List.pairwise_cons.mpr ⟨fun y hy => ?_, strict_of r h2 d2⟩
    cases e : slt x y with
    | true => rfl
    | false => exact absurd (slt_conn e (h1 y hy)) (fun z => d1 (z ▸ hy))
theorem sorted_setS {a : Addr} {L : List Str} {Q : Value → Shared → Prop} (R : SetS w s.heap a L) (hh : A.handled = none)
    (hQ : ∀ s' p (out : Array Value) (c : Nat) (ys : List Str), (∀ b o, s.heap.get? b = some o → s'.heap.get? b = some o) → s'.gens = s.gens → s'.os = s.os → s.heap.objs.size ≤ p → s'.heap.get? p = some (seqObj "list" out c) → StrsAre out.toList ys → ys.Pairwise (fun a b => slt a b = true) → ys.Perm L → Q (.ref p) s') :
    wpAny (model P w) A (call (.builtin "sorted") [.ref a]) Q E s := by
  obtain ⟨⟨o, es, ep, t, q, r1, r2, r3, r4, r5, r6⟩, nd⟩ := R
  refine Calls.call_function_entry kind_sorted plain_sorted entry_sorted (args_sorted1 _) ?_
  unfold Builtin.«sorted»
  refine wpAny_bind (m := checkCount "sorted" 1 1 _) (wpAny_pure ?_)
  refine wpAny_bind (collect_set (A := A.in1) hh ⟨o, q.1, q.2.1.1, q.2.2⟩ r4 r3 r5 r6 fun s1 vs k1 hz g1 o1 pm => ?_)
  have hvl : vs.length ≤ sizeLine := by
    rw [pm.length_eq, List.length_map, Array.length_toList]
    exact fits_of_scanBound r3
  have hall : ∀ v ∈ vs, ∃ x tk, v = Value.str x tk := fun v hv => by
    obtain ⟨e, he, z⟩ := List.mem_map.mp (pm.mem_iff.mp hv)
    obtain ⟨x, tk, rfl⟩ := r1 e he
    exact ⟨x, tk, z.symm⟩
  have hI := strsAre_of_all vs hall
  have pk : (vs.map vtx).Perm L := by
    have z := pm.map vtx
    rw [List.map_map] at z
    exact z.trans r2
  refine wpAny_bind (wpAny_newList ?_ hvl)
  have hoL : (s1.heap.push (seqObj "list" vs.toArray 0)).get? s1.heap.objs.size = some (seqObj "list" vs.toArray 0) := Heap.get?_push_size _ rfl
  refine wpAny_bind (wpAny_holding (wpAny_call_entry slot_list_sort ⟨_, hoL, rfl⟩ entry_list_sort (list_sort_treeKAny strKind_oneLt hoL hI.keysOf (fun v₁ v₂ rest e => keyKind_strs (by rw [← e]; exact hI)) hvl fun st' hp hs => ⟨_, rfl, ?_⟩) (args_list_sort _)))
  obtain ⟨ys, y1, y2, y3⟩ := sorted_out_str hI hp hs
  obtain ⟨c, hc⟩ := sortedHeap_at (vs := vs) (out := (arrOf st').map (·.2)) hoL
  have pL : ys.Perm L := y2.trans pk
  refine wpAny_pure ⟨_, rfl, hQ _ s1.heap.objs.size _ c ys (fun b u e => ?_) g1 o1 hz hc y1 (strict_of ys (sortedS_pair ys y3) (pL.nodup_iff.mpr nd)) pL⟩
  have z := k1 b u e
  have hlt := Heap.lt_size z
  show (sortedHeap (s1.heap.push (seqObj "list" vs.toArray 0)) s1.heap.objs.size vs _).get? b = some u
  rw [sortedHeap_old (Nat.ne_of_lt hlt) (by rw [size_push']; exact Nat.lt_succ_of_lt hlt)]
  exact Heap.get?_push_of_some _ z
end

theorem vals_txt : ∀ {us : List Value} {ys : List Str}, StrsAre us ys → Vals (ys.map V.str) us
  | _, _, .nil => .nil
  | _, _, .cons x t r => .cons ⟨t, rfl⟩ (vals_txt r)
section
variable {X : Cx}
/-- sorted(s), s a set of texts -/
def rSortSet (w : World) : List V → Hp → VK → Prop := fun vs H Q => ∃ (a : Addr) (L : List Str), vs = [V.ref a] ∧ H a = some (SetSO w a L) ∧ L.length ≤ 1000 ∧
  ∀ (ys : List Str) (p : Addr), ys.Pairwise (fun a b => slt a b = true) → ys.Perm L → H p = none → Q (.ref p) (upd H p (.lst (ys.map V.str)))
theorem cr_sortSet (hc : X.calm = true) : CallR X (.builtin "sorted") (rSortSet X.w) := by
  intro pins s σ H vs us Q I r h
  obtain ⟨a, L, rfl, ha, hL, q⟩ := h
  have R := setSO_get I ha
  rw [Vals.ref1 r]
  refine sorted_setS R (I.ok.hd hc) fun s' p out c ys k g o hp hg hi hs hm => ?_
  have hlen : (ys.map V.str).length ≤ sizeLine := by
    rw [List.length_map, hm.length_eq, sizeLine_eq]
    omega
  have hn : H p = none := I.hok.fresh hp
  have J : Inv X pins σ (upd H p (.lst (ys.map V.str))) { s with heap := s'.heap, gens := s'.gens, drawn := s'.drawn, toks := s'.toks } :=
    I.call (ch := []) (Un.laid k hp hn) (I.hok.laid k hp ⟨hlen, out.toList, c, vals_txt hi, hg⟩) (by rw [g]; exact I.bare) (fun _ z => nomatch z)
  have e : s' = { s with heap := s'.heap, gens := s'.gens, drawn := s'.drawn, toks := s'.toks } := by
    cases s'; cases s; cases o; rfl
  rw [e]
  exact ⟨.ref p, _, J, rfl, q ys p hs hm hn⟩
/-- set(xs), xs a list of texts -/
def rSetOf (K : PySem.W.Frag) (w : World) : List V → Hp → VK → Prop := fun vs H Q => ∃ (a : Addr) (xs : List Str), vs = [V.ref a] ∧ SqL K H a (xs.map V.str) ∧ xs.length ≤ 62 ∧ ∀ p, H p = none → Q (.ref p) (upd H p (SetSO w p (dedS xs)))
theorem cr_setOf (hc : X.calm = true) : CallR X (.type "set") (rSetOf X.K X.w) := by
  intro pins s σ H vs us Q I r h
  obtain ⟨a, xs, rfl, hs, hz, q⟩ := h
  obtain ⟨its, rv, hl, _⟩ := I.list hs
  rw [Vals.ref1 r]
  refine call_set_txts xs (I.ok.hd hc) hl.isList (by rw [List.toList_toArray]; exact rv.strs) (by unfold scanBound; omega) fun h' tk hS hk => ?_
  have hn : H s.heap.objs.size = none := I.hok.fresh (Nat.le_refl _)
  exact ⟨.ref s.heap.objs.size, _, I.laid (t' := tk) hk (Nat.le_refl _) (setSO_ok hS), rfl, q _ hn⟩
end
end Dr

set_option maxHeartbeats 4000000
/-! {x for a in A for x in B}, x texts. -/
namespace Dr
open PySem PySem.Spec PyProof.Rows L2

abbrev twoFor (t0 i0 t1 i1 : Expr) : List Comprehension := [⟨t0, i0, [], 0⟩, ⟨t1, i1, [], 0⟩]
theorem sc_turn0 (elt t0 i0 t1 i1 : Expr) (scope : Scope) (pos : Pos) (it acc : Value) (env : Env) : compTurn (.SetComp elt (twoFor t0 i0 t1 i1) scope pos) 0 it acc env = (do
      standAt i0.pos
      match ← pyNext it with
      | none => pure (.done .next)
      | some v =>
        letOwnedTupleGo t0 it v
        assign t0 env v
        let mut ok := true
        for c in ([] : List Expr) do
          if ok then ok ← isTrue c env (eval c env)
        if ok then
          let x ← eval i1 env
          standAt i1.pos
          let x ← foldedSetIterable i1 env x
          let _ ← runOwn (.compStart (.SetComp elt (twoFor t0 i0 t1 i1) scope pos) 1 (← holding [x] (pyIter x)) acc env) env
        again (.compLoop (.SetComp elt (twoFor t0 i0 t1 i1) scope pos) 0 it acc env)) := by rfl
theorem sc_turn1 (elt t0 i0 t1 i1 : Expr) (scope : Scope) (pos : Pos) (it acc : Value) (env : Env) : compTurn (.SetComp elt (twoFor t0 i0 t1 i1) scope pos) 1 it acc env = (do
      standAt i1.pos
      match ← pyNext it with
      | none => pure (.done .next)
      | some v =>
        letOwnedTupleGo t1 it v
        assign t1 env v
        let mut ok := true
        for c in ([] : List Expr) do
          if ok then ok ← isTrue c env (eval c env)
        if ok then
          (do let v ← eval elt env; standAt elt.pos; let _ ← call (.builtin "set.add") [acc, v])
        again (.compLoop (.SetComp elt (twoFor t0 i0 t1 i1) scope pos) 1 it acc env)) := by rfl
section
variable {prog : Program} {w : World} {A : Around} {R : Result → Shared → Prop} {s : Shared} {elt t0 i0 t1 i1 : Expr} {scope : Scope} {pos : Pos} {it acc : Value} {env : Env}
abbrev Nby (prog : Program) (w : World) (A : Around) (env : Env) (R : Result → Shared → Prop) : Value → Shared → Prop := notedBy (model prog w) A env fun e s' => R (.error e) s'
theorem sc_loop0 (hs : ∀ x, foldedSetIterable i1 env x = pure x) (I : Nat → Shared → Prop)
    (turn : ∀ n s, I n s → wpAny (model prog w) A (pyNext it) (fun r s₁ => match r with
      | none => R (.ok .next) s₁
      | some v => wpAny (model prog w) A (letOwnedTupleGo t0 it v) (fun _ s₂ => wpAny (model prog w) A (assign t0 env v) (fun _ s₃ =>
          wpAny (model prog w) A (eval i1 env) (fun x s₄ => wpAny (model prog w) A (pyIter x) (fun it1 s₅ =>
            codeAny (model prog w) A (.compStart (.SetComp elt (twoFor t0 i0 t1 i1) scope pos) 1 it1 acc env) (fun r s' => match r with
              | .ok _ => ∃ m, m < n ∧ I m s'
              | .error _ => False) s₅) (Nby prog w A env R) s₄) (Nby prog w A env R) s₃) (Nby prog w A env R) s₂) (Nby prog w A env R) s₁) (Nby prog w A env R) s)
    (n : Nat) (h : I n s) : codeAny (model prog w) A (.compLoop (.SetComp elt (twoFor t0 i0 t1 i1) scope pos) 0 it acc env) R s := by
  refine codeAny_loop rfl I (fun n s hI => ?_) n h
  show wpAny _ A ((compTurn (.SetComp elt (twoFor t0 i0 t1 i1) scope pos) 0 it acc env).onRaise (fun x => do noteFrame x env; theTreesLotGoes x)) _ _ s
  refine wpAny_noted ?_
  rw [sc_turn0]
  refine wpAny_bind (wpAny_standAt (wpAny_bind (wpAny_mono (turn n s hI) (fun r s₁ q1 => ?_) fun _ _ z => z)))
  cases r with
  | none => exact wpAny_pure q1
  | some v =>
    refine wpAny_bind (wpAny_mono q1 (fun _ s₂ q2 => ?_) fun _ _ z => z)
    refine wpAny_bind (wpAny_mono q2 (fun _ s₃ q3 => ?_) fun _ _ z => z)
    refine wpAny_bind (wpAny_of_eq (a := true) (by rfl) ?_)
    refine wpAny_bind (wpAny_mono q3 (fun x s₄ q4 => ?_) fun _ _ z => z)
    refine wpAny_bind (wpAny_standAt (wpAny_bind (wpAny_of_eq (hs x) (wpAny_bind (wpAny_holding (wpAny_mono q4 (fun it1 s₅ q5 => ?_) fun _ _ z => z))))))
    refine wpAny_bind (wpAny_runOwn ?_)
    rw [Around.mark_none]
    refine codeAny_mono q5 fun r s' hr => ?_
    cases r with
    | ok f =>
      first
        | exact wpAny_pure ⟨rfl, hr⟩
        | exact wpAny_bind (wpAny_pure (wpAny_pure ⟨rfl, hr⟩))
    | error e => exact hr.elim
theorem sc_loop1 (I : Nat → Shared → Prop)
    (turn : ∀ n s, I n s → wpAny (model prog w) A (pyNext it) (fun r s₁ => match r with
      | none => R (.ok .next) s₁
      | some v => wpAny (model prog w) A (letOwnedTupleGo t1 it v) (fun _ s₂ => wpAny (model prog w) A (assign t1 env v) (fun _ s₃ =>
          wpAny (model prog w) A (eval elt env) (fun x s₄ => wpAny (model prog w) A (call (.builtin "set.add") [acc, x]) (fun _ s₅ => ∃ m, m < n ∧ I m s₅) (Nby prog w A env R) s₄) (Nby prog w A env R) s₃) (Nby prog w A env R) s₂) (Nby prog w A env R) s₁) (Nby prog w A env R) s)
    (n : Nat) (h : I n s) : codeAny (model prog w) A (.compLoop (.SetComp elt (twoFor t0 i0 t1 i1) scope pos) 1 it acc env) R s := by
  refine codeAny_loop rfl I (fun n s hI => ?_) n h
  show wpAny _ A ((compTurn (.SetComp elt (twoFor t0 i0 t1 i1) scope pos) 1 it acc env).onRaise (fun x => do noteFrame x env; theTreesLotGoes x)) _ _ s
  refine wpAny_noted ?_
  rw [sc_turn1]
  refine wpAny_bind (wpAny_standAt (wpAny_bind (wpAny_mono (turn n s hI) (fun r s₁ q1 => ?_) fun _ _ z => z)))
  cases r with
  | none => exact wpAny_pure q1
  | some v =>
    refine wpAny_bind (wpAny_mono q1 (fun _ s₂ q2 => ?_) fun _ _ z => z)
    refine wpAny_bind (wpAny_mono q2 (fun _ s₃ q3 => ?_) fun _ _ z => z)
    refine wpAny_bind (wpAny_of_eq (a := true) (by rfl) ?_)
    exact wpAny_bind (wpAny_bind (wpAny_mono q3 (fun x s₄ q4 => wpAny_bind (wpAny_standAt (wpAny_bind (wpAny_mono q4 (fun _ s₅ q5 => wpAny_pure (wpAny_pure ⟨rfl, q5⟩)) fun _ _ z => z)))) fun _ _ z => z))
theorem sc_start1 (h0 : codeAny (model prog w) A (.compLoop (.SetComp elt (twoFor t0 i0 t1 i1) scope pos) 1 it acc env) R s)
    (h : wpAny (model prog w) A (pyIter it) (fun it' s' => codeAny (model prog w) A (.compLoop (.SetComp elt (twoFor t0 i0 t1 i1) scope pos) 1 it' acc env) R s') (notedBy (model prog w) A env fun x s' => R (.error x) s') s) :
    codeAny (model prog w) A (.compStart (.SetComp elt (twoFor t0 i0 t1 i1) scope pos) 1 it acc env) R s := by
  refine codeAny_of_tree ?_
  show wpAny _ _ ((compStart (.SetComp elt (twoFor t0 i0 t1 i1) scope pos) 1 it acc env).onRaise (fun x => do noteFrame x env; standAt theWindowsPlace)) _ _ s
  refine wpAny_notedAt ?_
  unfold compStart
  show wpAny _ _ (ask >>= _) _ _ s
  refine wpAny_bind (wpAny_askSetting (wpAny_ite ?_))
  split
  · first
      | exact wpAny_bind (wpAny_pure (wpAny_pure (And.intro rfl h0)))
      | exact wpAny_pure (And.intro rfl h0)
  · first
      | exact wpAny_bind (wpAny_rule (wpAny_bind (wpAny_standAt (wpAny_bind (wpAny_mono h (fun it' s' h' => wpAny_pure (And.intro rfl h')) fun _ _ x => x)))))
      | (refine wpAny_bind (wpAny_rule ?_); show wpAny _ _ (standAt i1.pos >>= _) _ _ s; exact wpAny_bind (wpAny_standAt (wpAny_bind (wpAny_mono h (fun it' s' h' => wpAny_pure (And.intro rfl h')) fun _ _ x => x))))
end
section
variable {X : Cx}
/-- the new set stands at D; W goes with the first loop, W1 with the second -/
def tSc2 (w : World) (wi : TI) (g : TG) (wi1 : TI) (g1 : TG) (te : TE) (vs vs1 : List Nat) : TE := fun σ H Q => wi σ H fun J H1 => ∀ D, H1 D = none → ∃ W : Nat → Nat → Hp → Prop, (∃ m, W 0 m (upd H1 D (SetSO w D []))) ∧ ∀ i m H, W i m H →
  (J.stop i H ∧ Q (.ref D) H) ∨ (J.go i H ∧ ∃ Nx : Hp → Prop, (∀ H', Nx H' → ∃ m', m' < m ∧ W (i + 1) m' H') ∧ ∀ x H', J.yld i H x H' → g x (wipe σ vs) H' fun σ2 H2 => wipe σ2 vs = wipe σ vs ∧
    wi1 σ2 H2 fun J1 H4 => ∃ W1 : Nat → Nat → Hp → Prop, (∃ m, W1 0 m H4) ∧ ∀ j k H, W1 j k H →
      (J1.stop j H ∧ Nx H) ∨ (J1.go j H ∧ ∃ Nx1 : Hp → Prop, (∀ H', Nx1 H' → ∃ k', k' < k ∧ W1 (j + 1) k' H') ∧ ∀ x H', J1.yld j H x H' → g1 x (wipe σ2 vs1) H' fun σ3 H5 => wipe σ3 vs1 = wipe σ2 vs1 ∧
        te σ3 H5 fun y H7 => ∃ (z : Str) (L : List Str), y = .str z ∧ H7 D = some (SetSO w D L) ∧ L.length + 1 < scanBound ∧ Nx1 (upd H7 D (SetSO w D (insS z L)))))
theorem pe_sc2 {elt tg iter tg1 iter1 : Expr} {scope : Scope} {own : List (Str × Nat)} {vs1 : List Nat} {pos : Pos} {wi wi1 : TI} {g g1 : TG} {te : TE} (hc : X.calm = true) (hN : X.N.Nodup) (hi : PI X tg iter wi) (ok : BlkOk X.N X.env.scope scope own) (hv : ∀ i ∈ vs1, i ∈ own.map (·.2))
    (hg : ∀ (s : Shared) (H : Hp) (C : Addr) (cl : List (Str × Addr)) (fp : List Addr), PG (X.blk s H scope (compEnvC scope cl C X.env) fp) tg g)
    (hi1 : ∀ (s : Shared) (H : Hp) (C : Addr) (cl : List (Str × Addr)) (fp : List Addr), PI (X.blk s H scope (compEnvC scope cl C X.env) fp) tg1 iter1 wi1)
    (hg1 : ∀ (s : Shared) (H : Hp) (C : Addr) (cl : List (Str × Addr)) (fp : List Addr), PG (X.blk s H scope (compEnvC scope cl C X.env) fp) tg1 g1)
    (he : ∀ (s : Shared) (H : Hp) (C : Addr) (cl : List (Str × Addr)) (fp : List Addr), PE (X.blk s H scope (compEnvC scope cl C X.env) fp) elt te)
    (hs : ∀ x, foldedSetIterable iter X.env x = pure x := by intro _; rfl) (hs1 : ∀ env x, foldedSetIterable iter1 env x = pure x := by intro _ _; rfl) :
    PE X (.SetComp elt (twoFor tg iter tg1 iter1) scope pos) (tSc2 X.w wi g wi1 g1 te (own.map (·.2)) vs1) := by
  refine ⟨fun pins s σ H Q I h => ?_⟩
  rw [PpSet.eval_SetComp]
  have hfree : ∀ y ∈ scope.names, y.2 = .free → ∃ c, X.env.cells.lookup y.1 = some c := fun y hy e => by
    rcases ok.free y hy e with k | k
    · exact I.ok.has _ (.inl k)
    · exact I.ok.has _ (.inr k)
  refine wpAny_comprehension_free (use := none) rfl hs (closure_ok hfree) ok.kind (fun y hy e => by rw [ok.uniq y hy, e])
    (thn (hi.run pins s σ H _ I h) fun xv s1 hx => thn hx fun itv s2 h2 => ?_)
  obtain ⟨it, fp, tn, J, H2, e, I2, T, st2, f2, q⟩ := h2
  subst e
  refine PpSet.newSet_ok (newEnv_comp ?_)
  generalize hD : s2.heap.objs.size = D
  have hDn : H2 D = none := I2.hok.fresh (Nat.le_of_eq hD)
  obtain ⟨W, ⟨m0, w0⟩, turn⟩ := q D hDn
  generalize hs3 : ({ s2 with heap := s2.heap.push { cls := .type "set", dict := none, data := .set #[] 0 (.fresh 0 0 (!X.w.params.followText "set-order")) } } : Shared) = s3
  have I3 : Inv X pins σ (upd H2 D (SetSO X.w D [])) s3 := by
    rw [← hs3]
    refine I2.laid (t' := s2.toks) (fun b o e => Heap.get?_push_of_some _ e) (Nat.le_of_eq hD) ?_
    rw [← hD]
    exact setSO_ok setS_fresh
  have h3 : s3.heap = s2.heap.push { cls := .type "set", dict := none, data := .set #[] 0 (.fresh 0 0 (!X.w.params.followText "set-order")) } := by rw [← hs3]
  have f3 : ∀ b ∈ fp, FpOk X pins (upd H2 D (SetSO X.w D [])) b ∧ b < s3.heap.objs.size := fun b hb => by
    obtain ⟨o, e, _⟩ := T.obj _ _ st2 b hb
    have hlt : b < s2.heap.objs.size := Heap.lt_size e
    refine ⟨⟨?_, (f2 b hb).2⟩, by rw [h3, Heap.size_push]; exact Nat.lt_succ_of_lt hlt⟩
    rw [upd_ne (by rw [← hD]; exact Nat.ne_of_lt hlt)]
    exact (f2 b hb).1
  have st3 : tn 0 s3.heap := T.keep _ _ _ st2 fun b _ o e => by rw [h3]; exact Heap.get?_push_of_some _ e
  have I4 := block_start I3 ok hN f3
  have pg := hg s3 (upd H2 D (SetSO X.w D [])) s3.heap.objs.size (cellsFrom (s3.heap.objs.size + 1) scope.names (cloFrom X.env.cells scope.names [])) fp
  have pe := he s3 (upd H2 D (SetSO X.w D [])) s3.heap.objs.size (cellsFrom (s3.heap.objs.size + 1) scope.names (cloFrom X.env.cells scope.names [])) fp
  have pi1 := hi1 s3 (upd H2 D (SetSO X.w D [])) s3.heap.objs.size (cellsFrom (s3.heap.objs.size + 1) scope.names (cloFrom X.env.cells scope.names [])) fp
  have pg1 := hg1 s3 (upd H2 D (SetSO X.w D [])) s3.heap.objs.size (cellsFrom (s3.heap.objs.size + 1) scope.names (cloFrom X.env.cells scope.names [])) fp
  let Post := compPost (model X.prog X.w) X.A X.xe none (EP X pins σ Q) (.ref D) s3.heap.objs.size
  show codeAny _ _ (.compStart (.SetComp elt (twoFor tg iter tg1 iter1) scope pos) 0 (.ref it) (.ref D) (compEnvC scope (cellsFrom (s3.heap.objs.size + 1) scope.names (cloFrom X.env.cells scope.names [])) s3.heap.objs.size X.env)) Post { s3 with heap := pushCells (s3.heap.push { cls := .type "dict", data := .dict #[] }) scope.names }
  have nfp : ∀ b ∈ fp, (upd H2 D (SetSO X.w D [])) b = none := fun b hb => (f3 b hb).1.1
  generalize hce : compEnvC scope (cellsFrom (s3.heap.objs.size + 1) scope.names (cloFrom X.env.cells scope.names [])) s3.heap.objs.size X.env = ce at I4 pg pe pi1 pg1 ⊢
  have cL : ce.locals = s3.heap.objs.size := by subst hce; rfl
  generalize hH3 : upd H2 D (SetSO X.w D []) = H3 at I3 I4 pg pe pi1 pg1 w0 nfp f3
  generalize hs4 : ({ s3 with heap := pushCells (s3.heap.push { cls := .type "dict", data := .dict #[] }) scope.names } : Shared) = s4 at I4 ⊢
  have st4 : tn 0 s4.heap := T.keep _ _ _ st3 fun b _ o e => by rw [← hs4]; exact pushCells_keeps _ _ _ _ (Heap.get?_push_of_some _ e)
  have stat : ∀ {σ' : L2.St} {H' : Hp} {s' : Shared}, Inv (X.blk s3 H3 scope ce fp) [] σ' H' s' → (∀ b ∈ fp, H' b = none) → ∀ b ∈ fp, FpOk (X.blk s3 H3 scope ce fp) [] H' b := fun {σ' H' s'} I' hn b hb =>
    ⟨hn b hb, (I'.ok.exf b hb).1, I'.ok.exfs b hb, .inl hb, fun x c e => (I'.ok.exf b hb).2 x c e, fun p hp => absurd (show p ∈ ([] : List (Addr × Obj)) ++ [] from hp) (by simp)⟩
  let σw := wipe σ (own.map (·.2))
  let Inv0 : Nat → Shared → Prop := fun n s' => ∃ i H', Inv (X.blk s3 H3 scope ce fp) [] σw H' s' ∧ tn i s'.heap ∧ (∀ b ∈ fp, H' b = none) ∧ W i n H'
  have loop : codeAny (model X.prog X.w) X.A (.compLoop (.SetComp elt (twoFor tg iter tg1 iter1) scope pos) 0 (.ref it) (.ref D) ce) Post s4 := by
    refine sc_loop0 (hs1 ce) Inv0 ?_ m0 ⟨0, H3, I4, st4, nfp, w0⟩
    rintro n s5 ⟨i, H5, I5, st5, n5, w5⟩
    rcases turn i n H5 w5 with ⟨stop, qq⟩ | ⟨go, Nx, hNx, step⟩
    · refine thnF (T.done (X.blk s3 H3 scope ce fp) rfl rfl rfl hc i [] s5 _ H5 (fun _ _ => False) I5 (stat I5 n5) st5 stop) fun r s6 ⟨hr, I6⟩ => ?_
      subst hr
      have I7 : Inv X pins σ H5 s6 := I3.call' (ch := fp) I6.os I6.base I6.hok I6.bare fun b hb => ⟨(f3 b hb).1.2.2.2.1, (f3 b hb).1.2.1, (f3 b hb).1.2.2.2.2.1, (f3 b hb).1.2.2.2.2.2⟩
      have nC : H5 s3.heap.objs.size = none := by
        have z : H5 ce.locals = none := I6.free
        rw [cL] at z
        exact z
      obtain ⟨m, hn, _⟩ := I6.loc
      have hn : s6.heap.Ns ce.locals m := hn
      rw [cL] at hn
      obtain ⟨f0, f1, f2, f3, f4, f5⟩ := I3.fpOk (Nat.le_refl _) nC
      exact ⟨m, hn, fun h'' sb => ⟨.ref D, H5, I7.turned (t' := s6.toks) (fun b o hb e => (sb.2 b hb).trans e) f0 f1 f3 f4 f5, rfl, qq⟩⟩
    · refine thnF (T.item (X.blk s3 H3 scope ce fp) rfl rfl rfl hc i [] s5 _ H5 (fun _ _ => False) I5 (stat I5 n5) st5 go) fun r s6 ⟨u, hr, h6⟩ => ?_
      subst hr
      refine thnF h6 fun _ s7 ⟨x, H7, I7, r7, y7, st7, n7⟩ => ?_
      have I7' := I7.pinned (stat I7 n7) (T.obj _ _ st7)
      refine thnF (pg.run _ s7 _ H7 x u _ I7' r7 (step x H7 y7)) fun _ s8 ⟨σ8, H8, I8, hw8, q8⟩ => ?_
      have back : ∀ {σ9 : L2.St} {s' : Shared} {H' : Hp}, Inv (X.blk s3 H3 scope ce fp) ([] ++ pinsAt fp s7.heap) σ9 H' s' → σw.length = σ9.length → (∀ (j : Nat) v, σw[j]? = some (some v) → σ9[j]? = some (some v)) → Nx H' → ∃ m, m < n ∧ Inv0 m s' := fun {σ9 s' H'} I' hl hk nx => by
        obtain ⟨m', hm, w'⟩ := hNx H' nx
        have pin' : ∀ b ∈ fp, ∀ o, s7.heap.get? b = some o → s'.heap.get? b = some o ∧ H' b = none := fun b hb o e =>
          let z := I'.pin (b, o) (List.mem_append_right _ (List.mem_append_right _ (mem_pinsAt hb e)))
          ⟨z.1, z.2.1⟩
        refine ⟨m', hm, i + 1, H', (I'.unpinned (pins := [])).weak hl hk, T.keep _ _ _ st7 fun b hb o e => (pin' b hb o e).1, fun b hb => ?_, w'⟩
        obtain ⟨o, e, _⟩ := T.obj _ _ st7 b hb
        exact (pin' b hb o e).2
      have hl8 : σw.length = σ8.length := by rw [← wipe_length σ8 (own.map (·.2)), hw8]
      have hk8 : ∀ (j : Nat) v, σw[j]? = some (some v) → (wipe σ8 vs1)[j]? = some (some v) := fun j v e => by
        have e : (wipe σ (own.map (·.2)))[j]? = some (some v) := e
        rw [← hw8] at e
        obtain ⟨e1, e2⟩ := wipe_some e
        rw [wipe_out fun z => e2 (hv j z)]
        exact e1
      refine thnF (pi1.run _ s8 σ8 H8 _ I8 q8) fun xv s10 hx => thnF hx fun itv s11 h11 => ?_
      obtain ⟨it1, fp1, tn1, J1, H11, e1, I11, T1, st11, f11, W1, ⟨m1, w1⟩, turn1⟩ := h11
      subst e1
      have stat1 : ∀ {H' : Hp}, (∀ b ∈ fp1, H' b = none) → ∀ b ∈ fp1, FpOk (X.blk s3 H3 scope ce fp) ([] ++ pinsAt fp s7.heap) H' b := fun hn b hb => ⟨hn b hb, (f11 b hb).2⟩
      let Inv1 : Nat → Shared → Prop := fun k s' => ∃ j H', Inv (X.blk s3 H3 scope ce fp) ([] ++ pinsAt fp s7.heap) (wipe σ8 vs1) H' s' ∧ tn1 j s'.heap ∧ (∀ b ∈ fp1, H' b = none) ∧ W1 j k H'
      have loop1 : codeAny (model X.prog X.w) X.A (.compLoop (.SetComp elt (twoFor tg iter tg1 iter1) scope pos) 1 (.ref it1) (.ref D) ce) (fun r s' => match r with
          | .ok _ => ∃ m, m < n ∧ Inv0 m s'
          | .error _ => False) s11 := by
        refine sc_loop1 Inv1 ?_ m1 ⟨0, H11, I11.weak (wipe_length _ _) (fun j v e => (wipe_some e).1), st11, fun b hb => (f11 b hb).1, w1⟩
        rintro k s12 ⟨j, H12, I12, st12, n12, w12⟩
        rcases turn1 j k H12 w12 with ⟨stop1, nx1⟩ | ⟨go1, Nx1, hNx1, step1⟩
        · refine thnF (T1.done (X.blk s3 H3 scope ce fp) rfl rfl rfl hc j _ s12 (wipe σ8 vs1) H12 (fun _ _ => False) I12 (stat1 n12) st12 stop1) fun r s13 ⟨hr, I13⟩ => ?_
          subst hr
          exact back I13 (hl8.trans (wipe_length σ8 vs1).symm) hk8 nx1
        · refine thnF (T1.item (X.blk s3 H3 scope ce fp) rfl rfl rfl hc j _ s12 (wipe σ8 vs1) H12 (fun _ _ => False) I12 (stat1 n12) st12 go1) fun r s13 ⟨u1, hr, h13⟩ => ?_
          subst hr
          refine thnF h13 fun _ s14 ⟨x1, H14, I14, r14, y14, st14, n14⟩ => ?_
          have I14' := I14.pinned (stat1 n14) (T1.obj _ _ st14)
          refine thnF (pg1.run _ s14 (wipe σ8 vs1) H14 x1 u1 _ I14' r14 (step1 x1 H14 y14)) fun _ s15 ⟨σ15, H15, I15, hw15, q15⟩ => ?_
          refine thnF (pe.run _ s15 σ15 H15 _ I15 q15) fun z s17 ⟨yv, H17, I17, r17, zt, L, ey, hD17, hz17, nx⟩ => ?_
          subst ey
          obtain ⟨tk, rfl⟩ := r17
          refine addSO (X := X.blk s3 H3 scope ce fp) I17 hD17 hz17 fun s18 I18 => ?_
          obtain ⟨m', hm, w'⟩ := hNx1 _ nx
          have pin' : ∀ b ∈ fp1, ∀ o, s14.heap.get? b = some o → s18.heap.get? b = some o ∧ (upd H17 D (SetSO X.w D (insS zt L))) b = none := fun b hb o e =>
            let z := I18.pin (b, o) (List.mem_append_right _ (List.mem_append_right _ (mem_pinsAt hb e)))
            ⟨z.1, z.2.1⟩
          refine ⟨m', hm, j + 1, _, I18.unpinned.weak (by rw [← wipe_length σ15 vs1, hw15]) (fun j v e => by rw [← hw15] at e; exact (wipe_some e).1), T1.keep _ _ _ st14 fun b hb o e => (pin' b hb o e).1, fun b hb => ?_, w'⟩
          obtain ⟨o, e, _⟩ := T1.obj _ _ st14 b hb
          exact (pin' b hb o e).2
      exact sc_start1 loop1 (T1.self X.A 0 _ _ _ st11 loop1)
  exact PpSet.codeAny_compStart_set loop (T.self X.A 0 _ _ _ st4 loop)
end
end Dr

set_option maxHeartbeats 4000000
/-! What all walks share. -/
namespace Dr
open PySem PySem.Spec PyProof.Rows L2

def topS (i : Nat) : Stmt := PySem.Challenge.pw_deedranks_k43_whole_greatest_plans.main.body.getD i (.Pass ⟨0, 0, 0, 0⟩)

/-- a def that may be called by its name, its last parameters at their defaults -/
structure FnD (P : Program) (w : World) (K : PySem.W.Frag) (mg : Str → Option Value) (base : Heap) (k : Nat) (x : Str) (ps : List Str) (dvs : List V) (sp : Sp) where
  f : Addr
  fd : FuncData
  ds : List Value
  m : mg x = some (.ref f)
  kp : PySem.W.keepIn K (.ref f) = true
  b : Binds K fd ps ds
  v : Vals dvs ds
  G : FnOk P w K mg base CX0 k f fd ps sp
abbrev Fn (P : Program) (w : World) (K : PySem.W.Frag) (mg : Str → Option Value) (base : Heap) (k : Nat) (x : Str) (ps : List Str) (sp : Sp) := FnD P w K mg base k x ps [] sp
/-- what the walks want of the names of the module -/
structure Tx (K : PySem.W.Frag) (mg : Str → Option Value) : Prop where
  isinstance_ : mg "isinstance" = none
  int_ : mg "int" = none
  bool_ : mg "bool" = none
  str_ : mg "str" = none
  list_ : mg "list" = none
  tuple_ : mg "tuple" = none
  dict_ : mg "dict" = none
  set_ : mg "set" = none
  len_ : mg "len" = none
  all_ : mg "all" = none
  sum_ : mg "sum" = none
  min_ : mg "min" = none
  abs_ : mg "abs" = none
  range_ : mg "range" = none
  enumerate_ : mg "enumerate" = none
  zip_ : mg "zip" = none
  sorted_ : mg "sorted" = none
  LETTERS_ : ∃ t, mg "LETTERS" = some (.str "abcdefghijklmnopqrstuvwxyz" t)
  MOST_LETTERS_ : ∃ t, mg "MOST_LETTERS" = some (.int 6 t)
  MOST_PARCELS_ : ∃ t, mg "MOST_PARCELS" = some (.int 12 t)
  MOST_DEMANDS_ : ∃ t, mg "MOST_DEMANDS" = some (.int 24 t)

/-! ### names, lots, demands -/
abbrev abc : Str := "abcdefghijklmnopqrstuvwxyz"
structure NameOk (z : Str) : Prop where
  lo : 1 ≤ z.length
  hi : z.length ≤ 6
  abc : ∀ c ∈ z.cps.toList, c ∈ Dr.abc.cps.toList
structure LotOk (l : List Str) : Prop where
  lo : 1 ≤ l.length
  hi : l.length ≤ 12
  nm : ∀ z ∈ l, NameOk z
  up : ∀ i, i + 1 < l.length → slt (l.getD i "") (l.getD (i + 1) "") = true
abbrev Dem := Str × Int × List Str
/-- a demand stands at t -/
def DemAt (H : Hp) (t : Addr) (d : Dem) : Prop := ∃ q, H t = some (.tup [.str d.1, .int d.2.1, .ref q]) ∧ H q = some (.tup (d.2.2.map V.str))
structure DemOk (d : Dem) : Prop where
  nm : NameOk d.1
  am : 1 ≤ d.2.1
  lt : LotOk d.2.2
theorem DemAt.same {H H' : Hp} {t : Addr} {d : Dem} (h : DemAt H t d) (s : Same H H') : DemAt H' t d := by
  obtain ⟨q, h1, h2⟩ := h
  exact ⟨q, s _ _ h1, s _ _ h2⟩
abbrev DemsAt (H : Hp) (ts : List Addr) (D : List Dem) : Prop := Paired (fun t d => DemAt H t d) ts D
theorem Paired.at {α β : Type} {F : α → β → Prop} : ∀ {l : List α} {m : List β} {i : Nat} {a : α}, Paired F l m → l[i]? = some a → ∃ b, m[i]? = some b ∧ F a b
  | _, _, _, _, .nil, e => by simp at e
  | _, _, 0, _, .cons r _, e => by
    cases (show some _ = some _ from e)
    exact ⟨_, rfl, r⟩
  | _, _, i + 1, _, .cons _ t, e => by
    rw [List.getElem?_cons_succ] at e ⊢
    exact Paired.at t e
theorem DemsAt.same {H H' : Hp} {ts : List Addr} {D : List Dem} (h : DemsAt H ts D) (s : Same H H') : DemsAt H' ts D := Paired.mapP h fun _ _ x => x.same s
/-- prices: a dict of texts and ints -/
def prK (pr : List (Str × Int)) : List (Key × V) := pr.map fun e => (Sum.inr e.1, V.int e.2)
theorem valV_prK (z : Str) : ∀ pr : List (Str × Int), valV (prK pr) (Sum.inr z) = (pr.lookup z).map V.int
  | [] => rfl
  | (a, b) :: r => by
    by_cases e : a = z
    · subst e
      rw [show prK ((a, b) :: r) = (Sum.inr a, V.int b) :: prK r from rfl, valV_pos rfl]
      simp
    · rw [show prK ((a, b) :: r) = (Sum.inr a, V.int b) :: prK r from rfl, valV_neg (by
        intro q
        exact e (Sum.inr.inj q)), valV_prK z r, List.lookup_cons, beq_eq_false_iff_ne.mpr (fun q => e q.symm)]
def lkP (pr : List (Str × Int)) (z : Str) : Int := (pr.lookup z).getD 0
theorem same_lock {H H' : Hp} {d : Addr} {u x : HO} (h : H d = some u) (s : Same (upd H d x) H') : Same H (upd H' d u) := fun b o e => by
  by_cases q : b = d
  · subst q
    rw [h] at e
    cases e
    exact upd_same
  · rw [upd_ne q]
    exact s _ _ (by rw [upd_ne q]; exact e)
/-- a list or a tuple -/
def seqO (b : Bool) (xs : List V) : HO := match b with
  | true => .tup xs
  | false => .lst xs
theorem same_upd {H : Hp} {p : Addr} {o : HO} (h : H p = none) : Same H (upd H p o) := fun b o' e => by
  rw [upd_ne (ne_of_none e h)]
  exact e
theorem same_new {H H' : Hp} {p : Addr} {o : HO} (S : Same H H') (h : H p = none) : Same H (upd H' p o) := fun b o' e => by
  rw [upd_ne (ne_of_none e h)]
  exact S _ _ e
theorem take_snoc {α : Type} {l : List α} {i : Nat} {x : α} (h : l[i]? = some x) : l.take (i + 1) = l.take i ++ [x] := by
  rw [List.take_add_one, h]
  rfl
theorem get_map {α : Type} {f : α → V} {xs : List α} {i : Nat} {v : V} (h : (xs.map f)[i]? = some v) : ∃ x, xs[i]? = some x ∧ v = f x := by
  rw [List.getElem?_map] at h
  cases e : xs[i]? with
  | none =>
    rw [e] at h
    cases h
  | some x =>
    rw [e] at h
    exact ⟨x, rfl, (Option.some.inj h).symm⟩
def rLenS (K : PySem.W.Frag) : List V → Hp → VK → Prop := fun xs H Q => ∃ p ys, xs = [.ref p] ∧ (SqL K H p ys ∨ SqT K H p ys) ∧ Q (.int ys.length) H
def rTupOf (K : PySem.W.Frag) : List V → Hp → VK → Prop := fun xs H Q => ∃ p ys, xs = [.ref p] ∧ ((SqL K H p ys ∧ ∀ l, H l = none → Q (.ref l) (upd H l (.tup ys))) ∨ (SqT K H p ys ∧ Q (.ref p) H))
def rListOf (K : PySem.W.Frag) : List V → Hp → VK → Prop := fun xs H Q => ∃ p ys, xs = [.ref p] ∧ (SqL K H p ys ∨ SqT K H p ys) ∧ ∀ l, H l = none → Q (.ref l) (upd H l (.lst ys))
def rDictP (K : PySem.W.Frag) : List V → Hp → VK → Prop := fun xs H Q => ∃ (a : Addr) (ps : List Addr) (kvs : List (Key × V)), xs = [.ref a] ∧ SqL K H a (ps.map V.ref) ∧ Paired (fun p kv => SqT K H p [kV kv.1, kv.2]) ps kvs ∧ ∀ p, H p = none → Q (.ref p) (upd H p (.dK (mergeK [] kvs)))
/-- a sequence, list or tuple, walked -/
def iSeq (te : TE) : TI := fun σ H R => te σ H fun x H1 => ∃ a b xs, x = .ref a ∧ H1 a = some (seqO b xs) ∧ ∀ J, Walk J xs.length (fun H => H a = some (seqO b xs)) (YAt xs) → R J H1
section
variable {X : Cx}
theorem PI.imp {tg e : Expr} {w w' : TI} (h : PI X tg e w) (k : ∀ σ H R, w' σ H R → w σ H R) : PI X tg e w' := ⟨fun pins s σ H R I q => h.run pins s σ H R I (k σ H R q)⟩
end
end Dr

set_option maxHeartbeats 4000000
/-! Defs with defaults in the form of the other defs; a call by keywords alone. -/
namespace Dr
open PySem PySem.Spec PyProof.Rows L2
abbrev FunK (K : PySem.W.Frag) (x qual : Str) (st : Stmt) (dvs : List V) (kws : List (Str × V)) (f : Addr) (fd : FuncData) : Prop := FunD K x qual (defArgs st) (defBody st) (defScope st) dvs kws f fd
section
variable {P : Program} {w : World} {K : PySem.W.Frag} {mg : Str → Option Value} {base : Heap}
theorem okD {x qual : Str} {st : Stmt} {dvs : List V} {kws : List (Str × V)} {f : Addr} {fd : FuncData} {N ps : List Str} {k : Nat} {sp : Sp} (F : FunK K x qual st dvs kws f fd) (S : FnScope N ps (defScope st)) (len : ∀ vs H Q E, sp vs H Q E → vs.length = ps.length)
    (hbody : ∀ (cdv : Value) (A : Around) (outer : List Env) (s : Shared) (H : Hp) (vs : List V) (Q : VK) (E : XK), Room k (A.deeper (envOfC qual (defScope st) s.heap.objs.size f cdv)) → sp vs H Q E →
      ∃ t, PSs (cxOf CX0 P w K mg base N qual (defScope st) f cdv A outer s H E).nox (defBody st) t ∧ t { nx := fun _ H' => Q .non H', rt := Q } (start N vs) H) : FnOk P w K mg base CX0 (k + 1) f fd ps sp := by
  obtain ⟨oc, od, dV, kV, doc, pm, an, cdv, ct, osl, rfl, lk, hcd, _, _⟩ := F.ex
  refine fn_of lk hcd S len fun A outer s H vs Q E hr hsp => ?_
  obtain ⟨t, h, q⟩ := hbody cdv A outer s H vs Q E hr hsp
  exact ⟨t, h.nox, q⟩
end
section
variable {X : Cx} {CX : CXT} {k n : Nat} {f : Addr} {fd : FuncData} {ps ks : List Str} {sp : Sp} {E : XK} {x : Str} {p pos : Pos} {kws : List Keyword} {t tk : TA} {g : List Value → List Value → List Value} {gV : List V → List V → List V}
/-- f(k = v, ..) -/
theorem pe_callN0 (F : FnOk X.prog X.w X.K X.mg X.base CX k f fd ps sp) (hr : Room k X.A) (hg : Gl X x) (hm : X.mg x = some (.ref f)) (hk : PySem.W.keepIn X.K (.ref f) = true) (hb : KBn X.K fd ps 0 ks g gV) (hx : Passes CX X E)
    (hkw : PK X kws tk) (hall : (backToKw pos (keywordEach kws X.env)).all (·.1.isSome) = true := by rfl) (hks : (backToKw pos (keywordEach kws X.env)).filterMap (·.1) = ks := by rfl)
    (hdb : (x == ("__debug__" : Str)) = false := by decide)
    (hpl : ((backTo pos (starEach [] X.env)).any (·.1) || (backToKw pos (keywordEach kws X.env)).any (·.1.isNone)) = false := by rfl) :
    PE X (.Call (.Name x p) [] kws pos) (tCallN 0 ks.length sp gV E tNil tk) := by
  refine ⟨fun pins s σ H Q I h => ?_⟩
  refine wpAny_Call_Name_kw (ld_glob I hg hm ?_ hdb)
  refine PySem.W.callWith_KW0 (h₀ := X.base) I.ok.mod.kin hk hall ?_ hpl
  refine thn (hkw.run pos pins s σ H _ I h) fun ws s2 ⟨zs, H2, I2, rz, l1, l2, q2⟩ => ⟨I2.kIn, ?_⟩
  rw [hks]
  exact run_fnN (us := []) (vs := []) F hr hb hx I2 .nil rz rfl l2 q2
end
end Dr

set_option maxHeartbeats 4000000
/-! A list or a tuple walked; enumerate of either. -/
namespace Dr
open PySem PySem.Spec PyProof.Rows L2
open AutoSeq1 (wpAny_loadPart')

theorem meets_enumT (l : Addr) (items : Array Value) :
    Meets (Builtin.«enumerate.__new__» ⟨[.type "enumerate", .ref l], []⟩) (fun _ R s => s.heap.IsTuple l items ∧
      R (.ok (.ret (.ref (s.heap.push { cls := .type "tuple_iterator", data := .fields #[.ref l, .int 0 0] }).objs.size)))
        { s with heap := (s.heap.push { cls := .type "tuple_iterator", data := .fields #[.ref l, .int 0 0] }).push { cls := .type "enumerate", data := .fields #[.none, .bool false, .ref s.heap.objs.size, rawInt 0, .none, .none] } }) :=
  .of_wp fun prog w A R s h => by
    obtain ⟨hp, g, d, tk, os⟩ := s; obtain ⟨hT, h⟩ := h
    have hsub := sub_enumerate
    have hL : Heap.IsTuple (Shared.heap ⟨hp, g, d, tk, os⟩) l items := hT
    wp_walk
    refine wpAny_stack_any fun st => wpAny_pure ?_
    split
    · rename_i c _ _ _ _ _
      cases (c == Value.type "enumerate")
      · wp_walk using wpAny_pyIter_tuple hL
        exact ⟨_, rfl, h⟩
      · wp_walk using wpAny_pyIter_tuple hL
        exact ⟨_, rfl, h⟩
    · wp_walk using wpAny_pyIter_tuple hL
      exact ⟨_, rfl, h⟩
theorem call_enumT {prog : Program} {w : World} {A : Around} {E : Value → Shared → Prop} {s : Shared} {l : Addr} {items : Array Value} {Q : Value → Shared → Prop} (hL : s.heap.IsTuple l items)
    (h : ∀ h', IsEnum h' (s.heap.objs.size + 1) s.heap.objs.size 0 .none → h'.IsTupleIter s.heap.objs.size l 0 → h'.objs.size = s.heap.objs.size + 2 →
      (∀ b o, s.heap.get? b = some o → h'.get? b = some o) → Q (.ref (s.heap.objs.size + 1)) { s with heap := h' }) :
    wpAny (model prog w) A (call (.type "enumerate") [.ref l]) Q E s := by
  refine callType_new F.called_enumerate (by decide) (F.typeCall_enumerate_1 _) (F.newCall_enumerate_1 _) (fun obj => F.args_object_init_2 obj _) F.entry_enumerate_new
    (meets_enumT l items) ⟨hL, ?_⟩
  have hz : (s.heap.push { cls := .type "tuple_iterator", data := .fields #[.ref l, .int 0 0] }).objs.size = s.heap.objs.size + 1 := Heap.size_push ..
  show _ ∧ _
  rw [hz]
  have he : IsEnum ((s.heap.push { cls := .type "tuple_iterator", data := .fields #[.ref l, .int 0 0] }).push
      { cls := .type "enumerate", data := .fields #[.none, .bool false, .ref s.heap.objs.size, rawInt 0, .none, .none] }) (s.heap.objs.size + 1) s.heap.objs.size 0 .none := by
    have := Heap.get?_push_size (s.heap.push { cls := .type "tuple_iterator", data := .fields #[.ref l, .int 0 0] })
      (o := { cls := .type "enumerate", data := .fields #[.none, .bool false, .ref s.heap.objs.size, rawInt 0, .none, .none] }) rfl
    rw [hz] at this; exact this
  exact ⟨⟨_, he, rfl⟩, h _ he ⟨_, Heap.get?_push_of_some _ (Heap.get?_push_size _ rfl), rfl, rfl⟩ (by rw [Heap.size_push, hz]) fun b o x => Heap.get?_push_of_some _ (Heap.get?_push_of_some _ x)⟩

/-- the tuple at a as it stands at each turn, the items in new pairs -/
def IteT (K : PySem.W.Frag) (a : Addr) : It :=
  ⟨fun i H => ∃ (xs : List V) (x : V), SqT K H a xs ∧ xs[i]? = some x,
    fun i H v H' => ∃ T x, v = .ref T ∧ H T = none ∧ H' = upd H T (.tup [.int (i : Nat), x]) ∧ ∀ xs, SqT K H a xs → xs[i]? = some x,
    fun i H => ∃ xs : List V, SqT K H a xs ∧ i = xs.length⟩
theorem turn_enumT {P : Program} {w : World} {K : PySem.W.Frag} {elts : List Expr} {kk : Nat} {tpos : Pos} (a e it : Addr) (hne2 : a ≠ it) (hae : a ≠ e) (items : Array Value) :
    Turn P w K (.Tuple elts kk tpos) (IteT K a) [e, it] e (fun i h => (∃ old, IsEnum h e it ((i : Nat) : Int) old) ∧ h.IsTupleIter it a i ∧ e ≠ it) where
  mem := by simp
  obj := fun i h st b hb => by
    obtain ⟨⟨old, he⟩, ⟨o, ho, hc, hd⟩, _⟩ := st
    have e' : b = e ∨ b = it := by simpa using hb
    rcases e' with z | z
    · rw [z]; exact ⟨_, he, fun v q => nomatch q⟩
    · rw [z]; exact ⟨o, ho, fun v q => by rw [hd] at q; cases q⟩
  keep := fun i h h' st k => let ⟨⟨old, he⟩, hi, hne⟩ := st; ⟨⟨old, k e (by simp) _ he⟩, hi.at fun o q => k it (by simp) o q, hne⟩
  item := by
    intro X hP hw hK hc i pins s σ H E I hf st hg
    subst hP hw hK
    obtain ⟨⟨old, he⟩, hit, hne⟩ := st
    obtain ⟨xs, x, hq, hx⟩ := hg
    obtain ⟨its, rv, p, hz⟩ := I.tuple hq
    have pT : s.heap.IsTuple a its.toArray := p
    obtain ⟨u, hu, ru⟩ := rv.get hx
    have hel : e < s.heap.objs.size := Heap.lt_size he
    have hil : it < s.heap.objs.size := by obtain ⟨_, q, _⟩ := hit; exact Heap.lt_size q
    have hi' : i < its.toArray.size := by
      have := (List.getElem?_eq_some_iff.mp hu).1
      simpa using this
    refine wpAny_pyNext_enum_itemD (Draws.tuple (A := X.A.in1) (show X.A.in1.handled = none from I.ok.hd hc) it a hne2 its.toArray) he ⟨hit, pT⟩ hi' hne (by simp [hne, Ne.symm hae]) fun y h' tk hy ho hit' hT hsz hk => ?_
    have ey : y = u := by
      have : its.toArray[i]? = some u := by simpa using hu
      rw [this] at hy
      exact (Option.some.inj hy).symm
    subst ey
    refine ⟨_, rfl, wpAny_letOwnedTupleGo_enum (s := { s with heap := h', toks := tk + 1 }) ho fun h'' he' sb => ?_⟩
    have hT2 : h''.get? s.heap.objs.size = some { cls := .type "tuple", data := .seq #[.int i tk, y] } := (sb.2 _ (Nat.ne_of_gt hel)).trans hT
    have new : ObjOk X.prog X.w (upd H s.heap.objs.size (.tup [.int (i : Nat), x])) h'' s.heap.objs.size (.tup [.int (i : Nat), x]) :=
      ⟨by show 2 ≤ sizeLine; decide, [.int i tk, y], .cons ⟨_, rfl⟩ (.cons ru .nil), ⟨_, hT2, rfl, _, rfl⟩⟩
    have I1 : Inv X pins σ (upd H s.heap.objs.size (.tup [.int (i : Nat), x])) { s with heap := h'', toks := tk + 1 } :=
      I.turnedNew (ch := [e, it]) (fun b ob hb q => (sb.2 b (fun z => hb (by simp [z]))).trans (hk b ob (fun z => hb (by simp [z])) (fun z => hb (by simp [z])) q)) hf (Nat.le_refl _) new
    refine ⟨.ref s.heap.objs.size, _, I1, rfl, ⟨_, x, rfl, I.hok.fresh (Nat.le_refl _), rfl, fun ys hy => by rw [I.tuple_inj hy hq]; exact hx⟩, ⟨⟨y, ?_⟩, hit'.1.at fun o q => (sb.2 it (Ne.symm hne)).trans q, hne⟩, fun b hb => ?_⟩
    · have e1 : ((i + 1 : Nat) : Int) = (i : Int) + 1 := by omega
      rw [e1]; exact he'
    · have hb' : b < s.heap.objs.size := by
        have e' : b = e ∨ b = it := by simpa using hb
        rcases e' with z | z
        · rw [z]; exact hel
        · rw [z]; exact hil
      rw [upd_ne (Nat.ne_of_lt hb')]
      exact (hf b hb).1
  done := by
    intro X hP hw hK hc i pins s σ H E I hf st hg
    subst hP hw hK
    obtain ⟨⟨old, he⟩, hit, hne⟩ := st
    obtain ⟨xs, hq, hx⟩ := hg
    obtain ⟨its, rv, p, hz⟩ := I.tuple hq
    have pT : s.heap.IsTuple a its.toArray := p
    obtain ⟨f0, f1, f2, f3, f4, f5⟩ := hf it (by simp)
    have hl := rv.length
    have ei : i = its.toArray.size := by
      rw [hx, hl]
      simp
    exact wpAny_pyNext_enum_endD (Draws.tuple (A := X.A.in1) (show X.A.in1.handled = none from I.ok.hd hc) it a hne2 its.toArray) he (ei ▸ ⟨hit, pT⟩) fun h' eb => ⟨rfl, I.turned (t' := s.toks) (fun b o hb q => eb b o hb q) f0 f1 f3 f4 f5⟩
  self := fun A i s Q E st h => let ⟨⟨_, he⟩, _⟩ := st; wpAny_pyIter_enum he h
theorem walk_enumT {K : PySem.W.Frag} {a : Addr} {xs : List V} : Walk (IteT K a) xs.length (fun H => SqT K H a xs) (YPair (fun i => some (.int (i : Nat))) (fun i => xs[i]?)) := by
  refine ⟨fun i _ hi q => ⟨xs, xs[i], q, by simp [hi]⟩, fun _ q => ⟨xs, q, rfl⟩, fun i H v H' _ q y => ?_⟩
  obtain ⟨T, x, h1, h2, h3, h4⟩ := y
  exact ⟨T, .int (i : Nat), x, h1, h2, h3, rfl, h4 xs q⟩
/-- enumerate of a list or a tuple -/
def iEnumS (ta : TA) : TI := fun σ H R => ta σ H fun vs H1 => ∃ a b xs, vs = [.ref a] ∧ H1 a = some (seqO b xs) ∧ ∀ J, Walk J xs.length (fun H => H a = some (seqO b xs)) (YPair (fun i => some (.int (i : Nat))) (fun i => xs[i]?)) → R J H1
theorem seqL {K : PySem.W.Frag} {H : Hp} {a : Addr} {xs : List V} (h : H a = some (seqO false xs)) : SqL K H a xs := SqL.of h
theorem seqT {K : PySem.W.Frag} {H : Hp} {a : Addr} {xs : List V} (h : H a = some (seqO true xs)) : SqT K H a xs := SqT.of h
section
variable {X : Cx} {tg : Expr}
theorem pi_seq {l : Expr} {tl : TE} (hl : PE X l tl) : PI X tg l (iSeq tl) := by
  refine ⟨fun pins s σ H R I h => ?_⟩
  refine thn (hl.run pins s σ H _ I h) fun v s1 ⟨x, H1, I1, r1, q1⟩ => ?_
  obtain ⟨a, b, xs, e, hq, q⟩ := q1
  subst e
  cases r1
  cases b with
  | false =>
    obtain ⟨its, rv, p, hz⟩ := I1.list (seqL hq)
    refine wpAny_pyIter_list p.isList ?_
    refine ⟨s1.heap.objs.size, [s1.heap.objs.size], _, _, H1, rfl, I1.kept (t' := s1.toks) fun b o e => Heap.get?_push_of_some _ e, turn_list a _, ⟨_, Heap.get?_push_size _ rfl, rfl, rfl⟩, fun b hb => ?_, q _ (walk_list.mono (fun _ h => seqL h) fun _ _ _ _ _ _ y => y)⟩
    have e : b = s1.heap.objs.size := by simpa using hb
    subst e
    exact I1.fpOk (Nat.le_refl _) (I1.hok.fresh (Nat.le_refl _))
  | true =>
    obtain ⟨its, rv, p, hz⟩ := I1.tuple (seqT hq)
    refine wpAny_pyIter_tuple (show s1.heap.IsTuple a its.toArray from p) ?_
    refine ⟨s1.heap.objs.size, [s1.heap.objs.size], _, _, H1, rfl, I1.kept (t' := s1.toks) fun b o e => Heap.get?_push_of_some _ e, turn_tuple a _, ⟨_, Heap.get?_push_size _ rfl, rfl, rfl⟩, fun b hb => ?_, q _ (walk_tup.mono (fun _ h => seqT h) fun _ _ _ _ _ _ y => y)⟩
    have e : b = s1.heap.objs.size := by simpa using hb
    subst e
    exact I1.fpOk (Nat.le_refl _) (I1.hok.fresh (Nat.le_refl _))
theorem pi_enumS {e : Expr} {ta : TA} {p pos tpos : Pos} {elts : List Expr} {kk : Nat} (hg : Gl X "enumerate") (hm : X.mg "enumerate" = none) (ha : PA X [e] ta) (hs : starEach [e] X.env = [(false, eval e X.env)] := by rfl) :
    PI X (.Tuple elts kk tpos) (.Call (.Name "enumerate" p) [e] [] pos) (iEnumS ta) := by
  refine ⟨fun pins s σ H R I h => ?_⟩
  refine Call_ (ld_blt I hg hm boot_enumerate (PyProof.Rows.callWith_type1 (thn (ha.run pos pins s σ H _ I h) fun us s1 ⟨vs, H1, I1, r1, q1⟩ => ?_) hs rfl))
  obtain ⟨a, b, xs, ex, hq, q⟩ := q1
  subst ex
  cases r1 with
  | cons r rr =>
    cases rr
    cases r
    cases b with
    | false =>
      obtain ⟨its, rv, p', hz⟩ := I1.list (seqL hq)
      refine call_enumerate_list p'.isList fun h' he hit hsz hk => wpAny_pyIter_enum he ?_
      have I2 : Inv X pins σ H1 { s1 with heap := h' } := I1.kept (t' := s1.toks) hk
      refine ⟨s1.heap.objs.size + 1, [s1.heap.objs.size + 1, s1.heap.objs.size], _, _, H1, rfl, I2, turn_enum a (s1.heap.objs.size + 1) s1.heap.objs.size, ⟨⟨.none, he⟩, hit, Nat.succ_ne_self _⟩, fun b hb => ?_, q _ (walk_enum.mono (fun _ h => seqL h) fun _ _ _ _ _ _ y => y)⟩
      have e' : b = s1.heap.objs.size + 1 ∨ b = s1.heap.objs.size := by simpa using hb
      have hle : s1.heap.objs.size ≤ b := by
        rcases e' with z | z
        · rw [z]; exact Nat.le_add_right _ _
        · rw [z]; exact Nat.le_refl _
      exact I1.fpOk hle (I1.hok.fresh hle)
    | true =>
      obtain ⟨its, rv, p', hz⟩ := I1.tuple (seqT hq)
      have pT : s1.heap.IsTuple a its.toArray := p'
      have hal : a < s1.heap.objs.size := by
        obtain ⟨o, h1, _⟩ := pT
        exact Heap.lt_size h1
      refine call_enumT pT fun h' he hit hsz hk => wpAny_pyIter_enum he ?_
      have I2 : Inv X pins σ H1 { s1 with heap := h' } := I1.kept (t' := s1.toks) hk
      refine ⟨s1.heap.objs.size + 1, [s1.heap.objs.size + 1, s1.heap.objs.size], _, _, H1, rfl, I2, turn_enumT a (s1.heap.objs.size + 1) s1.heap.objs.size (Nat.ne_of_lt hal) (Nat.ne_of_lt (Nat.lt_succ_of_lt hal)) its.toArray, ⟨⟨.none, he⟩, hit, Nat.succ_ne_self _⟩, fun b hb => ?_, q _ (walk_enumT.mono (fun _ h => seqT h) fun _ _ _ _ _ _ y => y)⟩
      have e' : b = s1.heap.objs.size + 1 ∨ b = s1.heap.objs.size := by simpa using hb
      have hle : s1.heap.objs.size ≤ b := by
        rcases e' with z | z
        · rw [z]; exact Nat.le_add_right _ _
        · rw [z]; exact Nat.le_refl _
      exact I1.fpOk hle (I1.hok.fresh hle)
end
end Dr

set_option maxHeartbeats 4000000
/-! The checks. -/
namespace Dr
open PySem PySem.Spec PyProof.Rows L2
section
variable {P : Program} {w : World} {K : PySem.W.Frag} {mg : Str → Option Value} {base : Heap}
theorem all_step {H H' : Hp} {D : Addr} {i : Nat} (S : Same H H') (hD : H D = none) (hL : H' D = some (.lst ((List.replicate i true).map V.bl))) :
    Same H (upd H' D (.lst ((List.replicate i true).map V.bl ++ [.bl true]))) ∧ upd H' D (.lst ((List.replicate i true).map V.bl ++ [.bl true])) D = some (.lst ((List.replicate (i + 1) true).map V.bl)) := by
  refine ⟨fun b o e => ?_, ?_⟩
  · rw [upd_ne (ne_of_none e hD)]
    exact S _ _ e
  · rw [upd_same, List.replicate_succ', List.map_append]
    rfl
theorem all_true (n : Nat) : (List.replicate n true).all id = true := by
  rw [List.all_eq_true]
  intro x hx
  exact (List.mem_replicate.mp hx).2
abbrev s_is_whole : Stmt := topS 10
theorem sc_is_whole : FnScope ["value"] ["value"] (defScope s_is_whole) := ⟨rfl, rfl, rfl, by decide +kernel, rfl, by decide +kernel, by decide +kernel⟩
def sp_whole : Sp := fun vs H Q _ => ∃ i, vs = [.int i] ∧ Q (.bl true) H
theorem ok_whole {f : Addr} {fd : FuncData} (F : Fun K "is_whole" "is_whole" s_is_whole f fd) (T : Tx K mg) : FnOk P w K mg base CX0 1 f fd ["value"] sp_whole := by
  refine F.ok sc_is_whole (fun vs H Q E h => ?_) (fun cdv A outer s H vs Q E hr h => ?_)
  · obtain ⟨i, rfl, _⟩ := h
    rfl
  · obtain ⟨i, rfl, k⟩ := h
    have hu := hu_of hr
    -- slots 0:value
    refine ⟨_, (pss_one (ps_ret (pe_and (pe_callB (call_isi : CallR _ _ (rIsi K)) (by rfl) T.isinstance_ (by decide +kernel) (pa_cons (pv 0) (pa_cons (pe_bltn (v := .ty "int") (by rfl) T.int_ (by decide +kernel) rfl) pa_nil))) (pe_one (pe_not (pe_callB (call_isi : CallR _ _ (rIsi K)) (by rfl) T.isinstance_ (by decide +kernel) (pa_cons (pv 0) (pa_cons (pe_bltn (v := .ty "bool") (by rfl) T.bool_ (by decide +kernel) rfl) pa_nil)))))))), ?_⟩
    refine ⟨_, rfl, _, _, _, _, true, rfl, .ty _, .base (.int _), kit_ty (by decide +kernel), _, rfl, ?_⟩
    refine iteT ⟨_, rfl, _, _, _, _, false, rfl, .ty _, .base (.int _), kit_ty (by decide +kernel), _, rfl, k⟩
abbrev s_is_name : Stmt := topS 11
theorem sc_is_name : FnScope ["value", "letter"] ["value"] (defScope s_is_name) := ⟨rfl, rfl, rfl, by decide +kernel, rfl, by decide +kernel, by decide +kernel⟩
def sp_name : Sp := fun vs H Q _ => ∃ z, vs = [.str z] ∧ NameOk z ∧ ∀ H', Same H H' → Q (.bl true) H'
theorem ok_name {f : Addr} {fd : FuncData} (F : Fun K "is_name" "is_name" s_is_name f fd) (T : Tx K mg) : FnOk P w K mg base CX0 1 f fd ["value"] sp_name := by
  obtain ⟨_, TLETTERS_⟩ := T.LETTERS_
  obtain ⟨_, TMOST_LETTERS_⟩ := T.MOST_LETTERS_
  refine F.ok sc_is_name (fun vs H Q E h => ?_) (fun cdv A outer s H vs Q E hr h => ?_)
  · obtain ⟨i, rfl, _⟩ := h
    rfl
  · obtain ⟨z, rfl, hz, k⟩ := h
    have hu := hu_of hr
    -- slots 0:value 1:letter
    refine ⟨_, (pss_cons (ps_if (PW.pt (pw_or (pt_not (pt_val (pe_callB (call_isi : CallR _ _ (rIsi K)) (by rfl) T.isinstance_ (by decide +kernel) (pa_cons (pv 0) (pa_cons (pe_bltn (v := .ty "str") (by rfl) T.str_ (by decide +kernel) rfl) pa_nil))))) (pw_or1 (pt_not (pt_chain op_le op_le (pe_int) (pe_callB call_len_str (by rfl) T.len_ PySem.boot_len (pa_cons (pv 0) pa_nil)) (pe_glob (v := .int 6) rfl TMOST_LETTERS_ ⟨_, rfl⟩))))))
      (pss_one (ps_ret (pe_bl))) pss_nil)
    (pss_one (ps_ret (pe_callB (cr_all rfl : CallR _ _ (rAll K)) (by rfl) T.all_ (by decide +kernel) (pa_cons (pe_lc (own := [("letter", 1)]) rfl sc_is_name.nd (pi_str (pv 0)) (blkOk_by (N := ["value", "letter"]) (sc := defScope s_is_name) (by decide +kernel)) (fun _ _ _ _ _ => (pg_name (i := 1) sc_is_name.nd rfl (Or.inl rfl))) (fun _ _ _ _ _ => pts_nil) (fun _ _ _ _ _ => pe_cmpR op_in_sign (pv 1) (pe_glob (v := .str abc) rfl TLETTERS_ ⟨_, rfl⟩) rfl)) pa_nil))))), ?_⟩
    refine ⟨_, rfl, _, _, _, _, true, rfl, .ty _, .base (.str _), kit_ty (by decide +kernel), _, rfl, ?_⟩
    refine iteF ?_
    have hsl : z.length ≤ sizeLine := Nat.le_trans hz.hi (by decide)
    refine ⟨_, rfl, _, rfl, hsl, _, _, rfl, rfl, _, rfl, ?_⟩
    rw [show decide ((1 : Int) ≤ (z.length : Nat)) = true from decide_eq_true (by have := hz.lo; omega)]
    refine iteT ⟨_, _, rfl, rfl, _, rfl, ?_⟩
    rw [show decide (((z.length : Nat) : Int) ≤ 6) = true from decide_eq_true (by have := hz.hi; omega)]
    refine iteF ?_
    refine ⟨_, rfl, _, rfl, fun D hD => ?_⟩
    refine lc_it walk_str (fun i H' => Same H H' ∧ H' D = some (.lst ((List.replicate i true).map V.bl))) ⟨same_upd hD, upd_same⟩ (fun _ _ _ _ => trivial) ?_ ?_
    · rintro i x H1 H2 hi ⟨S, hL⟩ ⟨rfl, c, hc, rfl⟩
      refine ⟨rfl, _, rfl, _, _, rfl, rfl, ?_⟩
      have hm : c ∈ z.cps.toList := by
        rw [← Array.mem_toList_iff.symm]
        exact Array.mem_of_getElem? hc
      rw [show decide (c ∈ abc.cps.toList) = true from decide_eq_true (hz.abc c hm)]
      refine ⟨_, hL, ?_, all_step S hD hL⟩
      have : i ≤ z.length := Nat.le_of_lt hi
      have := hz.hi
      simp only [List.length_map, List.length_replicate]
      exact Nat.lt_of_le_of_lt (show i ≤ 6 by omega) (by decide)
    · rintro H1 ⟨S, hL⟩
      refine ⟨_, _, rfl, SqL.of hL, ?_⟩
      rw [all_true]
      exact k _ S
abbrev s_is_lot : Stmt := topS 12
theorem sc_is_lot : FnScope ["value", "at", "name"] ["value"] (defScope s_is_lot) := ⟨rfl, rfl, rfl, by decide +kernel, rfl, by decide +kernel, by decide +kernel⟩
def sp_lot : Sp := fun vs H Q _ => ∃ q l, vs = [.ref q] ∧ H q = some (.tup (l.map V.str)) ∧ LotOk l ∧ ∀ H', Same H H' → Q (.bl true) H'
theorem ok_lot {f : Addr} {fd : FuncData} (F : Fun K "is_lot" "is_lot" s_is_lot f fd) (T : Tx K mg) (A_is_name : Fn P w K mg base 1 "is_name" ["value"] sp_name) : FnOk P w K mg base CX0 2 f fd ["value"] sp_lot := by
  obtain ⟨_, TMOST_PARCELS_⟩ := T.MOST_PARCELS_
  refine F.ok sc_is_lot (fun vs H Q E h => ?_) (fun cdv A outer s H vs Q E hr h => ?_)
  · obtain ⟨q, l, rfl, _⟩ := h
    rfl
  · obtain ⟨q, l, rfl, hq, hl, k⟩ := h
    have hu := hu_of hr
    -- slots 0:value 1:at 2:name
    refine ⟨_, (pss_cons (ps_if (PW.pt (pw_or (pt_not (pt_val (pe_callB (call_isi : CallR _ _ (rIsi K)) (by rfl) T.isinstance_ (by decide +kernel) (pa_cons (pv 0) (pa_cons (pe_bltn (v := .ty "tuple") (by rfl) T.tuple_ (by decide +kernel) rfl) pa_nil))))) (pw_or1 (pt_not (pt_chain op_le op_le (pe_int) (pe_callB (call_len_seq : CallR _ _ (rLenS K)) (by rfl) T.len_ PySem.boot_len (pa_cons (pv 0) pa_nil)) (pe_glob (v := .int 12) rfl TMOST_PARCELS_ ⟨_, rfl⟩))))))
      (pss_one (ps_ret (pe_bl))) pss_nil)
    (pss_cons (ps_if (pt_not (pt_val (pe_callB (cr_all rfl : CallR _ _ (rAll K)) (by rfl) T.all_ (by decide +kernel) (pa_cons (pe_lc (own := [("name", 2)]) rfl sc_is_lot.nd (pi_tup (pv 0) : PI _ _ _ (iTup K _)) (blkOk_by (N := ["value", "at", "name"]) (sc := defScope s_is_lot) (by decide +kernel)) (fun _ _ _ _ _ => (pg_name (i := 2) sc_is_lot.nd rfl (Or.inl rfl))) (fun _ _ _ _ _ => pts_nil) (fun _ _ _ _ _ => pe_call A_is_name.G (hr.mono (by decide)) (by rfl) A_is_name.m A_is_name.kp A_is_name.b A_is_name.v pass0 (pa_cons (pv 2) pa_nil))) pa_nil))))
      (pss_one (ps_ret (pe_bl))) pss_nil)
    (pss_one (ps_ret (pe_callB (cr_all rfl : CallR _ _ (rAll K)) (by rfl) T.all_ (by decide +kernel) (pa_cons (pe_lc (own := [("at", 1)]) rfl sc_is_lot.nd (pi_range2 (by rfl) T.range_ (pa_cons (pe_int) (pa_cons (pe_callB (call_len_seq : CallR _ _ (rLenS K)) (by rfl) T.len_ PySem.boot_len (pa_cons (pv 0) pa_nil)) pa_nil))) (blkOk_by (N := ["value", "at", "name"]) (sc := defScope s_is_lot) (by decide +kernel)) (fun _ _ _ _ _ => (pg_name (i := 1) sc_is_lot.nd rfl (Or.inl rfl))) (fun _ _ _ _ _ => pts_nil) (fun _ _ _ _ _ => pe_cmpR op_lt_str (pe_ix (ix_tup : IxR _ (rIxT K)) (pv 0) (pe_op op_sub (pv 1) (pe_int)) (fun _ _ => rfl)) (pe_ix (ix_tup : IxR _ (rIxT K)) (pv 0) (pv 1) (fun _ _ => rfl)) (nomark _))) pa_nil)))))), ?_⟩
    refine ⟨_, rfl, _, _, _, _, true, rfl, .ty _, .base (.tup hq), kit_ty (by decide +kernel), _, rfl, ?_⟩
    refine iteF ?_
    refine ⟨_, rfl, _, _, rfl, .inr (SqT.of hq), _, _, rfl, rfl, _, rfl, ?_⟩
    rw [List.length_map, show decide ((1 : Int) ≤ (l.length : Nat)) = true from decide_eq_true (by have := hl.lo; omega)]
    refine iteT ⟨_, _, rfl, rfl, _, rfl, ?_⟩
    rw [show decide (((l.length : Nat) : Int) ≤ 12) = true from decide_eq_true (by have := hl.hi; omega)]
    refine iteF ?_
    refine ⟨_, rfl, _, rfl, ⟨_, SqT.of hq⟩, fun D hD => ?_⟩
    refine lc_it (walk_tup (xs := l.map V.str)) (fun i H' => Same H H' ∧ H' D = some (.lst ((List.replicate i true).map V.bl))) ⟨same_upd hD, upd_same⟩ (fun _ _ _ S => SqT.of (S.1 _ _ hq)) ?_ ?_
    · rintro i x H1 H2 hi ⟨S, hL⟩ ⟨rfl, hx⟩
      obtain ⟨z, hz, rfl⟩ := get_map hx
      refine ⟨rfl, _, rfl, _, rfl, hl.nm z (List.mem_of_getElem? hz), fun H3 S3 => ?_⟩
      refine ⟨_, S3 _ _ hL, ?_, all_step (S.trans S3) hD (S3 _ _ hL)⟩
      have h12 := hl.hi
      simp only [List.length_map, List.length_replicate] at hi ⊢
      exact Nat.lt_of_le_of_lt (show i ≤ 12 by omega) (by decide)
    · rintro H1 ⟨S, hL⟩
      refine ⟨_, _, rfl, SqL.of hL, ?_⟩
      rw [all_true]
      refine ⟨_, rfl, iteF ?_⟩
      have hq1 := S _ _ hq
      refine ⟨_, rfl, _, _, rfl, .inr (SqT.of hq1), ?_⟩
      rw [List.length_map]
      have h12 := hl.hi
      have h1 := hl.lo
      refine ⟨_, _, rfl, ⟨by decide, by decide, by omega, by omega⟩, fun D2 hD2 => ?_⟩
      refine lc_range (lo := 1) (n := (((l.length : Nat) : Int) - 1).toNat) (fun i H' => Same H H' ∧ H' D2 = some (.lst ((List.replicate i true).map V.bl))) ⟨S.trans (same_upd hD2), upd_same⟩ ?_ ?_
      · rintro i H2 hi ⟨S2, hL2⟩
        have e1 : (1 : Int) + (i : Nat) - 1 = ((i : Nat) : Int) := by omega
        have e2 : (1 : Int) + (i : Nat) = ((i + 1 : Nat) : Int) := by omega
        have hi1 : i + 1 < l.length := by omega
        have g1 : (l.map V.str)[i]? = some (.str (l.getD i "")) := by
          rw [List.getElem?_map, List.getD_eq_getElem?_getD, List.getElem?_eq_getElem (show i < l.length by omega)]
          rfl
        have g2 : (l.map V.str)[i + 1]? = some (.str (l.getD (i + 1) "")) := by
          rw [List.getElem?_map, List.getD_eq_getElem?_getD, List.getElem?_eq_getElem hi1]
          rfl
        refine ⟨rfl, _, rfl, _, rfl, _, _, rfl, rfl, ?_⟩
        refine ⟨_, _, _, _, rfl, rfl, SqT.of (S2 _ _ hq), by rw [e1]; exact atI_nat g1, ?_⟩
        refine ⟨_, rfl, _, rfl, _, _, _, _, rfl, rfl, SqT.of (S2 _ _ hq), by rw [e2]; exact atI_nat g2, ?_⟩
        refine ⟨_, _, rfl, rfl, ?_⟩
        rw [show decide ((l.getD i "").cps.toList < (l.getD (i + 1) "").cps.toList) = true from hl.up i hi1]
        refine ⟨_, hL2, ?_, all_step S2 (S.free hD2) hL2⟩
        simp only [List.length_map, List.length_replicate]
        exact Nat.lt_of_le_of_lt (show i ≤ 12 by omega) (by decide)
      · rintro H2 ⟨S2, hL2⟩
        refine ⟨_, _, rfl, SqL.of hL2, ?_⟩
        rw [all_true]
        exact k _ S2
abbrev s_is_amount : Stmt := topS 13
theorem sc_is_amount : FnScope ["value"] ["value"] (defScope s_is_amount) := ⟨rfl, rfl, rfl, by decide +kernel, rfl, by decide +kernel, by decide +kernel⟩
def sp_amount : Sp := fun vs H Q _ => ∃ i, vs = [.int i] ∧ 1 ≤ i ∧ Q (.bl true) H
theorem ok_amount {f : Addr} {fd : FuncData} (F : Fun K "is_amount" "is_amount" s_is_amount f fd) (T : Tx K mg) (A_is_whole : Fn P w K mg base 1 "is_whole" ["value"] sp_whole) : FnOk P w K mg base CX0 2 f fd ["value"] sp_amount := by
  refine F.ok sc_is_amount (fun vs H Q E h => ?_) (fun cdv A outer s H vs Q E hr h => ?_)
  · obtain ⟨q, rfl, _⟩ := h
    rfl
  · obtain ⟨i, rfl, hi, k⟩ := h
    -- slots 0:value
    refine ⟨_, (pss_one (ps_ret (pe_and (pe_call A_is_whole.G (hr.mono (by decide)) (by rfl) A_is_whole.m A_is_whole.kp A_is_whole.b A_is_whole.v pass0 (pa_cons (pv 0) pa_nil)) (pe_one (pe_cmpR op_ge (pv 0) (pe_int) (nomark _)))))), ?_⟩
    refine ⟨_, rfl, _, rfl, _, rfl, ?_⟩
    refine iteT ⟨_, rfl, _, _, rfl, rfl, ?_⟩
    show Q (.bl (decide (1 ≤ i))) H
    rw [show decide (1 ≤ i) = true from decide_eq_true hi]
    exact k
abbrev s_is_price : Stmt := topS 14
theorem sc_is_price : FnScope ["value"] ["value"] (defScope s_is_price) := ⟨rfl, rfl, rfl, by decide +kernel, rfl, by decide +kernel, by decide +kernel⟩
def sp_price : Sp := fun vs H Q _ => ∃ i, vs = [.int i] ∧ 0 ≤ i ∧ Q (.bl true) H
theorem ok_price {f : Addr} {fd : FuncData} (F : Fun K "is_price" "is_price" s_is_price f fd) (T : Tx K mg) (A_is_whole : Fn P w K mg base 1 "is_whole" ["value"] sp_whole) : FnOk P w K mg base CX0 2 f fd ["value"] sp_price := by
  refine F.ok sc_is_price (fun vs H Q E h => ?_) (fun cdv A outer s H vs Q E hr h => ?_)
  · obtain ⟨q, rfl, _⟩ := h
    rfl
  · obtain ⟨i, rfl, hi, k⟩ := h
    -- slots 0:value
    refine ⟨_, (pss_one (ps_ret (pe_and (pe_call A_is_whole.G (hr.mono (by decide)) (by rfl) A_is_whole.m A_is_whole.kp A_is_whole.b A_is_whole.v pass0 (pa_cons (pv 0) pa_nil)) (pe_one (pe_cmpR op_ge (pv 0) (pe_int) (nomark _)))))), ?_⟩
    refine ⟨_, rfl, _, rfl, _, rfl, ?_⟩
    refine iteT ⟨_, rfl, _, _, rfl, rfl, ?_⟩
    show Q (.bl (decide (0 ≤ i))) H
    rw [show decide (0 ≤ i) = true from decide_eq_true hi]
    exact k
abbrev s_is_demand : Stmt := topS 17
theorem sc_is_demand : FnScope ["value"] ["value"] (defScope s_is_demand) := ⟨rfl, rfl, rfl, by decide +kernel, rfl, by decide +kernel, by decide +kernel⟩
def sp_demand : Sp := fun vs H Q _ => ∃ t d, vs = [.ref t] ∧ DemAt H t d ∧ DemOk d ∧ ∀ H', Same H H' → Q (.bl true) H'
theorem ok_demand {f : Addr} {fd : FuncData} (F : Fun K "is_demand" "is_demand" s_is_demand f fd) (T : Tx K mg) (A_is_name : Fn P w K mg base 1 "is_name" ["value"] sp_name) (A_is_amount : Fn P w K mg base 2 "is_amount" ["value"] sp_amount) (A_is_lot : Fn P w K mg base 2 "is_lot" ["value"] sp_lot) : FnOk P w K mg base CX0 3 f fd ["value"] sp_demand := by
  refine F.ok sc_is_demand (fun vs H Q E h => ?_) (fun cdv A outer s H vs Q E hr h => ?_)
  · obtain ⟨q, d, rfl, _⟩ := h
    rfl
  · obtain ⟨t, d, rfl, ⟨q, ht, hq⟩, hd, k⟩ := h
    -- slots 0:value
    refine ⟨_, (pss_cons (ps_if (PW.pt (pw_or (pt_not (pt_val (pe_callB (call_isi : CallR _ _ (rIsi K)) (by rfl) T.isinstance_ (by decide +kernel) (pa_cons (pv 0) (pa_cons (pe_bltn (v := .ty "tuple") (by rfl) T.tuple_ (by decide +kernel) rfl) pa_nil))))) (pw_or1 (pt_cmpR op_ne (pe_callB (call_len_seq : CallR _ _ (rLenS K)) (by rfl) T.len_ PySem.boot_len (pa_cons (pv 0) pa_nil)) (pe_int) (nomark _)))))
      (pss_one (ps_ret (pe_bl))) pss_nil)
    (pss_one (ps_ret (pe_and (pe_call A_is_name.G (hr.mono (by decide)) (by rfl) A_is_name.m A_is_name.kp A_is_name.b A_is_name.v pass0 (pa_cons (pe_ix (ix_tup : IxR _ (rIxT K)) (pv 0) (pe_int) (fun _ _ => rfl)) pa_nil)) (pe_and (pe_call A_is_amount.G (hr.mono (by decide)) (by rfl) A_is_amount.m A_is_amount.kp A_is_amount.b A_is_amount.v pass0 (pa_cons (pe_ix (ix_tup : IxR _ (rIxT K)) (pv 0) (pe_int) (fun _ _ => rfl)) pa_nil)) (pe_one (pe_call A_is_lot.G (hr.mono (by decide)) (by rfl) A_is_lot.m A_is_lot.kp A_is_lot.b A_is_lot.v pass0 (pa_cons (pe_ix (ix_tup : IxR _ (rIxT K)) (pv 0) (pe_int) (fun _ _ => rfl)) pa_nil)))))))), ?_⟩
    refine ⟨_, rfl, _, _, _, _, true, rfl, .ty _, .base (.tup ht), kit_ty (by decide +kernel), _, rfl, ?_⟩
    refine iteF ?_
    refine ⟨_, rfl, _, _, rfl, .inr (SqT.of ht), rfl, _, rfl, ?_⟩
    refine iteF ?_
    refine ⟨_, rfl, _, _, _, _, rfl, rfl, SqT.of ht, rfl, _, rfl, hd.nm, fun H1 S1 => ⟨_, rfl, iteT ?_⟩⟩
    refine ⟨_, rfl, _, _, _, _, rfl, rfl, SqT.of (S1 _ _ ht), rfl, _, rfl, hd.am, ⟨_, rfl, iteT ?_⟩⟩
    exact ⟨_, rfl, _, _, _, _, rfl, rfl, SqT.of (S1 _ _ ht), rfl, _, _, rfl, S1 _ _ hq, hd.lt, fun H2 S2 => k _ (S1.trans S2)⟩
end
end Dr

set_option maxHeartbeats 4000000
/-! The checks of demands and prices. -/
namespace Dr
open PySem PySem.Spec PyProof.Rows L2
section
variable {P : Program} {w : World} {K : PySem.W.Frag} {mg : Str → Option Value} {base : Heap}
theorem isi_seq {H : Hp} {a : Addr} {b : Bool} {xs : List V} (ha : H a = some (seqO b xs)) : ∃ t us, Paired ClsV [.ty "list", .ty "tuple"] us ∧ TyX K H (.ref a) t ∧ PySem.W.kitAny K t us = some true := by
  cases b with
  | false => exact ⟨_, [.type "list", .type "tuple"], .cons (.ty _) (.cons (.ty _) .nil), .base (.lst ha), kitAny_cons (b := true) (kit_ty (by decide +kernel)) (fun z => by cases z) (fun _ => rfl)⟩
  | true => exact ⟨_, [.type "list", .type "tuple"], .cons (.ty _) (.cons (.ty _) .nil), .base (.tup ha), kitAny_cons (b := false) (kit_ty (by decide +kernel)) (fun _ => kitAny_cons (b := true) (kit_ty (by decide +kernel)) (fun z => by cases z) (fun _ => rfl)) (fun z => by cases z)⟩
theorem sq_either {H : Hp} {a : Addr} {b : Bool} {xs : List V} (ha : H a = some (seqO b xs)) : SqL K H a xs ∨ SqT K H a xs := by
  cases b with
  | false => exact .inl (SqL.of ha)
  | true => exact .inr (SqT.of ha)
abbrev s_check_demands : Stmt := topS 18
theorem sc_check_demands : FnScope ["value", "known", "at", "item"] ["value"] (defScope s_check_demands) := ⟨rfl, rfl, rfl, by decide +kernel, rfl, by decide +kernel, by decide +kernel⟩
def sp_chkD : Sp := fun vs H Q _ => ∃ a b ts D, vs = [.ref a] ∧ H a = some (seqO b (ts.map V.ref)) ∧ DemsAt H ts D ∧ (∀ d ∈ D, DemOk d) ∧ (D.map (·.1)).Nodup ∧ D.length ≤ 24 ∧ ∀ H', Same H H' → Q .non H'
theorem ok_chkD {f : Addr} {fd : FuncData} (F : Fun K "check_demands" "check_demands" s_check_demands f fd) (T : Tx K mg) (A_is_demand : Fn P w K mg base 3 "is_demand" ["value"] sp_demand) : FnOk P w K mg base CX0 4 f fd ["value"] sp_chkD := by
  obtain ⟨_, TMOST_DEMANDS_⟩ := T.MOST_DEMANDS_
  refine F.ok sc_check_demands (fun vs H Q E h => ?_) (fun cdv A outer s H vs Q E hr h => ?_)
  · obtain ⟨a, b, ts, D, rfl, _⟩ := h
    rfl
  · obtain ⟨a, b, ts, D, rfl, ha, hD, hok, hnd, h24, k⟩ := h
    have hu := hu_of hr
    have hlen : ts.length = D.length := Paired.length hD
    -- slots 0:value 1:known 2:at 3:item
    refine ⟨_, (pss_cons (ps_if (pt_not (pt_val (pe_callB (call_isiT : CallR _ _ (rIsiT K)) (by rfl) T.isinstance_ (by decide +kernel) (pa_cons (pv 0) (pa_cons (pe_tup (pa_cons (pe_bltn (v := .ty "list") (by rfl) T.list_ (by decide +kernel) rfl) (pa_cons (pe_bltn (v := .ty "tuple") (by rfl) T.tuple_ (by decide +kernel) rfl) pa_nil))) pa_nil)))))
      (pss_one ps_never) pss_nil)
    (pss_cons (ps_if (pt_cmpR op_gt (pe_callB (call_len_seq : CallR _ _ (rLenS K)) (by rfl) T.len_ PySem.boot_len (pa_cons (pv 0) pa_nil)) (pe_glob (v := .int 24) rfl TMOST_DEMANDS_ ⟨_, rfl⟩) (nomark _))
      (pss_one ps_never) pss_nil)
    (pss_cons (ps_set (i := 1) sc_check_demands.nd rfl (Or.inl rfl) (pe_dnewK))
    (pss_one (ps_for PassesOwn.never rfl (pi_enumS (by rfl) T.enumerate_ (pa_cons (pv 0) pa_nil)) (pg_tup (by rfl) (pgs_cons (pg_name (i := 2) sc_check_demands.nd rfl (Or.inl rfl)) (pgs_cons (pg_name (i := 3) sc_check_demands.nd rfl (Or.inl rfl)) pgs_nil)) : PG _ _ (gTup K _ _))
      (pss_cons (ps_if (PW.pt (pw_or (pt_not (pt_val (pe_call A_is_demand.G (hr.mono (by decide)) (by rfl) A_is_demand.m A_is_demand.kp A_is_demand.b A_is_demand.v pass0 (pa_cons (pv 3) pa_nil)))) (pw_or1 (pt_cmp (pc_din hu (pe_ix (ix_tup : IxR _ (rIxT K)) (pv 3) (pe_int) (fun _ _ => rfl)) (pv 1))))))
        (pss_one ps_never) pss_nil)
      (pss_one (ps_dput hu (pv 1) (pe_ix (ix_tup : IxR _ (rIxT K)) (pv 3) (pe_int) (fun _ _ => rfl)) (pv 2) rfl)))))))), ?_⟩
    refine ⟨_, rfl, by show 2 ≤ sizeLine; decide, fun t ht => ?_⟩
    have S1 : Same H (upd H t (.tup [.ty "list", .ty "tuple"])) := same_upd ht
    obtain ⟨ty, us, c1, c2, c3⟩ := isi_seq (K := K) (S1 _ _ ha)
    refine ⟨_, _, _, _, _, true, rfl, upd_same, c1, c2, c3, _, rfl, iteF ?_⟩
    refine ⟨_, rfl, _, _, rfl, sq_either (S1 _ _ ha), _, _, rfl, rfl, _, rfl, ?_⟩
    rw [List.length_map, show decide ((24 : Int) < (ts.length : Nat)) = false from decide_eq_false (by omega)]
    refine iteF ?_
    intro dk hdk
    have S2 : Same H (upd (upd H t (.tup [.ty "list", .ty "tuple"])) dk (.dK [])) := S1.trans (same_upd hdk)
    refine ⟨_, rfl, _, b, _, rfl, S2 _ _ ha, fun J W => ?_⟩
    refine for_it W (fun i σ H' => ∃ (kvs : List (Key × V)) (v2 v3 : Option V), σ = [some (.ref a), some (.ref dk), v2, v3] ∧ Same H H' ∧ H' dk = some (.dK kvs) ∧ kvs.length ≤ 24 ∧ kvs.map (·.1) = (D.take i).map fun d => Sum.inr d.1)
      ⟨[], none, none, rfl, S2, upd_same, by simp, by simp⟩ (fun i σ H' _ ⟨_, _, _, _, S, _⟩ => S _ _ ha) ?_ ?_
    · rintro i x σ H1 H2 hi ⟨kvs, v2, v3, rfl, S, hk, hkl, hkeys⟩ ⟨T0, x0, y0, rfl, hT0, rfl, ex, ey⟩
      cases (Option.some.inj ex)
      obtain ⟨tt, htt, rfl⟩ := get_map ey
      obtain ⟨d, hd, hda⟩ := Paired.at (i := i) hD htt
      have S3 : Same H1 (upd H1 T0 (.tup [.int (i : Nat), .ref tt])) := same_upd hT0
      have dmem := List.mem_of_getElem? hd
      refine ⟨_, _, rfl, SqT.of upd_same, rfl, _, _, rfl, _, _, rfl, rfl, ?_⟩
      refine ⟨_, rfl, _, d, rfl, hda.same (S.trans S3), hok d dmem, fun H4 S4 => ⟨_, rfl, iteF ?_⟩⟩
      obtain ⟨q, hq1, hq2⟩ := hda.same ((S.trans S3).trans S4)
      have hk4 := (S3.trans S4) _ _ hk
      have hnone : valV kvs (Sum.inr d.1 : Key) = none := by
        cases e : valV kvs (Sum.inr d.1 : Key) with
        | none => rfl
        | some v =>
          have h1 : (Sum.inr d.1 : Key) ∈ kvs.map (·.1) := valV_in e
          rw [hkeys] at h1
          obtain ⟨d', hd', e'⟩ := List.mem_map.mp h1
          have e' : d'.1 = d.1 := Sum.inr.inj e'
          obtain ⟨j, hj, ej⟩ := List.getElem_of_mem hd'
          rw [List.length_take] at hj
          rw [List.getElem_take] at ej
          have hj2 : j < D.length := by omega
          obtain ⟨hi2, ei2⟩ := List.getElem?_eq_some_iff.mp hd
          have e3 : (D.map (·.1))[j]'(by simpa using hj2) = (D.map (·.1))[i]'(by simpa using hi2) := by
            rw [List.getElem_map, List.getElem_map, ej, ei2, e']
          have := (List.getElem_inj hnd).mp e3
          omega
      refine ⟨_, rfl, _, _, _, _, rfl, rfl, SqT.of hq1, rfl, _, rfl, _, _, rfl, DGet.k (k := Sum.inr d.1) hk4, _, rfl, ?_⟩
      rw [hnone]
      refine iteF ?_
      refine ⟨_, rfl, _, rfl, _, rfl, _, _, _, _, rfl, rfl, SqT.of hq1, rfl, ?_⟩
      refine ⟨_, _, rfl, DPut.k (k := Sum.inr d.1) hk4 (Nat.lt_of_le_of_lt hkl (by decide)), ?_⟩
      refine ⟨_, _, _, rfl, same_new ((S.trans S3).trans S4) (S1.free hdk), upd_same, ?_, ?_⟩
      · rw [putK_new _ hnone, List.length_append, List.length_singleton]
        have h1 : kvs.length = (kvs.map (·.1)).length := (List.length_map _).symm
        rw [h1, hkeys, List.length_map, List.length_take]
        have h2 : i < ts.length := by simpa using hi
        omega
      · rw [putK_new _ hnone, List.map_append, hkeys, take_snoc hd, List.map_append]
        rfl
    · rintro σ H1 ⟨kvs, v2, v3, rfl, S, _⟩
      exact k _ S
abbrev s_check_prices : Stmt := topS 19
theorem sc_check_prices : FnScope ["value", "key"] ["value"] (defScope s_check_prices) := ⟨rfl, rfl, rfl, by decide +kernel, rfl, by decide +kernel, by decide +kernel⟩
def sp_chkP : Sp := fun vs H Q _ => ∃ a pr, vs = [.ref a] ∧ H a = some (.dK (prK pr)) ∧ (∀ e ∈ pr, NameOk e.1 ∧ 0 ≤ e.2) ∧ ∀ H', Same H H' → Q .non H'
theorem ok_chkP {f : Addr} {fd : FuncData} (F : Fun K "check_prices" "check_prices" s_check_prices f fd) (T : Tx K mg) (A_is_name : Fn P w K mg base 1 "is_name" ["value"] sp_name) (A_is_price : Fn P w K mg base 2 "is_price" ["value"] sp_price) : FnOk P w K mg base CX0 3 f fd ["value"] sp_chkP := by
  refine F.ok sc_check_prices (fun vs H Q E h => ?_) (fun cdv A outer s H vs Q E hr h => ?_)
  · obtain ⟨a, pr, rfl, _⟩ := h
    rfl
  · obtain ⟨a, pr, rfl, ha, hok, k⟩ := h
    have hu := hu_of hr
    -- slots 0:value 1:key
    refine ⟨_, (pss_cons (ps_if (pt_not (pt_val (pe_callB (call_isi : CallR _ _ (rIsi K)) (by rfl) T.isinstance_ (by decide +kernel) (pa_cons (pv 0) (pa_cons (pe_bltn (v := .ty "dict") (by rfl) T.dict_ (by decide +kernel) rfl) pa_nil)))))
      (pss_one ps_never) pss_nil)
    (pss_one (ps_lock (ps_for PassesOwn.never rfl (pi_keys (pv 0)) (pg_name (i := 1) sc_check_prices.nd rfl (Or.inl rfl))
      (pss_one (ps_if (PW.pt (pw_or (pt_not (pt_val (pe_call A_is_name.G (hr.mono (by decide)) (by rfl) A_is_name.m A_is_name.kp A_is_name.b A_is_name.v pass0 (pa_cons (pv 1) pa_nil)))) (pw_or1 (pt_not (pt_val (pe_call A_is_price.G (hr.mono (by decide)) (by rfl) A_is_price.m A_is_price.kp A_is_price.b A_is_price.v pass0 (pa_cons (pe_dget hu (pv 0) (pv 1) (fun _ _ => rfl)) pa_nil)))))))
        (pss_one ps_never) pss_nil)))))), ?_⟩
    refine ⟨_, rfl, _, _, _, _, true, rfl, .ty _, .base (.dK ha), kit_ty (by decide +kernel), _, rfl, ?_⟩
    refine iteF ?_
    refine ⟨a, _, ha, trivial, fun od => ?_⟩
    refine ⟨_, rfl, _, _, rfl, .inl ⟨_, upd_same, ?_⟩⟩
    refine for_it walk_keys (fun i σ H' => ∃ v, σ = [some (.ref a), v] ∧ Same (upd H a (.frz od (.dK (prK pr)))) H') ⟨none, rfl, .refl _⟩ (fun i σ H' _ ⟨_, _, S⟩ => S _ _ upd_same) ?_ ?_
    · rintro i x σ H1 H2 hi ⟨v, rfl, S⟩ ⟨rfl, key, vv, hkv, rfl⟩
      obtain ⟨e, he, ee⟩ : ∃ e, pr[i]? = some e ∧ (key, vv) = (Sum.inr e.1, V.int e.2) := by
        unfold prK at hkv
        rw [List.getElem?_map] at hkv
        cases q : pr[i]? with
        | none =>
          rw [q] at hkv
          cases hkv
        | some e =>
          rw [q] at hkv
          exact ⟨e, rfl, (Option.some.inj hkv).symm⟩
      cases ee
      have em := List.mem_of_getElem? he
      obtain ⟨h1, h2⟩ := hok e em
      refine ⟨_, rfl, _, rfl, h1, fun H3 S3 => ⟨_, rfl, iteF ?_⟩⟩
      obtain ⟨j, hj⟩ : ∃ j, pr.lookup e.1 = some j := by
        cases q : pr.lookup e.1 with
        | some j => exact ⟨j, rfl⟩
        | none =>
          rw [List.lookup_eq_none_iff] at q
          have := q e em
          simp at this
      have hj0 : 0 ≤ j := by
        have := List.lookup_eq_some_iff.mp hj
        obtain ⟨l1, l2, e2, _⟩ := this
        exact (hok (e.1, j) (by rw [e2]; simp)).2
      refine ⟨_, rfl, _, rfl, _, V.int j, rfl, .inl ⟨_, Sum.inr e.1, .inr ⟨od, S3 _ _ (S _ _ upd_same)⟩, rfl, by rw [valV_prK, hj]; rfl⟩, _, rfl, hj0, _, rfl, iteF ?_⟩
      exact ⟨_, rfl, S.trans S3⟩
    · rintro σ H1 ⟨v, rfl, S⟩
      exact ⟨S _ _ upd_same, k _ (same_lock ha S)⟩
end
end Dr

set_option maxHeartbeats 4000000
/-! Own rules: a join behind an if, text times int, a store to a dict as a target; the bag of draws. -/
namespace Dr
open PySem PySem.Spec PyProof.Rows L2
def tJoin (t u : TS) : TS := fun D σ H => ∃ J : L2.St → Hp → Prop, (∀ σ' H', J σ' H' → u D σ' H') ∧ t { D with nx := J } σ H
def rMulS : R2 := fun x y H Q => ∃ z i, x = .str z ∧ y = .int i ∧ MulOk z i ∧ Q (.str (Txt.mul z i)) H
def rSetD : TSet := fun o i v H Q => ∃ a H', o = .ref a ∧ DPut H a i v H' ∧ Q H'
section
variable {X : Cx}
theorem pss_join {st : Stmt} {rest : List Stmt} {t u : TS} (h1 : PS X st t) (h2 : PSs X rest u) : PSs X (st :: rest) (tJoin t u) := by
  refine ⟨fun pins s σ H D I h => ?_⟩
  obtain ⟨J, k, h⟩ := h
  refine wpAny_execs_cons (thn (h1.run pins s σ H { D with nx := J } I h) fun f s1 q => ?_)
  cases f with
  | next =>
    obtain ⟨σ', H', I', q⟩ := q
    exact h2.run pins s1 σ' H' D I' (k _ _ q)
  | ret v => exact q
  | brk => exact q
  | cont => exact q
theorem op_mulS : OpR X (binaryOp .Mult) rMulS := by
  intro pins s σ H x y v u Q I rx ry h
  obtain ⟨z, i, rfl, rfl, ok, q⟩ := h
  obtain ⟨t, rfl⟩ := rx
  obtain ⟨t', rfl⟩ := ry
  exact SB.mul ok fun t2 k => ⟨.str _, H, I.tok k, ⟨_, rfl⟩, q⟩
theorem set_dict (hu : X.A.units + 1 < cLine) : PSet X rSetD := by
  intro pins s σ H o i v ov iv u Q I ro ri rv h
  obtain ⟨a, H', rfl, g, q⟩ := h
  cases ro
  exact d_setItem hu I g ri rv fun s' I' => ⟨H', I', q⟩
end
theorem mul_zero (z : Str) : MulOk z 0 ∧ Txt.mul z 0 = Str.empty := ⟨⟨by decide, fun h => absurd (by decide) h, fun h => absurd (by decide) h⟩, rfl⟩
theorem mul_one (z : Str) : MulOk z 1 ∧ Txt.mul z 1 = z := ⟨⟨by decide, fun _ h => by simp at h, fun _ h => by simp at h⟩, rfl⟩

def cutA {α : Type} (xs : List α) (lo hi : Option Int) : List α := (xs.drop (HT.sIx xs.length 0 lo)).take (HT.sIx xs.length xs.length hi - HT.sIx xs.length 0 lo)
theorem cutV_map {α : Type} (f : α → V) (xs : List α) (lo hi : Option Int) : cutV (xs.map f) lo hi = (cutA xs lo hi).map f := by
  unfold cutV cutA
  rw [List.length_map, List.map_take, List.map_drop]

/-! ### the bag -/
def BagO (o : HO) : Prop := ∃ (c : Addr) (i r m k : Int), o = .lst [.ref c, .int i, .int r, .int m, .int k]
def bagL (c : Addr) (i r m k : Int) : List V := [.ref c, .int i, .int r, .int m, .int k]
structure Bag (H : Hp) (b c : Addr) (cells : List Int) (i r m k : Int) : Prop where
  at_ : H b = some (.lst (bagL c i r m k))
  cs : H c = some (.lst (cells.map V.int))
  i0 : 0 ≤ i
  r0 : 0 ≤ r
  m0 : 0 ≤ m
  m1 : m < 2147483587
def BagAt (H : Hp) (b c : Addr) : Prop := ∃ cells i r m k, Bag H b c cells i r m k
/-- all that was tracked is as it was, but for bags -/
structure Fr (H H' : Hp) : Prop where
  keep : ∀ x o, H x = some o → ¬ BagO o → H' x = some o
  dom : ∀ x, H' x = none → H x = none
theorem Fr.refl (H : Hp) : Fr H H := ⟨fun _ _ h _ => h, fun _ h => h⟩
theorem Fr.trans {H H1 H2 : Hp} (a : Fr H H1) (b : Fr H1 H2) : Fr H H2 := ⟨fun x o h n => b.keep x o (a.keep x o h n) n, fun x h => a.dom x (b.dom x h)⟩
theorem Fr.of_same {H H' : Hp} (s : Same H H') : Fr H H' := ⟨fun x o h _ => s x o h, fun x h => s.free h⟩
theorem Fr.new {H H' : Hp} {p : Addr} {o : HO} (f : Fr H H') (h : H p = none) : Fr H (upd H' p o) := ⟨fun x o' e n => by
    rw [upd_ne (ne_of_none e h)]
    exact f.keep x o' e n, fun x e => by
    by_cases q : x = p
    · rw [q]
      exact h
    · rw [upd_ne q] at e
      exact f.dom x e⟩
theorem nb0 {xs : List V} (h : ∀ v, xs[0]? = some v → ∀ a, v ≠ .ref a) : ¬ BagO (.lst xs) := by
  rintro ⟨c, i, r, m, k, e⟩
  have e : xs = [.ref c, .int i, .int r, .int m, .int k] := HO.lst.inj e
  subst e
  exact h _ rfl c rfl
theorem nb1 {xs : List V} (h : ∀ v, xs[1]? = some v → ∀ a, v ≠ .int a) : ¬ BagO (.lst xs) := by
  rintro ⟨c, i, r, m, k, e⟩
  have e : xs = [.ref c, .int i, .int r, .int m, .int k] := HO.lst.inj e
  subst e
  exact h _ rfl i rfl
theorem nb_str (xs : List Str) : ¬ BagO (.lst (xs.map V.str)) := nb0 fun v h a e => by
  obtain ⟨x, _, rfl⟩ := get_map h
  cases e
theorem nb_int (xs : List Int) : ¬ BagO (.lst (xs.map V.int)) := nb0 fun v h a e => by
  obtain ⟨x, _, rfl⟩ := get_map h
  cases e
theorem nb_ref (xs : List Addr) : ¬ BagO (.lst (xs.map V.ref)) := nb1 fun v h a e => by
  obtain ⟨x, _, rfl⟩ := get_map h
  cases e
theorem nb_nil : ¬ BagO (.lst []) := nb_str []
theorem nb_tup (xs : List V) : ¬ BagO (.tup xs) := by rintro ⟨c, i, r, m, k, e⟩; cases e
theorem nb_dK (xs : List (Key × V)) : ¬ BagO (.dK xs) := by rintro ⟨c, i, r, m, k, e⟩; cases e
theorem nb_dT (xs : List (List Key × V)) : ¬ BagO (.dT xs) := by rintro ⟨c, i, r, m, k, e⟩; cases e
theorem Bag.ne {H : Hp} {b c : Addr} {cells : List Int} {i r m k : Int} (B : Bag H b c cells i r m k) : c ≠ b := fun e => by
  have h1 := B.cs
  rw [e, B.at_] at h1
  exact nb_int cells ⟨c, i, r, m, k, (Option.some.inj h1).symm⟩
/-- a new thing beside the bag -/
theorem Bag.same {H H' : Hp} {b c : Addr} {cells : List Int} {i r m k : Int} (B : Bag H b c cells i r m k) (s : Same H H') : Bag H' b c cells i r m k := ⟨s _ _ B.at_, s _ _ B.cs, B.i0, B.r0, B.m0, B.m1⟩
theorem BagAt.same {H H' : Hp} {b c : Addr} (B : BagAt H b c) (s : Same H H') : BagAt H' b c := by
  obtain ⟨cells, i, r, m, k, B⟩ := B
  exact ⟨cells, i, r, m, k, B.same s⟩
theorem BagAt.new {H : Hp} {b c p : Addr} {o : HO} (B : BagAt H b c) (h : H p = none) : BagAt (upd H p o) b c := B.same (same_upd h)
theorem BagAt.upd {H : Hp} {b c p : Addr} {o : HO} (B : BagAt H b c) (h : p ≠ b) (k : p ≠ c) : BagAt (upd H p o) b c := by
  obtain ⟨cells, i, r, m, q, B⟩ := B
  exact ⟨cells, i, r, m, q, by rw [upd_ne h.symm]; exact B.at_, by rw [upd_ne k.symm]; exact B.cs, B.i0, B.r0, B.m0, B.m1⟩
theorem BagAt.ne {H : Hp} {b c p : Addr} (B : BagAt H b c) (h : H p = none) : p ≠ b ∧ p ≠ c := by
  obtain ⟨cells, i, r, m, q, B⟩ := B
  have h1 := B.at_
  have h2 := B.cs
  refine ⟨fun e => ?_, fun e => ?_⟩
  · rw [← e, h] at h1
    cases h1
  · rw [← e, h] at h2
    cases h2
theorem Bag.store {H : Hp} {b c : Addr} {cells : List Int} {i r m k : Int} (B : Bag H b c cells i r m k) {i' r' m' k' : Int} (h1 : 0 ≤ i') (h2 : 0 ≤ r') (h3 : 0 ≤ m') (h4 : m' < 2147483587) : Bag (upd H b (.lst (bagL c i' r' m' k'))) b c cells i' r' m' k' :=
  ⟨upd_same, by rw [upd_ne B.ne]; exact B.cs, h1, h2, h3, h4⟩
theorem Bag.fr {H : Hp} {b c : Addr} {cells : List Int} {i r m k : Int} (B : Bag H b c cells i r m k) (o : HO) : Fr H (upd H b o) := ⟨fun x o' e n => by
    by_cases q : x = b
    · rw [q, B.at_] at e
      exact absurd ⟨c, i, r, m, k, (Option.some.inj e).symm⟩ n
    · rw [upd_ne q]
      exact e, fun x e => by
    by_cases q : x = b
    · rw [q, upd_same] at e
      cases e
    · rw [upd_ne q] at e
      exact e⟩
theorem Fr.dem {H H' : Hp} {t : Addr} {d : Dem} (f : Fr H H') (h : DemAt H t d) : DemAt H' t d := by
  obtain ⟨q, h1, h2⟩ := h
  exact ⟨q, f.keep _ _ h1 (nb_tup _), f.keep _ _ h2 (nb_tup _)⟩
theorem Fr.dems {H H' : Hp} {ts : List Addr} {D : List Dem} (f : Fr H H') (h : DemsAt H ts D) : DemsAt H' ts D := Paired.mapP h fun _ _ x => f.dem x
end Dr

set_option maxHeartbeats 4000000
/-! The draws. -/
namespace Dr
open PySem PySem.Spec PyProof.Rows L2
section
variable {P : Program} {w : World} {K : PySem.W.Frag} {mg : Str → Option Value} {base : Heap}
abbrev s_l_bag : Stmt := topS 26
theorem sc_l_bag : FnScope ["_law_script"] ["_law_script"] (defScope s_l_bag) := ⟨rfl, rfl, rfl, by decide +kernel, rfl, by decide +kernel, by decide +kernel⟩
def sp_bag (K : PySem.W.Frag) : Sp := fun vs H Q _ => ∃ (a : Addr) (ns : List Int), vs = [.ref a] ∧ SqL K H a (ns.map V.int) ∧ ∀ b c H', Same H H' → BagAt H' b c → Q (.ref b) H'
theorem ok_bag {f : Addr} {fd : FuncData} (F : Fun K "_law_bag" "_law_bag" s_l_bag f fd) (T : Tx K mg) : FnOk P w K mg base CX0 1 f fd ["_law_script"] (sp_bag K) := by
  refine F.ok sc_l_bag (fun vs H Q E h => ?_) (fun cdv A outer s H vs Q E hr h => ?_)
  · obtain ⟨a, ns, rfl, _⟩ := h
    rfl
  · obtain ⟨a, ns, rfl, hS, k⟩ := h
    -- slots 0:_law_script
    refine ⟨_, (pss_one (ps_ret (pe_lst (pa_cons (pe_callTy (call_list_of : CallR _ _ (rListOf K)) (by rfl) T.list_ (by decide +kernel) (pa_cons (pe_slice (sl_list : SlR _ (rSlL K)) (pv 0) po_none (po_some (pe_int))) pa_nil)) (pa_cons (pe_int) (pa_cons (pe_int) (pa_cons (pe_int) (pa_cons (pe_int) pa_nil)))))))), ?_⟩
    refine ⟨_, rfl, _, rfl, _, _, rfl, hS, fun p hp => ?_⟩
    rw [cutV_map]
    refine ⟨_, _, rfl, .inl (SqL.of upd_same), fun l hl => ?_⟩
    refine ⟨by show 5 ≤ sizeLine; decide, fun b hb => ?_⟩
    have S1 : Same H (upd H p (.lst ((cutA ns none (some 63)).map V.int))) := same_upd hp
    have S2 := S1.trans (same_upd (o := .lst ((cutA ns none (some 63)).map V.int)) hl)
    refine k b l _ (S2.trans (same_upd hb)) ⟨cutA ns none (some 63), 0, 0, 12030, 0, upd_same, ?_, by decide, by decide, by decide, by decide⟩
    rw [upd_ne (ne_of_none upd_same hb), upd_same]
def sp_draw : Sp := fun vs H Q _ => ∃ b c n, vs = [.ref b, .int n] ∧ BagAt H b c ∧ 0 < n ∧ n ≤ 1000000000000 ∧ ∀ v H', Fr H H' → BagAt H' b c → 0 ≤ v → v < n → Q (.int v) H'
abbrev s_l_draw : Stmt := topS 27
theorem sc_l_draw : FnScope ["_law_bag_here", "_law_many", "_law_cell", "_law_digit", "_law_seed"] ["_law_bag_here", "_law_many"] (defScope s_l_draw) := ⟨rfl, rfl, rfl, by decide +kernel, rfl, by decide +kernel, by decide +kernel⟩
theorem ok_draw {f : Addr} {fd : FuncData} (F : Fun K "_law_draw" "_law_draw" s_l_draw f fd) (T : Tx K mg) : FnOk P w K mg base CX0 1 f fd ["_law_bag_here", "_law_many"] sp_draw := by
  refine F.ok sc_l_draw (fun vs H Q E h => ?_) (fun cdv A outer s H vs Q E hr h => ?_)
  · obtain ⟨a, c, ns, rfl, _⟩ := h
    rfl
  · obtain ⟨b, c, n, rfl, ⟨cells, i, r, m, q, B⟩, hn0, hn1, k⟩ := h
    -- slots 0:_law_bag_here 1:_law_many 2:_law_cell 3:_law_digit 4:_law_seed
    refine ⟨_, (pss_cons (ps_asg (pe_op op_add (pe_ix (ix_list : IxR _ (rIxL K)) (pv 0) (pe_int) (fun _ _ => rfl)) (pe_int)) (pg_sub (pv 0) (pe_int) set_list))
    (pss_join (ps_if (PW.pt (pw_and (pt_cmpR op_eq (pe_ix (ix_list : IxR _ (rIxL K)) (pv 0) (pe_int) (fun _ _ => rfl)) (pe_int) (nomark _)) (pw_and1 (pt_cmpR op_lt (pe_ix (ix_list : IxR _ (rIxL K)) (pv 0) (pe_int) (fun _ _ => rfl)) (pe_callB (call_len_seq : CallR _ _ (rLenS K)) (by rfl) T.len_ PySem.boot_len (pa_cons (pe_ix (ix_list : IxR _ (rIxL K)) (pv 0) (pe_int) (fun _ _ => rfl)) pa_nil)) (nomark _)))))
      (pss_cons (ps_set (i := 2) sc_l_draw.nd rfl (Or.inl rfl) (pe_ix (ix_list : IxR _ (rIxL K)) (pe_ix (ix_list : IxR _ (rIxL K)) (pv 0) (pe_int) (fun _ _ => rfl)) (pe_ix (ix_list : IxR _ (rIxL K)) (pv 0) (pe_int) (fun _ _ => rfl)) (fun _ _ => rfl)))
      (pss_cons (ps_asg (pe_op op_add (pe_ix (ix_list : IxR _ (rIxL K)) (pv 0) (pe_int) (fun _ _ => rfl)) (pe_int)) (pg_sub (pv 0) (pe_int) set_list))
      (pss_one (ps_if (pt_cmpR op_ge (pe_callB call_abs (by rfl) T.abs_ (by decide +kernel) (pa_cons (pv 2) pa_nil)) (pe_op op_pow (pe_int) (pe_int)) (nomark _))
        (pss_one (ps_asg (pe_callB call_abs (by rfl) T.abs_ (by decide +kernel) (pa_cons (pv 2) pa_nil)) (pg_sub (pv 0) (pe_int) set_list))) 
        (pss_one (ps_asg (pe_op op_mod (pe_callTy call_int1 (by rfl) T.int_ (by decide +kernel) (pa_cons (pe_op op_add (pe_op op_add (pe_op op_mul (pe_ix (ix_list : IxR _ (rIxL K)) (pv 0) (pe_int) (fun _ _ => rfl)) (pe_int)) (pe_op op_mul (pe_op op_mod (pe_callTy call_int1 (by rfl) T.int_ (by decide +kernel) (pa_cons (pv 2) pa_nil)) (pe_int)) (pe_int))) (pe_int)) pa_nil)) (pe_int)) (pg_sub (pv 0) (pe_int) set_list))))))) pss_nil)
    (pss_cons (ps_if (pt_cmpR op_gt (pe_ix (ix_list : IxR _ (rIxL K)) (pv 0) (pe_int) (fun _ _ => rfl)) (pe_int) (nomark _))
      (pss_cons (ps_set (i := 3) sc_l_draw.nd rfl (Or.inl rfl) (pe_op op_mod (pe_callTy call_int1 (by rfl) T.int_ (by decide +kernel) (pa_cons (pe_ix (ix_list : IxR _ (rIxL K)) (pv 0) (pe_int) (fun _ _ => rfl)) pa_nil)) (pv 1)))
      (pss_cons (ps_asg (pe_op op_fdivW (pe_ix (ix_list : IxR _ (rIxL K)) (pv 0) (pe_int) (fun _ _ => rfl)) (pv 1)) (pg_sub (pv 0) (pe_int) set_list))
      (pss_one (ps_ret (pv 3))))) pss_nil)
    (pss_cons (ps_set (i := 4) sc_l_draw.nd rfl (Or.inl rfl) (pe_callTy call_int1 (by rfl) T.int_ (by decide +kernel) (pa_cons (pe_ix (ix_list : IxR _ (rIxL K)) (pv 0) (pe_int) (fun _ _ => rfl)) pa_nil)))
    (pss_cons (ps_asg (pe_op op_mod (pe_callTy call_int1 (by rfl) T.int_ (by decide +kernel) (pa_cons (pe_op op_add (pe_op op_add (pe_op op_add (pe_op op_pow (pv 4) (pe_int)) (pe_op op_mul (pv 4) (pe_int))) (pe_op op_mul (pe_ix (ix_list : IxR _ (rIxL K)) (pv 0) (pe_int) (fun _ _ => rfl)) (pe_int))) (pe_int)) pa_nil)) (pe_int)) (pg_sub (pv 0) (pe_int) set_list))
    (pss_one (ps_ret (pe_op op_mod (pe_callTy call_int1 (by rfl) T.int_ (by decide +kernel) (pa_cons (pe_op op_add (pe_op op_fdivW (pe_ix (ix_list : IxR _ (rIxL K)) (pv 0) (pe_int) (fun _ _ => rfl)) (pe_int)) (pe_op op_mul (pe_op op_mod (pe_callTy call_int1 (by rfl) T.int_ (by decide +kernel) (pa_cons (pe_ix (ix_list : IxR _ (rIxL K)) (pv 0) (pe_int) (fun _ _ => rfl)) pa_nil)) (pe_int)) (pe_int))) pa_nil)) (pv 1))))))))), ?_⟩
    -- bag[4] = bag[4] + 1
    refine ⟨_, rfl, _, _, _, _, rfl, rfl, SqL.of B.at_, rfl, _, _, rfl, rfl, ?_⟩
    refine ⟨_, rfl, _, _, _, _, rfl, rfl, B.at_, rfl, ?_⟩
    have B1 : Bag (upd H b (.lst (bagL c i r m (q + 1)))) b c cells i r m (q + 1) := B.store B.i0 B.r0 B.m0 B.m1
    have F1 : Fr H (upd H b (.lst (bagL c i r m (q + 1)))) := B.fr _
    refine ⟨fun σ' H' => ∃ i r m x y z, σ' = [some (.ref b), some (.int n), x, y, z] ∧ Fr H H' ∧ Bag H' b c cells i r m (q + 1), ?_, ?_⟩
    · rintro σ H2 ⟨i, r, m, x, y, z, rfl, F2, B2⟩
      -- if bag[2] > 0
      refine ⟨_, rfl, _, _, _, _, rfl, rfl, SqL.of B2.at_, rfl, _, _, rfl, rfl, _, rfl, ?_⟩
      refine ite2 (fun hr0 => ?_) (fun hr0 => ?_)
      · -- digit = int(bag[2]) % many; bag[2] = bag[2] // many; return digit
        refine ⟨_, rfl, _, _, _, _, rfl, rfl, SqL.of B2.at_, rfl, .inl ⟨_, rfl, _, rfl, _, _, rfl, rfl, hn0, ?_⟩⟩
        refine ⟨_, rfl, _, _, _, _, rfl, rfl, SqL.of B2.at_, rfl, _, rfl, _, _, rfl, rfl, wide_div (b := 41) hn0 (by omega) (by decide) (by decide), ?_⟩
        refine ⟨_, rfl, _, _, _, _, rfl, rfl, B2.at_, rfl, ?_⟩
        have B3 : Bag (upd H2 b (.lst (bagL c i (r / n) m (q + 1)))) b c cells i (r / n) m (q + 1) := B2.store B2.i0 (Int.ediv_nonneg B2.r0 (Int.le_of_lt hn0)) B2.m0 B2.m1
        refine ⟨_, rfl, k _ _ (F2.trans (B2.fr _)) ⟨_, _, _, _, _, B3⟩ (Int.emod_nonneg _ (by omega)) (Int.emod_lt_of_pos _ hn0)⟩
      · -- the mix
        refine ⟨_, rfl, _, _, _, _, rfl, rfl, SqL.of B2.at_, rfl, .inl ⟨_, rfl, ?_⟩⟩
        have hm0 := B2.m0
        have hm1 := B2.m1
        refine ⟨_, rfl, _, _, rfl, rfl, ⟨by decide, by decide, by omega⟩, ?_⟩
        refine ⟨_, rfl, _, _, rfl, rfl, .inl ⟨by omega, by omega⟩, _, _, rfl, rfl, ?_⟩
        refine ⟨_, rfl, _, _, _, _, rfl, rfl, SqL.of B2.at_, rfl, _, _, rfl, rfl, .inr ⟨by decide, by decide⟩, _, _, rfl, rfl, ?_⟩
        refine ⟨_, _, rfl, rfl, .inl ⟨_, rfl, _, _, rfl, rfl, by show (0 : Int) < 2147483587; decide, ?_⟩⟩
        refine ⟨_, rfl, _, _, _, _, rfl, rfl, B2.at_, rfl, ?_⟩
        have B3 : Bag (upd H2 b (.lst (bagL c i r ((m ^ 3 + m * 30011 + (q + 1) * 1299709 + 70001) % 2147483587) (q + 1)))) b c cells i r ((m ^ 3 + m * 30011 + (q + 1) * 1299709 + 70001) % 2147483587) (q + 1) :=
          B2.store B2.i0 B2.r0 (Int.emod_nonneg _ (by decide)) (Int.emod_lt_of_pos _ (by decide))
        have h30 := B3.m0
        have h31 := B3.m1
        refine ⟨_, rfl, _, _, _, _, rfl, rfl, SqL.of B3.at_, rfl, _, _, rfl, rfl, wide_div (b := 41) (by decide) (by decide) (by decide) (by decide), ?_⟩
        refine ⟨_, rfl, _, _, _, _, rfl, rfl, SqL.of B3.at_, rfl, .inl ⟨_, rfl, _, _, rfl, rfl, by show (0 : Int) < 7919; decide, ?_⟩⟩
        refine ⟨_, _, rfl, rfl, .inr ⟨by decide, by decide⟩, _, _, rfl, rfl, .inl ⟨_, rfl, _, rfl, _, _, rfl, rfl, hn0, ?_⟩⟩
        exact k _ _ (F2.trans (B2.fr _)) ⟨_, _, _, _, _, B3⟩ (Int.emod_nonneg _ (by omega)) (Int.emod_lt_of_pos _ hn0)
    · -- the first if
      refine ⟨_, rfl, _, _, _, _, rfl, rfl, SqL.of B1.at_, rfl, rfl, _, rfl, ?_⟩
      have stay : ∃ i' r' m' x y z, start ["_law_bag_here", "_law_many", "_law_cell", "_law_digit", "_law_seed"] [V.ref b, V.int n] = [some (.ref b), some (.int n), x, y, z] ∧ Fr H (upd H b (.lst (bagL c i r m (q + 1)))) ∧ Bag (upd H b (.lst (bagL c i r m (q + 1)))) b c cells i' r' m' (q + 1) := ⟨i, r, m, _, _, _, rfl, F1, B1⟩
      refine ite2 (fun _ => ?_) (fun _ => iteF stay)
      refine ⟨_, rfl, _, _, _, _, rfl, rfl, SqL.of B1.at_, rfl, ?_⟩
      refine ⟨_, rfl, _, _, _, _, rfl, rfl, SqL.of B1.at_, rfl, _, _, rfl, .inl (SqL.of B1.cs), _, _, rfl, rfl, _, rfl, ?_⟩
      refine ite2 (fun hi => ?_) (fun _ => stay)
      -- cell = bag[0][bag[1]]; bag[1] = bag[1] + 1
      have hi0 := B1.i0
      have hlt : i.toNat < cells.length := by
        have h1 : i < ((cells.map V.int).length : Nat) := of_decide_eq_true hi
        rw [List.length_map] at h1
        omega
      have hcell : (cells.map V.int)[i.toNat]? = some (.int (cells.getD i.toNat 0)) := by
        rw [List.getElem?_map, List.getD_eq_getElem?_getD, List.getElem?_eq_getElem hlt]
        rfl
      have ei : ((i.toNat : Nat) : Int) = i := Int.toNat_of_nonneg hi0
      generalize cells.getD i.toNat 0 = cell at hcell
      refine ⟨_, rfl, _, _, _, _, rfl, rfl, SqL.of B1.at_, rfl, ?_⟩
      refine ⟨_, rfl, _, _, _, _, rfl, rfl, SqL.of B1.at_, rfl, ?_⟩
      refine ⟨_, _, _, _, rfl, rfl, SqL.of B1.cs, by rw [← ei]; exact atI_nat hcell, ?_⟩
      refine ⟨_, rfl, _, _, _, _, rfl, rfl, SqL.of B1.at_, rfl, _, _, rfl, rfl, ?_⟩
      refine ⟨_, rfl, _, _, _, _, rfl, rfl, B1.at_, rfl, ?_⟩
      have B2 : Bag (upd (upd H b (.lst (bagL c i r m (q + 1)))) b (.lst (bagL c (i + 1) r m (q + 1)))) b c cells (i + 1) r m (q + 1) := B1.store (by omega) B1.r0 B1.m0 B1.m1
      have F2 : Fr H (upd (upd H b (.lst (bagL c i r m (q + 1)))) b (.lst (bagL c (i + 1) r m (q + 1)))) := F1.trans (B1.fr _)
      -- if abs(cell) >= 10 ** 18
      refine ⟨_, rfl, _, rfl, _, _, rfl, rfl, ⟨by decide, by decide, by decide⟩, _, _, rfl, rfl, _, rfl, ?_⟩
      refine ite2 (fun ha => ?_) (fun _ => ?_)
      · refine ⟨_, rfl, _, rfl, ?_⟩
        refine ⟨_, rfl, _, _, _, _, rfl, rfl, B2.at_, rfl, ?_⟩
        have h0 : 0 ≤ (if cell < 0 then -cell else cell) := by split <;> omega
        exact ⟨i + 1, _, m, _, _, _, rfl, F2.trans (B2.fr _), B2.store B2.i0 h0 B2.m0 B2.m1⟩
      · refine ⟨_, rfl, _, _, _, _, rfl, rfl, SqL.of B2.at_, rfl, _, _, rfl, rfl, .inr ⟨by decide, by decide⟩, ?_⟩
        refine ⟨_, rfl, .inl ⟨_, rfl, _, _, rfl, rfl, by show (0 : Int) < 1000000007; decide, ?_⟩⟩
        refine ⟨_, _, rfl, rfl, .inr ⟨by decide, by decide⟩, _, _, rfl, rfl, _, _, rfl, rfl, .inl ⟨_, rfl, _, _, rfl, rfl, by show (0 : Int) < 2147483587; decide, ?_⟩⟩
        refine ⟨_, rfl, _, _, _, _, rfl, rfl, B2.at_, rfl, ?_⟩
        exact ⟨i + 1, r, _, _, _, _, rfl, F2.trans (B2.fr _), B2.store B2.i0 B2.r0 (Int.emod_nonneg _ (by decide)) (Int.emod_lt_of_pos _ (by decide))⟩
end
end Dr

set_option maxHeartbeats 4000000
/-! Drawing one of some; names. -/
namespace Dr
open PySem PySem.Spec PyProof.Rows L2
/-! ### names, plainly -/
theorem abc_len : (abc.cps.toList).length = 26 := by decide +kernel
theorem abc_nd : (abc.cps.toList).Nodup := by decide +kernel
theorem abc_z : (122 : Nat) ∈ abc.cps.toList := by decide +kernel
def letterAt (f b : Int) (k : Nat) : Nat := abc.cps.toList.getD ((f + b * k) % 26).toNat 0
theorem letter_mem (f b : Int) (k : Nat) : letterAt f b k ∈ abc.cps.toList := by
  unfold letterAt
  have h : ((f + b * k) % 26).toNat < 26 := by omega
  rw [List.getD_eq_getElem?_getD, List.getElem?_eq_getElem (by rw [abc_len]; exact h)]
  exact List.getElem_mem _
def Step (b : Int) : Prop := b = 1 ∨ b = 3 ∨ b = 5 ∨ b = 7 ∨ b = 9 ∨ b = 11 ∨ b = 15 ∨ b = 25
theorem letter_inj {f b : Int} {j k : Nat} (hb : Step b) (hj : j < 26) (hk : k < 26) (e : letterAt f b j = letterAt f b k) : j = k := by
  unfold letterAt at e
  have h1 : ((f + b * j) % 26).toNat < 26 := by omega
  have h2 : ((f + b * k) % 26).toNat < 26 := by omega
  rw [List.getD_eq_getElem?_getD, List.getD_eq_getElem?_getD, List.getElem?_eq_getElem (by rw [abc_len]; exact h1), List.getElem?_eq_getElem (by rw [abc_len]; exact h2)] at e
  have e2 := (List.getElem_inj abc_nd).mp e
  rcases hb with rfl | rfl | rfl | rfl | rfl | rfl | rfl | rfl <;> omega
/-- the k-th name of a stem -/
def nameL (S M : List Nat) (a : Nat) (f b : Int) (k : Nat) : List Nat := S.take a ++ [letterAt f b k] ++ S.drop a ++ (if k % 2 = 1 then M else [])
theorem nameL_inj {S M : List Nat} {a : Nat} {f b : Int} {j k : Nat} (ha : a ≤ S.length) (hb : Step b) (hj : j < 26) (hk : k < 26) (e : nameL S M a f b j = nameL S M a f b k) : j = k := by
  refine letter_inj (f := f) hb hj hk ?_
  have hl : (S.take a).length = a := by rw [List.length_take]; omega
  have key : ∀ k, (nameL S M a f b k)[a]? = some (letterAt f b k) := fun k => by
    unfold nameL
    rw [List.append_assoc, List.append_assoc, List.getElem?_append_right (Nat.le_of_eq hl), hl, Nat.sub_self]
    rfl
  have e1 := key j
  rw [e, key k] at e1
  exact (Option.some.inj e1).symm
theorem atI_int {α : Type} {xs : List α} {i : Int} {v : α} (h0 : 0 ≤ i) (h : xs[i.toNat]? = some v) : atI xs i = some v := by
  have e : ((i.toNat : Nat) : Int) = i := Int.toNat_of_nonneg h0
  rw [← e]
  exact atI_nat h
def nameS (S M : List Nat) (a : Nat) (f b : Int) (k : Nat) : Str := ⟨(nameL S M a f b k).toArray⟩
theorem nameS_ok {S M : List Nat} {a : Nat} {f b : Int} {k : Nat} (h4 : S.length ≤ 4) (h1 : M.length ≤ 1) (hs : ∀ c ∈ S, c ∈ abc.cps.toList) (hm : ∀ c ∈ M, c ∈ abc.cps.toList) : NameOk (nameS S M a f b k) := by
  have hl : (nameS S M a f b k).length = (nameL S M a f b k).length := by
    show (nameL S M a f b k).toArray.size = _
    simp
  have hn : (nameL S M a f b k).length = S.length + 1 + (if k % 2 = 1 then M else []).length := by
    unfold nameL
    simp only [List.length_append, List.length_take, List.length_drop, List.length_singleton]
    omega
  have h6 : (if k % 2 = 1 then M else []).length ≤ 1 := by
    split
    · exact h1
    · simp
  refine ⟨by omega, by omega, fun c hc => ?_⟩
  have hc : c ∈ nameL S M a f b k := by
    have : (nameS S M a f b k).cps.toList = nameL S M a f b k := by simp [nameS]
    rw [this] at hc
    exact hc
  unfold nameL at hc
  simp only [List.mem_append, List.mem_singleton] at hc
  rcases hc with ((h | h) | h) | h
  · exact hs c (List.mem_of_mem_take h)
  · rw [h]
    exact letter_mem _ _ _
  · exact hs c (List.mem_of_mem_drop h)
  · split at h
    · exact hm c h
    · cases h
theorem names_nd {S M : List Nat} {a : Nat} {f b : Int} {n : Nat} (ha : a ≤ S.length) (hb : Step b) (hn : n ≤ 26) : ((List.range n).map (nameS S M a f b)).Nodup := by
  unfold List.Nodup
  rw [List.pairwise_map]
  refine List.Pairwise.imp_of_mem ?_ (List.nodup_range (n := n))
  intro j k hj hk hne e
  have hj := List.mem_range.mp hj
  have hk := List.mem_range.mp hk
  have e : nameL S M a f b j = nameL S M a f b k := by
    have e1 : (nameS S M a f b j).cps.toList = (nameS S M a f b k).cps.toList := by rw [e]
    simpa [nameS] using e1
  exact hne (nameL_inj ha hb (by omega) (by omega) e)

section
variable {P : Program} {w : World} {K : PySem.W.Frag} {mg : Str → Option Value} {base : Heap}
def rLenV (K : PySem.W.Frag) : List V → Hp → VK → Prop := fun xs H Q => ∃ x n, xs = [x] ∧ LenV K x H n ∧ Q (.int n) H
abbrev s_l_of : Stmt := topS 28
theorem sc_l_of : FnScope ["_law_bag_here", "_law_some"] ["_law_bag_here", "_law_some"] (defScope s_l_of) := ⟨rfl, rfl, rfl, by decide +kernel, rfl, by decide +kernel, by decide +kernel⟩
/-- one of a list, or a sign of a text -/
def sp_of : Sp := fun vs H Q _ => ∃ b c x, vs = [.ref b, x] ∧ BagAt H b c ∧
  ((∃ a xs, x = .ref a ∧ H a = some (.lst xs) ∧ ¬ BagO (.lst xs) ∧ 0 < xs.length ∧ xs.length ≤ 1000 ∧ ∀ (i : Nat) v H', xs[i]? = some v → Fr H H' → BagAt H' b c → Q v H') ∨
   (∃ z, x = .str z ∧ 0 < z.length ∧ z.length ≤ 1000 ∧ ∀ q H', q ∈ z.cps.toList → Fr H H' → BagAt H' b c → Q (.str ⟨#[q]⟩) H'))
theorem ok_of {f : Addr} {fd : FuncData} (F : Fun K "_law_of" "_law_of" s_l_of f fd) (T : Tx K mg) (A__law_draw : Fn P w K mg base 1 "_law_draw" ["_law_bag_here", "_law_many"] sp_draw) : FnOk P w K mg base CX0 2 f fd ["_law_bag_here", "_law_some"] sp_of := by
  refine F.ok sc_l_of (fun vs H Q E h => ?_) (fun cdv A outer s H vs Q E hr h => ?_)
  · obtain ⟨b, c, x, rfl, _⟩ := h
    rfl
  · obtain ⟨b, c, x, rfl, B, h⟩ := h
    -- slots 0:_law_bag_here 1:_law_some
    refine ⟨_, (pss_one (ps_ret (pe_ix (ix_seq : IxR _ (rIx K)) (pv 1) (pe_call A__law_draw.G (hr.mono (by decide)) (by rfl) A__law_draw.m A__law_draw.kp A__law_draw.b A__law_draw.v pass0 (pa_cons (pv 0) (pa_cons (pe_callB (call_len : CallR _ _ (rLenV K)) (by rfl) T.len_ PySem.boot_len (pa_cons (pv 1) pa_nil)) pa_nil))) (fun _ _ => rfl)))), ?_⟩
    rcases h with ⟨a, xs, rfl, ha, nb, h0, h1, k⟩ | ⟨z, rfl, h0, h1, k⟩
    · refine ⟨_, rfl, _, rfl, _, rfl, _, xs.length, rfl, .inl ⟨xs, SqL.of ha, rfl⟩, _, _, _, rfl, B, by omega, by omega, fun v H' F1 B1 hv0 hv1 => ?_⟩
      have hv : v.toNat < xs.length := by omega
      have ev : ((v.toNat : Nat) : Int) = v := Int.toNat_of_nonneg hv0
      exact .inl ⟨_, _, _, _, rfl, rfl, SqL.of (F1.keep _ _ ha nb), atI_int hv0 (List.getElem?_eq_getElem hv), k v.toNat _ _ (List.getElem?_eq_getElem hv) F1 B1⟩
    · have hz : z.length ≤ sizeLine := Nat.le_trans h1 (by decide)
      refine ⟨_, rfl, _, rfl, _, rfl, _, z.length, rfl, ⟨hz, rfl⟩, _, _, _, rfl, B, by omega, by omega, fun v H' F1 B1 hv0 hv1 => ?_⟩
      have hl : z.cps.toList.length = z.length := by simp [Str.length]
      have hv : v.toNat < z.cps.toList.length := by omega
      have ev : ((v.toNat : Nat) : Int) = v := Int.toNat_of_nonneg hv0
      exact .inr (.inr ⟨_, _, z.cps.toList[v.toNat], rfl, rfl, hz, atI_int hv0 (List.getElem?_eq_getElem hv), k _ _ (List.getElem_mem hv) F1 B1⟩)
abbrev s_l_names : Stmt := topS 29
theorem sc_l_names : FnScope ["_law_bag_here", "_law_many", "_law_letters", "_law_stem", "_law_k", "_law_at", "_law_first", "_law_by", "_law_more"] ["_law_bag_here", "_law_many"] (defScope s_l_names) := ⟨rfl, rfl, rfl, by decide +kernel, rfl, by decide +kernel, by decide +kernel⟩
def sp_names : Sp := fun vs H Q _ => ∃ (b c : Addr) (n : Nat), vs = [.ref b, .int n] ∧ BagAt H b c ∧ n ≤ 26 ∧ ∀ (p : Addr) (zs : List Str) (H' : Hp), Fr H H' → BagAt H' b c → H p = none → H' p = some (.lst (zs.map V.str)) → zs.length = n → zs.Nodup → (∀ z ∈ zs, NameOk z) → Q (.ref p) H'
theorem ok_names {f : Addr} {fd : FuncData} (F : Fun K "_law_names" "_law_names" s_l_names f fd) (T : Tx K mg) (A__law_draw : Fn P w K mg base 1 "_law_draw" ["_law_bag_here", "_law_many"] sp_draw) (A__law_of : Fn P w K mg base 2 "_law_of" ["_law_bag_here", "_law_some"] sp_of) : FnOk P w K mg base CX0 3 f fd ["_law_bag_here", "_law_many"] sp_names := by
  refine F.ok sc_l_names (fun vs H Q E h => ?_) (fun cdv A outer s H vs Q E hr h => ?_)
  · obtain ⟨b, c, x, rfl, _⟩ := h
    rfl
  · obtain ⟨b, c, n, rfl, B, hn, k⟩ := h
    -- slots 0:_law_bag_here 1:_law_many 2:_law_letters 3:_law_stem 4:_law_k 5:_law_at 6:_law_first 7:_law_by 8:_law_more
    refine ⟨_, (pss_cons (ps_asg (pe_tup (pa_cons (pe_str) (pa_cons (pe_str) pa_nil))) (pg_tup (by rfl) (pgs_cons (pg_name (i := 2) sc_l_names.nd rfl (Or.inr rfl)) (pgs_cons (pg_name (i := 3) sc_l_names.nd rfl (Or.inr rfl)) pgs_nil)) : PG _ _ (gTup K _ _)))
    (pss_cons (ps_for PassesOwn.never rfl (pi_range1 (by rfl) T.range_ (pa_cons (pe_call A__law_of.G (hr.mono (by decide)) (by rfl) A__law_of.m A__law_of.kp A__law_of.b A__law_of.v pass0 (pa_cons (pv 0) (pa_cons (pe_lst (pa_cons (pe_int) (pa_cons (pe_int) (pa_cons (pe_int) (pa_cons (pe_int) (pa_cons (pe_int) pa_nil)))))) pa_nil))) pa_nil)) (pg_name (i := 4) sc_l_names.nd rfl (Or.inl rfl))
      (pss_one (ps_set (i := 3) sc_l_names.nd rfl (Or.inr rfl) (pe_op op_add_str (pv 3) (pe_call A__law_of.G (hr.mono (by decide)) (by rfl) A__law_of.m A__law_of.kp A__law_of.b A__law_of.v pass0 (pa_cons (pv 0) (pa_cons (pv 2) pa_nil)))))))
    (pss_cons (ps_asg (pe_tup (pa_cons (pe_call A__law_draw.G (hr.mono (by decide)) (by rfl) A__law_draw.m A__law_draw.kp A__law_draw.b A__law_draw.v pass0 (pa_cons (pv 0) (pa_cons (pe_op op_add (pe_callB call_len_str (by rfl) T.len_ PySem.boot_len (pa_cons (pv 3) pa_nil)) (pe_int)) pa_nil))) (pa_cons (pe_call A__law_draw.G (hr.mono (by decide)) (by rfl) A__law_draw.m A__law_draw.kp A__law_draw.b A__law_draw.v pass0 (pa_cons (pv 0) (pa_cons (pe_int) pa_nil))) (pa_cons (pe_call A__law_of.G (hr.mono (by decide)) (by rfl) A__law_of.m A__law_of.kp A__law_of.b A__law_of.v pass0 (pa_cons (pv 0) (pa_cons (pe_lst (pa_cons (pe_int) (pa_cons (pe_int) (pa_cons (pe_int) (pa_cons (pe_int) (pa_cons (pe_int) (pa_cons (pe_int) (pa_cons (pe_int) (pa_cons (pe_int) pa_nil))))))))) pa_nil))) pa_nil)))) (pg_tup (by rfl) (pgs_cons (pg_name (i := 5) sc_l_names.nd rfl (Or.inr rfl)) (pgs_cons (pg_name (i := 6) sc_l_names.nd rfl (Or.inr rfl)) (pgs_cons (pg_name (i := 7) sc_l_names.nd rfl (Or.inr rfl)) pgs_nil))) : PG _ _ (gTup K _ _)))
    (pss_cons (ps_set (i := 8) sc_l_names.nd rfl (Or.inr rfl) (pe_call A__law_of.G (hr.mono (by decide)) (by rfl) A__law_of.m A__law_of.kp A__law_of.b A__law_of.v pass0 (pa_cons (pv 0) (pa_cons (pe_lst (pa_cons (pe_str) (pa_cons (pe_str) (pa_cons (pe_str) pa_nil)))) pa_nil))))
    (pss_one (ps_ret (pe_lc (own := [("_law_k", 4)]) rfl sc_l_names.nd (pi_range1 (by rfl) T.range_ (pa_cons (pv 1) pa_nil)) (blkOk_by (N := ["_law_bag_here", "_law_many", "_law_letters", "_law_stem", "_law_k", "_law_at", "_law_first", "_law_by", "_law_more"]) (sc := defScope s_l_names) (by decide +kernel)) (fun _ _ _ _ _ => (pg_name (i := 4) sc_l_names.nd rfl (Or.inl rfl))) (fun _ _ _ _ _ => pts_nil) (fun _ _ _ _ _ => pe_op op_add_str (pe_op op_add_str (pe_op op_add_str (pe_slice sl_str (pv 3) po_none (po_some (pv 5))) (pe_ix ix_str (pv 2) (pe_op op_mod (pe_callTy call_int1 (by rfl) T.int_ (by decide +kernel) (pa_cons (pe_op op_add (pv 6) (pe_op op_mul (pv 7) (pv 4))) pa_nil)) (pe_int)) (fun _ _ => rfl))) (pe_slice sl_str (pv 3) (po_some (pv 5)) po_none)) (pe_op op_mulS (pv 8) (pe_callTy call_int1 (by rfl) T.int_ (by decide +kernel) (pa_cons (pe_cmpR op_eq (pe_op op_mod (pv 4) (pe_int)) (pe_int) (nomark _)) pa_nil))))))))))), ?_⟩
    refine ⟨by show 2 ≤ sizeLine; decide, fun t1 ht1 => ?_⟩
    have F1 : Fr H (upd H t1 (.tup [.str abc, .str ""])) := (Fr.refl H).new ht1
    have B1 := B.new (o := .tup [.str abc, .str ""]) ht1
    refine ⟨_, _, rfl, SqT.of upd_same, rfl, _, _, rfl, _, _, rfl, rfl, ?_⟩
    refine ⟨_, rfl, by show 5 ≤ sizeLine; decide, fun l1 hl1 => ?_⟩
    have F2 := F1.trans ((Fr.refl _).new (o := .lst [.int 0, .int 0, .int 1, .int 2, .int 4]) hl1)
    have B2 := B1.new (o := .lst [.int 0, .int 0, .int 1, .int 2, .int 4]) hl1
    refine ⟨_, _, _, rfl, B2, .inl ⟨_, _, rfl, upd_same, nb_int [0, 0, 1, 2, 4], by decide, by decide, fun j v H3 hv F3 B3 => ?_⟩⟩
    obtain ⟨m, rfl, hm⟩ : ∃ m : Nat, v = V.int m ∧ m ≤ 4 := by
      match j, hv with
      | 0, hv => exact ⟨0, (Option.some.inj hv).symm, by decide⟩
      | 1, hv => exact ⟨0, (Option.some.inj hv).symm, by decide⟩
      | 2, hv => exact ⟨1, (Option.some.inj hv).symm, by decide⟩
      | 3, hv => exact ⟨2, (Option.some.inj hv).symm, by decide⟩
      | 4, hv => exact ⟨4, (Option.some.inj hv).symm, by decide⟩
    have F3' := F2.trans F3
    refine ⟨_, rfl, by omega, by omega, ?_⟩
    refine for_range (n := m) (fun i σ H' => ∃ (z : Str) (v4 : Option V), σ = [some (.ref b), some (.int n), some (.str abc), some (.str z), v4, none, none, none, none] ∧ z.length = i ∧ (∀ q ∈ z.cps.toList, q ∈ abc.cps.toList) ∧ Fr H H' ∧ BagAt H' b c)
      ⟨"", none, rfl, rfl, (by intro q hq; cases hq), F3', B3⟩ ?_ ?_
    · rintro i σ H4 hi ⟨z, v4, rfl, hz, hq, F4, B4⟩
      refine ⟨_, rfl, _, rfl, _, rfl, _, _, _, rfl, B4, .inr ⟨_, rfl, by decide +kernel, by decide +kernel, fun q H5 hq5 F5 B5 => ?_⟩⟩
      have hz1 : (z ++ (⟨#[q]⟩ : Str)).length = i + 1 := by
        show (z.cps ++ #[q]).size = i + 1
        rw [Array.size_append]
        show z.length + 1 = i + 1
        rw [hz]
      refine ⟨_, _, rfl, rfl, Nat.le_trans (show z.length + 1 ≤ 5 by omega) (by decide), ?_⟩
      refine ⟨z ++ ⟨#[q]⟩, _, rfl, hz1, fun r hr => ?_, F4.trans F5, B5⟩
      have hr : r ∈ (z.cps ++ #[q]).toList := hr
      rw [Array.toList_append] at hr
      rcases List.mem_append.mp hr with h | h
      · exact hq r h
      · have e : r = q := by simpa using h
        rw [e]
        exact hq5
    · rintro σ H4 ⟨z, v4, rfl, hz, hq, F4, B4⟩
      have hz4 : z.length ≤ 4 := by omega
      have hzl : z.length ≤ sizeLine := Nat.le_trans hz4 (by decide)
      -- at, first, by
      refine ⟨_, rfl, _, rfl, _, rfl, hzl, _, _, rfl, rfl, _, _, _, rfl, B4, by omega, by omega, fun a H5 F5 B5 ha0 ha1 => ?_⟩
      refine ⟨_, rfl, _, _, _, rfl, B5, by decide, by decide, fun fi H6 F6 B6 hf0 hf1 => ?_⟩
      refine ⟨_, rfl, by show 8 ≤ sizeLine; decide, fun l2 hl2 => ?_⟩
      have F7 := ((F4.trans F5).trans F6).trans ((Fr.refl _).new (o := .lst [.int 1, .int 3, .int 5, .int 7, .int 9, .int 11, .int 15, .int 25]) hl2)
      have B7 := B6.new (o := .lst [.int 1, .int 3, .int 5, .int 7, .int 9, .int 11, .int 15, .int 25]) hl2
      refine ⟨_, _, _, rfl, B7, .inl ⟨_, _, rfl, upd_same, nb_int [1, 3, 5, 7, 9, 11, 15, 25], by decide, by decide, fun j v H8 hv F8 B8 => ?_⟩⟩
      obtain ⟨bs, rfl, hbs⟩ : ∃ bs : Int, v = V.int bs ∧ Step bs := by
        match j, hv with
        | 0, hv => exact ⟨1, (Option.some.inj hv).symm, by unfold Step; omega⟩
        | 1, hv => exact ⟨3, (Option.some.inj hv).symm, by unfold Step; omega⟩
        | 2, hv => exact ⟨5, (Option.some.inj hv).symm, by unfold Step; omega⟩
        | 3, hv => exact ⟨7, (Option.some.inj hv).symm, by unfold Step; omega⟩
        | 4, hv => exact ⟨9, (Option.some.inj hv).symm, by unfold Step; omega⟩
        | 5, hv => exact ⟨11, (Option.some.inj hv).symm, by unfold Step; omega⟩
        | 6, hv => exact ⟨15, (Option.some.inj hv).symm, by unfold Step; omega⟩
        | 7, hv => exact ⟨25, (Option.some.inj hv).symm, by unfold Step; omega⟩
      refine ⟨by show 3 ≤ sizeLine; decide, fun t2 ht2 => ?_⟩
      have F9 := (F7.trans F8).trans ((Fr.refl _).new (o := .tup [.int a, .int fi, .int bs]) ht2)
      have B9 := B8.new (o := .tup [.int a, .int fi, .int bs]) ht2
      refine ⟨_, _, rfl, SqT.of upd_same, rfl, _, _, rfl, _, _, rfl, _, _, rfl, rfl, ?_⟩
      -- more
      refine ⟨_, rfl, by show 3 ≤ sizeLine; decide, fun l3 hl3 => ?_⟩
      have F10 := F9.trans ((Fr.refl _).new (o := .lst [.str "", .str "z", .str "z"]) hl3)
      have B10 := B9.new (o := .lst [.str "", .str "z", .str "z"]) hl3
      refine ⟨_, _, _, rfl, B10, .inl ⟨_, _, rfl, upd_same, nb_str ["", "z", "z"], by decide, by decide, fun j2 v2 H11 hv2 F11 B11 => ?_⟩⟩
      obtain ⟨M, rfl, hM1, hM2⟩ : ∃ M : Str, v2 = V.str M ∧ M.length ≤ 1 ∧ ∀ q ∈ M.cps.toList, q ∈ abc.cps.toList := by
        match j2, hv2 with
        | 0, hv => exact ⟨"", (Option.some.inj hv).symm, by decide, by decide⟩
        | 1, hv => exact ⟨"z", (Option.some.inj hv).symm, by decide, by decide +kernel⟩
        | 2, hv => exact ⟨"z", (Option.some.inj hv).symm, by decide, by decide +kernel⟩
      have F12 := F10.trans F11
      have hal : a.toNat ≤ z.cps.toList.length := by
        have : z.cps.toList.length = z.length := by simp [Str.length]
        omega
      refine ⟨_, rfl, _, rfl, by omega, by omega, fun D hD => ?_⟩
      refine lc_range (lo := 0) (n := n) (fun i H' => Fr H H' ∧ BagAt H' b c ∧ H' D = some (.lst (((List.range i).map (nameS z.cps.toList M.cps.toList a.toNat fi bs)).map V.str))) ⟨F12.trans ((Fr.refl _).new hD), B11.new hD, upd_same⟩ ?_ ?_
      · rintro i H13 hi ⟨F13, B13, hL⟩
        refine ⟨rfl, ?_⟩
        refine ⟨_, rfl, _, rfl, _, rfl, _, rfl, hzl, ?_⟩
        have hbb : -(2 ^ 64) < bs ∧ bs < 2 ^ 64 := by
          unfold Step at hbs
          omega
        refine ⟨_, rfl, _, rfl, _, rfl, _, rfl, _, _, rfl, rfl, .inl hbb, _, _, rfl, rfl, .inl ⟨_, rfl, _, _, rfl, rfl, by show (0 : Int) < 26; decide, ?_⟩⟩
        have hlt : atI abc.cps.toList ((fi + bs * (0 + (i : Nat))) % 26) = some (letterAt fi bs i) := by
          refine atI_int (by omega) ?_
          unfold letterAt
          rw [Int.zero_add, List.getD_eq_getElem?_getD, List.getElem?_eq_getElem (by rw [abc_len]; omega)]
          rfl
        have e1 : cutS z none (some a) = ⟨(z.cps.toList.take a.toNat).toArray⟩ := by
          unfold cutS
          have ea : (a : Int) = ((a.toNat : Nat) : Int) := (Int.toNat_of_nonneg ha0).symm
          have hzz : z.cps.toList.length = z.length := by simp [Str.length]
          rw [ea, HT.sIx_none, HT.sIx_nat, Nat.min_eq_left (by omega), List.drop_zero, Nat.sub_zero]
          rfl
        have e2 : cutS z (some a) none = ⟨(z.cps.toList.drop a.toNat).toArray⟩ := by
          unfold cutS
          have ea : (a : Int) = ((a.toNat : Nat) : Int) := (Int.toNat_of_nonneg ha0).symm
          have hzz : z.cps.toList.length = z.length := by simp [Str.length]
          rw [ea, HT.sIx_none, HT.sIx_nat, Nat.min_eq_left (by omega), List.take_of_length_le (by rw [List.length_drop, hzz]; exact Nat.le_refl _)]
          rfl
        have l1 : (cutS z none (some a)).length ≤ 4 := Nat.le_trans (cutS_length _ _ _) hz4
        have l2 : (cutS z (some a) none).length ≤ 4 := Nat.le_trans (cutS_length _ _ _) hz4
        have ll : ∀ x y : Str, (x ++ y).length = x.length + y.length := fun x y => Array.size_append
        refine ⟨_, _, _, rfl, rfl, by decide +kernel, hlt, _, _, rfl, rfl, Nat.le_trans (show _ + 1 ≤ 5 by omega) (by decide), ?_⟩
        refine ⟨_, rfl, _, rfl, _, rfl, _, rfl, hzl, _, _, rfl, rfl, ?_, ?_⟩
        · rw [ll]
          exact Nat.le_trans (show _ + 1 + _ ≤ 9 by omega) (by decide)
        refine ⟨_, rfl, _, rfl, _, _, rfl, rfl, by show (0 : Int) < 2; decide, rfl, ?_⟩
        have odd : (V.int ((0 + ((i : Nat) : Int)) % 2) = V.int 1) ↔ i % 2 = 1 := by
          constructor
          · intro h
            have := V.int.inj h
            omega
          · intro h
            congr 1
            omega
        refine .inr ⟨_, rfl, ?_⟩
        have fin : ∀ m : Int, MulOk M m → (Txt.mul M m).length ≤ 1 → (Txt.mul M m).cps.toList = (if i % 2 = 1 then M.cps.toList else []) →
            rMulS (.str M) (.int m) H13 fun v H14 => ∃ i1 j1, V.str (cutS z none (some a) ++ ⟨#[letterAt fi bs i]⟩ ++ cutS z (some a) none) = .str i1 ∧ v = .str j1 ∧ i1.length + j1.length ≤ sizeLine ∧
              ∃ acc, H14 D = some (.lst acc) ∧ acc.length < sizeLine ∧ Fr H (upd H14 D (.lst (acc ++ [.str (i1 ++ j1)]))) ∧ BagAt (upd H14 D (.lst (acc ++ [.str (i1 ++ j1)]))) b c ∧ upd H14 D (.lst (acc ++ [.str (i1 ++ j1)])) D = some (.lst (((List.range (i + 1)).map (nameS z.cps.toList M.cps.toList a.toNat fi bs)).map V.str)) := by
          intro m ok hl1 hc
          refine ⟨_, _, rfl, rfl, ok, _, _, rfl, rfl, ?_, ?_⟩
          · rw [ll, ll]
            exact Nat.le_trans (show _ + 1 + _ + _ ≤ 10 by omega) (by decide)
          · refine ⟨_, hL, ?_, F13.new (F12.dom D hD), B13.upd (B11.ne hD).1 (B11.ne hD).2, ?_⟩
            · simp only [List.length_map, List.length_range]
              exact Nat.lt_of_le_of_lt (show i ≤ 26 by omega) (by decide)
            · rw [upd_same, List.range_succ, List.map_append, List.map_append]
              congr 4
              refine congrArg V.str (str_ext ?_)
              show (((cutS z none (some a)).cps ++ #[letterAt fi bs i]) ++ (cutS z (some a) none).cps ++ (Txt.mul M m).cps).toList = (nameL _ _ _ _ _ _).toArray.toList
              rw [Array.toList_append, Array.toList_append, Array.toList_append, hc, e1, e2]
              rfl
        by_cases ho : i % 2 = 1
        · rw [decide_eq_true (odd.mpr ho)]
          obtain ⟨h1, h2⟩ := mul_one M
          exact fin 1 h1 (by rw [h2]; exact hM1) (by rw [h2, if_pos ho])
        · rw [decide_eq_false (fun h => ho (odd.mp h))]
          obtain ⟨h1, h2⟩ := mul_zero M
          exact fin 0 h1 (by rw [h2]; decide) (by rw [h2, if_neg ho]; rfl)
      · rintro H13 ⟨F13, B13, hL⟩
        refine k D _ H13 F13 B13 (F12.dom D hD) hL (by simp) (names_nd hal hbs hn) fun zz hzz => ?_
        obtain ⟨j3, _, rfl⟩ := List.mem_map.mp hzz
        refine nameS_ok ?_ ?_ hq hM2
        · have : z.cps.toList.length = z.length := by simp [Str.length]
          omega
        · have : M.cps.toList.length = M.length := by simp [Str.length]
          omega
end
end Dr

set_option maxHeartbeats 4000000
/-! Data compared with == and !=. -/
namespace Dr
open PySem PySem.Spec PyProof.Rows L2
structure Sd (k : Nat) (d : PyData) : Prop where
  lay : d.canLay0 = true
  dep : d.depth ≤ k
theorem abc_ok : ∀ c ∈ abc.cps.toList, c < 1114112 := by decide +kernel
theorem NameOk.sd {z : Str} (h : NameOk z) (k : Nat) : Sd k (.str z) := by
  refine ⟨?_, Nat.zero_le _⟩
  show PyData.strOk z = true
  unfold PyData.strOk
  rw [Array.all_eq_true]
  intro i hi
  exact decide_eq_true (abc_ok _ (h.abc _ (by
    rw [← Array.mem_toList_iff.symm]
    exact Array.getElem_mem hi)))
theorem Sd.int (i : Int) (k : Nat) : Sd k (.int i) := ⟨rfl, Nat.zero_le _⟩
theorem sd_all {k : Nat} : ∀ {ds : List PyData}, (∀ d ∈ ds, Sd k d) → PyData.canLayAll0 ds = true ∧ PyData.depthAll ds ≤ k
  | [], _ => ⟨rfl, Nat.zero_le _⟩
  | d :: ds, h => by
    have h1 := h d List.mem_cons_self
    have h2 := sd_all (ds := ds) fun x hx => h x (List.mem_cons_of_mem _ hx)
    refine ⟨?_, ?_⟩
    · show (PyData.canLay0 d && PyData.canLayAll0 ds) = true
      rw [h1.lay, h2.1]
      rfl
    · show max (PyData.depth d) (PyData.depthAll ds) ≤ k
      have := h1.dep
      omega
theorem Sd.list {k : Nat} {ds : List PyData} (h : ∀ d ∈ ds, Sd k d) : Sd (k + 1) (.list ds) := by
  have h2 := sd_all h
  exact ⟨h2.1, Nat.succ_le_succ h2.2⟩
theorem Sd.tup {k : Nat} {ds : List PyData} (h : ∀ d ∈ ds, Sd k d) : Sd (k + 1) (.tuple ds) := by
  have h2 := sd_all h
  exact ⟨h2.1, Nat.succ_le_succ h2.2⟩
theorem Sd.shaped {k : Nat} {d : PyData} (h : Sd k d) (hk : k ≤ 64) : SeqAt.shaped d = true := by
  unfold SeqAt.shaped
  rw [h.lay, decide_eq_true (Nat.le_trans h.dep hk)]
  rfl
theorem Sd.refl {k : Nat} {d : PyData} (h : Sd k d) : PyData.eqv d d = true := SeqAt.eqv_refl d h.lay
theorem sd_strs {xs : List Str} (h : ∀ z ∈ xs, NameOk z) (k : Nat) : ∀ d ∈ xs.map PyData.str, Sd k d := fun d hd => by
  obtain ⟨z, hz, rfl⟩ := List.mem_map.mp hd
  exact (h z hz).sd k
theorem dp_strs {K : PySem.W.Frag} {H : Hp} : ∀ xs : List Str, DpAll K H (xs.map V.str) (xs.map PyData.str)
  | [] => .nil
  | x :: xs => .cons (.str x) (dp_strs xs)
theorem dp_refs {K : PySem.W.Frag} {H : Hp} {α : Type} {R : Addr → α → Prop} {d : α → PyData} (h : ∀ t a, R t a → Dp K H (.ref t) (d a)) : ∀ {ts : List Addr} {xs : List α}, Paired R ts xs → DpAll K H (ts.map V.ref) (xs.map d)
  | _, _, .nil => .nil
  | _, _, .cons r t => .cons (h _ _ r) (dp_refs h t)
theorem eqv_nil (ds : List PyData) : PyData.eqv (.list ds) (.list []) = ds.isEmpty := by
  rw [PyData.eqv]
  cases ds <;> rfl
theorem nbM {xs : List V} (h : ∀ v ∈ xs, ∀ i, v ≠ .int i) : ¬ BagO (.lst xs) := nb1 fun v hv i => h v (List.mem_of_getElem? hv) i
/-! ### prices that are put -/
def putP (pr : List (Str × Int)) (z : Str) (i : Int) : List (Str × Int) := if pr.any (fun e => decide (e.1 = z)) then pr.map (fun e => if e.1 = z then (e.1, i) else e) else pr ++ [(z, i)]
theorem putP_K (pr : List (Str × Int)) (z : Str) (i : Int) : putK (prK pr) (Sum.inr z) (V.int i) = prK (putP pr z i) := by
  have e1 : ((prK pr).any fun kv => decide (kv.1 = Sum.inr z)) = pr.any (fun e => decide (e.1 = z)) := by
    unfold prK
    rw [List.any_map]
    congr 1
    funext e
    show decide ((Sum.inr e.1 : Key) = Sum.inr z) = decide (e.1 = z)
    by_cases q : e.1 = z
    · rw [decide_eq_true q, decide_eq_true (congrArg Sum.inr q)]
    · rw [decide_eq_false q, decide_eq_false fun h => q (Sum.inr.inj h)]
  unfold putK putP
  rw [e1]
  by_cases c : pr.any (fun e => decide (e.1 = z)) = true
  · rw [if_pos c, if_pos c]
    unfold prK
    rw [List.map_map, List.map_map]
    refine List.map_congr_left fun e _ => ?_
    show (if (Sum.inr e.1 : Key) = Sum.inr z then _ else _) = _
    by_cases q : e.1 = z
    · rw [if_pos (congrArg Sum.inr q)]
      show _ = (fun e => (Sum.inr e.1, V.int e.2)) (if e.1 = z then (e.1, i) else e)
      rw [if_pos q]
    · rw [if_neg fun h => q (Sum.inr.inj h)]
      show _ = (fun e => (Sum.inr e.1, V.int e.2)) (if e.1 = z then (e.1, i) else e)
      rw [if_neg q]
  · rw [if_neg c, if_neg c]
    unfold prK
    rw [List.map_append]
    rfl
theorem putP_mem {pr : List (Str × Int)} {z : Str} {i : Int} {e : Str × Int} (h : e ∈ putP pr z i) : e ∈ pr ∨ e = (z, i) := by
  unfold putP at h
  split at h
  · obtain ⟨x, hx, rfl⟩ := List.mem_map.mp h
    by_cases q : x.1 = z
    · rw [if_pos q, q]
      exact .inr rfl
    · rw [if_neg q]
      exact .inl hx
  · rcases List.mem_append.mp h with h | h
    · exact .inl h
    · exact .inr (by simpa using h)
theorem putP_nd {pr : List (Str × Int)} {z : Str} {i : Int} (h : (pr.map (·.1)).Nodup) : ((putP pr z i).map (·.1)).Nodup := by
  unfold putP
  split
  · have e : (pr.map (fun e => if e.1 = z then (e.1, i) else e)).map (·.1) = pr.map (·.1) := by
      rw [List.map_map]
      refine List.map_congr_left fun e _ => ?_
      show (if e.1 = z then (e.1, i) else e).1 = e.1
      split <;> rfl
    rw [e]
    exact h
  · rename_i c
    rw [List.map_append]
    refine List.nodup_append.mpr ⟨h, by simp, ?_⟩
    intro a ha b hb e
    obtain ⟨x, hx, rfl⟩ := List.mem_map.mp ha
    have hb : b = z := by simpa using hb
    exact c (List.any_eq_true.mpr ⟨x, hx, decide_eq_true (e.trans hb)⟩)
theorem putP_len {pr : List (Str × Int)} {z : Str} {i : Int} : (putP pr z i).length ≤ pr.length + 1 := by
  unfold putP
  split
  · rw [List.length_map]
    omega
  · rw [List.length_append]
    exact Nat.le_refl _
/-! ### sorted lots -/
theorem up_of {l : List Str} (h : l.Pairwise (fun a b => slt a b = true)) : ∀ i, i + 1 < l.length → slt (l.getD i "") (l.getD (i + 1) "") = true := fun i hi => by
  rw [List.getD_eq_getElem?_getD, List.getD_eq_getElem?_getD, List.getElem?_eq_getElem (show i < l.length by omega), List.getElem?_eq_getElem hi]
  exact List.pairwise_iff_getElem.mp h i (i + 1) (by omega) hi (by omega)
end Dr

set_option maxHeartbeats 4000000
/-! Lots, mixing, prices. -/
namespace Dr
open PySem PySem.Spec PyProof.Rows L2
section
variable {P : Program} {w : World} {K : PySem.W.Frag} {mg : Str → Option Value} {base : Heap}
abbrev s_l_lot : Stmt := topS 30
theorem sc_l_lot : FnScope ["_law_bag_here", "_law_places", "_law_found", "_law_place"] ["_law_bag_here", "_law_places"] (defScope s_l_lot) := ⟨rfl, rfl, rfl, by decide +kernel, rfl, by decide +kernel, by decide +kernel⟩
def sp_llot : Sp := fun vs H Q _ => ∃ (b c p : Addr) (zs : List Str), vs = [.ref b, .ref p] ∧ BagAt H b c ∧ H p = some (.lst (zs.map V.str)) ∧ zs ≠ [] ∧ zs.Nodup ∧ zs.length ≤ 12 ∧ (∀ z ∈ zs, NameOk z) ∧ ∀ (t : Addr) (l : List Str) (H' : Hp), Fr H H' → BagAt H' b c → H' t = some (.tup (l.map V.str)) → LotOk l → Q (.ref t) H'
theorem ok_llot {f : Addr} {fd : FuncData} (F : Fun K "_law_lot" "_law_lot" s_l_lot f fd) (T : Tx K mg) (A__law_draw : Fn P w K mg base 1 "_law_draw" ["_law_bag_here", "_law_many"] sp_draw) (A__law_of : Fn P w K mg base 2 "_law_of" ["_law_bag_here", "_law_some"] sp_of) : FnOk P w K mg base CX0 3 f fd ["_law_bag_here", "_law_places"] sp_llot := by
  refine F.ok sc_l_lot (fun vs H Q E h => ?_) (fun cdv A outer s H vs Q E hr h => ?_)
  · obtain ⟨b, c, p, zs, rfl, _⟩ := h
    rfl
  · obtain ⟨b, c, p, zs, rfl, B, hp, hne, hnd, h12, hok, k⟩ := h
    -- slots 0:_law_bag_here 1:_law_places 2:_law_found 3:_law_place
    refine ⟨_, (pss_cons (ps_set (i := 2) sc_l_lot.nd rfl (Or.inl rfl) (pe_lst pa_nil))
    (pss_cons (ps_for PassesOwn.never rfl (pi_list (pe_callB (cr_sortedS : CallR _ _ (rSortedS K)) (by rfl) T.sorted_ (by decide +kernel) (pa_cons (pv 1) pa_nil)) : PI _ _ _ (iList K _)) (pg_name (i := 3) sc_l_lot.nd rfl (Or.inl rfl))
      (pss_one (ps_if (pt_cmpR op_eq (pe_call A__law_draw.G (hr.mono (by decide)) (by rfl) A__law_draw.m A__law_draw.kp A__law_draw.b A__law_draw.v pass0 (pa_cons (pv 0) (pa_cons (pe_int) pa_nil))) (pe_int) (nomark _))
        (pss_one (ps_expr (pe_bm PySem.F.plainAttrs_list PySem.F.slot_list_append PySem.F.type_list_append mt_append (pv 2) (pa_cons (pv 3) pa_nil)))) pss_nil)))
    (pss_one (ps_ret (pe_ifExp (pt_cmpR (op_neD hr.units : OpR _ _ (rNeD K)) (pv 2) (pe_lst pa_nil) (nomark _)) (pe_callTy (call_tuple_of : CallR _ _ (rTupOf K)) (by rfl) T.tuple_ (by decide +kernel) (pa_cons (pv 2) pa_nil)) (pe_tup (pa_cons (pe_call A__law_of.G (hr.mono (by decide)) (by rfl) A__law_of.m A__law_of.kp A__law_of.b A__law_of.v pass0 (pa_cons (pv 0) (pa_cons (pv 1) pa_nil))) pa_nil))))))), ?_⟩
    refine ⟨Nat.zero_le _, fun fo hfo => ?_⟩
    have F1 : Fr H (upd H fo (.lst [])) := (Fr.refl H).new hfo
    have B1 := B.new (o := .lst []) hfo
    have hfb := B.ne hfo
    have hp1 := F1.keep _ _ hp (nb_str zs)
    refine ⟨_, rfl, _, zs, rfl, SqL.of hp1, by omega, fun ys q hperm hsort hq => ?_⟩
    have F2 := F1.trans ((Fr.refl _).new (o := .lst (ys.map V.str)) hq)
    have B2 := B1.new (o := .lst (ys.map V.str)) hq
    have hstr : ys.Pairwise (fun a b => slt a b = true) := strict_of ys (sortedS_pair ys hsort) (hperm.nodup_iff.mpr hnd)
    have hfo2 : upd (upd H fo (.lst [])) q (.lst (ys.map V.str)) fo = some (.lst (([] : List Str).map V.str)) := by
      rw [upd_ne (ne_of_none upd_same hq), upd_same]
      rfl
    refine ⟨_, rfl, ⟨_, SqL.of upd_same⟩, ?_⟩
    refine for_list (xs := ys.map V.str) (fun i σ H' => ∃ (fs : List Str) (v : Option V), σ = [some (.ref b), some (.ref p), some (.ref fo), v] ∧ fs.Sublist (ys.take i) ∧ Fr H H' ∧ BagAt H' b c ∧ H' fo = some (.lst (fs.map V.str)) ∧ H' q = some (.lst (ys.map V.str)))
      ⟨[], none, rfl, List.nil_sublist _, F2, B2, hfo2, upd_same⟩ (fun i σ H' _ ⟨_, _, _, _, _, _, _, h⟩ => SqL.of h) ?_ ?_
    · rintro i x σ H3 hi ⟨fs, v, rfl, hs, F3, B3, hf3, hq3⟩
      obtain ⟨z, hz, rfl⟩ := get_map hi
      have hz' : fs.Sublist (ys.take (i + 1)) := by
        rw [take_snoc hz]
        exact hs.trans (List.sublist_append_left _ _)
      refine ⟨_, rfl, _, _, _, rfl, B3, by decide, by decide, fun d H4 F4 B4 hd0 hd1 => ?_⟩
      have hf4 := F4.keep _ _ hf3 (nb_str fs)
      have hq4 := F4.keep _ _ hq3 (nb_str ys)
      refine ⟨rfl, _, rfl, ?_⟩
      refine ite2 (fun _ => ?_) (fun _ => ⟨fs, _, rfl, hz', F3.trans F4, B4, hf4, hq4⟩)
      refine ⟨_, rfl, .inl ⟨rfl, _, SqL.of hf4⟩, _, rfl, _, _, _, rfl, rfl, hf4, ?_, ?_⟩
      · have h1 := hs.length_le
        rw [List.length_take] at h1
        rw [List.length_map]
        have h2 := hperm.length_eq
        exact Nat.lt_of_le_of_lt (show fs.length ≤ 12 by omega) (by decide)
      · refine ⟨fs ++ [z], _, rfl, ?_, (F3.trans F4).new hfo, B4.upd hfb.1 hfb.2, ?_, ?_⟩
        · rw [take_snoc hz]
          exact hs.append (List.Sublist.refl _)
        · rw [upd_same, List.map_append]
          rfl
        · rw [upd_ne (ne_of_none upd_same hq).symm]
          exact hq4
    · rintro σ H3 ⟨fs, v, rfl, hs, F3, B3, hf3, hq3⟩
      have hsub : fs.Sublist ys := by
        rw [List.length_map, List.take_length] at hs
        exact hs
      have hfok : ∀ z ∈ fs, NameOk z := fun z hz => hok z (hperm.mem_iff.mp (hsub.subset hz))
      refine ⟨_, rfl, Nat.zero_le _, fun l0 hl0 => ?_⟩
      have F4 := F3.trans ((Fr.refl _).new (o := .lst []) hl0)
      have B4 := B3.new (o := .lst []) hl0
      have hf4 : upd H3 l0 (.lst []) fo = some (.lst (fs.map V.str)) := same_upd hl0 _ _ hf3
      refine ⟨_, _, .lst (SqL.of hf4) (dp_strs fs), .lst (SqL.of upd_same) .nil, (Sd.list (sd_strs hfok 0)).shaped (by decide), rfl, _, rfl, ?_⟩
      rw [eqv_nil]
      cases hfs : fs with
      | cons z r =>
        refine iteT ?_
        refine ⟨_, rfl, _, _, rfl, .inl ⟨SqL.of hf4, fun t ht => ?_⟩⟩
        refine k t fs _ (F4.trans ((Fr.refl _).new ht)) (B4.new ht) upd_same ⟨?_, ?_, hfok, up_of (hstr.sublist hsub)⟩
        · rw [hfs]
          simp
        · have := hsub.length_le
          have := hperm.length_eq
          omega
      | nil =>
        refine iteF ?_
        have hp4 : upd H3 l0 (.lst []) p = some (.lst (zs.map V.str)) := same_upd hl0 _ _ (F3.keep _ _ hp (nb_str zs))
        refine ⟨_, rfl, _, rfl, _, _, _, rfl, B4, .inl ⟨_, _, rfl, hp4, nb_str zs, ?_, ?_, fun j v H5 hv F5 B5 => ?_⟩⟩
        · rw [List.length_map]
          exact List.length_pos_iff.mpr hne
        · rw [List.length_map]
          omega
        obtain ⟨z, hz, rfl⟩ := get_map hv
        have hzok := hok z (List.mem_of_getElem? hz)
        refine ⟨by show 1 ≤ sizeLine; decide, fun t ht => ?_⟩
        refine k t [z] _ ((F4.trans F5).trans ((Fr.refl _).new ht)) (B5.new ht) upd_same ⟨by simp, by simp, fun y hy => ?_, fun i hi => ?_⟩
        · have : y = z := by simpa using hy
          rw [this]
          exact hzok
        · simp at hi
abbrev s_l_mixed : Stmt := topS 31
theorem sc_l_mixed : FnScope ["_law_bag_here", "_law_some", "_law_found", "_law_item"] ["_law_bag_here", "_law_some"] (defScope s_l_mixed) := ⟨rfl, rfl, rfl, by decide +kernel, rfl, by decide +kernel, by decide +kernel⟩
def sp_mixed : Sp := fun vs H Q _ => ∃ (b c p : Addr) (xs : List V), vs = [.ref b, .ref p] ∧ BagAt H b c ∧ H p = some (.lst xs) ∧ (∀ v ∈ xs, ∀ i, v ≠ .int i) ∧ xs.length ≤ 1000 ∧ ∀ (q : Addr) (ys : List V) (H' : Hp), Fr H H' → BagAt H' b c → H q = none → H' q = some (.lst ys) → ys.Perm xs → Q (.ref q) H'
theorem ok_mixed {f : Addr} {fd : FuncData} (F : Fun K "_law_mixed" "_law_mixed" s_l_mixed f fd) (T : Tx K mg) (A__law_draw : Fn P w K mg base 1 "_law_draw" ["_law_bag_here", "_law_many"] sp_draw) : FnOk P w K mg base CX0 2 f fd ["_law_bag_here", "_law_some"] sp_mixed := by
  refine F.ok sc_l_mixed (fun vs H Q E h => ?_) (fun cdv A outer s H vs Q E hr h => ?_)
  · obtain ⟨b, c, p, zs, rfl, _⟩ := h
    rfl
  · obtain ⟨b, c, p, xs, rfl, B, hp, hni, hlen, k⟩ := h
    -- slots 0:_law_bag_here 1:_law_some 2:_law_found 3:_law_item
    refine ⟨_, (pss_cons (ps_set (i := 2) sc_l_mixed.nd rfl (Or.inl rfl) (pe_lst pa_nil))
    (pss_cons (ps_for PassesOwn.never rfl (pi_list (pv 1) : PI _ _ _ (iList K _)) (pg_name (i := 3) sc_l_mixed.nd rfl (Or.inl rfl))
      (pss_one (ps_expr (pe_bm PySem.F.plainAttrs_list PySem.F.slot_list_insert PySem.F.type_list_insert mt_insert (pv 2) (pa_cons (pe_call A__law_draw.G (hr.mono (by decide)) (by rfl) A__law_draw.m A__law_draw.kp A__law_draw.b A__law_draw.v pass0 (pa_cons (pv 0) (pa_cons (pe_op op_add (pe_callB (call_len_seq : CallR _ _ (rLenS K)) (by rfl) T.len_ PySem.boot_len (pa_cons (pv 2) pa_nil)) (pe_int)) pa_nil))) (pa_cons (pv 3) pa_nil))))))
    (pss_one (ps_ret (pv 2))))), ?_⟩
    refine ⟨Nat.zero_le _, fun fo hfo => ?_⟩
    have F1 : Fr H (upd H fo (.lst [])) := (Fr.refl H).new hfo
    have B1 := B.new (o := .lst []) hfo
    have hfb := B.ne hfo
    have hp1 := F1.keep _ _ hp (nbM hni)
    refine ⟨_, rfl, _, rfl, ⟨_, SqL.of hp1⟩, ?_⟩
    refine for_list (xs := xs) (fun i σ H' => ∃ (fs : List V) (v : Option V), σ = [some (.ref b), some (.ref p), some (.ref fo), v] ∧ fs.Perm (xs.take i) ∧ Fr H H' ∧ BagAt H' b c ∧ H' fo = some (.lst fs))
      ⟨[], none, rfl, .refl _, F1, B1, upd_same⟩ (fun i σ H' _ ⟨_, _, _, _, F2, _⟩ => SqL.of (F2.keep _ _ hp (nbM hni))) ?_ ?_
    · rintro i x σ H3 hi ⟨fs, v, rfl, hs, F3, B3, hf3⟩
      have hfni : ∀ v ∈ fs, ∀ i, v ≠ .int i := fun v hv => hni v (List.mem_of_mem_take (hs.mem_iff.mp hv))
      have hfl : fs.length ≤ 1000 := by
        rw [hs.length_eq, List.length_take]
        omega
      refine ⟨_, rfl, .inl ⟨rfl, _, SqL.of hf3⟩, ?_⟩
      refine ⟨_, rfl, _, rfl, _, _, rfl, .inl (SqL.of hf3), _, _, rfl, rfl, _, _, _, rfl, B3, by omega, by omega, fun d H4 F4 B4 hd0 hd1 => ?_⟩
      have hf4 := F4.keep _ _ hf3 (nbM hfni)
      refine ⟨_, rfl, ?_⟩
      refine ⟨_, _, _, _, rfl, rfl, hf4, Nat.lt_of_le_of_lt hfl (by decide), hd0, by omega, ?_⟩
      refine ⟨_, _, rfl, ?_, (F3.trans F4).new hfo, B4.upd hfb.1 hfb.2, upd_same⟩
      rw [take_snoc hi]
      refine List.Perm.trans ?_ (hs.append_right [x])
      have e : fs ++ [x] = fs.take d.toNat ++ (fs.drop d.toNat ++ [x]) := by
        rw [← List.append_assoc, List.take_append_drop]
      rw [e, List.append_assoc]
      exact List.Perm.append_left _ (List.perm_append_comm)
    · rintro σ H3 ⟨fs, v, rfl, hs, F3, B3, hf3⟩
      rw [List.take_length] at hs
      exact ⟨_, rfl, k fo fs H3 F3 B3 hfo hf3 hs⟩
abbrev s_l_prices : Stmt := topS 32
theorem sc_l_prices : FnScope ["_law_bag_here", "_law_places", "_law_top", "_law_found", "_law_place"] ["_law_bag_here", "_law_places", "_law_top"] (defScope s_l_prices) := ⟨rfl, rfl, rfl, by decide +kernel, rfl, by decide +kernel, by decide +kernel⟩
def sp_lprices : Sp := fun vs H Q _ => ∃ (b c p : Addr) (zs : List Str) (top : Int), vs = [.ref b, .ref p, .int top] ∧ BagAt H b c ∧ H p = some (.lst (zs.map V.str)) ∧ zs.length ≤ 100 ∧ (∀ z ∈ zs, NameOk z) ∧ 0 ≤ top ∧ top ≤ 100000000000 ∧ ∀ (q : Addr) (pr : List (Str × Int)) (H' : Hp), Fr H H' → BagAt H' b c → H q = none → H' q = some (.dK (prK pr)) → (pr.map (·.1)).Nodup → (∀ e ∈ pr, NameOk e.1 ∧ 0 ≤ e.2) → pr.length ≤ 101 → Q (.ref q) H'
abbrev strang : Str := "strang"
theorem strang_ok : NameOk strang := ⟨by decide, by decide, by decide +kernel⟩
theorem ok_lprices {f : Addr} {fd : FuncData} (F : Fun K "_law_prices" "_law_prices" s_l_prices f fd) (T : Tx K mg) (A__law_draw : Fn P w K mg base 1 "_law_draw" ["_law_bag_here", "_law_many"] sp_draw) (A__law_of : Fn P w K mg base 2 "_law_of" ["_law_bag_here", "_law_some"] sp_of) (A__law_mixed : Fn P w K mg base 2 "_law_mixed" ["_law_bag_here", "_law_some"] sp_mixed) : FnOk P w K mg base CX0 3 f fd ["_law_bag_here", "_law_places", "_law_top"] sp_lprices := by
  refine F.ok sc_l_prices (fun vs H Q E h => ?_) (fun cdv A outer s H vs Q E hr h => ?_)
  · obtain ⟨b, c, p, zs, top, rfl, _⟩ := h
    rfl
  · obtain ⟨b, c, p, zs, top, rfl, B, hp, hlen, hok, ht0, ht1, k⟩ := h
    have hu := hu_of hr
    -- slots 0:_law_bag_here 1:_law_places 2:_law_top 3:_law_found 4:_law_place
    refine ⟨_, (pss_cons (ps_set (i := 3) sc_l_prices.nd rfl (Or.inl rfl) (pe_dnewK))
    (pss_cons (ps_for PassesOwn.never rfl (pi_list (pe_call A__law_mixed.G (hr.mono (by decide)) (by rfl) A__law_mixed.m A__law_mixed.kp A__law_mixed.b A__law_mixed.v pass0 (pa_cons (pv 0) (pa_cons (pe_op op_cat (pv 1) (pe_lst (pa_cons (pe_str) pa_nil))) pa_nil))) : PI _ _ _ (iList K _)) (pg_name (i := 4) sc_l_prices.nd rfl (Or.inl rfl))
      (pss_one (ps_if (pt_cmpR op_gt (pe_call A__law_draw.G (hr.mono (by decide)) (by rfl) A__law_draw.m A__law_draw.kp A__law_draw.b A__law_draw.v pass0 (pa_cons (pv 0) (pa_cons (pe_int) pa_nil))) (pe_int) (nomark _))
        (pss_one (ps_dput hu (pv 3) (pv 4) (pe_call A__law_of.G (hr.mono (by decide)) (by rfl) A__law_of.m A__law_of.kp A__law_of.b A__law_of.v pass0 (pa_cons (pv 0) (pa_cons (pe_lst (pa_cons (pe_int) (pa_cons (pv 2) (pa_cons (pe_call A__law_draw.G (hr.mono (by decide)) (by rfl) A__law_draw.m A__law_draw.kp A__law_draw.b A__law_draw.v pass0 (pa_cons (pv 0) (pa_cons (pe_op op_add (pv 2) (pe_int)) pa_nil))) (pa_cons (pe_call A__law_draw.G (hr.mono (by decide)) (by rfl) A__law_draw.m A__law_draw.kp A__law_draw.b A__law_draw.v pass0 (pa_cons (pv 0) (pa_cons (pe_op op_add (pv 2) (pe_int)) pa_nil))) pa_nil))))) pa_nil))) rfl)) pss_nil)))
    (pss_one (ps_ret (pv 3))))), ?_⟩
    intro fo hfo
    have F1 : Fr H (upd H fo (.dK [])) := (Fr.refl H).new hfo
    have B1 := B.new (o := .dK []) hfo
    have hfb := B.ne hfo
    have hp1 := F1.keep _ _ hp (nb_str zs)
    refine ⟨_, rfl, _, rfl, by show 1 ≤ sizeLine; decide, fun l1 hl1 => ?_⟩
    have F2 := F1.trans ((Fr.refl _).new (o := .lst [.str "strang"]) hl1)
    have B2 := B1.new (o := .lst [.str "strang"]) hl1
    have hp2 := F2.keep _ _ hp (nb_str zs)
    refine ⟨_, _, _, _, rfl, rfl, hp2, upd_same, ?_, fun l2 hl2 => ?_⟩
    · rw [List.length_map]
      exact Nat.le_trans (show zs.length + 1 ≤ 101 by omega) (by decide)
    have el : zs.map V.str ++ [V.str "strang"] = (zs ++ [strang]).map V.str := by
      rw [List.map_append]
      rfl
    rw [el]
    have F3 := F2.trans ((Fr.refl _).new (o := .lst ((zs ++ [strang]).map V.str)) hl2)
    have B3 := B2.new (o := .lst ((zs ++ [strang]).map V.str)) hl2
    have hf3 : upd (upd (upd H fo (.dK [])) l1 (.lst [.str "strang"])) l2 (.lst ((zs ++ [strang]).map V.str)) fo = some (.dK (prK [])) := by
      rw [upd_ne (ne_of_none (same_upd hl1 _ _ upd_same) hl2), upd_ne (ne_of_none upd_same hl1), upd_same]
      rfl
    have hall : ∀ z ∈ zs ++ [strang], NameOk z := fun z hz => by
      rcases List.mem_append.mp hz with h | h
      · exact hok z h
      · have e : z = strang := by simpa using h
        rw [e]
        exact strang_ok
    refine ⟨_, _, _, _, rfl, B3, upd_same, ?_, ?_, fun q ys H4 F4 B4 hq0 hq4 hperm => ?_⟩
    · intro v hv i e
      obtain ⟨z, _, rfl⟩ := List.mem_map.mp hv
      cases e
    · simp
      omega
    have hylen : ys.length ≤ 101 := by
      rw [hperm.length_eq]
      simp
      omega
    have hyni : ∀ v ∈ ys, ∃ z, v = V.str z ∧ NameOk z := fun v hv => by
      obtain ⟨z, hz, rfl⟩ := List.mem_map.mp (hperm.mem_iff.mp hv)
      exact ⟨z, rfl, hall z hz⟩
    have nbq : ¬ BagO (.lst ys) := nbM fun v hv i e => by
      obtain ⟨z, rfl, _⟩ := hyni v hv
      cases e
    refine ⟨_, rfl, ⟨_, SqL.of hq4⟩, ?_⟩
    refine for_list (xs := ys) (fun i σ H' => ∃ (pr : List (Str × Int)) (v : Option V), σ = [some (.ref b), some (.ref p), some (.int top), some (.ref fo), v] ∧ pr.length ≤ i ∧ (pr.map (·.1)).Nodup ∧ (∀ e ∈ pr, NameOk e.1 ∧ 0 ≤ e.2) ∧ Fr H H' ∧ BagAt H' b c ∧ H' fo = some (.dK (prK pr)) ∧ H' q = some (.lst ys))
      ⟨[], none, rfl, Nat.zero_le _, by simp, (by intro e he; cases he), F3.trans F4, B4, F4.keep _ _ hf3 (nb_dK _), hq4⟩ (fun i σ H' _ ⟨_, _, _, _, _, _, _, _, _, h⟩ => SqL.of h) ?_ ?_
    · rintro i x σ H5 hi ⟨pr, v, rfl, hpl, hnd, hpo, F5, B5, hf5, hq5⟩
      obtain ⟨z, rfl, hzok⟩ := hyni x (List.mem_of_getElem? hi)
      have hi' := (List.getElem?_eq_some_iff.mp hi).1
      refine ⟨_, rfl, _, _, _, rfl, B5, by decide, by decide, fun d H6 F6 B6 hd0 hd1 => ?_⟩
      refine ⟨_, _, rfl, rfl, _, rfl, ?_⟩
      refine ite2 (fun _ => ?_) (fun _ => ⟨pr, _, rfl, by omega, hnd, hpo, F5.trans F6, B6, F6.keep _ _ hf5 (nb_dK _), F6.keep _ _ hq5 nbq⟩)
      refine ⟨_, rfl, _, rfl, _, rfl, _, rfl, _, _, rfl, rfl, _, _, _, rfl, B6, by omega, by omega, fun d1 H7 F7 B7 hd10 hd11 => ?_⟩
      refine ⟨_, rfl, _, rfl, _, _, rfl, rfl, _, _, _, rfl, B7, by omega, by omega, fun d2 H8 F8 B8 hd20 hd21 => ?_⟩
      refine ⟨by show 4 ≤ sizeLine; decide, fun l3 hl3 => ?_⟩
      have F9 := (((F5.trans F6).trans F7).trans F8).trans ((Fr.refl _).new (o := .lst [.int 0, .int top, .int d1, .int d2]) hl3)
      have B9 := B8.new (o := .lst [.int 0, .int top, .int d1, .int d2]) hl3
      have F9' := ((F6.trans F7).trans F8).trans ((Fr.refl _).new (o := .lst [.int 0, .int top, .int d1, .int d2]) hl3)
      refine ⟨_, _, _, rfl, B9, .inl ⟨_, _, rfl, upd_same, nb_int [0, top, d1, d2], by simp, by simp, fun j v H10 hv F10 B10 => ?_⟩⟩
      obtain ⟨pi, rfl, hpi⟩ : ∃ pi : Int, v = V.int pi ∧ 0 ≤ pi := by
        match j, hv with
        | 0, hv => exact ⟨0, (Option.some.inj hv).symm, by decide⟩
        | 1, hv => exact ⟨top, (Option.some.inj hv).symm, ht0⟩
        | 2, hv => exact ⟨d1, (Option.some.inj hv).symm, hd10⟩
        | 3, hv => exact ⟨d2, (Option.some.inj hv).symm, hd20⟩
      have hf10 := F10.keep _ _ (F9'.keep _ _ hf5 (nb_dK _)) (nb_dK _)
      have hq10 := F10.keep _ _ (F9'.keep _ _ hq5 nbq) nbq
      refine ⟨_, rfl, _, rfl, _, _, rfl, DPut.k (k := Sum.inr z) hf10 ?_, ?_⟩
      · unfold prK
        rw [List.length_map]
        exact Nat.lt_of_le_of_lt (show pr.length ≤ 101 by omega) (by decide)
      · rw [putP_K]
        have hqf : q ≠ fo := fun e => by
          rw [e] at hq0
          rw [hf3] at hq0
          cases hq0
        refine ⟨putP pr z pi, _, rfl, Nat.le_trans putP_len (by omega), putP_nd hnd, fun e he => ?_, (F9.trans F10).new hfo, B10.upd hfb.1 hfb.2, upd_same, ?_⟩
        · rcases putP_mem he with h | rfl
          · exact hpo e h
          · exact ⟨hzok, hpi⟩
        · rw [upd_ne hqf]
          exact hq10
    · rintro σ H5 ⟨pr, v, rfl, hpl, hnd, hpo, F5, B5, hf5, hq5⟩
      exact ⟨_, rfl, k fo pr H5 F5 B5 hfo hf5 hnd hpo (by omega)⟩
end
end Dr

set_option maxHeartbeats 8000000
/-! Worlds, demands, some places. -/
namespace Dr
open PySem PySem.Spec PyProof.Rows L2
theorem cutA_take {α : Type} (xs : List α) (k : Nat) : cutA xs none (some (k : Int)) = xs.take k := by
  unfold cutA
  rw [HT.sIx_none, HT.sIx_nat, List.drop_zero, Nat.sub_zero]
  rcases Nat.le_total k xs.length with h | h
  · rw [Nat.min_eq_left h]
  · rw [Nat.min_eq_right h, List.take_of_length_le (Nat.le_refl _), List.take_of_length_le h]
theorem filter_len {z : Str} : ∀ {l : List Str}, l.Nodup → l.length ≤ (l.filter (fun x => !decide (x = z))).length + 1
  | [], _ => Nat.zero_le _
  | x :: r, h => by
    obtain ⟨h1, h2⟩ := List.nodup_cons.mp h
    by_cases e : x = z
    · have e2 : r.filter (fun x => !decide (x = z)) = r := by
        rw [List.filter_eq_self]
        intro a ha
        rw [decide_eq_false (fun q => h1 (by rw [e, ← q]; exact ha))]
        rfl
      rw [List.filter_cons_of_neg (by simp [e]), e2, List.length_cons]
      exact Nat.le_refl _
    · rw [List.filter_cons_of_pos (by simp [e]), List.length_cons, List.length_cons]
      exact Nat.succ_le_succ (filter_len h2)
theorem swap5 {z : Str} {l : List Str} (h : l.Nodup) (h5 : l.length = 5) (hz : NameOk z) (hl : ∀ y ∈ l, NameOk y) : ([z] ++ (l.filter (fun x => !decide (x = z))).take 4).length = 5 ∧ ([z] ++ (l.filter (fun x => !decide (x = z))).take 4).Nodup ∧ ∀ y ∈ [z] ++ (l.filter (fun x => !decide (x = z))).take 4, NameOk y := by
  have h1 := filter_len (z := z) h
  refine ⟨?_, ?_, ?_⟩
  · rw [List.length_append, List.length_take, List.length_singleton]
    omega
  · refine List.nodup_append.mpr ⟨by simp, (h.filter _).sublist (List.take_sublist _ _), fun a ha b hb e => ?_⟩
    have ea : a = z := by simpa using ha
    have hb := List.mem_filter.mp (List.mem_of_mem_take hb)
    rw [← e, ea] at hb
    simp at hb
  · intro y hy
    rcases List.mem_append.mp hy with h | h
    · have : y = z := by simpa using h
      rw [this]
      exact hz
    · exact hl y (List.mem_filter.mp (List.mem_of_mem_take h)).1
/-- a claim stands at t -/
def ClaimAt (H : Hp) (t : Addr) (d : Dem) : Prop := ∃ (o : Str) (q : Addr), H t = some (.tup [.str d.1, .str o, .int d.2.1, .ref q]) ∧ H q = some (.tup (d.2.2.map V.str))
abbrev ClaimsAt (H : Hp) (ts : List Addr) (D : List Dem) : Prop := Paired (fun t d => ClaimAt H t d) ts D
theorem Fr.claims {H H' : Hp} {ts : List Addr} {D : List Dem} (f : Fr H H') (h : ClaimsAt H ts D) : ClaimsAt H' ts D := Paired.mapP h fun _ _ ⟨o, q, h1, h2⟩ => ⟨o, q, f.keep _ _ h1 (nb_tup _), f.keep _ _ h2 (nb_tup _)⟩
theorem Paired.snoc {α β : Type} {F : α → β → Prop} : ∀ {l : List α} {m : List β} {a : α} {b : β}, Paired F l m → F a b → Paired F (l ++ [a]) (m ++ [b])
  | _, _, _, _, .nil, r => .cons r .nil
  | _, _, _, _, .cons x t, r => .cons x (Paired.snoc t r)
section
variable {P : Program} {w : World} {K : PySem.W.Frag} {mg : Str → Option Value} {base : Heap}
abbrev s_l_world : Stmt := topS 33
theorem sc_l_world : FnScope ["_law_bag_here", "_law_most", "_law_held", "_law_places", "_law_people", "_law_names_here", "_law_top", "_law_claims", "_law_k", "_law_owner", "_law_name"] ["_law_bag_here", "_law_most", "_law_held"] (defScope s_l_world) := ⟨rfl, rfl, rfl, by decide +kernel, rfl, by decide +kernel, by decide +kernel⟩
def sp_world : Sp := fun vs H Q _ => ∃ (b c : Addr), vs = [.ref b, .int 5, .bl false] ∧ BagAt H b c ∧ ∀ (tw pp pc pd : Addr) (zs : List Str) (ts : List Addr) (D : List Dem) (pr : List (Str × Int)) (H' : Hp), Fr H H' → BagAt H' b c →
  H' tw = some (.tup [.ref pp, .ref pc, .ref pd]) → H' pp = some (.lst (zs.map V.str)) → H' pc = some (.lst (ts.map V.ref)) → ClaimsAt H' ts D → H' pd = some (.dK (prK pr)) → (∀ d ∈ D, DemOk d) → (D.map (·.1)).Nodup → D.length ≤ 5 →
  (pr.map (·.1)).Nodup → (∀ e ∈ pr, NameOk e.1 ∧ 0 ≤ e.2) → pr.length ≤ 101 → (∀ z ∈ zs, NameOk z) → zs.length ≤ 4 → Q (.ref tw) H'
theorem ok_world {f : Addr} {fd : FuncData} (F : Fun K "_law_world" "_law_world" s_l_world f fd) (T : Tx K mg) (A__law_draw : Fn P w K mg base 1 "_law_draw" ["_law_bag_here", "_law_many"] sp_draw) (A__law_of : Fn P w K mg base 2 "_law_of" ["_law_bag_here", "_law_some"] sp_of)
    (A__law_names : Fn P w K mg base 3 "_law_names" ["_law_bag_here", "_law_many"] sp_names) (A__law_lot : Fn P w K mg base 3 "_law_lot" ["_law_bag_here", "_law_places"] sp_llot) (A__law_prices : Fn P w K mg base 3 "_law_prices" ["_law_bag_here", "_law_places", "_law_top"] sp_lprices) :
    FnOk P w K mg base CX0 4 f fd ["_law_bag_here", "_law_most", "_law_held"] sp_world := by
  refine F.ok sc_l_world (fun vs H Q E h => ?_) (fun cdv A outer s H vs Q E hr h => ?_)
  · obtain ⟨b, c, rfl, _⟩ := h
    rfl
  · obtain ⟨b, c, rfl, B, k⟩ := h
    have hu := hu_of hr
    -- slots 0:_law_bag_here 1:_law_most 2:_law_held 3:_law_places 4:_law_people 5:_law_names_here 6:_law_top 7:_law_claims 8:_law_k 9:_law_owner 10:_law_name
    refine ⟨_, (pss_cons (ps_set (i := 3) sc_l_world.nd rfl (Or.inr rfl) (pe_call A__law_names.G (hr.mono (by decide)) (by rfl) A__law_names.m A__law_names.kp A__law_names.b A__law_names.v pass0 (pa_cons (pv 0) (pa_cons (pe_op op_add (pe_int) (pe_call A__law_draw.G (hr.mono (by decide)) (by rfl) A__law_draw.m A__law_draw.kp A__law_draw.b A__law_draw.v pass0 (pa_cons (pv 0) (pa_cons (pe_int) pa_nil)))) pa_nil))))
    (pss_cons (ps_par (i := 4) (j := 5) (by rfl) sc_l_world.nd rfl rfl (by decide) rfl rfl (pa_cons (pe_call A__law_names.G (hr.mono (by decide)) (by rfl) A__law_names.m A__law_names.kp A__law_names.b A__law_names.v pass0 (pa_cons (pv 0) (pa_cons (pe_int) pa_nil))) (pa_cons (pe_call A__law_names.G (hr.mono (by decide)) (by rfl) A__law_names.m A__law_names.kp A__law_names.b A__law_names.v pass0 (pa_cons (pv 0) (pa_cons (pv 1) pa_nil))) pa_nil)) (by rfl))
    (pss_join (ps_if (pt_cmpR op_eq (pe_call A__law_draw.G (hr.mono (by decide)) (by rfl) A__law_draw.m A__law_draw.kp A__law_draw.b A__law_draw.v pass0 (pa_cons (pv 0) (pa_cons (pe_int) pa_nil))) (pe_int) (nomark _))
      (pss_cons (ps_set (i := 4) sc_l_world.nd rfl (Or.inl rfl) (pe_op op_cat (pe_slice (sl_list : SlR _ (rSlL K)) (pv 4) po_none (po_some (pe_int))) (pe_slice (sl_list : SlR _ (rSlL K)) (pv 3) po_none (po_some (pe_int)))))
      (pss_one (ps_set (i := 5) sc_l_world.nd rfl (Or.inl rfl) (pe_op op_cat (pe_slice (sl_list : SlR _ (rSlL K)) (pv 3) po_none (po_some (pe_int))) (pe_slice (sl_list : SlR _ (rSlL K)) (pe_lc (own := [("_law_name", 10)]) rfl sc_l_world.nd (pi_list (pv 5) : PI _ _ _ (iList K _)) (blkOk_by (N := ["_law_bag_here", "_law_most", "_law_held", "_law_places", "_law_people", "_law_names_here", "_law_top", "_law_claims", "_law_k", "_law_owner", "_law_name"]) (sc := defScope s_l_world) (by decide +kernel)) (fun _ _ _ _ _ => (pg_name (i := 10) sc_l_world.nd rfl (Or.inl rfl))) (fun _ _ _ _ _ => pts_one (pt_cmpR op_ne (pv 10) (pe_ix (ix_list : IxR _ (rIxL K)) (pv 3) (pe_int) (fun _ _ => rfl)) (nomark _))) (fun _ _ _ _ _ => pv 10)) po_none (po_some (pe_op op_sub (pv 1) (pe_int)))))))) pss_nil)
    (pss_cons (ps_par (i := 6) (j := 7) (by rfl) sc_l_world.nd rfl rfl (by decide) rfl rfl (pa_cons (pe_call A__law_of.G (hr.mono (by decide)) (by rfl) A__law_of.m A__law_of.kp A__law_of.b A__law_of.v pass0 (pa_cons (pv 0) (pa_cons (pe_lst (pa_cons (pe_int) (pa_cons (pe_int) (pa_cons (pe_int) (pa_cons (pe_int) (pa_cons (pe_int) (pa_cons (pe_int) (pa_cons (pe_op op_pow (pe_int) (pe_int)) pa_nil)))))))) pa_nil))) (pa_cons (pe_lst pa_nil) pa_nil)) (by rfl))
    (pss_cons (ps_for PassesOwn.never rfl (pi_range1 (by rfl) T.range_ (pa_cons (pe_call A__law_of.G (hr.mono (by decide)) (by rfl) A__law_of.m A__law_of.kp A__law_of.b A__law_of.v pass0 (pa_cons (pv 0) (pa_cons (pe_lst (pa_cons (pe_int) (pa_cons (pe_int) (pa_cons (pe_int) (pa_cons (pv 1) (pa_cons (pv 1) (pa_cons (pe_op op_add (pe_int) (pe_call A__law_draw.G (hr.mono (by decide)) (by rfl) A__law_draw.m A__law_draw.kp A__law_draw.b A__law_draw.v pass0 (pa_cons (pv 0) (pa_cons (pv 1) pa_nil)))) pa_nil))))))) pa_nil))) pa_nil)) (pg_name (i := 8) sc_l_world.nd rfl (Or.inl rfl))
      (pss_cons (ps_set (i := 9) sc_l_world.nd rfl (Or.inl rfl) (pe_ifExp (PW.pt (pw_and (pt_val (pv 2)) (pw_and1 (pt_cmpR op_eq (pe_call A__law_draw.G (hr.mono (by decide)) (by rfl) A__law_draw.m A__law_draw.kp A__law_draw.b A__law_draw.v pass0 (pa_cons (pv 0) (pa_cons (pe_int) pa_nil))) (pe_int) (nomark _))))) (pe_non) (pe_call A__law_of.G (hr.mono (by decide)) (by rfl) A__law_of.m A__law_of.kp A__law_of.b A__law_of.v pass0 (pa_cons (pv 0) (pa_cons (pv 4) pa_nil)))))
      (pss_one (ps_expr (pe_bm PySem.F.plainAttrs_list PySem.F.slot_list_append PySem.F.type_list_append mt_append (pv 7) (pa_cons (pe_tup (pa_cons (pe_ix (ix_list : IxR _ (rIxL K)) (pv 5) (pv 8) (fun _ _ => rfl)) (pa_cons (pv 9) (pa_cons (pe_op op_add (pe_int) (pe_call A__law_draw.G (hr.mono (by decide)) (by rfl) A__law_draw.m A__law_draw.kp A__law_draw.b A__law_draw.v pass0 (pa_cons (pv 0) (pa_cons (pv 6) pa_nil)))) (pa_cons (pe_call A__law_lot.G (hr.mono (by decide)) (by rfl) A__law_lot.m A__law_lot.kp A__law_lot.b A__law_lot.v pass0 (pa_cons (pv 0) (pa_cons (pv 3) pa_nil))) pa_nil))))) pa_nil))))))
    (pss_one (ps_ret (pe_tup (pa_cons (pv 3) (pa_cons (pv 7) (pa_cons (pe_call A__law_prices.G (hr.mono (by decide)) (by rfl) A__law_prices.m A__law_prices.kp A__law_prices.b A__law_prices.v pass0 (pa_cons (pv 0) (pa_cons (pv 3) (pa_cons (pv 6) pa_nil)))) pa_nil))))))))))), ?_⟩
    refine ⟨_, rfl, _, rfl, _, _, _, rfl, B, by decide, by decide, fun d H1 F1 B1 hd0 hd1 => ?_⟩
    obtain ⟨dn, rfl⟩ : ∃ dn : Nat, d = dn := ⟨d.toNat, (Int.toNat_of_nonneg hd0).symm⟩
    refine ⟨_, _, rfl, rfl, b, c, 1 + dn, (by show [V.ref b, V.int ((1 : Int) + (dn : Int))] = _; rw [show ((1 : Int) + (dn : Int)) = ((1 + dn : Nat) : Int) by omega]), B1, by omega, fun pp zs H2 F2 B2 hpp0 hpp hzl hznd hzok => ?_⟩
    -- people, names_here
    refine ⟨_, rfl, b, c, 3, rfl, B2, by decide, fun pe es H3 F3 B3 hpe0 hpe hel hend heok => ?_⟩
    refine ⟨_, rfl, _, rfl, b, c, 5, rfl, B3, by decide, fun nm ns H4 F4 B4 hnm0 hnm hnl hnnd hnok => ?_⟩
    refine ⟨_, _, rfl, ?_⟩
    have hpp4 := F4.keep _ _ (F3.keep _ _ hpp (nb_str _)) (nb_str _)
    have hpe4 := F4.keep _ _ hpe (nb_str _)
    have F04 := ((F1.trans F2).trans F3).trans F4
    refine ⟨fun σ' H' => ∃ (pe nm : Addr) (es ns : List Str), σ' = [some (.ref b), some (.int 5), some (.bl false), some (.ref pp), some (.ref pe), some (.ref nm), none, none, none, none, none] ∧ Fr H H' ∧ BagAt H' b c ∧ H' pp = some (.lst (zs.map V.str)) ∧ H' pe = some (.lst (es.map V.str)) ∧ es ≠ [] ∧ es.length ≤ 3 ∧ H' nm = some (.lst (ns.map V.str)) ∧ ns.length = 5 ∧ ns.Nodup ∧ ∀ z ∈ ns, NameOk z, ?_, ?_⟩
    · rintro σ H5 ⟨pe, nm, es, ns, rfl, F5, B5, hpp5, hpe5, hene, hel, hnm5, hnl, hnnd, hnok⟩
      -- top, claims
      refine ⟨_, rfl, _, _, rfl, rfl, ⟨by decide, by decide, by decide⟩, by show 7 ≤ sizeLine; decide, fun l1 hl1 => ?_⟩
      have F6 := (Fr.refl H5).new (o := .lst [.int 6, .int 6, .int 6, .int 6, .int 6, .int 3, .int (10 ^ Int.toNat 11)]) hl1
      have B6 := B5.new (o := .lst [.int 6, .int 6, .int 6, .int 6, .int 6, .int 3, .int (10 ^ Int.toNat 11)]) hl1
      refine ⟨_, _, _, rfl, B6, .inl ⟨_, _, rfl, upd_same, nb_int [6, 6, 6, 6, 6, 3, 10 ^ Int.toNat 11], by decide, by decide, fun j v H7 hv F7 B7 => ?_⟩⟩
      obtain ⟨top, rfl, ht0, ht1⟩ : ∃ top : Int, v = V.int top ∧ 1 ≤ top ∧ top ≤ 100000000000 := by
        match j, hv with
        | 0, hv => exact ⟨6, (Option.some.inj hv).symm, by decide, by decide⟩
        | 1, hv => exact ⟨6, (Option.some.inj hv).symm, by decide, by decide⟩
        | 2, hv => exact ⟨6, (Option.some.inj hv).symm, by decide, by decide⟩
        | 3, hv => exact ⟨6, (Option.some.inj hv).symm, by decide, by decide⟩
        | 4, hv => exact ⟨6, (Option.some.inj hv).symm, by decide, by decide⟩
        | 5, hv => exact ⟨3, (Option.some.inj hv).symm, by decide, by decide⟩
        | 6, hv => exact ⟨_, (Option.some.inj hv).symm, by decide, by decide⟩
      have F57 := F6.trans F7
      have F07 := F5.trans F57
      refine ⟨Nat.zero_le _, fun cl hcl => ?_⟩
      have hclb := B7.ne hcl
      refine ⟨_, _, rfl, ?_⟩
      have F8 := (Fr.refl H7).new (o := .lst []) hcl
      have B8 := B7.new (o := .lst []) hcl
      -- the loop
      refine ⟨_, rfl, _, rfl, _, rfl, _, rfl, _, rfl, _, _, _, rfl, B8, by decide, by decide, fun d9 H9 F9 B9 hd90 hd91 => ?_⟩
      refine ⟨_, _, rfl, rfl, by show 6 ≤ sizeLine; decide, fun l2 hl2 => ?_⟩
      have F10 := F9.trans ((Fr.refl H9).new (o := .lst [.int 0, .int 1, .int 2, .int 5, .int 5, .int (1 + d9)]) hl2)
      have B10 := B9.new (o := .lst [.int 0, .int 1, .int 2, .int 5, .int 5, .int (1 + d9)]) hl2
      refine ⟨_, _, _, rfl, B10, .inl ⟨_, _, rfl, upd_same, nb_int [0, 1, 2, 5, 5, 1 + d9], by simp, by simp, fun j2 v2 H11 hv2 F11 B11 => ?_⟩⟩
      obtain ⟨m, rfl, hm⟩ : ∃ m : Nat, v2 = V.int m ∧ m ≤ 5 := by
        match j2, hv2 with
        | 0, hv => exact ⟨0, (Option.some.inj hv).symm, by decide⟩
        | 1, hv => exact ⟨1, (Option.some.inj hv).symm, by decide⟩
        | 2, hv => exact ⟨2, (Option.some.inj hv).symm, by decide⟩
        | 3, hv => exact ⟨5, (Option.some.inj hv).symm, by decide⟩
        | 4, hv => exact ⟨5, (Option.some.inj hv).symm, by decide⟩
        | 5, hv => exact ⟨(1 + d9).toNat, by rw [Int.toNat_of_nonneg (by omega)]; exact (Option.some.inj hv).symm, by omega⟩
      have hcl8 : upd H7 cl (.lst []) cl = some (.lst (([] : List Addr).map V.ref)) := upd_same
      have hcl11 := F11.keep _ _ (F10.keep _ _ hcl8 (nb_ref _)) (nb_ref _)
      have F711 : Fr H7 H11 := (F8.trans F10).trans F11
      refine ⟨_, rfl, by omega, by omega, ?_⟩
      have hpp7 := F57.keep _ _ hpp5 (nb_str _)
      have hpe7 := F57.keep _ _ hpe5 (nb_str _)
      have hnm7 := F57.keep _ _ hnm5 (nb_str _)
      refine for_range (n := m) (fun i σ H' => ∃ (ts : List Addr) (D : List Dem) (v8 v9 : Option V), σ = [some (.ref b), some (.int 5), some (.bl false), some (.ref pp), some (.ref pe), some (.ref nm), some (.int top), some (.ref cl), v8, v9, none] ∧ Fr H7 H' ∧ BagAt H' b c ∧ H' cl = some (.lst (ts.map V.ref)) ∧ ClaimsAt H' ts D ∧ D.map (·.1) = ns.take i ∧ ∀ d ∈ D, DemOk d)
        ⟨[], [], none, none, rfl, F711, B11, hcl11, .nil, rfl, by intro d hd; cases hd⟩ ?_ ?_
      · rintro i σ H12 hi ⟨ts, D, v8, v9, rfl, F12, B12, hcl12, hC, hDn, hDo⟩
        have hDl : D.length = i := by
          have := congrArg List.length hDn
          rw [List.length_map, List.length_take] at this
          omega
        have htl : ts.length = i := (Paired.length hC).trans hDl
        -- owner
        refine ⟨_, rfl, _, rfl, iteF ?_⟩
        have hpe12 := F12.keep _ _ hpe7 (nb_str _)
        refine iteF ?_
        refine ⟨_, rfl, _, rfl, _, _, _, rfl, B12, .inl ⟨_, _, rfl, hpe12, nb_str _, ?_, ?_, fun j3 v3 H13 hv3 F13 B13 => ?_⟩⟩
        · rw [List.length_map]
          exact List.length_pos_iff.mpr hene
        · rw [List.length_map]
          omega
        obtain ⟨ow, _, rfl⟩ := get_map hv3
        -- claims.append(..)
        have hcl13 := F13.keep _ _ hcl12 (nb_ref _)
        have F713 := F12.trans F13
        refine ⟨_, rfl, .inl ⟨rfl, _, SqL.of hcl13⟩, ?_⟩
        have hni : i < ns.length := by omega
        have hnmi : (ns.map V.str)[i]? = some (.str ns[i]) := by
          rw [List.getElem?_map, List.getElem?_eq_getElem hni]
          rfl
        refine ⟨_, rfl, _, rfl, _, _, _, V.str ns[i], rfl, rfl, SqL.of (F713.keep _ _ hnm7 (nb_str _)), ?_, ?_⟩
        · rw [Int.zero_add]
          exact atI_nat hnmi
        refine ⟨_, rfl, _, rfl, _, rfl, _, _, _, rfl, B13, by omega, by omega, fun am H14 F14 B14 ham0 ham1 => ?_⟩
        refine ⟨_, _, rfl, rfl, ?_⟩
        refine ⟨_, rfl, _, rfl, _, _, _, zs, rfl, B14, (F713.trans F14).keep _ _ hpp7 (nb_str _), ?_, hznd, ?_, hzok, fun lt ll H15 F15 B15 hlt hll => ?_⟩
        · intro e
          rw [e] at hzl
          simp at hzl
          omega
        · omega
        refine ⟨by show 4 ≤ sizeLine; decide, fun t ht => ?_⟩
        have F1315 := F14.trans F15
        have hcl15 := F1315.keep _ _ hcl13 (nb_ref _)
        have F715 := F713.trans F1315
        have hcl16 : upd H15 t (.tup [.str ns[i], .str ow, .int (1 + am), .ref lt]) cl = some (.lst (ts.map V.ref)) := same_upd ht _ _ hcl15
        refine ⟨_, _, _, rfl, rfl, hcl16, ?_, ?_⟩
        · rw [List.length_map]
          exact Nat.lt_of_le_of_lt (show ts.length ≤ 5 by omega) (by decide)
        have tcl : t ≠ cl := fun e => by
          rw [e, hcl15] at ht
          cases ht
        refine ⟨ts ++ [t], D ++ [(ns[i], 1 + am, ll)], _, _, rfl, (F715.trans ((Fr.refl _).new ht)).new hcl, (B15.new ht).upd hclb.1 hclb.2, ?_, ?_, ?_, ?_⟩
        · rw [upd_same, List.map_append]
          rfl
        · have keepT : ∀ x ys, H15 x = some (.tup ys) → upd (upd H15 t (.tup [.str ns[i], .str ow, .int (1 + am), .ref lt])) cl (.lst (ts.map V.ref ++ [V.ref t])) x = some (.tup ys) := fun x ys e => by
            have h1 : x ≠ cl := fun q => by
              rw [q, hcl15] at e
              cases e
            have h2 : x ≠ t := fun q => by
              rw [q, ht] at e
              cases e
            rw [upd_ne h1, upd_ne h2]
            exact e
          refine Paired.snoc (Paired.mapP ((F13.trans F1315).claims hC) fun t' d' ⟨o', q', e1, e2⟩ => ⟨o', q', keepT _ _ e1, keepT _ _ e2⟩) ⟨ow, lt, ?_, keepT _ _ hlt⟩
          rw [upd_ne tcl, upd_same]
        · rw [List.map_append, hDn, take_snoc (List.getElem?_eq_getElem hni)]
          rfl
        · intro d hd
          rcases List.mem_append.mp hd with h | h
          · exact hDo d h
          · have e : d = (ns[i], 1 + am, ll) := by simpa using h
            rw [e]
            exact ⟨hnok _ (List.getElem_mem hni), by show 1 ≤ 1 + am; omega, hll⟩
      · rintro σ H12 ⟨ts, D, v8, v9, rfl, F12, B12, hcl12, hC, hDn, hDo⟩
        refine ⟨_, rfl, _, rfl, _, rfl, _, rfl, _, rfl, _, _, _, zs, top, rfl, B12, F12.keep _ _ hpp7 (nb_str _), by omega, hzok, by omega, ht1, fun pd pr H13 F13 B13 hpd0 hpd hprn hpro hprl => ?_⟩
        refine ⟨by show 3 ≤ sizeLine; decide, fun tw htw => ?_⟩
        have F14 := (Fr.refl H13).new (o := .tup [.ref pp, .ref cl, .ref pd]) htw
        have F714 := (F12.trans F13).trans F14
        refine k tw pp cl pd zs ts D pr _ (F07.trans F714) (B13.new htw) upd_same (F714.keep _ _ hpp7 (nb_str _)) (F14.keep _ _ (F13.keep _ _ hcl12 (nb_ref _)) (nb_ref _)) (F14.claims (F13.claims hC)) (F14.keep _ _ hpd (nb_dK _)) hDo ?_ ?_ hprn hpro hprl hzok (by omega)
        · rw [hDn]
          exact hnnd.sublist (List.take_sublist _ _)
        · have := congrArg List.length hDn
          rw [List.length_map, List.length_take] at this
          omega
    · refine ⟨_, rfl, _, _, _, rfl, B4, by decide, by decide, fun d3 H5 F5 B5 _ _ => ?_⟩
      have hpp5 := F5.keep _ _ hpp4 (nb_str _)
      have hpe5 := F5.keep _ _ hpe4 (nb_str _)
      have hnm5 := F5.keep _ _ hnm (nb_str _)
      have F05 := F04.trans F5
      refine ⟨rfl, _, rfl, ?_⟩
      refine ite2 (fun _ => ?_) (fun _ => ⟨pe, nm, es, ns, rfl, F05, B5, hpp5, hpe5, (by intro e; rw [e] at hel; cases hel), by omega, hnm5, hnl, hnnd, hnok⟩)
      -- people = people[:2] + places[:1]
      obtain ⟨z0, zr, ez⟩ : ∃ z0 zr, zs = z0 :: zr := by
        cases zs with
        | nil => simp at hzl; omega
        | cons z0 zr => exact ⟨z0, zr, rfl⟩
      have hz0 : NameOk z0 := hzok z0 (by rw [ez]; exact List.mem_cons_self)
      have ezt : zs.take 1 = [z0] := by rw [ez]; rfl
      refine ⟨_, rfl, _, rfl, _, _, rfl, SqL.of hpe5, fun p1 hp1 => ?_⟩
      rw [cutV_map, show cutA es none (some 2) = es.take 2 from cutA_take es 2]
      have S1 : Same H5 (upd H5 p1 (.lst ((es.take 2).map V.str))) := same_upd hp1
      refine ⟨_, rfl, _, rfl, _, _, rfl, SqL.of (S1 _ _ hpp5), fun p2 hp2 => ?_⟩
      rw [cutV_map, show cutA zs none (some 1) = zs.take 1 from cutA_take zs 1, ezt]
      have S2 := S1.trans (same_upd (o := .lst ([z0].map V.str)) hp2)
      refine ⟨_, _, _, _, rfl, rfl, same_upd hp2 _ _ upd_same, upd_same, ?_, fun p3 hp3 => ?_⟩
      · simp
        exact Nat.le_trans (show min 2 es.length + 1 ≤ 3 by omega) (by decide)
      rw [← List.map_append]
      have S3 := S2.trans (same_upd (o := .lst ((es.take 2 ++ [z0]).map V.str)) hp3)
      -- names_here = places[:1] + [..][:most - 1]
      refine ⟨_, rfl, _, rfl, _, _, rfl, SqL.of (S3 _ _ hpp5), fun p4 hp4 => ?_⟩
      rw [cutV_map, show cutA zs none (some 1) = zs.take 1 from cutA_take zs 1, ezt]
      have S4 := S3.trans (same_upd (o := .lst ([z0].map V.str)) hp4)
      refine ⟨_, rfl, _, rfl, ⟨_, SqL.of (S4 _ _ hnm5)⟩, fun D hD => ?_⟩
      refine lc_list (xs := ns.map V.str) (fun i H' => Same (upd (upd (upd (upd H5 p1 (.lst ((es.take 2).map V.str))) p2 (.lst ([z0].map V.str))) p3 (.lst ((es.take 2 ++ [z0]).map V.str))) p4 (.lst ([z0].map V.str))) H' ∧ H' D = some (.lst (((ns.take i).filter (fun x => !decide (x = z0))).map V.str))) ⟨same_upd hD, upd_same⟩ (fun i H' _ ⟨S, _⟩ => SqL.of (S _ _ (S4 _ _ hnm5))) ?_ ?_
      · rintro i x H6 hi ⟨S6, hL⟩
        obtain ⟨z, hz, rfl⟩ := get_map hi
        refine ⟨rfl, _, rfl, _, rfl, _, _, _, V.str z0, rfl, rfl, SqL.of (S6 _ _ (S4 _ _ hpp5)), atI_int (by decide) (by rw [ez]; rfl), rfl, _, rfl, ?_⟩
        rw [take_snoc hz, List.filter_append]
        have ed : decide (V.str z = V.str z0) = decide (z = z0) := by
          by_cases q : z = z0
          · rw [decide_eq_true q, decide_eq_true (congrArg V.str q)]
          · rw [decide_eq_false q, decide_eq_false fun h => q (V.str.inj h)]
        rw [ed]
        by_cases q : z = z0
        · rw [decide_eq_true q]
          refine iteF ⟨S6, ?_⟩
          rw [hL]
          simp [q]
        · rw [decide_eq_false q]
          refine iteT ⟨_, rfl, _, hL, ?_, same_new S6 hD, ?_⟩
          · rw [List.length_map]
            have h1 := List.length_filter_le (fun x => !decide (x = z0)) (ns.take i)
            rw [List.length_take] at h1
            exact Nat.lt_of_le_of_lt (show _ ≤ 5 by omega) (by decide)
          · rw [upd_same]
            simp [q]
      · rintro H6 ⟨S6, hL⟩
        rw [List.length_map, List.take_of_length_le (Nat.le_refl _)] at hL
        refine ⟨_, rfl, _, _, rfl, rfl, _, rfl, _, _, rfl, SqL.of hL, fun p5 hp5 => ?_⟩
        rw [cutV_map, show cutA (ns.filter (fun x => !decide (x = z0))) none (some (5 - 1)) = _ from cutA_take _ 4]
        have S7 := S6.trans (same_upd (o := .lst (((ns.filter (fun x => !decide (x = z0))).take 4).map V.str)) hp5)
        refine ⟨_, _, _, _, rfl, rfl, S7 _ _ upd_same, upd_same, ?_, fun p6 hp6 => ?_⟩
        · simp
          exact Nat.le_trans (show 1 + _ ≤ 5 by omega) (by decide)
        rw [← List.map_append]
        have S8 := S7.trans (same_upd (o := .lst (([z0] ++ (ns.filter (fun x => !decide (x = z0))).take 4).map V.str)) hp6)
        obtain ⟨g1, g2, g3⟩ := swap5 (z := z0) hnnd hnl hz0 hnok
        have S08 := S4.trans S8
        refine ⟨p3, p6, _, _, rfl, F05.trans (Fr.of_same S08), B5.same S08, S08 _ _ hpp5, S8 _ _ (same_upd hp4 _ _ upd_same), by simp, ?_, upd_same, g1, g2, g3⟩
        simp
        omega
end
end Dr

set_option maxHeartbeats 8000000
/-! Demands of claims, some places. -/
namespace Dr
open PySem PySem.Spec PyProof.Rows L2
section
variable {P : Program} {w : World} {K : PySem.W.Frag} {mg : Str → Option Value} {base : Heap}
abbrev s_l_demands : Stmt := topS 34
theorem sc_l_demands : FnScope ["_law_claims", "_law_name", "_law_owner", "_law_amount", "_law_lot_here"] ["_law_claims"] (defScope s_l_demands) := ⟨rfl, rfl, rfl, by decide +kernel, rfl, by decide +kernel, by decide +kernel⟩
def sp_ldem : Sp := fun vs H Q _ => ∃ (pc : Addr) (ts : List Addr) (D : List Dem), vs = [.ref pc] ∧ H pc = some (.lst (ts.map V.ref)) ∧ ClaimsAt H ts D ∧ D.length ≤ 1000 ∧ ∀ (p : Addr) (us : List Addr) (H' : Hp), Same H H' → H p = none → H' p = some (.lst (us.map V.ref)) → DemsAt H' us D → Q (.ref p) H'
theorem ok_ldem {f : Addr} {fd : FuncData} (F : Fun K "_law_demands" "_law_demands" s_l_demands f fd) (T : Tx K mg) : FnOk P w K mg base CX0 1 f fd ["_law_claims"] sp_ldem := by
  refine F.ok sc_l_demands (fun vs H Q E h => ?_) (fun cdv A outer s H vs Q E hr h => ?_)
  · obtain ⟨pc, ts, D, rfl, _⟩ := h
    rfl
  · obtain ⟨pc, ts, D, rfl, hpc, hC, hlen, k⟩ := h
    -- slots 0:_law_claims 1:_law_name 2:_law_owner 3:_law_amount 4:_law_lot_here
    refine ⟨_, (pss_one (ps_ret (pe_lc (own := [("_law_name", 1), ("_law_owner", 2), ("_law_amount", 3), ("_law_lot_here", 4)]) rfl sc_l_demands.nd (pi_list (pv 0) : PI _ _ _ (iList K _)) (blkOk_by (N := ["_law_claims", "_law_name", "_law_owner", "_law_amount", "_law_lot_here"]) (sc := defScope s_l_demands) (by decide +kernel)) (fun _ _ _ _ _ => (pg_tup (by rfl) (pgs_cons (pg_name (i := 1) sc_l_demands.nd rfl (Or.inl rfl)) (pgs_cons (pg_name (i := 2) sc_l_demands.nd rfl (Or.inl rfl)) (pgs_cons (pg_name (i := 3) sc_l_demands.nd rfl (Or.inl rfl)) (pgs_cons (pg_name (i := 4) sc_l_demands.nd rfl (Or.inl rfl)) pgs_nil)))) : PG _ _ (gTup K 4 _))) (fun _ _ _ _ _ => pts_one (pt_cmp (pc_notN (pv 2)))) (fun _ _ _ _ _ => pe_tup (pa_cons (pv 1) (pa_cons (pv 3) (pa_cons (pv 4) pa_nil))))))), ?_⟩
    have hl := Paired.length hC
    refine ⟨_, rfl, _, rfl, ⟨_, SqL.of hpc⟩, fun L hL => ?_⟩
    refine lc_list (xs := ts.map V.ref) (fun i H' => ∃ us : List Addr, Same H H' ∧ H' L = some (.lst (us.map V.ref)) ∧ DemsAt H' us (D.take i)) ⟨[], same_upd hL, upd_same, .nil⟩ (fun i H' _ ⟨_, S, _⟩ => SqL.of (S _ _ hpc)) ?_ ?_
    · rintro i x H1 hi ⟨us, S, hLL, hU⟩
      obtain ⟨t, ht, rfl⟩ := get_map hi
      obtain ⟨d, hd, o, q, h1, h2⟩ := Paired.at (i := i) hC ht
      refine ⟨_, _, rfl, SqT.of (S _ _ h1), rfl, _, _, rfl, _, _, rfl, _, _, rfl, _, _, rfl, rfl, rfl, ?_⟩
      refine ⟨_, rfl, _, rfl, ?_⟩
      refine iteT ?_
      refine ⟨_, rfl, _, rfl, _, rfl, by show 3 ≤ sizeLine; decide, fun u hu => ?_⟩
      have hLL2 : upd H1 u (.tup [.str d.1, .int d.2.1, .ref q]) L = some (.lst (us.map V.ref)) := same_upd hu _ _ hLL
      have hul : us.length = i := by
        have := Paired.length hU
        rw [List.length_take] at this
        have h3 := (List.getElem?_eq_some_iff.mp hd).1
        omega
      have uL : u ≠ L := fun e => by
        rw [e, hLL] at hu
        cases hu
      refine ⟨_, hLL2, ?_, us ++ [u], same_new (S.trans (same_upd hu)) hL, ?_, ?_⟩
      · rw [List.length_map]
        have h3 := (List.getElem?_eq_some_iff.mp hd).1
        exact Nat.lt_of_le_of_lt (show us.length ≤ 1000 by omega) (by decide)
      · rw [upd_same, List.map_append]
        rfl
      · have keepT : ∀ x ys, H1 x = some (.tup ys) → upd (upd H1 u (.tup [.str d.1, .int d.2.1, .ref q])) L (.lst (us.map V.ref ++ [V.ref u])) x = some (.tup ys) := fun x ys e => by
          have h1 : x ≠ L := fun q => by
            rw [q, hLL] at e
            cases e
          have h2 : x ≠ u := fun q => by
            rw [q, hu] at e
            cases e
          rw [upd_ne h1, upd_ne h2]
          exact e
        rw [take_snoc hd]
        refine Paired.snoc (Paired.mapP hU fun t' d' ⟨q', e1, e2⟩ => ⟨q', keepT _ _ e1, keepT _ _ e2⟩) ⟨q, ?_, keepT _ _ (S _ _ h2)⟩
        rw [upd_ne uL, upd_same]
    · rintro H1 ⟨us, S, hLL, hU⟩
      rw [List.length_map, hl, List.take_length] at hU
      exact k L us H1 S hL hLL hU
abbrev s_l_some_places : Stmt := topS 35
theorem sc_l_some_places : FnScope ["_law_bag_here", "_law_places", "_law_k"] ["_law_bag_here", "_law_places"] (defScope s_l_some_places) := ⟨rfl, rfl, rfl, by decide +kernel, rfl, by decide +kernel, by decide +kernel⟩
def sp_some : Sp := fun vs H Q _ => ∃ (b c p : Addr) (zs : List Str), vs = [.ref b, .ref p] ∧ BagAt H b c ∧ H p = some (.lst (zs.map V.str)) ∧ zs.length ≤ 100 ∧ (∀ z ∈ zs, NameOk z) ∧ ∀ (q : Addr) (ys : List Str) (H' : Hp), Fr H H' → BagAt H' b c → H q = none → H' q = some (.lst (ys.map V.str)) → ys.length ≤ 4 → (∀ z ∈ ys, NameOk z) → Q (.ref q) H'
theorem ok_some {f : Addr} {fd : FuncData} (F : Fun K "_law_some_places" "_law_some_places" s_l_some_places f fd) (T : Tx K mg) (A__law_draw : Fn P w K mg base 1 "_law_draw" ["_law_bag_here", "_law_many"] sp_draw) (A__law_of : Fn P w K mg base 2 "_law_of" ["_law_bag_here", "_law_some"] sp_of) : FnOk P w K mg base CX0 3 f fd ["_law_bag_here", "_law_places"] sp_some := by
  refine F.ok sc_l_some_places (fun vs H Q E h => ?_) (fun cdv A outer s H vs Q E hr h => ?_)
  · obtain ⟨b, c, p, zs, rfl, _⟩ := h
    rfl
  · obtain ⟨b, c, p, zs, rfl, B, hp, hlen, hok, k⟩ := h
    -- slots 0:_law_bag_here 1:_law_places 2:_law_k
    refine ⟨_, (pss_one (ps_ret (pe_lc (own := [("_law_k", 2)]) rfl sc_l_some_places.nd (pi_range1 (by rfl) T.range_ (pa_cons (pe_call A__law_draw.G (hr.mono (by decide)) (by rfl) A__law_draw.m A__law_draw.kp A__law_draw.b A__law_draw.v pass0 (pa_cons (pv 0) (pa_cons (pe_int) pa_nil))) pa_nil)) (blkOk_by (N := ["_law_bag_here", "_law_places", "_law_k"]) (sc := defScope s_l_some_places) (by decide +kernel)) (fun _ _ _ _ _ => (pg_name (i := 2) sc_l_some_places.nd rfl (Or.inl rfl))) (fun _ _ _ _ _ => pts_nil) (fun _ _ _ _ _ => pe_call A__law_of.G (hr.mono (by decide)) (by rfl) A__law_of.m A__law_of.kp A__law_of.b A__law_of.v pass0 (pa_cons (pv 0) (pa_cons (pe_op op_cat (pv 1) (pe_lst (pa_cons (pe_str) pa_nil))) pa_nil)))))), ?_⟩
    refine ⟨_, rfl, _, _, _, rfl, B, by decide, by decide, fun d H1 F1 B1 hd0 hd1 => ?_⟩
    obtain ⟨m, rfl⟩ : ∃ m : Nat, d = m := ⟨d.toNat, (Int.toNat_of_nonneg hd0).symm⟩
    have hp1 := F1.keep _ _ hp (nb_str _)
    refine ⟨_, rfl, by omega, by omega, fun L hL => ?_⟩
    have hLb := B1.ne hL
    have hL0 := F1.dom _ hL
    refine lc_range (lo := 0) (n := m) (fun i H' => ∃ ys : List Str, Fr H H' ∧ BagAt H' b c ∧ H' p = some (.lst (zs.map V.str)) ∧ H' L = some (.lst (ys.map V.str)) ∧ ys.length = i ∧ ∀ z ∈ ys, NameOk z) ⟨[], F1.trans ((Fr.refl _).new hL), B1.new hL, same_upd hL _ _ hp1, upd_same, rfl, by intro z hz; cases hz⟩ ?_ ?_
    · rintro i H2 hi ⟨ys, F2, B2, hp2, hL2, hyl, hyo⟩
      refine ⟨rfl, _, rfl, _, rfl, by show 1 ≤ sizeLine; decide, fun l1 hl1 => ?_⟩
      refine ⟨_, _, _, _, rfl, rfl, same_upd hl1 _ _ hp2, upd_same, ?_, fun l2 hl2 => ?_⟩
      · rw [List.length_map]
        exact Nat.le_trans (show zs.length + 1 ≤ 101 by omega) (by decide)
      have el : zs.map V.str ++ [V.str "strang"] = (zs ++ [strang]).map V.str := by
        rw [List.map_append]
        rfl
      rw [el]
      have F3 := ((Fr.refl H2).new (o := .lst [.str "strang"]) hl1).trans ((Fr.refl _).new (o := .lst ((zs ++ [strang]).map V.str)) hl2)
      have B3 := (B2.new (o := .lst [.str "strang"]) hl1).new (o := .lst ((zs ++ [strang]).map V.str)) hl2
      refine ⟨_, _, _, rfl, B3, .inl ⟨_, _, rfl, upd_same, nb_str _, ?_, ?_, fun j v H4 hv F4 B4 => ?_⟩⟩
      · simp
      · simp
        omega
      obtain ⟨z, hz, rfl⟩ := get_map hv
      have F24 := F3.trans F4
      have hzok : NameOk z := by
        rcases List.mem_append.mp (List.mem_of_getElem? hz) with h | h
        · exact hok z h
        · have e : z = strang := by simpa using h
          rw [e]
          exact strang_ok
      have hpL : p ≠ L := fun e => by
        rw [e, hL] at hp1
        cases hp1
      refine ⟨_, F24.keep _ _ hL2 (nb_str _), ?_, ys ++ [z], (F2.trans F24).new hL0, B4.upd hLb.1 hLb.2, ?_, ?_, ?_, ?_⟩
      · rw [List.length_map, hyl]
        exact Nat.lt_of_le_of_lt (show i ≤ 5 by omega) (by decide)
      · rw [upd_ne hpL]
        exact F24.keep _ _ hp2 (nb_str _)
      · rw [upd_same, List.map_append]
        rfl
      · rw [List.length_append, hyl]
        rfl
      · intro y hy
        rcases List.mem_append.mp hy with h | h
        · exact hyo y h
        · have e : y = z := by simpa using h
          rw [e]
          exact hzok
    · rintro H2 ⟨ys, F2, B2, hp2, hL2, hyl, hyo⟩
      exact k L ys H2 F2 B2 hL0 hL2 (by omega) hyo
end
end Dr

set_option maxHeartbeats 4000000
/-! list(d.items()) of a dict whose keys are tuples. -/
namespace Dr
open PySem PySem.Spec PyProof.Rows L2
theorem paired_of {α β : Type} {F : α → β → Prop} : ∀ {l : List α} {m : List β}, l.length = m.length → (∀ (j : Nat) a b, l[j]? = some a → m[j]? = some b → F a b) → Paired F l m
  | [], [], _, _ => .nil
  | [], _ :: _, h, _ => by cases h
  | _ :: _, [], h, _ => by cases h
  | a :: l, b :: m, h, k => .cons (k 0 a b rfl rfl) (paired_of (Nat.succ.inj h) fun j x y h1 h2 => k (j + 1) x y h1 h2)
/-- the pairs of a dict with tuple keys, laid anew -/
def PairAt (H : Hp) (t : Addr) (e : List Key × V) : Prop := ∃ b, H t = some (.tup [.ref b, e.2]) ∧ H b = some (.tup (e.1.map kV))
def rItT : List V → Hp → VK → Prop := fun vs H Q => ∃ (p a : Addr) (kvs : List (List Key × V)), vs = [.ref p] ∧ H p = some (L2.DX.itemsO p a) ∧ H a = some (.dT kvs) ∧
  ∀ (H' : Hp) (l : Addr) (ts : List Addr), Same H H' → H l = none → H' l = some (.lst (ts.map V.ref)) → Paired (PairAt H') ts kvs → Q (.ref l) H'
section
variable {X : Cx}
theorem cr_itT (hc : X.calm = true) : CallR X (.type "list") rItT := by
  intro pins s σ H xs us Q I r h
  obtain ⟨p, a, kvs, rfl, hp, ha, q⟩ := h
  obtain rfl := Vals.ref1 r
  have view : s.heap.IsItemsView p a := (show ObjOk X.prog X.w H s.heap p (L2.DX.itemsO p a) from I.hok p _ hp).1
  obtain ⟨z, hd, xs', rel, o, es, ep, ho, hx, hdat, hes, his, hn⟩ := dt_of I.hok ha
  have l1 : kvs.length = xs'.length := Paired.length rel
  have l2 : es.size = xs'.length := size_of_entries hes
  refine PySem.W.dil_call (es := es) (ep := ep) (I.ok.hd hc) view ⟨o, ho, hx, hdat⟩ (by omega) fun h' tk acc c as hk hS hl hG hacc => ?_
  have lak : as.length = kvs.length := by omega
  have nd : as.Nodup := List.Pairwise.imp (fun h => Nat.ne_of_lt h) hG.rise
  have pr : ∀ (j : Nat) (b : Addr), as[j]? = some b → ∃ (e : List Key × V) (kq : Addr) (u : Value), kvs[j]? = some e ∧ H kq = some (.tup (e.1.map kV)) ∧ RelV e.2 u ∧ h'.get? b = some { cls := .type "tuple", data := .seq #[Value.ref kq, u] } := by
    intro j b hj
    obtain ⟨hjz, hg⟩ := hG.pairs j b hj
    have hjx : j < xs'.length := by omega
    have hxj : xs'[j]? = some xs'[j] := List.getElem?_eq_getElem hjx
    obtain ⟨e, he, r1, r2, r3⟩ := L2.DX.pget rel hxj
    have hen : es[j]? = some (entryOfKey (tupleKind (mixKind X.prog X.w)) xs'[j]) := by
      rw [entry_at hes j, hxj]
      rfl
    have hen2 : es[j]? = some es[j] := Array.getElem?_eq_getElem hjz
    have een : es[j] = entryOfKey (tupleKind (mixKind X.prog X.w)) xs'[j] := Option.some.inj (hen2.symm.trans hen)
    refine ⟨e, xs'[j].2.1, xs'[j].2.2, he, r2, r3, ?_⟩
    rw [hg, een]
    rfl
  have I1 : Inv X pins σ H { s with heap := h', toks := tk } := I.kept (t' := tk) hk
  have hn0 : H s.heap.objs.size = none := I.hok.fresh (Nat.le_refl _)
  have nS : ∀ b ∈ as, b ≠ s.heap.objs.size := fun b hb => Nat.ne_of_gt (hG.above b hb)
  have I2 : Inv X pins σ (upd H s.heap.objs.size (.lst (as.map V.ref))) { s with heap := h', toks := tk } :=
    I1.take (h' := h') (t' := tk) (fun b ob _ e => e) (I.fpOk (Nat.le_refl _) hn0) ⟨by rw [List.length_map]; omega, acc.toList, c, by rw [hacc]; exact LiI.vals_refs as, by rw [Array.toArray_toList]; exact hS⟩
  obtain ⟨H2, I3, g, qt⟩ := L2.DX.takeT (P := fun b vs => ∃ (j : Nat) (e : List Key × V) (kq : Addr), as[j]? = some b ∧ kvs[j]? = some e ∧ vs = [.ref kq, e.2] ∧ H kq = some (.tup (e.1.map kV))) I as _ I2 nd fun b hb => by
    obtain ⟨j, hj⟩ := List.mem_iff_getElem?.mp hb
    obtain ⟨e, kq, u, he, hkq, ru, hg⟩ := pr j b hj
    have hbl : s.heap.objs.size ≤ b := Nat.le_of_lt (hG.above b hb)
    refine ⟨hbl, ?_, [.ref kq, e.2], ⟨j, e, kq, hj, he, rfl, hkq⟩, fun H3 => ⟨by show 2 ≤ sizeLine; decide, [Value.ref kq, u], .cons rfl (.cons ru .nil), ⟨_, hg, rfl, 0, rfl⟩⟩⟩
    rw [upd_ne (nS b hb)]
    exact I.hok.fresh hbl
  have gr : Same H H2 := fun b o e => g b o (by rw [upd_ne (ne_of_none e hn0)]; exact e)
  refine ⟨.ref s.heap.objs.size, H2, I3, rfl, q H2 s.heap.objs.size as gr hn0 (g _ _ upd_same) (paired_of lak fun j b e hj he => ?_)⟩
  obtain ⟨vs, ⟨j2, e2, kq, j1, j3, ev, hkq⟩, hH⟩ := qt b (List.mem_of_getElem? hj)
  have eij : j = j2 := (List.getElem?_inj (List.getElem?_eq_some_iff.mp hj).1 nd).mp (hj.trans j1.symm)
  subst eij
  have ee : e2 = e := Option.some.inj (j3.symm.trans he)
  subst ee
  rw [ev] at hH
  exact ⟨kq, hH, gr _ _ hkq⟩
/-- e.items() of such a dict -/
theorem tyT {K : PySem.W.Frag} {H : Hp} {a : Addr} {kvs : List (List Key × V)} (h : H a = some (.dT kvs)) : tyV K "dict" (.ref a) H := .inr (.inr (.inl ⟨rfl, .inr ⟨kvs, h⟩⟩))
end
end Dr

set_option maxHeartbeats 4000000
/-! Own rules: a dict comprehension whose keys are tuples; xs[i] += e on a list; d.clear() of such a dict; a call by keywords alone. -/
namespace Dr
open PySem PySem.Spec PyProof.Rows L2
section
variable {X : Cx}
theorem get_list : PGet X (rIxL X.K) := by
  intro pins s σ H x y v u Q I rx ry h
  obtain ⟨p, xs, i, z, rfl, rfl, hq, he, q⟩ := h
  cases rx
  obtain ⟨t, rfl⟩ := ry
  obtain ⟨its, r, pl, hz⟩ := I.list hq
  obtain ⟨j, h1, h2, h3, h4, h5⟩ := atI_get he
  obtain ⟨w, ew, rw'⟩ := r.get h2
  have hl := r.length
  have hn := line63
  by_cases h0 : 0 ≤ i
  · have hj : i.toNat = j := by
      rw [seqIndex_of h0 h5] at h1
      exact Option.some.inj h1
    exact wpAny_getItem_list (x := w) pl.isList h0 (by omega) (by rw [hj]; simpa using ew) ⟨z, H, I, rw', q⟩
  · have hj : (i + (its.toArray.size : Int)).toNat = j := by
      rw [seqIndex_neg (by omega) h4] at h1
      rw [List.size_toArray, ← hl]
      exact Option.some.inj h1
    exact wpAny_getItem_list_neg (x := w) pl.isList (by omega) (by rw [List.size_toArray] <;> omega) (by omega) (by rw [hj]; simpa using ew) ⟨z, H, I, rw', q⟩
/-- o[i] op= e, o a list -/
theorem ps_augL {o i e : Expr} {to ti te : TE} {tip : TIp} {op : Operator} {tpos pos : Pos} (ho : PE X o to) (hi : PE X i ti) (he : PE X e te) (hp : PIp X op tip)
    (ha : ∀ ov iv new, augStore i ov iv new = (do holding [new, ov, iv] (setItem ov iv new); release [new, ov, iv] []; pure .next) := by intros; rfl) : PS X (.AugAssign (.Subscript o i tpos) op e pos) (tAugS to ti te (rIxL X.K) tip rSetL) :=
  ps_augS ho hi get_list he hp set_list ha
def rClrT : V → List V → Hp → VK → Prop := fun x vs H Q => ∃ (a : Addr) (kvs : List (List Key × V)), x = .ref a ∧ vs = [] ∧ H a = some (.dT kvs) ∧ Q .non (upd H a (.dT []))
theorem mt_clrT : MtR X "dict.clear" rClrT := by
  intro pins s σ H x vs v us Q I rx rv h
  obtain ⟨a, kvs, rfl, rfl, e, q⟩ := h
  cases rx
  cases rv
  obtain ⟨z, hd, xs', rel, o, es, ep, ho, hx, hdat, hes, his, hn⟩ := dt_of I.hok e
  have l1 : kvs.length = xs'.length := Paired.length rel
  have l2 : es.size = xs'.length := size_of_entries hes
  refine call_meetsIn PySem.F.slot_dict_clear ⟨o, ho, hx.1⟩ PySem.F.entry_dict_clear (PySem.F.args_dict_clear_1 _) (PySem.meets_dict_clear_raw a) ⟨es, ep, ⟨o, ho, hx, hdat⟩, by omega, fun h' dd' hs => ?_⟩
  obtain ⟨o2, ho2, hx2, hd2⟩ := dd'
  exact ⟨.non, _, d_write (ob := .dT []) (t' := s.toks) I (by rw [e]; exact True.intro) hs ⟨o2, ho2⟩ ⟨Nat.zero_le _, hd, [], .nil, o2, #[], ep + 1, ho2, hx2, hd2, rfl, List.nodup_nil⟩, rfl, q⟩
/-- d[k] = v by a comprehension, k a tuple -/
theorem d_dictSetT {pins : List (Addr × Obj)} {σ : L2.St} {H : Hp} {s : Shared} {E : Value → Shared → Prop} {D b : Addr} {kvs : List (List Key × V)} {k : List Key} {v : V} {u r : Value} {Q : Unit → Shared → Prop} (hu : X.A.units + 1 < cLine) (I : Inv X pins σ H s) (hb : H D = some (.dT kvs)) (eb : H b = some (.tup (k.map kV))) (hz : kvs.length < sizeLine)
    (ry : RelV (.ref b) u) (rv : RelV v r) (h : ∀ s', Inv X pins σ (upd H D (.dT (putK kvs k v))) s' → Q () s') : wpAny (model X.prog X.w) X.A (dictSet D u r) Q E s := by
  cases (show u = Value.ref b from ry)
  obtain ⟨z, hd, xs, rel, dd⟩ := dt_of I.hok hb
  have hzx : xs.length ≤ sizeLine := by rw [← Paired.length rel]; exact z
  have hl : (putK kvs k v).length ≤ sizeLine := by have := length_putK kvs k v; omega
  refine wpAny_dictSet_heap (hsz := hzx) (show (tupleKind _).room X.A from Nat.lt_of_succ_lt hu) (key_of I.hok eb) dd fun h' dd' hs => h _ ?_
  obtain ⟨q, es, ep, hq, h2, h3, h4, _, h5⟩ := dd'
  refine d_write I (by rw [hb]; exact True.intro) hs ⟨q, hq⟩ ⟨hl, hd, _, (rel.put k eb rv).keeps fun c ys ec => ?_, q, es, ep, hq, h2, h3, h4, h5⟩
  rw [upd_ne (ne_of ec hb (fun z => nomatch z))]
  exact ec
/-- {k: v for target in iter if ..}, the keys tuples -/
def tDcT (wi : TI) (g : TG) (tt : TT) (tk tv : TE) (vs : List Nat) : TE := fun σ H Q => wi σ H fun J H1 => ∀ D, H1 D = none → ∃ W : Nat → Nat → Hp → Prop, (∃ m, W 0 m (upd H1 D (.dT []))) ∧ ∀ i m H, W i m H →
  (J.stop i H ∧ Q (.ref D) H) ∨ (J.go i H ∧ ∃ Nx : Hp → Prop, (∀ H', Nx H' → ∃ m', m' < m ∧ W (i + 1) m' H') ∧ ∀ x H', J.yld i H x H' → g x (wipe σ vs) H' fun σ2 H2 => wipe σ2 vs = wipe σ vs ∧ tt σ2 H2 fun b H3 =>
    if b = true then tk σ2 H3 fun y H4 => tv σ2 H4 fun z H5 => ∃ kvs k kb, y = .ref kb ∧ H5 kb = some (.tup (k.map kV)) ∧ H5 D = some (.dT kvs) ∧ kvs.length < sizeLine ∧ Nx (upd H5 D (.dT (putK kvs k z))) else Nx H3)
theorem dcT_core {pins : List (Addr × Obj)} {s : Shared} {σ : L2.St} {H : Hp} {Q : VK} {kx vx tg iter : Expr} {ifs : List Expr} {scope : Scope} {own : List (Str × Nat)} {pos pos' : Pos} {wi : TI} {g : TG} {tt : TT} {tk tv : TE} {use : Option (Value → Sem Unit)} {Qf : Value → Shared → Prop}
    (hc : X.calm = true) (hu : X.A.units + 1 < cLine) (hN : X.N.Nodup) (I : Inv X pins σ H s) (hi : PI X tg iter wi) (ok : BlkOk X.N X.env.scope scope own)
    (hg : ∀ (s : Shared) (H : Hp) (C : Addr) (cl : List (Str × Addr)) (fp : List Addr), PG (X.blk s H scope (compEnvC scope cl C X.env) fp) tg g) (ht : ∀ (s : Shared) (H : Hp) (C : Addr) (cl : List (Str × Addr)) (fp : List Addr), PTs (X.blk s H scope (compEnvC scope cl C X.env) fp) ifs tt)
    (hk : ∀ (s : Shared) (H : Hp) (C : Addr) (cl : List (Str × Addr)) (fp : List Addr), PE (X.blk s H scope (compEnvC scope cl C X.env) fp) kx tk)
    (he : ∀ (s : Shared) (H : Hp) (C : Addr) (cl : List (Str × Addr)) (fp : List Addr), PE (X.blk s H scope (compEnvC scope cl C X.env) fp) vx tv) (hs : ∀ x, foldedSetIterable iter X.env x = pure x)
    (h : tDcT wi g tt tk tv (own.map (·.2)) σ H Q)
    (hRR : ∀ D C s' m H', Inv X pins σ H' s' → Q (.ref D) H' → s'.heap.Ns C m → FpOk X pins H' C → compPost (model X.prog X.w) X.A X.xe use Qf (.ref D) C (.ok .next) s') :
    wpAny (model X.prog X.w) X.A (comprehension (.DictComp kx vx [⟨tg, iter, ifs, 0⟩] scope pos) scope X.env pos' newDict false (eval iter X.env) use) Qf X.xe s := by
  have hfree : ∀ y ∈ scope.names, y.2 = .free → ∃ c, X.env.cells.lookup y.1 = some c := fun y hy e => by
    rcases ok.free y hy e with k | k
    · exact I.ok.has _ (.inl k)
    · exact I.ok.has _ (.inr k)
  refine wpAny_comprehension_free (use := use) rfl hs (closure_ok hfree) ok.kind (fun y hy e => by rw [ok.uniq y hy, e])
    (thn (hi.run pins s σ H _ I h) fun xv s1 hx => thn hx fun itv s2 h2 => ?_)
  obtain ⟨it, fp, tn, J, H2, e, I2, T, st2, f2, q⟩ := h2
  subst e
  refine wpAny_newObj_type (newEnv_comp ?_)
  generalize hD : s2.heap.objs.size = D
  have hDn : H2 D = none := I2.hok.fresh (Nat.le_of_eq hD)
  obtain ⟨W, ⟨m0, w0⟩, turn⟩ := q D hDn
  generalize hs3 : ({ s2 with heap := s2.heap.push { cls := .type "dict", data := .dict #[] } } : Shared) = s3
  have I3 : Inv X pins σ (upd H2 D (.dT [])) s3 := by
    rw [← hs3]
    refine I2.laid (t' := s2.toks) (fun b o e => Heap.get?_push_of_some _ e) (Nat.le_of_eq hD) ?_
    rw [← hD]
    exact dt_empty s2.heap I2.big
  have h3 : s3.heap = s2.heap.push { cls := .type "dict", data := .dict #[] } := by rw [← hs3]
  have sz : ∀ b ∈ fp, b < s2.heap.objs.size := fun b hb => by
    obtain ⟨o, e, _⟩ := T.obj _ _ st2 b hb
    exact Heap.lt_size e
  have f3 : ∀ b ∈ fp, FpOk X pins (upd H2 D (.dT [])) b ∧ b < s3.heap.objs.size := fun b hb => by
    have hlt := sz b hb
    refine ⟨⟨?_, (f2 b hb).2⟩, by rw [h3, Heap.size_push]; exact Nat.lt_succ_of_lt hlt⟩
    rw [upd_ne (by rw [← hD]; exact Nat.ne_of_lt hlt)]
    exact (f2 b hb).1
  have st3 : tn 0 s3.heap := T.keep _ _ _ st2 fun b _ o e => by rw [h3]; exact Heap.get?_push_of_some _ e
  have I4 := block_start I3 ok hN f3
  have pg := hg s3 (upd H2 D (.dT [])) s3.heap.objs.size (cellsFrom (s3.heap.objs.size + 1) scope.names (cloFrom X.env.cells scope.names [])) fp
  have pt := ht s3 (upd H2 D (.dT [])) s3.heap.objs.size (cellsFrom (s3.heap.objs.size + 1) scope.names (cloFrom X.env.cells scope.names [])) fp
  have pk := hk s3 (upd H2 D (.dT [])) s3.heap.objs.size (cellsFrom (s3.heap.objs.size + 1) scope.names (cloFrom X.env.cells scope.names [])) fp
  have pe := he s3 (upd H2 D (.dT [])) s3.heap.objs.size (cellsFrom (s3.heap.objs.size + 1) scope.names (cloFrom X.env.cells scope.names [])) fp
  show codeAny _ _ (.compStart (.DictComp kx vx [⟨tg, iter, ifs, 0⟩] scope pos) 0 (.ref it) (.ref D) (compEnvC scope (cellsFrom (s3.heap.objs.size + 1) scope.names (cloFrom X.env.cells scope.names [])) s3.heap.objs.size X.env)) (compPost (model X.prog X.w) X.A X.xe use Qf (.ref D) s3.heap.objs.size) { s3 with heap := pushCells (s3.heap.push { cls := .type "dict", data := .dict #[] }) scope.names }
  have nfp : ∀ b ∈ fp, (upd H2 D (.dT [])) b = none := fun b hb => (f3 b hb).1.1
  generalize hce : compEnvC scope (cellsFrom (s3.heap.objs.size + 1) scope.names (cloFrom X.env.cells scope.names [])) s3.heap.objs.size X.env = ce at I4 pg pt pk pe ⊢
  have cL : ce.locals = s3.heap.objs.size := by subst hce; rfl
  generalize hH3 : upd H2 D (.dT []) = H3 at I3 I4 pg pt pk pe w0 nfp f3
  generalize hs4 : ({ s3 with heap := pushCells (s3.heap.push { cls := .type "dict", data := .dict #[] }) scope.names } : Shared) = s4 at I4 ⊢
  have st4 : tn 0 s4.heap := T.keep _ _ _ st3 fun b _ o e => by rw [← hs4]; exact pushCells_keeps _ _ _ _ (Heap.get?_push_of_some _ e)
  have stat : ∀ {σ' : L2.St} {H' : Hp} {s' : Shared}, Inv (X.blk s3 H3 scope ce fp) [] σ' H' s' → (∀ b ∈ fp, H' b = none) → ∀ b ∈ fp, FpOk (X.blk s3 H3 scope ce fp) [] H' b := fun {σ' H' s'} I' hn b hb =>
    ⟨hn b hb, (I'.ok.exf b hb).1, I'.ok.exfs b hb, .inl hb, fun x c e => (I'.ok.exf b hb).2 x c e, fun p hp => absurd (show p ∈ ([] : List (Addr × Obj)) ++ [] from hp) (by simp)⟩
  have loop : codeAny (model X.prog X.w) X.A (.compLoop (.DictComp kx vx [⟨tg, iter, ifs, 0⟩] scope pos) 0 (.ref it) (.ref D) ce) (compPost (model X.prog X.w) X.A X.xe use Qf (.ref D) s3.heap.objs.size) s4 := by
    refine compLoop_anyD (fun n s' => ∃ i H', Inv (X.blk s3 H3 scope ce fp) [] (wipe σ (own.map (·.2))) H' s' ∧ tn i s'.heap ∧ (∀ b ∈ fp, H' b = none) ∧ W i n H') ?_ m0 ⟨0, H3, I4, st4, nfp, w0⟩
    rintro n s5 ⟨i, H5, I5, st5, n5, w5⟩
    rcases turn i n H5 w5 with ⟨stop, qq⟩ | ⟨go, Nx, hNx, step⟩
    · have td := T.done (X.blk s3 H3 scope ce fp) rfl rfl rfl hc i [] s5 _ H5 (fun _ _ => False) I5 (stat I5 n5) st5 stop
      refine thnF td fun r s6 ⟨hr, I6⟩ => ?_
      subst hr
      have I7 : Inv X pins σ H5 s6 := I3.call' (ch := fp) I6.os I6.base I6.hok I6.bare fun b hb => ⟨(f3 b hb).1.2.2.2.1, (f3 b hb).1.2.1, (f3 b hb).1.2.2.2.2.1, (f3 b hb).1.2.2.2.2.2⟩
      have nC : H5 s3.heap.objs.size = none := by
        have z : H5 ce.locals = none := I6.free
        rw [cL] at z
        exact z
      obtain ⟨m, hn, _⟩ := I6.loc
      have hn : s6.heap.Ns ce.locals m := hn
      rw [cL] at hn
      exact hRR D s3.heap.objs.size s6 m H5 I7 qq hn (I3.fpOk (Nat.le_refl _) nC)
    · have ti := T.item (X.blk s3 H3 scope ce fp) rfl rfl rfl hc i [] s5 _ H5 (fun _ _ => False) I5 (stat I5 n5) st5 go
      refine thnF ti fun r s6 ⟨u, hr, h6⟩ => ?_
      subst hr
      refine thnF h6 fun _ s7 ⟨x, H7, I7, r7, y7, st7, n7⟩ => ?_
      have I7' := I7.pinned (stat I7 n7) (T.obj _ _ st7)
      refine thnF (pg.run _ s7 _ H7 x u _ I7' r7 (step x H7 y7)) fun _ s8 ⟨σ8, H8, I8, hw8, q8⟩ => ?_
      refine thnF (pt.run _ s8 σ8 H8 _ I8 q8) fun b s9 ⟨H9, I9, q9⟩ => ?_
      have fin : ∀ {s' : Shared} {H' : Hp}, Inv (X.blk s3 H3 scope ce fp) ([] ++ pinsAt fp s7.heap) σ8 H' s' → Nx H' → ∃ m, m < n ∧ ∃ i H', Inv (X.blk s3 H3 scope ce fp) [] (wipe σ (own.map (·.2))) H' s' ∧ tn i s'.heap ∧ (∀ b ∈ fp, H' b = none) ∧ W i m H' := fun {s' H'} I' nx => by
        obtain ⟨m', hm, w'⟩ := hNx H' nx
        have pin' : ∀ b ∈ fp, ∀ o, s7.heap.get? b = some o → s'.heap.get? b = some o ∧ H' b = none := fun b hb o e =>
          let z := I'.pin (b, o) (List.mem_append_right _ (List.mem_append_right _ (mem_pinsAt hb e)))
          ⟨z.1, z.2.1⟩
        have hl : (wipe σ (own.map (·.2))).length = σ8.length := by rw [← hw8, wipe_length]
        refine ⟨m', hm, i + 1, H', (I'.unpinned (pins := [])).weak hl (fun j v e => ?_), T.keep _ _ _ st7 fun b hb o e => (pin' b hb o e).1, fun b hb => ?_, w'⟩
        · rw [← hw8] at e
          exact (wipe_some e).1
        · obtain ⟨o, e, _⟩ := T.obj _ _ st7 b hb
          exact (pin' b hb o e).2
      cases b with
      | false =>
        simp only [Bool.false_eq_true, if_false] at q9 ⊢
        exact fin I9 q9
      | true =>
        simp only [if_true] at q9 ⊢
        refine thnF (pk.run _ s9 σ8 H9 _ I9 q9) fun z s10 ⟨yk, H10, I10, r10, q10⟩ => ?_
        refine thnF (pe.run _ s10 σ8 H10 _ I10 q10) fun z2 s11 ⟨yv, H11, I11, r11, kvs, k, kb, ek, hkb, hD11, hz11, nx⟩ => ?_
        subst ek
        exact d_dictSetT (X := X.blk s3 H3 scope ce fp) hu I11 hD11 hkb hz11 r10 r11 fun s12 I12 => fin I12 nx
  exact codeAny_compStart_dict loop (T.self X.A 0 _ _ _ st4 loop)
theorem pe_dcT {kx vx tg iter : Expr} {ifs : List Expr} {scope : Scope} {own : List (Str × Nat)} {pos : Pos} {wi : TI} {g : TG} {tt : TT} {tk tv : TE} (hc : X.calm = true) (hu : X.A.units + 1 < cLine) (hN : X.N.Nodup) (hi : PI X tg iter wi) (ok : BlkOk X.N X.env.scope scope own)
    (hg : ∀ (s : Shared) (H : Hp) (C : Addr) (cl : List (Str × Addr)) (fp : List Addr), PG (X.blk s H scope (compEnvC scope cl C X.env) fp) tg g) (ht : ∀ (s : Shared) (H : Hp) (C : Addr) (cl : List (Str × Addr)) (fp : List Addr), PTs (X.blk s H scope (compEnvC scope cl C X.env) fp) ifs tt)
    (hk : ∀ (s : Shared) (H : Hp) (C : Addr) (cl : List (Str × Addr)) (fp : List Addr), PE (X.blk s H scope (compEnvC scope cl C X.env) fp) kx tk)
    (he : ∀ (s : Shared) (H : Hp) (C : Addr) (cl : List (Str × Addr)) (fp : List Addr), PE (X.blk s H scope (compEnvC scope cl C X.env) fp) vx tv) (hs : ∀ x, foldedSetIterable iter X.env x = pure x := by intro _; rfl) :
    PE X (.DictComp kx vx [⟨tg, iter, ifs, 0⟩] scope pos) (tDcT wi g tt tk tv (own.map (·.2))) := by
  refine ⟨fun pins s σ H Q I h => ?_⟩
  rw [arm_eval_DictComp]
  refine dcT_core hc hu hN I hi ok hg ht hk he hs h fun D C s' m H' I' q hn f => ⟨m, hn, fun h'' sb => ?_⟩
  obtain ⟨f0, f1, f2, f3, f4, f5⟩ := f
  exact ⟨.ref D, H', I'.turned (t' := s'.toks) (fun b o hb e => (sb.2 b hb).trans e) f0 f1 f3 f4 f5, rfl, q⟩

end
end Dr

set_option maxHeartbeats 4000000
/-! name = {k: v for ..}, the name a local. -/
namespace Dr
open PySem PySem.Spec PyProof.Rows L2
section
variable {X : Cx}
theorem swD {kx vx : Expr} {gs : List Comprehension} {scope : Scope} {pos py : Pos} {y : Str} {l : Nat} {env : Env} (hk : env.scope.kind = .function) (hy : env.scope.names.lookup y = some .local) (hl : (py.line == pos.line) = true)
    (ha : (scope.names.any fun (n, k) => n == y && (k == .local || k == .cell)) = false) : swapsWith (.DictComp kx vx gs scope pos) (some (.Name y py)) l env = pure true := by
  have h1 : env.kindOf y = some .local := hy
  have h2 : env.blockKind = .function := by
    unfold Env.blockKind
    rw [hk]
    rfl
  unfold swapsWith
  simp only [h2, h1, ha, Expr.pos, hl]
  rfl
theorem ps_setDc {i : Nat} {y : Str} {py : Pos} {kx vx tg iter : Expr} {ifs : List Expr} {scope : Scope} {own : List (Str × Nat)} {pos spos : Pos} {wi : TI} {g : TG} {tt : TT} {tk tv : TE} (hc : X.calm = true) (hN : X.N.Nodup) (hy : X.N[i]? = some y) (hyl : X.env.scope.names.lookup y = some .local)
    (hsw : swapsWith (.DictComp kx vx [⟨tg, iter, ifs, 0⟩] scope pos) (some (.Name y py)) spos.line X.env = pure true) (hi : PI X tg iter wi) (ok : BlkOk X.N X.env.scope scope own)
    (hg : ∀ (s : Shared) (H : Hp) (C : Addr) (cl : List (Str × Addr)) (fp : List Addr), PG (X.blk s H scope (compEnvC scope cl C X.env) fp) tg g) (ht : ∀ (s : Shared) (H : Hp) (C : Addr) (cl : List (Str × Addr)) (fp : List Addr), PTs (X.blk s H scope (compEnvC scope cl C X.env) fp) ifs tt)
    (hk : ∀ (s : Shared) (H : Hp) (C : Addr) (cl : List (Str × Addr)) (fp : List Addr), PE (X.blk s H scope (compEnvC scope cl C X.env) fp) kx tk)
    (he : ∀ (s : Shared) (H : Hp) (C : Addr) (cl : List (Str × Addr)) (fp : List Addr), PE (X.blk s H scope (compEnvC scope cl C X.env) fp) vx tv) (hs : ∀ x, foldedSetIterable iter X.env x = pure x := by intro _; rfl) :
    PS X (.Assign [.Name y py] (.DictComp kx vx [⟨tg, iter, ifs, 0⟩] scope pos) spos) (tAsg (tDc wi g tt tk tv (own.map (·.2))) (gName i)) := by
  refine ⟨fun pins s σ H D I h => ?_⟩
  rw [exec_Assign_Name_used _ _ _ _ hsw]
  refine wpAny_bind (wpAny_standAt (wpAny_bind ?_))
  show wpAny _ X.A (do let _ ← comprehension (.DictComp kx vx [⟨tg, iter, ifs, 0⟩] scope pos) scope X.env (firstIterPos [⟨tg, iter, ifs, 0⟩] pos) newDict false (eval iter X.env) (some (assign (.Name y py) X.env))) _ _ s
  have h : tDc wi g tt tk tv (own.map (·.2)) σ H (fun x H1 => gName i x σ H1 D.nx) := h
  refine wpAny_bind (thn (dc_core (Qf := fun _ s' => SP X pins D .next s') hc hN I hi ok hg ht hk he hs h fun L C s' m H' I' q hn f => ?_) fun _ s' hq => wpAny_pure (wpAny_pure hq))
  show wpAny _ _ (assign (.Name y py) X.env (.ref L)) _ _ _
  refine wpAny_assign_Name (store_ok2 (v := V.ref L) I' hN hy (.inl hyl) rfl (fun s2 I2 ⟨a, sb, ha⟩ => ?_) (.inr hyl))
  obtain ⟨f0, f1, f2, f3, f4, f5⟩ := f
  have haC : C ≠ a := by
    rcases ha with z | z
    · rw [z]; exact f1
    · exact fun e => f4 y a z e.symm
  refine ⟨m, hn.sameBut sb haC, fun h3 sb3 => ?_⟩
  exact ⟨_, H', I2.turned (t' := s2.toks) (fun b o hb e => (sb3.2 b hb).trans e) f0 f1 f3 f4 f5, q⟩
/-- over any walk -/
theorem dc_it {J : It} {n : Nat} {G : Hp → Prop} {Y : Nat → Hp → V → Hp → Prop} (w : Walk J n G Y) {g : TG} {tt : TT} {tk tv : TE} {vs : List Nat} {σ : L2.St} {H1 : Hp} {D : Addr} {Qd : Hp → Prop} (Pv : Nat → Hp → Prop) (h0 : Pv 0 (upd H1 D (.dK []))) (hG : ∀ i H, i ≤ n → Pv i H → G H)
    (hs : ∀ i x H H', i < n → Pv i H → Y i H x H' → g x (wipe σ vs) H' fun σ2 H2 => wipe σ2 vs = wipe σ vs ∧ tt σ2 H2 fun b H3 =>
      if b = true then tk σ2 H3 fun y H4 => tv σ2 H4 fun z H5 => ∃ kvs k, y = kV k ∧ H5 D = some (.dK kvs) ∧ kvs.length < sizeLine ∧ Pv (i + 1) (upd H5 D (.dK (putK kvs k z))) else Pv (i + 1) H3) (hd : ∀ H, Pv n H → Qd H) :
    ∃ W : Nat → Nat → Hp → Prop, (∃ m, W 0 m (upd H1 D (.dK []))) ∧ ∀ i m H, W i m H →
      (J.stop i H ∧ Qd H) ∨ (J.go i H ∧ ∃ Nx : Hp → Prop, (∀ H', Nx H' → ∃ m', m' < m ∧ W (i + 1) m' H') ∧ ∀ x H', J.yld i H x H' → g x (wipe σ vs) H' fun σ2 H2 => wipe σ2 vs = wipe σ vs ∧ tt σ2 H2 fun b H3 =>
        if b = true then tk σ2 H3 fun y H4 => tv σ2 H4 fun z H5 => ∃ kvs k, y = kV k ∧ H5 D = some (.dK kvs) ∧ kvs.length < sizeLine ∧ Nx (upd H5 D (.dK (putK kvs k z))) else Nx H3) := by
  refine ⟨fun i m H => m = n - i ∧ i ≤ n ∧ Pv i H, ⟨n, by simp, Nat.zero_le _, h0⟩, ?_⟩
  rintro i m H ⟨rfl, hi, p⟩
  have q := hG i H hi p
  by_cases hlt : i < n
  · exact .inr ⟨w.goes i H hlt q, Pv (i + 1), fun H' p' => ⟨n - (i + 1), by omega, rfl, hlt, p'⟩, fun x H' y => hs i x H H' hlt p (w.yields i H x H' hlt q y)⟩
  · have e : i = n := by omega
    subst e
    exact .inl ⟨w.stops H q, hd H p⟩
theorem dcT_it {J : It} {n : Nat} {G : Hp → Prop} {Y : Nat → Hp → V → Hp → Prop} (w : Walk J n G Y) {g : TG} {tt : TT} {tk tv : TE} {vs : List Nat} {σ : L2.St} {H1 : Hp} {D : Addr} {Qd : Hp → Prop} (Pv : Nat → Hp → Prop) (h0 : Pv 0 (upd H1 D (.dT []))) (hG : ∀ i H, i ≤ n → Pv i H → G H)
    (hs : ∀ i x H H', i < n → Pv i H → Y i H x H' → g x (wipe σ vs) H' fun σ2 H2 => wipe σ2 vs = wipe σ vs ∧ tt σ2 H2 fun b H3 =>
      if b = true then tk σ2 H3 fun y H4 => tv σ2 H4 fun z H5 => ∃ kvs k kb, y = .ref kb ∧ H5 kb = some (.tup (k.map kV)) ∧ H5 D = some (.dT kvs) ∧ kvs.length < sizeLine ∧ Pv (i + 1) (upd H5 D (.dT (putK kvs k z))) else Pv (i + 1) H3) (hd : ∀ H, Pv n H → Qd H) :
    ∃ W : Nat → Nat → Hp → Prop, (∃ m, W 0 m (upd H1 D (.dT []))) ∧ ∀ i m H, W i m H →
      (J.stop i H ∧ Qd H) ∨ (J.go i H ∧ ∃ Nx : Hp → Prop, (∀ H', Nx H' → ∃ m', m' < m ∧ W (i + 1) m' H') ∧ ∀ x H', J.yld i H x H' → g x (wipe σ vs) H' fun σ2 H2 => wipe σ2 vs = wipe σ vs ∧ tt σ2 H2 fun b H3 =>
        if b = true then tk σ2 H3 fun y H4 => tv σ2 H4 fun z H5 => ∃ kvs k kb, y = .ref kb ∧ H5 kb = some (.tup (k.map kV)) ∧ H5 D = some (.dT kvs) ∧ kvs.length < sizeLine ∧ Nx (upd H5 D (.dT (putK kvs k z))) else Nx H3) := by
  refine ⟨fun i m H => m = n - i ∧ i ≤ n ∧ Pv i H, ⟨n, by simp, Nat.zero_le _, h0⟩, ?_⟩
  rintro i m H ⟨rfl, hi, p⟩
  have q := hG i H hi p
  by_cases hlt : i < n
  · exact .inr ⟨w.goes i H hlt q, Pv (i + 1), fun H' p' => ⟨n - (i + 1), by omega, rfl, hlt, p'⟩, fun x H' y => hs i x H H' hlt p (w.yields i H x H' hlt q y)⟩
  · have e : i = n := by omega
    subst e
    exact .inl ⟨w.stops H q, hd H p⟩
end
end Dr

set_option maxHeartbeats 8000000
/-! A plan's sums; is it a plan. -/
namespace Dr
open PySem PySem.Spec PyProof.Rows L2
abbrev Ent := (Str × Str) × Int
def keyT (k : Str × Str) : List Key := [Sum.inr k.1, Sum.inr k.2]
def plT (E : List Ent) : List (List Key × V) := E.map fun e => (keyT e.1, V.int e.2)
theorem keyT_inj {k l : Str × Str} (h : keyT k = keyT l) : k = l := by
  unfold keyT at h
  have h1 := Sum.inr.inj (List.cons.inj h).1
  have h2 := Sum.inr.inj (List.cons.inj (List.cons.inj h).2).1
  exact Prod.ext h1 h2
theorem valV_plT (k : Str × Str) : ∀ E : List Ent, valV (plT E) (keyT k) = (E.lookup k).map V.int
  | [] => rfl
  | (a, b) :: r => by
    by_cases e : a = k
    · subst e
      rw [show plT ((a, b) :: r) = (keyT a, V.int b) :: plT r from rfl, valV_pos rfl]
      simp
    · rw [show plT ((a, b) :: r) = (keyT a, V.int b) :: plT r from rfl, valV_neg (fun q => e (keyT_inj q)), valV_plT k r, List.lookup_cons, beq_eq_false_iff_ne.mpr (fun q => e q.symm)]
theorem lookup_nd {E : List Ent} (h : (E.map (·.1)).Nodup) {e : Ent} (he : e ∈ E) : E.lookup e.1 = some e.2 := by
  induction E with
  | nil => cases he
  | cons x r ih =>
    obtain ⟨h1, h2⟩ := List.nodup_cons.mp h
    rcases List.mem_cons.mp he with q | q
    · subst q
      obtain ⟨a, b⟩ := e
      simp
    · have ne : ¬ e.1 = x.1 := fun z => h1 (List.mem_map.mpr ⟨e, q, z⟩)
      obtain ⟨a, b⟩ := x
      rw [List.lookup_cons, beq_eq_false_iff_ne.mpr ne]
      exact ih h2 q
def gvn (E : List Ent) (z : Str) : Int := ((E.filter fun e => decide (e.1.1 = z)).map (·.2)).sum
def tkn (E : List Ent) (z : Str) : Int := ((E.filter fun e => decide (e.1.2 = z)).map (·.2)).sum
theorem dec_str (x y : Str) : decide (V.str x = V.str y) = decide (x = y) := by
  by_cases q : x = y
  · rw [decide_eq_true q, decide_eq_true (congrArg V.str q)]
  · rw [decide_eq_false q, decide_eq_false fun h => q (V.str.inj h)]
theorem inV_str (z : Str) (l : List Str) : inV (.str z) (l.map V.str) = decide (z ∈ l) := by
  unfold inV
  rw [List.any_map]
  induction l with
  | nil => rfl
  | cons y r ih =>
    rw [List.any_cons, ih]
    show (y == z || decide (z ∈ r)) = decide (z ∈ y :: r)
    by_cases q : y = z
    · subst q
      simp
    · have q' : ¬ z = y := fun h => q h.symm
      simp [q, q', beq_eq_false_iff_ne.mpr q]
theorem flat_str (l : List Str) : (l.map V.str).all flatV = true := by
  rw [List.all_map, List.all_eq_true]
  intro _ _
  rfl
section
variable {P : Program} {w : World} {K : PySem.W.Frag} {mg : Str → Option Value} {base : Heap}
abbrev s_l_given : Stmt := topS 36
theorem sc_l_given : FnScope ["_law_plan", "_law_name", "_law_key"] ["_law_plan", "_law_name"] (defScope s_l_given) := ⟨rfl, rfl, rfl, by decide +kernel, rfl, by decide +kernel, by decide +kernel⟩
def sp_given : Sp := fun vs H Q _ => ∃ (R : Addr) (z : Str) (E : List Ent), vs = [.ref R, .str z] ∧ H R = some (.dT (plT E)) ∧ (E.map (·.1)).Nodup ∧ E.length ≤ 10000 ∧ ∀ H', Same H H' → Q (.int (gvn E z)) H'
theorem ok_given {f : Addr} {fd : FuncData} (F : Fun K "_law_given" "_law_given" s_l_given f fd) (T : Tx K mg) : FnOk P w K mg base CX0 1 f fd ["_law_plan", "_law_name"] sp_given := by
  refine F.ok sc_l_given (fun vs H Q E h => ?_) (fun cdv A outer s H vs Q E hr h => ?_)
  · obtain ⟨R, z, E, rfl, _⟩ := h
    rfl
  · obtain ⟨R, z, E, rfl, hR, hnd, hlen, k⟩ := h
    have hu := hu_of hr
    -- slots 0:_law_plan 1:_law_name 2:_law_key
    refine ⟨_, (pss_one (ps_ret (pe_callB (cr_sum rfl : CallR _ _ (rSum K)) (by rfl) T.sum_ (by decide +kernel) (pa_cons (pe_lc (own := [("_law_key", 2)]) rfl sc_l_given.nd (pi_list (pe_callTy (call_list_dT rfl) (by rfl) T.list_ (by decide +kernel) (pa_cons (pv 0) pa_nil)) : PI _ _ _ (iList K _)) (blkOk_by (N := ["_law_plan", "_law_name", "_law_key"]) (sc := defScope s_l_given) (by decide +kernel)) (fun _ _ _ _ _ => (pg_name (i := 2) sc_l_given.nd rfl (Or.inl rfl))) (fun _ _ _ _ _ => pts_one (pt_cmpR op_eq (pe_ix (ix_tup : IxR _ (rIxT K)) (pv 2) (pe_int) (fun _ _ => rfl)) (pv 1) (nomark _))) (fun _ _ _ _ _ => pe_dget hu (pv 0) (pv 2) (fun _ _ => rfl))) pa_nil)))), ?_⟩
    refine ⟨_, rfl, _, _, rfl, .inl hR, fun p bs hp hks => ?_⟩
    have hkl := Paired.length hks
    have hpl : (plT E).length = E.length := List.length_map _
    have S1 := same_upd (o := .lst (bs.map V.ref)) hp
    refine ⟨_, rfl, ⟨_, SqL.of upd_same⟩, fun D hD => ?_⟩
    refine lc_list (xs := bs.map V.ref) (fun i H' => Same (upd H p (.lst (bs.map V.ref))) H' ∧ H' D = some (.lst ((((E.take i).filter fun e => decide (e.1.1 = z)).map (·.2)).map V.int))) ⟨same_upd hD, upd_same⟩ (fun i H' _ ⟨S, _⟩ => SqL.of (S _ _ upd_same)) ?_ ?_
    · rintro i x H1 hi ⟨S, hL⟩
      obtain ⟨b, hb, rfl⟩ := get_map hi
      have hib := (List.getElem?_eq_some_iff.mp hb).1
      obtain ⟨e, he⟩ : ∃ e, E[i]? = some e := ⟨_, List.getElem?_eq_getElem (show i < E.length by omega)⟩
      have hkb : H b = some (.tup ((keyT e.1).map kV)) := by
        have he' : (plT E)[i]? = some (keyT e.1, V.int e.2) := by
          unfold plT
          rw [List.getElem?_map, he]
          rfl
        obtain ⟨b', hb', q⟩ := Paired.at hks he'
        rw [hb] at hb'
        cases hb'
        exact q
      have hkb1 := S _ _ (S1 _ _ hkb)
      refine ⟨rfl, _, rfl, _, _, _, V.str e.1.1, rfl, rfl, SqT.of hkb1, rfl, _, rfl, rfl, _, rfl, ?_⟩
      rw [dec_str, take_snoc he, List.filter_append]
      by_cases q : e.1.1 = z
      · rw [decide_eq_true q]
        refine iteT ⟨_, rfl, _, rfl, _, V.int e.2, rfl, ?_, _, hL, ?_, same_new S hD, ?_⟩
        · have g := DGet.t (k := keyT e.1) (S _ _ (S1 _ _ hR)) hkb1
          rw [valV_plT, lookup_nd hnd (List.mem_of_getElem? he)] at g
          exact g
        · rw [List.length_map, List.length_map]
          have h1 := List.length_filter_le (fun e : Ent => decide (e.1.1 = z)) (E.take i)
          rw [List.length_take] at h1
          exact Nat.lt_of_le_of_lt (show _ ≤ 10000 by omega) (by decide)
        · rw [upd_same]
          simp [q]
      · rw [decide_eq_false q]
        refine iteF ⟨S, ?_⟩
        rw [hL]
        simp [q]
    · rintro H1 ⟨S, hL⟩
      rw [List.length_map, ← hkl, hpl, List.take_length] at hL
      exact ⟨_, _, rfl, SqL.of hL, k _ (S1.trans S)⟩
abbrev s_l_taken : Stmt := topS 37
theorem sc_l_taken : FnScope ["_law_plan", "_law_place", "_law_key"] ["_law_plan", "_law_place"] (defScope s_l_taken) := ⟨rfl, rfl, rfl, by decide +kernel, rfl, by decide +kernel, by decide +kernel⟩
def sp_taken : Sp := fun vs H Q _ => ∃ (R : Addr) (z : Str) (E : List Ent), vs = [.ref R, .str z] ∧ H R = some (.dT (plT E)) ∧ (E.map (·.1)).Nodup ∧ E.length ≤ 10000 ∧ ∀ H', Same H H' → Q (.int (tkn E z)) H'
theorem ok_taken {f : Addr} {fd : FuncData} (F : Fun K "_law_taken" "_law_taken" s_l_taken f fd) (T : Tx K mg) : FnOk P w K mg base CX0 1 f fd ["_law_plan", "_law_place"] sp_taken := by
  refine F.ok sc_l_taken (fun vs H Q E h => ?_) (fun cdv A outer s H vs Q E hr h => ?_)
  · obtain ⟨R, z, E, rfl, _⟩ := h
    rfl
  · obtain ⟨R, z, E, rfl, hR, hnd, hlen, k⟩ := h
    have hu := hu_of hr
    -- slots 0:_law_plan 1:_law_place 2:_law_key
    refine ⟨_, (pss_one (ps_ret (pe_callB (cr_sum rfl : CallR _ _ (rSum K)) (by rfl) T.sum_ (by decide +kernel) (pa_cons (pe_lc (own := [("_law_key", 2)]) rfl sc_l_taken.nd (pi_list (pe_callTy (call_list_dT rfl) (by rfl) T.list_ (by decide +kernel) (pa_cons (pv 0) pa_nil)) : PI _ _ _ (iList K _)) (blkOk_by (N := ["_law_plan", "_law_place", "_law_key"]) (sc := defScope s_l_taken) (by decide +kernel)) (fun _ _ _ _ _ => (pg_name (i := 2) sc_l_taken.nd rfl (Or.inl rfl))) (fun _ _ _ _ _ => pts_one (pt_cmpR op_eq (pe_ix (ix_tup : IxR _ (rIxT K)) (pv 2) (pe_int) (fun _ _ => rfl)) (pv 1) (nomark _))) (fun _ _ _ _ _ => pe_dget hu (pv 0) (pv 2) (fun _ _ => rfl))) pa_nil)))), ?_⟩
    refine ⟨_, rfl, _, _, rfl, .inl hR, fun p bs hp hks => ?_⟩
    have hkl := Paired.length hks
    have hpl : (plT E).length = E.length := List.length_map _
    have S1 := same_upd (o := .lst (bs.map V.ref)) hp
    refine ⟨_, rfl, ⟨_, SqL.of upd_same⟩, fun D hD => ?_⟩
    refine lc_list (xs := bs.map V.ref) (fun i H' => Same (upd H p (.lst (bs.map V.ref))) H' ∧ H' D = some (.lst ((((E.take i).filter fun e => decide (e.1.2 = z)).map (·.2)).map V.int))) ⟨same_upd hD, upd_same⟩ (fun i H' _ ⟨S, _⟩ => SqL.of (S _ _ upd_same)) ?_ ?_
    · rintro i x H1 hi ⟨S, hL⟩
      obtain ⟨b, hb, rfl⟩ := get_map hi
      have hib := (List.getElem?_eq_some_iff.mp hb).1
      obtain ⟨e, he⟩ : ∃ e, E[i]? = some e := ⟨_, List.getElem?_eq_getElem (show i < E.length by omega)⟩
      have hkb : H b = some (.tup ((keyT e.1).map kV)) := by
        have he' : (plT E)[i]? = some (keyT e.1, V.int e.2) := by
          unfold plT
          rw [List.getElem?_map, he]
          rfl
        obtain ⟨b', hb', q⟩ := Paired.at hks he'
        rw [hb] at hb'
        cases hb'
        exact q
      have hkb1 := S _ _ (S1 _ _ hkb)
      refine ⟨rfl, _, rfl, _, _, _, V.str e.1.2, rfl, rfl, SqT.of hkb1, rfl, _, rfl, rfl, _, rfl, ?_⟩
      rw [dec_str, take_snoc he, List.filter_append]
      by_cases q : e.1.2 = z
      · rw [decide_eq_true q]
        refine iteT ⟨_, rfl, _, rfl, _, V.int e.2, rfl, ?_, _, hL, ?_, same_new S hD, ?_⟩
        · have g := DGet.t (k := keyT e.1) (S _ _ (S1 _ _ hR)) hkb1
          rw [valV_plT, lookup_nd hnd (List.mem_of_getElem? he)] at g
          exact g
        · rw [List.length_map, List.length_map]
          have h1 := List.length_filter_le (fun e : Ent => decide (e.1.2 = z)) (E.take i)
          rw [List.length_take] at h1
          exact Nat.lt_of_le_of_lt (show _ ≤ 10000 by omega) (by decide)
        · rw [upd_same]
          simp [q]
      · rw [decide_eq_false q]
        refine iteF ⟨S, ?_⟩
        rw [hL]
        simp [q]
    · rintro H1 ⟨S, hL⟩
      rw [List.length_map, ← hkl, hpl, List.take_length] at hL
      exact ⟨_, _, rfl, SqL.of hL, k _ (S1.trans S)⟩
end
end Dr

set_option maxHeartbeats 8000000
/-! Is it a plan. -/
namespace Dr
open PySem PySem.Spec PyProof.Rows L2
structure PlanFit (D : List Dem) (pr : List (Str × Int)) (E : List Ent) : Prop where
  nd : (E.map (·.1)).Nodup
  len : E.length ≤ 10000
  ok : ∀ e ∈ E, 1 ≤ e.2 ∧ ∃ d ∈ D, d.1 = e.1.1 ∧ e.1.2 ∈ d.2.2 ∧ gvn E e.1.1 ≤ d.2.1 ∧ tkn E e.1.2 ≤ lkP pr e.1.2
theorem key_at {H : Hp} {bs : List Addr} {E : List Ent} (hks : IsKeys H (plT E) bs) {i : Nat} {b : Addr} (hb : bs[i]? = some b) : ∃ e, E[i]? = some e ∧ H b = some (.tup ((keyT e.1).map kV)) := by
  have hkl := Paired.length hks
  have hpl : (plT E).length = E.length := List.length_map _
  have hib := (List.getElem?_eq_some_iff.mp hb).1
  obtain ⟨e, he⟩ : ∃ e, E[i]? = some e := ⟨_, List.getElem?_eq_getElem (show i < E.length by omega)⟩
  refine ⟨e, he, ?_⟩
  have he' : (plT E)[i]? = some (keyT e.1, V.int e.2) := by
    unfold plT
    rw [List.getElem?_map, he]
    rfl
  obtain ⟨b', hb', q⟩ := Paired.at hks he'
  rw [hb] at hb'
  cases hb'
  exact q
theorem get_plT {H : Hp} {R b : Addr} {E : List Ent} (hR : H R = some (.dT (plT E))) (hnd : (E.map (·.1)).Nodup) {e : Ent} (he : e ∈ E) (hb : H b = some (.tup ((keyT e.1).map kV))) : DGet H R (.ref b) (some (V.int e.2)) := by
  have g := DGet.t (k := keyT e.1) hR hb
  rw [valV_plT, lookup_nd hnd he] at g
  exact g
/-- the dict of lots and that of amounts, as far as they are filled -/
def LotsAt (H : Hp) (lo am : Addr) (D : List Dem) : Prop := ∃ kl ka, H lo = some (.dK kl) ∧ H am = some (.dK ka) ∧ kl.length ≤ D.length ∧ ka.length ≤ D.length ∧
  ∀ d ∈ D, (∃ q, valV kl (Sum.inr d.1 : Key) = some (.ref q) ∧ H q = some (.tup (d.2.2.map V.str))) ∧ valV ka (Sum.inr d.1 : Key) = some (.int d.2.1)
theorem LotsAt.same {H H' : Hp} {lo am : Addr} {D : List Dem} (h : LotsAt H lo am D) (s : Same H H') : LotsAt H' lo am D := by
  obtain ⟨kl, ka, h1, h2, h3, h4, h5⟩ := h
  exact ⟨kl, ka, s _ _ h1, s _ _ h2, h3, h4, fun d hd => let ⟨⟨q, a, b⟩, c⟩ := h5 d hd; ⟨⟨q, a, s _ _ b⟩, c⟩⟩
section
variable {P : Program} {w : World} {K : PySem.W.Frag} {mg : Str → Option Value} {base : Heap}
abbrev s_l_plan_so : Stmt := topS 38
theorem sc_l_plan_so : FnScope ["_law_demands_here", "_law_prices_here", "_law_value", "_law_lots", "_law_amounts", "_law_name", "_law_amount", "_law_lot_here", "_law_key"] ["_law_demands_here", "_law_prices_here", "_law_value"] (defScope s_l_plan_so) := ⟨rfl, rfl, rfl, by decide +kernel, rfl, by decide +kernel, by decide +kernel⟩
def sp_planSo : Sp := fun vs H Q _ => ∃ (da pa R : Addr) (ts : List Addr) (D : List Dem) (pr : List (Str × Int)) (E : List Ent), vs = [.ref da, .ref pa, .ref R] ∧ H da = some (.lst (ts.map V.ref)) ∧ DemsAt H ts D ∧ (D.map (·.1)).Nodup ∧ D.length ≤ 24 ∧ H pa = some (.dK (prK pr)) ∧ H R = some (.dT (plT E)) ∧ PlanFit D pr E ∧ ∀ H', Same H H' → Q (.bl true) H'
theorem ok_planSo {f : Addr} {fd : FuncData} (F : Fun K "_law_plan_so" "_law_plan_so" s_l_plan_so f fd) (T : Tx K mg) (A__law_given : Fn P w K mg base 1 "_law_given" ["_law_plan", "_law_name"] sp_given) (A__law_taken : Fn P w K mg base 1 "_law_taken" ["_law_plan", "_law_place"] sp_taken) :
    FnOk P w K mg base CX0 2 f fd ["_law_demands_here", "_law_prices_here", "_law_value"] sp_planSo := by
  refine F.ok sc_l_plan_so (fun vs H Q E h => ?_) (fun cdv A outer s H vs Q E hr h => ?_)
  · obtain ⟨da, pa, R, ts, D, pr, E, rfl, _⟩ := h
    rfl
  · obtain ⟨da, pa, R, ts, D, pr, E, rfl, hda, hD, hDn, hDl, hpa, hR, fit, k⟩ := h
    have hu := hu_of hr
    have hlen : ts.length = D.length := Paired.length hD
    -- slots 0:_law_demands_here 1:_law_prices_here 2:_law_value 3:_law_lots 4:_law_amounts 5:_law_name 6:_law_amount 7:_law_lot_here 8:_law_key
    refine ⟨_, (pss_cons (ps_if (pt_not (pt_val (pe_callB (call_isi : CallR _ _ (rIsi K)) (by rfl) T.isinstance_ (by decide +kernel) (pa_cons (pv 2) (pa_cons (pe_bltn (v := .ty "dict") (by rfl) T.dict_ (by decide +kernel) rfl) pa_nil)))))
      (pss_one (ps_ret (pe_bl))) pss_nil)
    (pss_cons (ps_par (i := 3) (j := 4) (by rfl) sc_l_plan_so.nd rfl rfl (by decide) rfl rfl (pa_cons (pe_dnewK) (pa_cons (pe_dnewK) pa_nil)) (by rfl))
    (pss_cons (ps_for PassesOwn.never rfl (pi_list (pv 0) : PI _ _ _ (iList K _)) (pg_tup (by rfl) (pgs_cons (pg_name (i := 5) sc_l_plan_so.nd rfl (Or.inl rfl)) (pgs_cons (pg_name (i := 6) sc_l_plan_so.nd rfl (Or.inl rfl)) (pgs_cons (pg_name (i := 7) sc_l_plan_so.nd rfl (Or.inl rfl)) pgs_nil))) : PG _ _ (gTup K 3 _))
      (pss_one (ps_asg (pe_tup (pa_cons (pv 7) (pa_cons (pv 6) pa_nil))) (pg_tup (by rfl) (pgs_cons (pg_sub (pv 3) (pv 5) (set_dict hu)) (pgs_cons (pg_sub (pv 4) (pv 5) (set_dict hu)) pgs_nil)) : PG _ _ (gTup K 2 _)))))
    (pss_cons (ps_for PassesOwn.never rfl (pi_list (pe_callTy (call_list_dT rfl) (by rfl) T.list_ (by decide +kernel) (pa_cons (pv 2) pa_nil)) : PI _ _ _ (iList K _)) (pg_name (i := 8) sc_l_plan_so.nd rfl (Or.inl rfl))
      (pss_cons (ps_if (PW.pt (pw_or (pt_not (pt_val (pe_callB (call_isi : CallR _ _ (rIsi K)) (by rfl) T.isinstance_ (by decide +kernel) (pa_cons (pv 8) (pa_cons (pe_bltn (v := .ty "tuple") (by rfl) T.tuple_ (by decide +kernel) rfl) pa_nil))))) (pw_or (pt_cmpR op_ne (pe_callB (call_len_seq : CallR _ _ (rLenS K)) (by rfl) T.len_ PySem.boot_len (pa_cons (pv 8) pa_nil)) (pe_int) (nomark _)) (pw_or (pt_not (pt_val (pe_callB (call_isi : CallR _ _ (rIsi K)) (by rfl) T.isinstance_ (by decide +kernel) (pa_cons (pe_ix (ix_tup : IxR _ (rIxT K)) (pv 8) (pe_int) (fun _ _ => rfl)) (pa_cons (pe_bltn (v := .ty "str") (by rfl) T.str_ (by decide +kernel) rfl) pa_nil))))) (pw_or (pt_cmp (pc_dnotin hu (pe_ix (ix_tup : IxR _ (rIxT K)) (pv 8) (pe_int) (fun _ _ => rfl)) (pv 3))) (pw_or1 (pt_cmpR (op_notIn_seq : OpR _ _ (rIn K true)) (pe_ix (ix_tup : IxR _ (rIxT K)) (pv 8) (pe_int) (fun _ _ => rfl)) (pe_dget hu (pv 3) (pe_ix (ix_tup : IxR _ (rIxT K)) (pv 8) (pe_int) (fun _ _ => rfl)) (fun _ _ => rfl)) (by rfl))))))))
        (pss_one (ps_ret (pe_bl))) pss_nil)
      (pss_one (ps_if (PW.pt (pw_or (pt_not (pt_val (pe_callB (call_isi : CallR _ _ (rIsi K)) (by rfl) T.isinstance_ (by decide +kernel) (pa_cons (pe_dget hu (pv 2) (pv 8) (fun _ _ => rfl)) (pa_cons (pe_bltn (v := .ty "int") (by rfl) T.int_ (by decide +kernel) rfl) pa_nil))))) (pw_or (pt_val (pe_callB (call_isi : CallR _ _ (rIsi K)) (by rfl) T.isinstance_ (by decide +kernel) (pa_cons (pe_dget hu (pv 2) (pv 8) (fun _ _ => rfl)) (pa_cons (pe_bltn (v := .ty "bool") (by rfl) T.bool_ (by decide +kernel) rfl) pa_nil)))) (pw_or1 (pt_cmpR op_lt (pe_dget hu (pv 2) (pv 8) (fun _ _ => rfl)) (pe_int) (nomark _))))))
        (pss_one (ps_ret (pe_bl))) pss_nil))))
    (pss_cons (ps_for PassesOwn.never rfl (pi_list (pe_callTy (call_list_dT rfl) (by rfl) T.list_ (by decide +kernel) (pa_cons (pv 2) pa_nil)) : PI _ _ _ (iList K _)) (pg_name (i := 8) sc_l_plan_so.nd rfl (Or.inl rfl))
      (pss_one (ps_if (PW.pt (pw_or (pt_cmpR op_gt (pe_call A__law_given.G (hr.mono (by decide)) (by rfl) A__law_given.m A__law_given.kp A__law_given.b A__law_given.v pass0 (pa_cons (pv 2) (pa_cons (pe_ix (ix_tup : IxR _ (rIxT K)) (pv 8) (pe_int) (fun _ _ => rfl)) pa_nil))) (pe_dget hu (pv 4) (pe_ix (ix_tup : IxR _ (rIxT K)) (pv 8) (pe_int) (fun _ _ => rfl)) (fun _ _ => rfl)) (nomark _)) (pw_or1 (pt_cmpR op_gt (pe_call A__law_taken.G (hr.mono (by decide)) (by rfl) A__law_taken.m A__law_taken.kp A__law_taken.b A__law_taken.v pass0 (pa_cons (pv 2) (pa_cons (pe_ix (ix_tup : IxR _ (rIxT K)) (pv 8) (pe_int) (fun _ _ => rfl)) pa_nil))) (pe_dget2 hu (pv 1) (pe_ix (ix_tup : IxR _ (rIxT K)) (pv 8) (pe_int) (fun _ _ => rfl)) (pe_int) ⟨by rfl, by rfl, by rfl, by rfl⟩) (nomark _)))))
        (pss_one (ps_ret (pe_bl))) pss_nil)))
    (pss_one (ps_ret (pe_bl)))))))), ?_⟩
    refine ⟨_, rfl, _, _, _, _, true, rfl, .ty _, .base (.dT hR), kit_ty (by decide +kernel), _, rfl, iteF ?_⟩
    intro lo hlo am ham
    have S1 := same_upd (o := .dK []) hlo
    have S2 := S1.trans (same_upd (o := .dK []) ham)
    refine ⟨_, _, rfl, ?_⟩
    refine ⟨_, rfl, _, rfl, ⟨_, SqL.of (S2 _ _ hda)⟩, ?_⟩
    have hlo2 : upd (upd H lo (.dK [])) am (.dK []) lo = some (.dK []) := same_upd ham _ _ upd_same
    refine for_list (xs := ts.map V.ref) (fun i σ H' => ∃ (v5 v6 v7 : Option V), σ = [some (.ref da), some (.ref pa), some (.ref R), some (.ref lo), some (.ref am), v5, v6, v7, none] ∧ Same H H' ∧ LotsAt H' lo am (D.take i))
      ⟨none, none, none, rfl, S2, [], [], hlo2, upd_same, Nat.zero_le _, Nat.zero_le _, by intro d hd; simp at hd⟩ (fun i σ H' _ ⟨_, _, _, _, S, _⟩ => SqL.of (S _ _ hda)) ?_ ?_
    · rintro i x σ H1 hi ⟨v5, v6, v7, rfl, S, kl, ka, hl1, ha1, hll, hal, hall⟩
      obtain ⟨t, ht, rfl⟩ := get_map hi
      obtain ⟨d, hd, q, h1, h2⟩ := Paired.at (i := i) hD ht
      refine ⟨_, _, rfl, SqT.of (S _ _ h1), rfl, _, _, rfl, _, _, rfl, _, _, rfl, rfl, ?_⟩
      refine ⟨_, rfl, _, rfl, by show 2 ≤ sizeLine; decide, fun t2 ht2 => ?_⟩
      have St := same_upd (o := .tup [.ref q, .int d.2.1]) ht2
      refine ⟨_, _, rfl, SqT.of upd_same, rfl, _, _, rfl, ?_⟩
      have hid := (List.getElem?_eq_some_iff.mp hd).1
      have hkb : kl.length < sizeLine := by
        rw [List.length_take] at hll
        exact Nat.lt_of_le_of_lt (show kl.length ≤ 24 by omega) (by decide)
      have hka : ka.length < sizeLine := by
        rw [List.length_take] at hal
        exact Nat.lt_of_le_of_lt (show ka.length ≤ 24 by omega) (by decide)
      have hloam : am ≠ lo := fun e => by
        rw [e, upd_same] at ham
        cases ham
      have hl2 := St _ _ hl1
      refine ⟨_, rfl, _, rfl, _, _, rfl, DPut.k (k := Sum.inr d.1) hl2 hkb, _, _, rfl, ?_⟩
      have ha2 : upd (upd H1 t2 (.tup [.ref q, .int d.2.1])) lo (.dK (putK kl (Sum.inr d.1) (.ref q))) am = some (.dK ka) := by
        rw [upd_ne hloam]
        exact St _ _ ha1
      refine ⟨_, rfl, _, rfl, _, _, rfl, DPut.k (k := Sum.inr d.1) ha2 hka, rfl, ?_⟩
      have ham0 : H am = none := S1.free ham
      have S3 : Same H (upd (upd (upd H1 t2 (.tup [.ref q, .int d.2.1])) lo (.dK (putK kl (Sum.inr d.1) (.ref q)))) am (.dK (putK ka (Sum.inr d.1) (.int d.2.1)))) := same_new (same_new (S.trans St) hlo) ham0
      refine ⟨_, _, _, rfl, S3, putK kl (Sum.inr d.1) (.ref q), _, ?_, upd_same, ?_, ?_, ?_⟩
      · rw [upd_ne hloam.symm, upd_same]
      · have := length_putK kl (Sum.inr d.1 : Key) (V.ref q)
        rw [List.length_take] at hll ⊢
        omega
      · have := length_putK ka (Sum.inr d.1 : Key) (V.int d.2.1)
        rw [List.length_take] at hal ⊢
        omega
      · intro d' hd'
        rw [take_snoc hd] at hd'
        rw [valV_put, valV_put]
        by_cases e : d'.1 = d.1
        · have ed : d' = d := by
            rcases List.mem_append.mp hd' with h | h
            · obtain ⟨j, hj, ej⟩ := List.getElem_of_mem h
              rw [List.length_take] at hj
              rw [List.getElem_take] at ej
              have hj2 : j < D.length := by omega
              have e3 : (D.map (·.1))[j]'(by simpa using hj2) = (D.map (·.1))[i]'(by simpa using hid) := by
                rw [List.getElem_map, List.getElem_map, ej, e]
                rw [(List.getElem?_eq_some_iff.mp hd).2]
              have := (List.getElem_inj hDn).mp e3
              omega
            · simpa using h
          rw [if_pos (congrArg Sum.inr e), if_pos (congrArg Sum.inr e), ed]
          exact ⟨⟨q, rfl, S3 _ _ h2⟩, rfl⟩
        · have ne : ¬ ((Sum.inr d'.1 : Key) = Sum.inr d.1) := fun z => e (Sum.inr.inj z)
          rw [if_neg ne, if_neg ne]
          rcases List.mem_append.mp hd' with h | h
          · obtain ⟨⟨q', g1, g2⟩, g3⟩ := hall d' h
            refine ⟨⟨q', g1, ?_⟩, g3⟩
            have n1 : q' ≠ lo := fun z => by
              rw [z, hl1] at g2
              cases g2
            have n2 : q' ≠ am := fun z => by
              rw [z, ha1] at g2
              cases g2
            rw [upd_ne n2, upd_ne n1]
            exact St _ _ g2
          · have : d' = d := by simpa using h
            exact absurd (by rw [this]) e
    · rintro σ H1 ⟨v5, v6, v7, rfl, S, hLA⟩
      rw [List.length_map, hlen, List.take_length] at hLA
      -- the keys, one by one
      refine ⟨_, rfl, _, _, rfl, .inl (S _ _ hR), fun p bs hp hks => ?_⟩
      have Sp := same_upd (o := .lst (bs.map V.ref)) hp
      refine ⟨_, rfl, ⟨_, SqL.of upd_same⟩, ?_⟩
      refine for_list (xs := bs.map V.ref) (fun i σ H' => ∃ (v8 : Option V), σ = [some (.ref da), some (.ref pa), some (.ref R), some (.ref lo), some (.ref am), v5, v6, v7, v8] ∧ Same (upd H1 p (.lst (bs.map V.ref))) H')
        ⟨none, rfl, .refl _⟩ (fun i σ H' _ ⟨_, _, S⟩ => SqL.of (S _ _ upd_same)) ?_ ?_
      · rintro i x σ H2 hi ⟨v8, rfl, S2⟩
        obtain ⟨b, hb, rfl⟩ := get_map hi
        obtain ⟨e, he, hkb⟩ := key_at hks hb
        have em := List.mem_of_getElem? he
        have S12 := Sp.trans S2
        have hkb2 := S12 _ _ hkb
        obtain ⟨h1, d, hd, hdn, hdl, hg, ht⟩ := fit.ok e em
        obtain ⟨kl, ka, hl1, ha1, _, _, hall⟩ := hLA.same S12
        obtain ⟨⟨q, hq1, hq2⟩, hq3⟩ := hall d hd
        rw [hdn] at hq1 hq3
        refine ⟨_, rfl, _, _, _, _, true, rfl, .ty _, .base (.tup hkb2), kit_ty (by decide +kernel), _, rfl, iteF ?_⟩
        refine ⟨_, rfl, _, _, rfl, .inr (SqT.of hkb2), rfl, _, rfl, iteF ?_⟩
        refine ⟨_, rfl, _, _, _, V.str e.1.1, rfl, rfl, SqT.of hkb2, rfl, _, _, _, _, true, rfl, .ty _, .base (.str _), kit_ty (by decide +kernel), _, rfl, iteF ?_⟩
        refine ⟨_, rfl, _, _, _, V.str e.1.1, rfl, rfl, SqT.of hkb2, rfl, _, rfl, _, _, rfl, DGet.k (k := Sum.inr e.1.1) hl1, _, rfl, ?_⟩
        rw [hq1]
        refine iteF ?_
        refine ⟨_, rfl, _, _, _, V.str e.1.2, rfl, rfl, SqT.of hkb2, rfl, _, rfl, _, rfl, _, _, _, V.str e.1.1, rfl, rfl, SqT.of hkb2, rfl, _, V.ref q, rfl, ?_, ?_⟩
        · have g := DGet.k (k := Sum.inr e.1.1) hl1
          rw [hq1] at g
          exact g
        refine ⟨_, _, rfl, .inr (SqT.of hq2), rfl, flat_str _, _, rfl, ?_⟩
        rw [inV_str, decide_eq_true hdl]
        refine iteF ?_
        have hR2 := S12 _ _ (S _ _ hR)
        refine ⟨_, rfl, _, rfl, _, _, rfl, get_plT hR2 fit.nd em hkb2, _, _, _, _, true, rfl, .ty _, .base (.int _), kit_ty (by decide +kernel), _, rfl, iteF ?_⟩
        refine ⟨_, rfl, _, rfl, _, _, rfl, get_plT hR2 fit.nd em hkb2, _, _, _, _, false, rfl, .ty _, .base (.int _), kit_ty (by decide +kernel), _, rfl, iteF ?_⟩
        refine ⟨_, rfl, _, rfl, _, _, rfl, get_plT hR2 fit.nd em hkb2, _, _, rfl, rfl, _, rfl, ?_⟩
        rw [show decide (e.2 < 1) = false from decide_eq_false (by omega)]
        exact iteF ⟨_, rfl, S2⟩
      · rintro σ H2 ⟨v8, rfl, S2⟩
        have S12 := Sp.trans S2
        have hR2 := S12 _ _ (S _ _ hR)
        refine ⟨_, rfl, _, _, rfl, .inl hR2, fun p2 bs2 hp2 hks2 => ?_⟩
        have Sp2 := same_upd (o := .lst (bs2.map V.ref)) hp2
        refine ⟨_, rfl, ⟨_, SqL.of upd_same⟩, ?_⟩
        refine for_list (xs := bs2.map V.ref) (fun i σ H' => ∃ (v8 : Option V), σ = [some (.ref da), some (.ref pa), some (.ref R), some (.ref lo), some (.ref am), v5, v6, v7, v8] ∧ Same (upd H2 p2 (.lst (bs2.map V.ref))) H')
          ⟨v8, rfl, .refl _⟩ (fun i σ H' _ ⟨_, _, S⟩ => SqL.of (S _ _ upd_same)) ?_ ?_
        · rintro i x σ H3 hi ⟨v9, rfl, S3⟩
          obtain ⟨b, hb, rfl⟩ := get_map hi
          obtain ⟨e, he, hkb⟩ := key_at hks2 hb
          have em := List.mem_of_getElem? he
          have S23 := Sp2.trans S3
          have hkb3 := S23 _ _ hkb
          obtain ⟨h1, d, hd, hdn, hdl, hg, ht⟩ := fit.ok e em
          refine ⟨_, rfl, _, rfl, _, _, _, V.str e.1.1, rfl, rfl, SqT.of hkb3, rfl, R, e.1.1, E, rfl, S23 _ _ hR2, fit.nd, fit.len, fun H4 S4 => ?_⟩
          have S34 := (S12.trans S23).trans S4
          obtain ⟨kl, ka, hl1, ha1, _, _, hall⟩ := hLA.same S34
          obtain ⟨_, hq3⟩ := hall d hd
          rw [hdn] at hq3
          have hkb4 := S4 _ _ hkb3
          refine ⟨_, rfl, _, rfl, _, _, _, V.str e.1.1, rfl, rfl, SqT.of hkb4, rfl, _, V.int d.2.1, rfl, ?_, _, _, rfl, rfl, _, rfl, ?_⟩
          · have g := DGet.k (k := Sum.inr e.1.1) ha1
            rw [hq3] at g
            exact g
          rw [show decide (d.2.1 < gvn E e.1.1) = false from decide_eq_false (by omega)]
          refine iteF ?_
          refine ⟨_, rfl, _, rfl, _, _, _, V.str e.1.2, rfl, rfl, SqT.of hkb4, rfl, R, e.1.2, E, rfl, S4 _ _ (S23 _ _ hR2), fit.nd, fit.len, fun H5 S5 => ?_⟩
          have hpa5 := S5 _ _ (S34 _ _ (S _ _ hpa))
          have hkb5 := S5 _ _ hkb4
          refine ⟨_, rfl, _, rfl, .inl ⟨_, .inl hpa5⟩, _, rfl, _, _, _, V.str e.1.2, rfl, rfl, SqT.of hkb5, rfl, _, DGet.k (k := Sum.inr e.1.2) hpa5, ?_⟩
          have el : (valV (prK pr) (Sum.inr e.1.2 : Key)).getD (V.int 0) = V.int (lkP pr e.1.2) := by
            rw [valV_prK]
            unfold lkP
            cases pr.lookup e.1.2 <;> rfl
          rw [el]
          refine ⟨_, _, rfl, rfl, _, rfl, ?_⟩
          rw [show decide (lkP pr e.1.2 < tkn E e.1.2) = false from decide_eq_false (by omega)]
          exact iteF ⟨_, rfl, S3.trans (S4.trans S5)⟩
        · rintro σ H3 ⟨v9, rfl, S3⟩
          exact k _ (((S.trans S12).trans Sp2).trans S3)
end
end Dr

set_option maxHeartbeats 4000000
/-! Sums over ranges, tables of ints (rows of a list), in plain Lean. -/
namespace Dr

def sumR (n : Nat) (f : Nat → Int) : Int := ((List.range n).map f).sum

theorem sumR_zero (f : Nat → Int) : sumR 0 f = 0 := rfl
theorem sumR_succ (n : Nat) (f : Nat → Int) : sumR (n + 1) f = sumR n f + f n := by
  unfold sumR
  rw [List.range_succ, List.map_append, List.sum_append]
  simp
theorem sumR_congr {n : Nat} {f g : Nat → Int} (h : ∀ i, i < n → f i = g i) : sumR n f = sumR n g := by
  induction n with
  | zero => rfl
  | succ n ih =>
    rw [sumR_succ, sumR_succ, ih fun i hi => h i (by omega), h n (by omega)]
theorem sumR_le {n : Nat} {f g : Nat → Int} (h : ∀ i, i < n → f i ≤ g i) : sumR n f ≤ sumR n g := by
  induction n with
  | zero => exact Int.le_refl _
  | succ n ih =>
    rw [sumR_succ, sumR_succ]
    have h1 := ih fun i hi => h i (by omega)
    have h2 := h n (by omega)
    omega
theorem sumR_add (n : Nat) (f g : Nat → Int) : sumR n (fun i => f i + g i) = sumR n f + sumR n g := by
  induction n with
  | zero => rfl
  | succ n ih =>
    rw [sumR_succ, sumR_succ, sumR_succ, ih]
    omega
theorem sumR_const0 (n : Nat) : sumR n (fun _ => 0) = 0 := by
  induction n with
  | zero => rfl
  | succ n ih => rw [sumR_succ, ih]; rfl
theorem sumR_pt (n j : Nat) (x : Int) : sumR n (fun i => if i = j then x else 0) = if j < n then x else 0 := by
  induction n with
  | zero => simp [sumR_zero]
  | succ n ih =>
    rw [sumR_succ, ih]
    by_cases h1 : j < n
    · have h2 : ¬ n = j := by omega
      have h3 : j < n + 1 := by omega
      simp [h1, h2, h3]
    · by_cases h2 : n = j
      · subst h2
        simp
      · have h3 : ¬ j < n + 1 := by omega
        simp [h1, h2, h3]
theorem sumR_swap (n m : Nat) (f : Nat → Nat → Int) : sumR n (fun i => sumR m (fun j => f i j)) = sumR m (fun j => sumR n (fun i => f i j)) := by
  induction n with
  | zero =>
    rw [sumR_zero]
    exact (sumR_const0 m).symm
  | succ n ih =>
    rw [sumR_succ, ih, ← sumR_add]
    exact sumR_congr fun j _ => (sumR_succ n _).symm
theorem sumR_nonneg {n : Nat} {f : Nat → Int} (h : ∀ i, i < n → 0 ≤ f i) : 0 ≤ sumR n f := by
  have := sumR_le (f := fun _ => 0) (g := f) h
  rw [sumR_const0] at this
  exact this

/-! ### tables -/
def gi (l : List Int) (i : Nat) : Int := l.getD i 0
def at2 (G : List (List Int)) (d p : Nat) : Int := gi (G.getD d []) p
def addL (l : List Int) (i : Nat) (x : Int) : List Int := l.set i (gi l i + x)
def addAt (G : List (List Int)) (d p : Nat) (x : Int) : List (List Int) := G.set d (addL (G.getD d []) p x)
def rowS (m : Nat) (G : List (List Int)) (d : Nat) : Int := sumR m fun p => at2 G d p
def colS (n : Nat) (G : List (List Int)) (p : Nat) : Int := sumR n fun d => at2 G d p
structure Sh (G : List (List Int)) (n m : Nat) : Prop where
  len : G.length = n
  row : ∀ r ∈ G, r.length = m

theorem gi_addL {l : List Int} {i : Nat} (h : i < l.length) (x : Int) (j : Nat) : gi (addL l i x) j = gi l j + if j = i then x else 0 := by
  unfold gi addL
  by_cases e : j = i
  · subst e
    simp [List.getD_eq_getElem?_getD, List.getElem?_set_self h, gi]
  · simp [List.getD_eq_getElem?_getD, List.getElem?_set_ne (Ne.symm e), e]
theorem len_addL (l : List Int) (i : Nat) (x : Int) : (addL l i x).length = l.length := by
  unfold addL
  rw [List.length_set]
theorem Sh.rowLen {G : List (List Int)} {n m d : Nat} (h : Sh G n m) (hd : d < n) : (G.getD d []).length = m := by
  have hl : d < G.length := by rw [h.len]; exact hd
  rw [List.getD_eq_getElem?_getD, List.getElem?_eq_getElem hl]
  exact h.row _ (List.getElem_mem hl)
theorem Sh.addAt {G : List (List Int)} {n m d p : Nat} (h : Sh G n m) (hd : d < n) (x : Int) : Sh (addAt G d p x) n m := by
  refine ⟨?_, fun r hr => ?_⟩
  · unfold Dr.addAt
    rw [List.length_set]
    exact h.len
  · unfold Dr.addAt at hr
    rcases List.mem_or_eq_of_mem_set hr with hr | hr
    · exact h.row r hr
    · rw [hr, len_addL]
      exact h.rowLen hd
theorem at2_addAt {G : List (List Int)} {n m d p : Nat} (h : Sh G n m) (hd : d < n) (hp : p < m) (x : Int) (d' p' : Nat) : at2 (addAt G d p x) d' p' = at2 G d' p' + if d' = d ∧ p' = p then x else 0 := by
  unfold at2 addAt
  by_cases e : d' = d
  · subst e
    have hl : d' < G.length := by rw [h.len]; exact hd
    have e1 : (G.set d' (addL (G.getD d' []) p x)).getD d' [] = addL (G.getD d' []) p x := by
      rw [List.getD_eq_getElem?_getD, List.getElem?_set_self hl]
      rfl
    rw [e1, gi_addL (by rw [h.rowLen hd]; exact hp)]
    simp
  · have e1 : (G.set d (addL (G.getD d []) p x)).getD d' [] = G.getD d' [] := by
      rw [List.getD_eq_getElem?_getD, List.getElem?_set_ne (Ne.symm e), List.getD_eq_getElem?_getD]
    rw [e1]
    simp [e]
theorem rowS_addAt {G : List (List Int)} {n m d p : Nat} (h : Sh G n m) (hd : d < n) (hp : p < m) (x : Int) (d' : Nat) : rowS m (addAt G d p x) d' = rowS m G d' + if d' = d then x else 0 := by
  unfold rowS
  rw [sumR_congr (g := fun p' => at2 G d' p' + if p' = p then (if d' = d then x else 0) else 0), sumR_add, sumR_pt, if_pos hp]
  intro i _
  rw [at2_addAt h hd hp]
  by_cases e : d' = d <;> by_cases e2 : i = p <;> simp [e, e2]
theorem colS_addAt {G : List (List Int)} {n m d p : Nat} (h : Sh G n m) (hd : d < n) (hp : p < m) (x : Int) (p' : Nat) : colS n (addAt G d p x) p' = colS n G p' + if p' = p then x else 0 := by
  unfold colS
  rw [sumR_congr (g := fun d' => at2 G d' p' + if d' = d then (if p' = p then x else 0) else 0), sumR_add, sumR_pt, if_pos hd]
  intro i _
  rw [at2_addAt h hd hp]
  by_cases e : i = d <;> by_cases e2 : p' = p <;> simp [e, e2]
end Dr

set_option maxHeartbeats 4000000
/-! Moving along a path: what it does to the tables. -/
namespace Dr

/-- many more along d, p, d', p', ..; what each but the first had from the place ahead falls -/
def moveM (many : Int) : Option Nat → List Nat → List (List Int) → List (List Int)
  | none, d :: p :: r, G => moveM many (some p) r (addAt G d p many)
  | some q, d :: p :: r, G => moveM many (some p) r (addAt (addAt G d p many) d q (-many))
  | _, _, G => G
/-- the least of f and of what each demand but the first has from the place ahead -/
def roomM (G : List (List Int)) : Int → Option Nat → List Nat → Int
  | f, none, _ :: p :: r => roomM G f (some p) r
  | f, some q, d :: p :: r => roomM G (if at2 G d q < f then at2 G d q else f) (some p) r
  | f, _, _ => f
/-- a path from a place ahead (if any), ending at L -/
inductive Pth (n m : Nat) (lots : Nat → List Nat) (rst : Nat → Int) (g : Nat → Nat → Int) : Option Nat → List Nat → Nat → Prop where
  | last {prev : Option Nat} {d p : Nat} (hd : d < n) (hp : p < m) (hl : p ∈ lots d) (hq : ∀ q, prev = some q → q < m ∧ 0 < g d q) (hr : 0 < rst p) : Pth n m lots rst g prev [d, p] p
  | step {prev : Option Nat} {d p L : Nat} {r : List Nat} (hd : d < n) (hp : p < m) (hl : p ∈ lots d) (hq : ∀ q, prev = some q → q < m ∧ 0 < g d q) (h : Pth n m lots rst g (some p) r L) : Pth n m lots rst g prev (d :: p :: r) L
def pls : List Nat → List Nat
  | _ :: p :: r => p :: pls r
  | _ => []
def dms : List Nat → List Nat
  | d :: _ :: r => d :: dms r
  | _ => []

section
variable {n m : Nat} {lots : Nat → List Nat} {rst : Nat → Int} {g : Nat → Nat → Int}
theorem Pth.ne {prev : Option Nat} {P : List Nat} {L : Nat} (h : Pth n m lots rst g prev P L) : ∃ d p r, P = d :: p :: r := by
  cases h with
  | last => exact ⟨_, _, _, rfl⟩
  | step => exact ⟨_, _, _, rfl⟩
theorem Pth.even {prev : Option Nat} {P : List Nat} {L : Nat} (h : Pth n m lots rst g prev P L) : P.length % 2 = 0 ∧ 2 ≤ P.length := by
  induction h with
  | last => simp
  | step _ _ _ _ _ ih =>
    simp only [List.length_cons]
    omega
theorem Pth.getLast {prev : Option Nat} {P : List Nat} {L : Nat} (h : Pth n m lots rst g prev P L) : P.getLast? = some L := by
  induction h with
  | last => rfl
  | step _ _ _ _ h ih =>
    obtain ⟨d, p, r, e⟩ := h.ne
    subst e
    rw [List.getLast?_cons_cons, List.getLast?_cons_cons]
    exact ih
theorem Pth.lastOk {prev : Option Nat} {P : List Nat} {L : Nat} (h : Pth n m lots rst g prev P L) : L < m ∧ 0 < rst L := by
  induction h with
  | last _ hp _ _ hr => exact ⟨hp, hr⟩
  | step _ _ _ _ _ ih => exact ih
theorem Pth.mem {prev : Option Nat} {P : List Nat} {L : Nat} (h : Pth n m lots rst g prev P L) : (∀ d ∈ dms P, d < n) ∧ (∀ p ∈ pls P, p < m) := by
  induction h with
  | last hd hp => simp [dms, pls, hd, hp]
  | step hd hp _ _ _ ih =>
    simp only [dms, pls, List.mem_cons]
    refine ⟨?_, ?_⟩
    · rintro d (rfl | h)
      · exact hd
      · exact ih.1 d h
    · rintro p (rfl | h)
      · exact hp
      · exact ih.2 p h

/-- the ends of a move: shape, rows, columns -/
theorem moveM_shape {many : Int} {prev : Option Nat} {P : List Nat} {L : Nat} (h : Pth n m lots rst g prev P L) : ∀ {G : List (List Int)}, Sh G n m → Sh (moveM many prev P G) n m := by
  induction h with
  | @last prev d p hd hp hl hq hr =>
    intro G hG
    cases prev with
    | none => exact hG.addAt hd _
    | some q => exact (hG.addAt hd _).addAt hd _
  | @step prev d p L r hd hp hl hq h ih =>
    intro G hG
    cases prev with
    | none => exact ih (hG.addAt hd _)
    | some q => exact ih ((hG.addAt hd _).addAt hd _)
theorem moveM_rows {many : Int} {prev : Option Nat} {P : List Nat} {L : Nat} (h : Pth n m lots rst g prev P L) : ∀ {G : List (List Int)}, Sh G n m → ∀ d', rowS m (moveM many prev P G) d' = rowS m G d' + if prev = none ∧ P.head? = some d' then many else 0 := by
  induction h with
  | @last prev d p hd hp hl hq hr =>
    intro G hG d'
    cases prev with
    | none =>
      show rowS m (addAt G d p many) d' = _
      rw [rowS_addAt hG hd hp]
      by_cases e : d' = d
      · simp [e]
      · have e' : ¬ d = d' := fun z => e z.symm
        simp [e, e']
    | some q =>
      show rowS m (addAt (addAt G d p many) d q (-many)) d' = _
      rw [rowS_addAt (hG.addAt hd _) hd (hq q rfl).1, rowS_addAt hG hd hp]
      by_cases e : d' = d
      · simp [e]; omega
      · simp [e]
  | @step prev d p L r hd hp hl hq h ih =>
    intro G hG d'
    cases prev with
    | none =>
      show rowS m (moveM many (some p) r (addAt G d p many)) d' = _
      rw [ih (hG.addAt hd _) d', rowS_addAt hG hd hp]
      by_cases e : d' = d
      · simp [e]
      · have e' : ¬ d = d' := fun z => e z.symm
        simp [e, e']
    | some q =>
      show rowS m (moveM many (some p) r (addAt (addAt G d p many) d q (-many))) d' = _
      rw [ih ((hG.addAt hd _).addAt hd _) d', rowS_addAt (hG.addAt hd _) hd (hq q rfl).1, rowS_addAt hG hd hp]
      by_cases e : d' = d
      · simp [e]; omega
      · simp [e]
theorem moveM_cols {many : Int} {prev : Option Nat} {P : List Nat} {L : Nat} (h : Pth n m lots rst g prev P L) : ∀ {G : List (List Int)}, Sh G n m → ∀ p', colS n (moveM many prev P G) p' = colS n G p' + (if p' = L then many else 0) - if prev = some p' then many else 0 := by
  induction h with
  | @last prev d p hd hp hl hq hr =>
    intro G hG p'
    cases prev with
    | none =>
      show colS n (addAt G d p many) p' = _
      rw [colS_addAt hG hd hp]
      simp
    | some q =>
      show colS n (addAt (addAt G d p many) d q (-many)) p' = _
      rw [colS_addAt (hG.addAt hd _) hd (hq q rfl).1, colS_addAt hG hd hp]
      by_cases e : p' = q
      · simp [e]; omega
      · have e' : ¬ q = p' := fun z => e z.symm
        simp [e, e']
  | @step prev d p L r hd hp hl hq h ih =>
    intro G hG p'
    cases prev with
    | none =>
      show colS n (moveM many (some p) r (addAt G d p many)) p' = _
      rw [ih (hG.addAt hd _) p', colS_addAt hG hd hp]
      by_cases e : p' = p
      · simp [e]; omega
      · have e' : ¬ p = p' := fun z => e z.symm
        simp [e, e']
    | some q =>
      show colS n (moveM many (some p) r (addAt (addAt G d p many) d q (-many))) p' = _
      rw [ih ((hG.addAt hd _).addAt hd _) p', colS_addAt (hG.addAt hd _) hd (hq q rfl).1, colS_addAt hG hd hp]
      by_cases e : p' = p <;> by_cases e1 : p' = q
      · subst e; subst e1; simp; omega
      · subst e
        have e2 : ¬ q = p' := fun z => e1 z.symm
        simp [e1, e2]; omega
      · subst e1
        have e2 : ¬ p = p' := fun z => e z.symm
        simp [e, e2]; omega
      · have e2 : ¬ p = p' := fun z => e z.symm
        have e3 : ¬ q = p' := fun z => e1 z.symm
        simp [e, e1, e2, e3]

/-- how much stands where a move takes away -/
def Takes (many : Int) (G : List (List Int)) : Option Nat → List Nat → Prop
  | none, _ :: p :: r => Takes many G (some p) r
  | some q, d :: p :: r => many ≤ at2 G d q ∧ Takes many G (some p) r
  | _, _ => True
theorem takes_mono {many : Int} {G G' : List (List Int)} : ∀ {P : List Nat} {prev : Option Nat}, Takes many G prev P → (∀ d q, (prev = some q ∨ q ∈ pls P) → at2 G d q ≤ at2 G' d q) → Takes many G' prev P
  | [], none, h, _ => by simp [Takes]
  | [], some _, h, _ => by simp [Takes]
  | [_], none, h, _ => by simp [Takes]
  | [_], some _, h, _ => by simp [Takes]
  | d :: p :: r, none, h, k => takes_mono (P := r) (prev := some p) h fun d' q hq => k d' q (.inr (by
      rcases hq with hq | hq
      · cases hq; simp [pls]
      · simp [pls, hq]))
  | d :: p :: r, some q, h, k => ⟨Int.le_trans h.1 (k d q (.inl rfl)), takes_mono (P := r) (prev := some p) h.2 fun d' q hq => k d' q (.inr (by
      rcases hq with hq | hq
      · cases hq; simp [pls]
      · simp [pls, hq]))⟩
theorem moveM_nn {many : Int} (hm : 0 ≤ many) {prev : Option Nat} {P : List Nat} {L : Nat} (h : Pth n m lots rst g prev P L) : ∀ {G : List (List Int)}, Sh G n m → (∀ d p, 0 ≤ at2 G d p) → Takes many G prev P → (pls P).Nodup → (∀ q, prev = some q → q ∉ pls P) → ∀ d p, 0 ≤ at2 (moveM many prev P G) d p := by
  induction h with
  | @last prev d p hd hp hl hq hr =>
    intro G hG h0 ht hn hv d' p'
    cases prev with
    | none =>
      show 0 ≤ at2 (addAt G d p many) d' p'
      rw [at2_addAt hG hd hp]
      have := h0 d' p'
      split <;> omega
    | some q =>
      show 0 ≤ at2 (addAt (addAt G d p many) d q (-many)) d' p'
      rw [at2_addAt (hG.addAt hd _) hd (hq q rfl).1, at2_addAt hG hd hp]
      have h1 := h0 d' p'
      have h2 : many ≤ at2 G d q := ht.1
      by_cases e : d' = d ∧ p' = q
      · obtain ⟨rfl, rfl⟩ := e
        simp
        split <;> omega
      · rw [if_neg e]
        split <;> omega
  | @step prev d p L r hd hp hl hq h ih =>
    intro G hG h0 ht hn hv
    have hn' : p ∉ pls r ∧ (pls r).Nodup := List.nodup_cons.mp hn
    cases prev with
    | none =>
      refine ih (hG.addAt hd _) (fun d' p' => ?_) (takes_mono (G := G) ht fun d' q' _ => ?_) hn'.2 (fun q e => by cases e; exact hn'.1)
      · rw [at2_addAt hG hd hp]
        have := h0 d' p'
        split <;> omega
      · rw [at2_addAt hG hd hp]
        split <;> omega
    | some q =>
      have hqm := (hq q rfl).1
      have hqv : q ∉ p :: pls r := hv q rfl
      refine ih ((hG.addAt hd _).addAt hd _) (fun d' p' => ?_) (takes_mono (G := G) ht.2 fun d' q' hq' => ?_) hn'.2 (fun q e => by cases e; exact hn'.1)
      · rw [at2_addAt (hG.addAt hd _) hd hqm, at2_addAt hG hd hp]
        have h1 := h0 d' p'
        have h2 : many ≤ at2 G d q := ht.1
        by_cases e : d' = d ∧ p' = q
        · obtain ⟨rfl, rfl⟩ := e
          simp
          split <;> omega
        · rw [if_neg e]
          split <;> omega
      · have e : ¬ (d' = d ∧ q' = q) := fun z => hqv (by
          obtain ⟨_, rfl⟩ := z
          rcases hq' with e | e
          · cases e; exact List.mem_cons_self
          · exact List.mem_cons_of_mem _ e)
        rw [at2_addAt (hG.addAt hd _) hd hqm, at2_addAt hG hd hp, if_neg e]
        split <;> omega
/-- behind a move something stands only where it stood or on the path -/
theorem moveM_sup {many : Int} (hm : 0 ≤ many) {prev : Option Nat} {P : List Nat} {L : Nat} (h : Pth n m lots rst g prev P L) : ∀ {G : List (List Int)}, Sh G n m → ∀ d p, at2 (moveM many prev P G) d p ≤ at2 G d p ∨ (p ∈ lots d ∧ ∃ i, P[2 * i]? = some d ∧ P[2 * i + 1]? = some p) := by
  induction h with
  | @last prev d p hd hp hl hq hr =>
    intro G hG d' p'
    cases prev with
    | none =>
      show at2 (addAt G d p many) d' p' ≤ _ ∨ _
      rw [at2_addAt hG hd hp]
      by_cases e : d' = d ∧ p' = p
      · obtain ⟨rfl, rfl⟩ := e
        exact .inr ⟨hl, 0, rfl, rfl⟩
      · rw [if_neg e]
        exact .inl (by omega)
    | some q =>
      show at2 (addAt (addAt G d p many) d q (-many)) d' p' ≤ _ ∨ _
      rw [at2_addAt (hG.addAt hd _) hd (hq q rfl).1, at2_addAt hG hd hp]
      by_cases e : d' = d ∧ p' = p
      · obtain ⟨rfl, rfl⟩ := e
        exact .inr ⟨hl, 0, rfl, rfl⟩
      · rw [if_neg e]
        refine .inl ?_
        split <;> omega
  | @step prev d p L r hd hp hl hq h ih =>
    intro G hG d' p'
    have up : (p' ∈ lots d' ∧ ∃ i, r[2 * i]? = some d' ∧ r[2 * i + 1]? = some p') → (p' ∈ lots d' ∧ ∃ i, (d :: p :: r)[2 * i]? = some d' ∧ (d :: p :: r)[2 * i + 1]? = some p') := by
      rintro ⟨h1, i, h2, h3⟩
      refine ⟨h1, i + 1, ?_, ?_⟩
      · rw [show 2 * (i + 1) = 2 * i + 1 + 1 by omega, List.getElem?_cons_succ, List.getElem?_cons_succ]
        exact h2
      · rw [show 2 * (i + 1) + 1 = 2 * i + 1 + 1 + 1 by omega, List.getElem?_cons_succ, List.getElem?_cons_succ]
        exact h3
    cases prev with
    | none =>
      rcases ih (hG.addAt hd many) d' p' with q | q
      · rw [at2_addAt hG hd hp] at q
        by_cases e : d' = d ∧ p' = p
        · obtain ⟨rfl, rfl⟩ := e
          exact .inr ⟨hl, 0, rfl, rfl⟩
        · rw [if_neg e] at q
          exact .inl (by
            show at2 (moveM many (some p) r (addAt G d p many)) d' p' ≤ _
            omega)
      · exact .inr (up q)
    | some q0 =>
      rcases ih ((hG.addAt hd many).addAt hd (p := q0) (-many)) d' p' with q | q
      · rw [at2_addAt (hG.addAt hd _) hd (hq q0 rfl).1, at2_addAt hG hd hp] at q
        by_cases e : d' = d ∧ p' = p
        · obtain ⟨rfl, rfl⟩ := e
          exact .inr ⟨hl, 0, rfl, rfl⟩
        · rw [if_neg e] at q
          refine .inl ?_
          show at2 (moveM many (some p) r (addAt (addAt G d p many) d q0 (-many))) d' p' ≤ _
          split at q <;> omega
      · exact .inr (up q)
/-- the room is at most each thing it looks at, and above 0 -/
theorem roomM_le {G : List (List Int)} : ∀ {P : List Nat} {prev : Option Nat} {f : Int}, roomM G f prev P ≤ f
  | [], none, _ => Int.le_refl _
  | [], some _, _ => Int.le_refl _
  | [_], none, _ => Int.le_refl _
  | [_], some _, _ => Int.le_refl _
  | _ :: p :: r, none, f => roomM_le (P := r) (prev := some p)
  | d :: p :: r, some q, f => by
    have h := roomM_le (G := G) (P := r) (prev := some p) (f := if at2 G d q < f then at2 G d q else f)
    show roomM G (if at2 G d q < f then at2 G d q else f) (some p) r ≤ f
    have h2 : (if at2 G d q < f then at2 G d q else f) ≤ f := by split <;> omega
    omega
theorem roomM_takes {G : List (List Int)} {many : Int} : ∀ {P : List Nat} {prev : Option Nat} {f : Int}, many ≤ roomM G f prev P → Takes many G prev P
  | [], none, _, _ => trivial
  | [], some _, _, _ => trivial
  | [_], none, _, _ => trivial
  | [_], some _, _, _ => trivial
  | _ :: p :: r, none, f, h => roomM_takes (P := r) (prev := some p) h
  | d :: p :: r, some q, f, h => by
    have h1 : many ≤ roomM G (if at2 G d q < f then at2 G d q else f) (some p) r := h
    refine ⟨?_, roomM_takes (P := r) (prev := some p) h1⟩
    have h2 := roomM_le (G := G) (P := r) (prev := some p) (f := if at2 G d q < f then at2 G d q else f)
    have h3 : (if at2 G d q < f then at2 G d q else f) ≤ at2 G d q := by split <;> omega
    omega
theorem roomM_pos {G : List (List Int)} (hg : ∀ d p, g d p = at2 G d p) {prev : Option Nat} {P : List Nat} {L : Nat} (h : Pth n m lots rst g prev P L) : ∀ {f : Int}, 0 < f → 0 < roomM G f prev P := by
  induction h with
  | @last prev d p hd hp hl hq hr =>
    intro f hf
    cases prev with
    | none => exact hf
    | some q =>
      have h1 := (hq q rfl).2
      rw [hg] at h1
      show 0 < (if at2 G d q < f then at2 G d q else f)
      split <;> omega
  | @step prev d p L r hd hp hl hq h ih =>
    intro f hf
    cases prev with
    | none => exact ih hf
    | some q =>
      have h1 := (hq q rfl).2
      rw [hg] at h1
      refine ih (f := if at2 G d q < f then at2 G d q else f) ?_
      split <;> omega
end
end Dr

set_option maxHeartbeats 4000000
/-! The search for a path, as a function of lists. -/
namespace Dr

def kys {α : Type} (l : List (Nat × α)) : List Nat := l.map (·.1)
/-- the demands behind one place -/
def visit (pl : Nat) : Nat → List (List Int) → List (Nat × Option Nat) → List (Nat × Option Nat)
  | _, [], fp => fp
  | k, row :: r, fp => visit pl (k + 1) r (if 0 < gi row pl ∧ k ∉ kys fp then fp ++ [(k, some pl)] else fp)
inductive Sc where
  | found (pl : Nat) (fp : List (Nat × Option Nat)) (fd : List (Nat × Nat))
  | cont (fp : List (Nat × Option Nat)) (fd : List (Nat × Nat))
def scan (rests : List Int) (G : List (List Int)) (at_ : Nat) : List Nat → List (Nat × Option Nat) → List (Nat × Nat) → Sc
  | [], fp, fd => .cont fp fd
  | pl :: r, fp, fd => if pl ∈ kys fd then scan rests G at_ r fp fd
    else if 0 < gi rests pl then .found pl fp (fd ++ [(pl, at_)])
    else scan rests G at_ r (visit pl 0 G fp) (fd ++ [(pl, at_)])
def walkF (lots : List (List Nat)) (rests : List Int) (G : List (List Int)) : Nat → Nat → List (Nat × Option Nat) → List (Nat × Nat) → Option Nat × List (Nat × Option Nat) × List (Nat × Nat)
  | 0, _, fp, fd => (none, fp, fd)
  | f + 1, spot, fp, fd => match fp[spot]? with
    | none => (none, fp, fd)
    | some e => match scan rests G e.1 (lots.getD e.1 []) fp fd with
      | .found pl fp' fd' => (some pl, fp', fd')
      | .cont fp' fd' => walkF lots rests G f (spot + 1) fp' fd'
def lkN (fd : List (Nat × Nat)) (pl : Nat) : Nat := (fd.lookup pl).getD 0
def lkO (fp : List (Nat × Option Nat)) (d : Nat) : Option Nat := (fp.lookup d).getD none
def back (fp : List (Nat × Option Nat)) (fd : List (Nat × Nat)) : Nat → Option Nat → List Nat → List Nat
  | 0, _, suf => suf
  | _ + 1, none, suf => suf
  | f + 1, some pl, suf => back fp fd f (lkO fp (lkN fd pl)) (lkN fd pl :: pl :: suf)
def pathM (lots : List (List Nat)) (rests : List Int) (G : List (List Int)) (d : Nat) : Option (List Nat) :=
  match walkF lots rests G (G.length + 1) 0 [(d, none)] [] with
  | (none, _, _) => none
  | (some pl, fp, fd) => some (back fp fd (G.length + 1) (some pl) [])

/-! ### what is true of the search -/
theorem kys_append {α : Type} (a b : List (Nat × α)) : kys (a ++ b) = kys a ++ kys b := List.map_append
theorem kys_get {α : Type} {l : List (Nat × α)} {i : Nat} {e : Nat × α} (h : l[i]? = some e) : (kys l)[i]? = some e.1 := by
  unfold kys
  rw [List.getElem?_map, h]
  rfl
theorem mem_kys_of {α : Type} {l : List (Nat × α)} {e : Nat × α} (h : e ∈ l) : e.1 ∈ kys l := List.mem_map.mpr ⟨e, h, rfl⟩
theorem lookup_of_mem {α : Type} : ∀ {l : List (Nat × α)} {k : Nat} {v : α}, (kys l).Nodup → (k, v) ∈ l → l.lookup k = some v
  | [], _, _, _, h => by cases h
  | (a, b) :: r, k, v, hn, h => by
    obtain ⟨h1, h2⟩ := List.nodup_cons.mp hn
    rcases List.mem_cons.mp h with e | h
    · cases e
      simp
    · have hne : ¬ k = a := fun z => h1 (z ▸ mem_kys_of (e := (k, v)) h)
      rw [List.lookup_cons, beq_eq_false_iff_ne.mpr hne]
      exact lookup_of_mem h2 h

structure BI (n m : Nat) (lots : Nat → List Nat) (rst : Nat → Int) (g : Nat → Nat → Int) (d0 : Nat) (fp : List (Nat × Option Nat)) (fd : List (Nat × Nat)) : Prop where
  h0 : fp[0]? = some (d0, none)
  ndp : (kys fp).Nodup
  ltp : ∀ e ∈ fp, e.1 < n
  fpc : ∀ (i d : Nat) (o : Option Nat), fp[i]? = some (d, o) → 0 < i → ∃ q j d', o = some q ∧ (q, d') ∈ fd ∧ 0 < g d q ∧ (kys fp)[j]? = some d' ∧ j < i
  ndd : (kys fd).Nodup
  fdc : ∀ e ∈ fd, e.1 < m ∧ e.1 ∈ lots e.2 ∧ e.2 ∈ kys fp
/-- the places gone through have nothing left, and all that take from them are met -/
def Clr (n : Nat) (rst : Nat → Int) (g : Nat → Nat → Int) (fp : List (Nat × Option Nat)) (S : List Nat) : Prop := ∀ p ∈ S, ¬ 0 < rst p ∧ ∀ d, d < n → 0 < g d p → d ∈ kys fp
def Lcl (lots : Nat → List Nat) (fp : List (Nat × Option Nat)) (fd : List (Nat × Nat)) (spot : Nat) : Prop := ∀ i d, i < spot → (kys fp)[i]? = some d → ∀ p ∈ lots d, p ∈ kys fd

theorem BI.len {n m : Nat} {lots : Nat → List Nat} {rst : Nat → Int} {g : Nat → Nat → Int} {d0 : Nat} {fp : List (Nat × Option Nat)} {fd : List (Nat × Nat)} (B : BI n m lots rst g d0 fp fd) : fp.length ≤ n := by
  have h1 : (kys fp).length ≤ (List.range n).length := List.Nodup.length_le_of_subset B.ndp fun x hx => by
    obtain ⟨e, he, rfl⟩ := List.mem_map.mp hx
    exact List.mem_range.mpr (B.ltp e he)
  rw [List.length_range] at h1
  unfold kys at h1
  rw [List.length_map] at h1
  exact h1

section
variable {n m : Nat} {lots : Nat → List Nat} {rst : Nat → Int} {g : Nat → Nat → Int} {d0 : Nat}
/-- what a visit keeps and adds -/
structure Vis (fp fp' : List (Nat × Option Nat)) : Prop where
  pre : ∃ t, fp' = fp ++ t
theorem Vis.refl (fp : List (Nat × Option Nat)) : Vis fp fp := ⟨[], by simp⟩
theorem Vis.trans {a b c : List (Nat × Option Nat)} (h : Vis a b) (k : Vis b c) : Vis a c := by
  obtain ⟨t, rfl⟩ := h.pre
  obtain ⟨u, rfl⟩ := k.pre
  exact ⟨t ++ u, by rw [List.append_assoc]⟩
theorem Vis.mem {a b : List (Nat × Option Nat)} (h : Vis a b) {x : Nat} (hx : x ∈ kys a) : x ∈ kys b := by
  obtain ⟨t, rfl⟩ := h.pre
  rw [kys_append]
  exact List.mem_append_left _ hx
theorem Vis.get {a b : List (Nat × Option Nat)} (h : Vis a b) {i : Nat} {e : Nat} (hx : (kys a)[i]? = some e) : (kys b)[i]? = some e := by
  obtain ⟨t, rfl⟩ := h.pre
  rw [kys_append, List.getElem?_append_left (List.getElem?_eq_some_iff.mp hx).1]
  exact hx
theorem Vis.len {a b : List (Nat × Option Nat)} (h : Vis a b) : a.length ≤ b.length := by
  obtain ⟨t, rfl⟩ := h.pre
  rw [List.length_append]
  omega

theorem BI.add {fp : List (Nat × Option Nat)} {fd : List (Nat × Nat)} (B : BI n m lots rst g d0 fp fd) {k pl d' : Nat} (hk : k < n) (hn : k ∉ kys fp) (hg : 0 < g k pl) (hd : (pl, d') ∈ fd) : BI n m lots rst g d0 (fp ++ [(k, some pl)]) fd := by
  refine ⟨?_, ?_, ?_, ?_, B.ndd, fun e he => ⟨(B.fdc e he).1, (B.fdc e he).2.1, ?_⟩⟩
  · have hl := (List.getElem?_eq_some_iff.mp B.h0).1
    rw [List.getElem?_append_left hl]
    exact B.h0
  · rw [kys_append]
    refine List.nodup_append.mpr ⟨B.ndp, by simp [kys], ?_⟩
    intro a ha b hb
    have e : b = k := by simpa [kys] using hb
    subst e
    exact fun z => hn (z ▸ ha)
  · intro e he
    rcases List.mem_append.mp he with h | h
    · exact B.ltp e h
    · have e' : e = (k, some pl) := by simpa using h
      rw [e']
      exact hk
  · intro i d o hi h0
    by_cases hl : i < fp.length
    · rw [List.getElem?_append_left hl] at hi
      obtain ⟨q, j, d', h1, h2, h3, h4, h5⟩ := B.fpc i d o hi h0
      exact ⟨q, j, d', h1, h2, h3, (Vis.get ⟨_, rfl⟩ h4), h5⟩
    · have hi' := (List.getElem?_eq_some_iff.mp hi).1
      rw [List.length_append, List.length_singleton] at hi'
      have ei : i = fp.length := by omega
      subst ei
      rw [List.getElem?_append_right (Nat.le_refl _), Nat.sub_self] at hi
      have e : (k, some pl) = (d, o) := Option.some.inj hi
      cases e
      have hm : d' ∈ kys fp := (B.fdc _ hd).2.2
      obtain ⟨j, hj, ej⟩ := List.getElem_of_mem hm
      have hj' : j < fp.length := by
        unfold kys at hj
        rw [List.length_map] at hj
        exact hj
      exact ⟨pl, j, d', rfl, hd, hg, Vis.get ⟨_, rfl⟩ (List.getElem?_eq_some_iff.mpr ⟨hj, ej⟩), hj'⟩
  · rw [kys_append]
    exact List.mem_append_left _ (B.fdc e he).2.2

theorem visit_ok {pl d' : Nat} {G : List (List Int)} (hg : ∀ d p, g d p = at2 G d p) (hGn : G.length = n) : ∀ (r : List (List Int)) (k : Nat) (fp : List (Nat × Option Nat)) (fd : List (Nat × Nat)), G.drop k = r → BI n m lots rst g d0 fp fd → (pl, d') ∈ fd → (∀ d, d < k → 0 < g d pl → d ∈ kys fp) →
    BI n m lots rst g d0 (visit pl k r fp) fd ∧ Vis fp (visit pl k r fp) ∧ ∀ d, d < n → 0 < g d pl → d ∈ kys (visit pl k r fp)
  | [], k, fp, fd, hr, B, hd, hk => by
    have hl : G.length ≤ k := List.drop_eq_nil_iff.mp hr
    exact ⟨B, .refl _, fun d h1 h2 => hk d (by omega) h2⟩
  | row :: r, k, fp, fd, hr, B, hd, hk => by
    have hkl : k < G.length := by
      rcases Nat.lt_or_ge k G.length with h | h
      · exact h
      · rw [List.drop_eq_nil_iff.mpr h] at hr
        cases hr
    have hrow : G[k]? = some row := by
      rw [← List.head?_drop, hr]
      rfl
    have hr' : G.drop (k + 1) = r := by
      rw [← List.tail_drop, hr]
      rfl
    have erow : gi row pl = g k pl := by
      rw [hg]
      unfold at2
      rw [List.getD_eq_getElem?_getD, hrow]
      rfl
    unfold visit
    by_cases c : 0 < gi row pl ∧ k ∉ kys fp
    · rw [if_pos c]
      have B' := B.add (by omega : k < n) c.2 (by rw [← erow]; exact c.1) hd
      have V : Vis fp (fp ++ [(k, some pl)]) := ⟨_, rfl⟩
      obtain ⟨h1, h2, h3⟩ := visit_ok hg hGn r (k + 1) (fp ++ [(k, some pl)]) fd hr' B' hd fun d h1 h2 => by
        by_cases e : d = k
        · subst e
          rw [kys_append]
          exact List.mem_append_right _ (by simp [kys])
        · exact V.mem (hk d (by omega) h2)
      exact ⟨h1, V.trans h2, h3⟩
    · rw [if_neg c]
      exact visit_ok hg hGn r (k + 1) fp fd hr' B hd fun d h1 h2 => by
        by_cases e : d = k
        · subst e
          rcases Classical.em (d ∈ kys fp) with h | h
          · exact h
          · exact absurd ⟨by rw [erow]; exact h2, h⟩ c
        · exact hk d (by omega) h2

def ScOk (n m : Nat) (lots : Nat → List Nat) (rst : Nat → Int) (g : Nat → Nat → Int) (d0 at_ : Nat) (fp : List (Nat × Option Nat)) (fd : List (Nat × Nat)) : Sc → Prop
  | .found pl fp' fd' => BI n m lots rst g d0 fp' fd' ∧ pl < m ∧ 0 < rst pl ∧ pl ∈ kys fd'
  | .cont fp' fd' => BI n m lots rst g d0 fp' fd' ∧ Vis fp fp' ∧ Clr n rst g fp' (kys fd') ∧ (∀ p ∈ lots at_, p ∈ kys fd') ∧ (∀ p ∈ kys fd, p ∈ kys fd')
theorem BI.place {fp : List (Nat × Option Nat)} {fd : List (Nat × Nat)} (B : BI n m lots rst g d0 fp fd) {pl at_ : Nat} (hn : pl ∉ kys fd) (hp : pl < m) (hl : pl ∈ lots at_) (ha : at_ ∈ kys fp) : BI n m lots rst g d0 fp (fd ++ [(pl, at_)]) := by
  refine ⟨B.h0, B.ndp, B.ltp, fun i d o hi h0 => ?_, ?_, fun e he => ?_⟩
  · obtain ⟨q, j, d', h1, h2, h3⟩ := B.fpc i d o hi h0
    exact ⟨q, j, d', h1, List.mem_append_left _ h2, h3⟩
  · rw [kys_append]
    refine List.nodup_append.mpr ⟨B.ndd, by simp [kys], ?_⟩
    intro a ha b hb
    have e : b = pl := by simpa [kys] using hb
    subst e
    exact fun z => hn (z ▸ ha)
  · rcases List.mem_append.mp he with h | h
    · exact B.fdc e h
    · have e' : e = (pl, at_) := by simpa using h
      rw [e']
      exact ⟨hp, hl, ha⟩
theorem scan_ok {at_ : Nat} {rests : List Int} {G : List (List Int)} (hg : ∀ d p, g d p = at2 G d p) (hr : ∀ p, rst p = gi rests p) (hGn : G.length = n) : ∀ (L : List Nat) (fp : List (Nat × Option Nat)) (fd : List (Nat × Nat)), (∀ p ∈ L, p < m ∧ p ∈ lots at_) → (∀ p ∈ lots at_, p ∈ L ∨ p ∈ kys fd) → BI n m lots rst g d0 fp fd → at_ ∈ kys fp → Clr n rst g fp (kys fd) → ScOk n m lots rst g d0 at_ fp fd (scan rests G at_ L fp fd)
  | [], fp, fd, hL, hA, B, ha, hc => ⟨B, .refl _, hc, fun p hp => (hA p hp).resolve_left (by simp), fun p hp => hp⟩
  | pl :: r, fp, fd, hL, hA, B, ha, hc => by
    obtain ⟨hpm, hpl⟩ := hL pl List.mem_cons_self
    unfold scan
    by_cases c : pl ∈ kys fd
    · rw [if_pos c]
      exact scan_ok hg hr hGn r fp fd (fun p hp => hL p (List.mem_cons_of_mem _ hp)) (fun p hp => by
        rcases hA p hp with h | h
        · rcases List.mem_cons.mp h with e | h
          · exact .inr (e ▸ c)
          · exact .inl h
        · exact .inr h) B ha hc
    · rw [if_neg c]
      have B1 := B.place c hpm hpl ha
      have hin : pl ∈ kys (fd ++ [(pl, at_)]) := by
        rw [kys_append]
        exact List.mem_append_right _ (by simp [kys])
      by_cases c2 : 0 < gi rests pl
      · rw [if_pos c2]
        exact ⟨B1, hpm, by rw [hr]; exact c2, hin⟩
      · rw [if_neg c2]
        have hmem : (pl, at_) ∈ fd ++ [(pl, at_)] := List.mem_append_right _ (by simp)
        obtain ⟨B2, V, hall⟩ := visit_ok (pl := pl) (d' := at_) hg hGn G 0 fp _ rfl B1 hmem (fun d h => absurd h (by omega))
        have hsub : ∀ p ∈ kys fd, p ∈ kys (fd ++ [(pl, at_)]) := fun p hp => by
          rw [kys_append]
          exact List.mem_append_left _ hp
        have q := scan_ok hg hr hGn r (visit pl 0 G fp) (fd ++ [(pl, at_)]) (fun p hp => hL p (List.mem_cons_of_mem _ hp)) (fun p hp => by
          rcases hA p hp with h | h
          · rcases List.mem_cons.mp h with e | h
            · exact .inr (e ▸ hin)
            · exact .inl h
          · exact .inr (hsub p h)) B2 (V.mem ha) (fun p hp => by
          rw [kys_append] at hp
          rcases List.mem_append.mp hp with h | h
          · exact ⟨(hc p h).1, fun d h1 h2 => V.mem ((hc p h).2 d h1 h2)⟩
          · have e : p = pl := by simpa [kys] using h
            subst e
            exact ⟨by rw [hr]; exact c2, hall⟩)
        revert q
        cases scan rests G at_ r (visit pl 0 G fp) (fd ++ [(pl, at_)]) with
        | found => exact fun q => q
        | cont fp' fd' => exact fun q => ⟨q.1, V.trans q.2.1, q.2.2.1, q.2.2.2.1, fun p hp => q.2.2.2.2 p (hsub p hp)⟩

def WkOk (n m : Nat) (lots : Nat → List Nat) (rst : Nat → Int) (g : Nat → Nat → Int) (d0 : Nat) : Option Nat × List (Nat × Option Nat) × List (Nat × Nat) → Prop
  | (some pl, fp, fd) => BI n m lots rst g d0 fp fd ∧ pl < m ∧ 0 < rst pl ∧ pl ∈ kys fd
  | (none, fp, fd) => BI n m lots rst g d0 fp fd ∧ Clr n rst g fp (kys fd) ∧ Lcl lots fp fd fp.length
theorem walk_ok {lotsL : List (List Nat)} {rests : List Int} {G : List (List Int)} (hg : ∀ d p, g d p = at2 G d p) (hr : ∀ p, rst p = gi rests p) (hl : ∀ d, lots d = lotsL.getD d []) (hGn : G.length = n) (hm : ∀ d, d < n → ∀ p ∈ lots d, p < m) : ∀ (f spot : Nat) (fp : List (Nat × Option Nat)) (fd : List (Nat × Nat)), n < f + spot → spot ≤ fp.length → BI n m lots rst g d0 fp fd → Clr n rst g fp (kys fd) → Lcl lots fp fd spot → WkOk n m lots rst g d0 (walkF lotsL rests G f spot fp fd)
  | 0, spot, fp, fd, hf, hs, B, hc, hL => by
    have := B.len
    exact absurd hs (by omega)
  | f + 1, spot, fp, fd, hf, hs, B, hc, hL => by
    unfold walkF
    cases e : fp[spot]? with
    | none =>
      have h1 : fp.length ≤ spot := List.getElem?_eq_none_iff.mp e
      have h2 : spot = fp.length := by omega
      exact ⟨B, hc, h2 ▸ hL⟩
    | some x =>
      have hx : x ∈ fp := List.mem_of_getElem? e
      have hxn := B.ltp x hx
      have hlt := (List.getElem?_eq_some_iff.mp e).1
      have q := scan_ok (at_ := x.1) hg hr hGn (lotsL.getD x.1 []) fp fd (fun p hp => by rw [← hl] at hp; exact ⟨hm x.1 hxn p hp, hp⟩) (fun p hp => .inl (by rw [← hl]; exact hp)) B (mem_kys_of hx) hc
      show WkOk n m lots rst g d0 (match scan rests G x.1 (lotsL.getD x.1 []) fp fd with
        | .found pl fp' fd' => (some pl, fp', fd')
        | .cont fp' fd' => walkF lotsL rests G f (spot + 1) fp' fd')
      revert q
      cases scan rests G x.1 (lotsL.getD x.1 []) fp fd with
      | found => exact fun q => q
      | cont fp' fd' =>
        intro q
        obtain ⟨B', V, hc', hA, hsub⟩ := q
        refine walk_ok hg hr hl hGn hm f (spot + 1) fp' fd' (by omega) (Nat.le_trans hlt V.len) B' hc' fun i d hi hd p hp => ?_
        by_cases ei : i = spot
        · subst ei
          have e1 := V.get (kys_get e)
          rw [hd] at e1
          cases e1
          exact hA p hp
        · have hi' : i < spot := by omega
          have hlen : i < (kys fp).length := by
            unfold kys
            rw [List.length_map]
            omega
          have e1 := V.get (List.getElem?_eq_getElem hlen)
          rw [hd] at e1
          cases e1
          exact hsub p (hL i _ hi' (List.getElem?_eq_getElem hlen) p hp)

/-- going back over what was found: a path from d0 -/
theorem back_ok {fp : List (Nat × Option Nat)} {fd : List (Nat × Nat)} (B : BI n m lots rst g d0 fp fd) : ∀ (f pl j d L : Nat) (suf : List Nat), j < f → (pl, d) ∈ fd → (kys fp)[j]? = some d → ((suf = [] ∧ pl = L ∧ 0 < rst pl) ∨ Pth n m lots rst g (some pl) suf L) → (pls suf).Nodup → (∀ p ∈ pls suf, ∃ d' j', (p, d') ∈ fd ∧ (kys fp)[j']? = some d' ∧ j < j') →
    Pth n m lots rst g none (back fp fd f (some pl) suf) L ∧ (pls (back fp fd f (some pl) suf)).Nodup ∧ (back fp fd f (some pl) suf).head? = some d0
  | 0, _, _, _, _, _, h, _, _, _, _, _ => absurd h (by omega)
  | f + 1, pl, j, d, L, suf, hj, hfd, hk, hP, hn, hi => by
    have e1 : lkN fd pl = d := by
      unfold lkN
      rw [lookup_of_mem B.ndd hfd]
      rfl
    obtain ⟨hpm, hpl, hdk⟩ := B.fdc _ hfd
    obtain ⟨⟨d1, o⟩, he⟩ : ∃ e, fp[j]? = some e := by
      have h1 := (List.getElem?_eq_some_iff.mp hk).1
      unfold kys at h1
      rw [List.length_map] at h1
      exact ⟨_, List.getElem?_eq_getElem h1⟩
    have ed : d1 = d := by
      have := kys_get he
      rw [hk] at this
      exact (Option.some.inj this).symm
    subst ed
    have e2 : lkO fp d1 = o := by
      unfold lkO
      rw [lookup_of_mem B.ndp (List.mem_of_getElem? he)]
      rfl
    have hdn : d1 < n := B.ltp _ (List.mem_of_getElem? he)
    have hnew : pl ∉ pls suf := fun hm => by
      obtain ⟨d', j', h1, h2, h3⟩ := hi pl hm
      have q1 := lookup_of_mem B.ndd h1
      have q2 := lookup_of_mem B.ndd hfd
      rw [q1] at q2
      cases q2
      obtain ⟨a1, a2⟩ := List.getElem?_eq_some_iff.mp hk
      obtain ⟨b1, b2⟩ := List.getElem?_eq_some_iff.mp h2
      have : j = j' := (List.getElem_inj B.ndp).mp (a2.trans b2.symm)
      omega
    have hnod : (pls (d1 :: pl :: suf)).Nodup := List.nodup_cons.mpr ⟨hnew, hn⟩
    have mk : ∀ prev : Option Nat, (∀ q, prev = some q → q < m ∧ 0 < g d1 q) → Pth n m lots rst g prev (d1 :: pl :: suf) L := fun prev hq => by
      rcases hP with ⟨rfl, rfl, hr⟩ | hP
      · exact .last hdn hpm hpl hq hr
      · exact .step hdn hpm hpl hq hP
    unfold back
    rw [e1, e2]
    cases o with
    | none =>
      have e3 : ∀ f, back fp fd f none (d1 :: pl :: suf) = d1 :: pl :: suf := fun f => by cases f <;> rfl
      rw [e3]
      refine ⟨mk none (fun q e => by cases e), hnod, ?_⟩
      have hj0 : j = 0 := by
        rcases Nat.eq_zero_or_pos j with h | h
        · exact h
        · obtain ⟨q, _, _, h1, _⟩ := B.fpc j d1 none he h
          cases h1
      subst hj0
      rw [B.h0] at he
      cases he
      rfl
    | some q =>
      have hj0 : 0 < j := by
        rcases Nat.eq_zero_or_pos j with h | h
        · subst h
          rw [B.h0] at he
          cases he
        · exact h
      obtain ⟨q', j', d', h1, h2, h3, h4, h5⟩ := B.fpc j d1 (some q) he hj0
      cases h1
      refine back_ok B f q j' d' L (d1 :: pl :: suf) (by omega) h2 h4 (.inr (mk (some q) fun q e => by cases e; exact ⟨(B.fdc _ h2).1, h3⟩)) hnod fun p hp => ?_
      rcases List.mem_cons.mp hp with rfl | hp
      · exact ⟨d1, j, hfd, hk, h5⟩
      · obtain ⟨d2, j2, k1, k2, k3⟩ := hi p hp
        exact ⟨d2, j2, k1, k2, by omega⟩
end

/-- a set of demands from which nothing more can be had -/
def Closed (n : Nat) (lots : Nat → List Nat) (rst : Nat → Int) (g : Nat → Nat → Int) (T : Nat → Prop) : Prop := ∀ d, d < n → T d → ∀ p ∈ lots d, ¬ 0 < rst p ∧ ∀ d', d' < n → 0 < g d' p → T d'
theorem path_ok {n m : Nat} {lotsL : List (List Nat)} {rests : List Int} {G : List (List Int)} {d0 : Nat} (hGn : G.length = n) (hd0 : d0 < n) (hm : ∀ d, d < n → ∀ p ∈ lotsL.getD d [], p < m) :
    (∃ P L, pathM lotsL rests G d0 = some P ∧ Pth n m (fun d => lotsL.getD d []) (gi rests) (at2 G) none P L ∧ (pls P).Nodup ∧ P.head? = some d0) ∨
    (pathM lotsL rests G d0 = none ∧ ∃ T : Nat → Prop, T d0 ∧ Closed n (fun d => lotsL.getD d []) (gi rests) (at2 G) T) := by
  have B0 : BI n m (fun d => lotsL.getD d []) (gi rests) (at2 G) d0 [(d0, none)] [] := by
    refine ⟨rfl, by simp [kys], fun e he => ?_, fun i d o hi h0 => ?_, by simp [kys], fun e he => by cases he⟩
    · have : e = (d0, none) := by simpa using he
      rw [this]
      exact hd0
    · have := (List.getElem?_eq_some_iff.mp hi).1
      rw [List.length_singleton] at this
      omega
  have q := walk_ok (lots := fun d => lotsL.getD d []) (rst := gi rests) (g := at2 G) (fun _ _ => rfl) (fun _ => rfl) (fun _ => rfl) hGn hm (n + 1) 0 [(d0, none)] [] (by omega) (Nat.zero_le _) B0 (fun p hp => by simp [kys] at hp) (fun i d hi => absurd hi (by omega))
  unfold pathM
  rw [hGn]
  revert q
  generalize walkF lotsL rests G (n + 1) 0 [(d0, none)] [] = W
  obtain ⟨o, fp, fd⟩ := W
  cases o with
  | none =>
    intro q
    obtain ⟨B, hc, hL⟩ := q
    refine .inr ⟨rfl, fun d => d ∈ kys fp, ?_, fun d hd hT p hp => ?_⟩
    · exact mem_kys_of (e := (d0, none)) (List.mem_of_getElem? B.h0)
    · obtain ⟨j, hj, ej⟩ := List.getElem_of_mem hT
      have hj' : j < fp.length := by
        unfold kys at hj
        rw [List.length_map] at hj
        exact hj
      have hpk := hL j d hj' (List.getElem?_eq_some_iff.mpr ⟨hj, ej⟩) p hp
      exact hc p hpk
  | some pl =>
    intro q
    obtain ⟨B, hp, hr, hk⟩ := q
    obtain ⟨⟨pl', d⟩, he, e⟩ := List.mem_map.mp hk
    have e : pl' = pl := e
    subst e
    obtain ⟨j, hj, ej⟩ := List.getElem_of_mem (B.fdc _ he).2.2
    have hjn : j < n + 1 := by
      have := B.len
      unfold kys at hj
      rw [List.length_map] at hj
      omega
    obtain ⟨h1, h2, h3⟩ := back_ok B (n + 1) pl' j d pl' [] hjn he (List.getElem?_eq_some_iff.mpr ⟨hj, ej⟩) (.inl ⟨rfl, rfl, hr⟩) (by simp [pls]) (fun p hp => by simp [pls] at hp)
    exact .inl ⟨_, pl', rfl, h1, h2, h3⟩
end Dr

set_option maxHeartbeats 4000000
/-! Filling demand by demand: the end state is a flow from which nothing more can be had. -/
namespace Dr

structure St where
  owed : List Int
  rests : List Int
  G : List (List Int)
def mn (a b : Int) : Int := if b < a then b else a
def roomS (S : St) (P : List Nat) : Int := roomM S.G (mn (gi S.owed (P.headD 0)) (gi S.rests (P.getLastD 0))) none P
def moveS (many : Int) (P : List Nat) (S : St) : St := ⟨addL S.owed (P.headD 0) (-many), addL S.rests (P.getLastD 0) (-many), moveM many none P S.G⟩
def fillM (lots : List (List Nat)) (d : Nat) : Nat → Int → St → Int × St
  | 0, f, S => (f, S)
  | k + 1, f, S => if 0 < gi S.owed d then
      match pathM lots S.rests S.G d with
      | none => (f, S)
      | some P => fillM lots d k (f + roomS S P) (moveS (roomS S P) P S)
    else (f, S)
def fillA (lots : List (List Nat)) : List Nat → St → St
  | [], S => S
  | d :: r, S => fillA lots r (fillM lots d (gi S.owed d).toNat 0 S).2

/-- a state that is a flow -/
structure Flow (n m : Nat) (lots : List (List Nat)) (amt cap : Nat → Int) (S : St) : Prop where
  sh : Sh S.G n m
  lo : S.owed.length = n
  lr : S.rests.length = m
  nn : ∀ d p, 0 ≤ at2 S.G d p
  ow : ∀ d, d < n → gi S.owed d = amt d - rowS m S.G d ∧ 0 ≤ gi S.owed d
  rs : ∀ p, p < m → gi S.rests p = cap p - colS n S.G p ∧ 0 ≤ gi S.rests p
  su : ∀ d p, 0 < at2 S.G d p → p ∈ lots.getD d []
/-- the demands of a list are done with -/
def Done (n : Nat) (lots : List (List Nat)) (S : St) (ks : List Nat) : Prop := ∀ k ∈ ks, gi S.owed k = 0 ∨ ∃ T : Nat → Prop, T k ∧ Closed n (fun d => lots.getD d []) (gi S.rests) (at2 S.G) T

theorem mem_pls : ∀ {P : List Nat} {i p : Nat}, P.length % 2 = 0 → P[2 * i + 1]? = some p → p ∈ pls P
  | [], _, _, _, h => by simp at h
  | [_], _, _, hl, _ => by simp at hl
  | _ :: b :: r, 0, p, hl, h => by
    have : b = p := by simpa using h
    subst this
    simp [pls]
  | _ :: b :: r, i + 1, p, hl, h => by
    rw [show 2 * (i + 1) + 1 = 2 * i + 1 + 1 + 1 by omega, List.getElem?_cons_succ, List.getElem?_cons_succ] at h
    exact List.mem_cons_of_mem _ (mem_pls (by simp only [List.length_cons] at hl; omega) h)
theorem mem_dms : ∀ {P : List Nat} {i d : Nat}, P.length % 2 = 0 → P[2 * i]? = some d → d ∈ dms P
  | [], _, _, _, h => by simp at h
  | [_], _, _, hl, _ => by simp at hl
  | a :: b :: r, 0, d, hl, h => by
    have : a = d := by simpa using h
    subst this
    simp [dms]
  | _ :: b :: r, i + 1, d, hl, h => by
    rw [show 2 * (i + 1) = 2 * i + 1 + 1 by omega, List.getElem?_cons_succ, List.getElem?_cons_succ] at h
    exact List.mem_cons_of_mem _ (mem_dms (by simp only [List.length_cons] at hl; omega) h)
section
variable {n m : Nat} {lots : Nat → List Nat} {rst : Nat → Int} {g : Nat → Nat → Int}
/-- no path meets a closed set -/
theorem Pth.avoid {T : Nat → Prop} (hT : Closed n lots rst g T) {prev : Option Nat} {P : List Nat} {L : Nat} (h : Pth n m lots rst g prev P L) : ∀ d ∈ dms P, ¬ T d := by
  induction h with
  | @last prev d p hd hp hl hq hr =>
    intro d' hd' ht
    have e : d' = d := by simpa [dms] using hd'
    subst e
    exact (hT d' hd ht p hl).1 hr
  | @step prev d p L r hd hp hl hq h ih =>
    intro d' hd' ht
    rcases List.mem_cons.mp hd' with e | hd'
    · subst e
      obtain ⟨_, h2⟩ := hT d' hd ht p hl
      cases h with
      | @last _ d2 p2 hd2 _ _ hq2 _ => exact ih d2 (by simp [dms]) (h2 d2 hd2 (hq2 p rfl).2)
      | @step _ d2 p2 _ _ hd2 _ _ hq2 _ => exact ih d2 (by simp [dms]) (h2 d2 hd2 (hq2 p rfl).2)
    · exact ih d' hd' ht
theorem Pth.next {prev : Option Nat} {P : List Nat} {L : Nat} (h : Pth n m lots rst g prev P L) : ∀ p ∈ pls P, 0 < rst p ∨ ∃ d ∈ dms P, d < n ∧ 0 < g d p := by
  induction h with
  | @last prev d p hd hp hl hq hr =>
    intro p' hp'
    have e : p' = p := by simpa [pls] using hp'
    subst e
    exact .inl hr
  | @step prev d p L r hd hp hl hq h ih =>
    intro p' hp'
    rcases List.mem_cons.mp hp' with e | hp'
    · subst e
      cases h with
      | @last _ d2 p2 hd2 _ _ hq2 _ => exact .inr ⟨d2, by simp [dms], hd2, (hq2 _ rfl).2⟩
      | @step _ d2 p2 _ _ hd2 _ _ hq2 _ => exact .inr ⟨d2, by simp [dms], hd2, (hq2 _ rfl).2⟩
    · rcases ih p' hp' with h | ⟨d2, h1, h2⟩
      · exact .inl h
      · exact .inr ⟨d2, List.mem_cons_of_mem _ h1, h2⟩
theorem Pth.head {prev : Option Nat} {P : List Nat} {L : Nat} (h : Pth n m lots rst g prev P L) : P.headD 0 < n ∧ P.head? = some (P.headD 0) ∧ P.getLastD 0 = L := by
  have h1 := h.getLast
  refine ⟨?_, ?_, ?_⟩
  · cases h with
    | last hd => exact hd
    | step hd => exact hd
  · obtain ⟨d, p, r, rfl⟩ := h.ne
    rfl
  · rw [List.getLastD_eq_getLast?, h1]
    rfl
end
theorem closed_move {n m : Nat} {lots : List (List Nat)} {S : St} {P : List Nat} {L : Nat} {many : Int} (hm0 : 0 ≤ many) (hs : Sh S.G n m) (hlr : S.rests.length = m) (h : Pth n m (fun d => lots.getD d []) (gi S.rests) (at2 S.G) none P L) {T : Nat → Prop} (hT : Closed n (fun d => lots.getD d []) (gi S.rests) (at2 S.G) T) :
    Closed n (fun d => lots.getD d []) (gi (moveS many P S).rests) (at2 (moveS many P S).G) T := by
  intro d hd ht p hp
  obtain ⟨h1, h2⟩ := hT d hd ht p hp
  obtain ⟨hL, _⟩ := h.lastOk
  refine ⟨fun h3 => h1 ?_, fun d' hd' h3 => ?_⟩
  · have h3 : 0 < gi (addL S.rests (P.getLastD 0) (-many)) p := h3
    rw [h.head.2.2, gi_addL (by rw [hlr]; exact hL)] at h3
    split at h3 <;> omega
  · have h3 : 0 < at2 (moveM many none P S.G) d' p := h3
    rcases moveM_sup hm0 h hs d' p with h4 | ⟨_, i, h5, h6⟩
    · exact h2 d' hd' (by omega)
    · have hev := h.even.1
      rcases h.next p (mem_pls hev h6) with h7 | ⟨d2, h8, h9, h10⟩
      · exact absurd h7 h1
      · exact absurd (h2 d2 h9 h10) (h.avoid hT d2 h8)
theorem mn_le (a b : Int) : mn a b ≤ a ∧ mn a b ≤ b := by
  unfold mn
  split <;> omega
theorem mn_pos {a b : Int} (ha : 0 < a) (hb : 0 < b) : 0 < mn a b := by
  unfold mn
  split <;> omega
theorem flow_move {n m : Nat} {lots : List (List Nat)} {amt cap : Nat → Int} {S : St} (F : Flow n m lots amt cap S) {P : List Nat} {L : Nat} (h : Pth n m (fun d => lots.getD d []) (gi S.rests) (at2 S.G) none P L) (hn : (pls P).Nodup) (ho : 0 < gi S.owed (P.headD 0)) :
    0 < roomS S P ∧ roomS S P ≤ gi S.owed (P.headD 0) ∧ Flow n m lots amt cap (moveS (roomS S P) P S) ∧ (∀ d, gi (moveS (roomS S P) P S).owed d = gi S.owed d - if d = P.headD 0 then roomS S P else 0) := by
  obtain ⟨hh1, hh2, hh3⟩ := h.head
  obtain ⟨hL1, hL2⟩ := h.lastOk
  have hpos : 0 < roomS S P := roomM_pos (fun _ _ => rfl) h (mn_pos ho (by rw [hh3]; exact hL2))
  have hle : roomS S P ≤ mn (gi S.owed (P.headD 0)) (gi S.rests (P.getLastD 0)) := roomM_le
  have hle1 := (mn_le (gi S.owed (P.headD 0)) (gi S.rests (P.getLastD 0))).1
  have hle2 := (mn_le (gi S.owed (P.headD 0)) (gi S.rests (P.getLastD 0))).2
  have hle1' : roomS S P ≤ gi S.owed (P.headD 0) := Int.le_trans hle hle1
  have hle2' : roomS S P ≤ gi S.rests L := by rw [← hh3]; exact Int.le_trans hle hle2
  clear hle hle1 hle2
  have htk : Takes (roomS S P) S.G none P := roomM_takes (Int.le_refl _)
  have eo : ∀ d, gi (moveS (roomS S P) P S).owed d = gi S.owed d - if d = P.headD 0 then roomS S P else 0 := fun d => by
    show gi (addL S.owed (P.headD 0) (-roomS S P)) d = _
    rw [gi_addL (by rw [F.lo]; exact hh1)]
    split <;> omega
  have er : ∀ p, gi (moveS (roomS S P) P S).rests p = gi S.rests p - if p = L then roomS S P else 0 := fun d => by
    show gi (addL S.rests (P.getLastD 0) (-roomS S P)) d = _
    rw [hh3, gi_addL (by rw [F.lr]; exact hL1)]
    split <;> omega
  refine ⟨hpos, hle1', ⟨?_, ?_, ?_, ?_, ?_, ?_, ?_⟩, eo⟩
  · exact moveM_shape h F.sh
  · show (addL _ _ _).length = n
    rw [len_addL]
    exact F.lo
  · show (addL _ _ _).length = m
    rw [len_addL]
    exact F.lr
  · exact moveM_nn (by omega) h F.sh F.nn htk hn (fun q e => by cases e)
  · intro d hd
    rw [eo]
    show _ = amt d - rowS m (moveM (roomS S P) none P S.G) d ∧ _
    rw [moveM_rows h F.sh, hh2]
    obtain ⟨h1, h2⟩ := F.ow d hd
    by_cases e : d = P.headD 0
    · rw [← e] at hle1' ⊢
      rw [if_pos rfl, if_pos ⟨rfl, rfl⟩]
      omega
    · have e' : ¬ (none = (none : Option Nat) ∧ some (P.headD 0) = some d) := fun z => e (Option.some.inj z.2).symm
      rw [if_neg e, if_neg e']
      omega
  · intro p hp
    rw [er]
    show _ = cap p - colS n (moveM (roomS S P) none P S.G) p ∧ _
    rw [moveM_cols h F.sh]
    obtain ⟨h1, h2⟩ := F.rs p hp
    by_cases e : p = L
    · subst e
      simp
      omega
    · simp [e]
      omega
  · intro d p hp
    rcases moveM_sup (many := roomS S P) (Int.le_of_lt hpos) h F.sh d p with h4 | ⟨h5, _⟩
    · have hp : 0 < at2 (moveM (roomS S P) none P S.G) d p := hp
      exact F.su d p (by omega)
    · exact h5
theorem fill_ok {n m : Nat} {lots : List (List Nat)} {amt cap : Nat → Int} (hm : ∀ d, d < n → ∀ p ∈ lots.getD d [], p < m) {d : Nat} (hd : d < n) : ∀ (k : Nat) (f : Int) (S : St) (ks : List Nat), gi S.owed d ≤ k → d ∉ ks → Flow n m lots amt cap S → Done n lots S ks → Flow n m lots amt cap (fillM lots d k f S).2 ∧ Done n lots (fillM lots d k f S).2 (d :: ks)
  | 0, f, S, ks, hk, hn, F, D => by
    refine ⟨F, fun k hk' => ?_⟩
    rcases List.mem_cons.mp hk' with rfl | h
    · have := (F.ow k hd).2
      have e : gi S.owed k = 0 := by simp at hk; omega
      exact .inl e
    · exact D k h
  | k + 1, f, S, ks, hk, hn, F, D => by
    unfold fillM
    by_cases c : 0 < gi S.owed d
    · rw [if_pos c]
      rcases path_ok (rests := S.rests) F.sh.len hd hm with ⟨P, L, e, hP, hnd, hh⟩ | ⟨e, T, hT, hC⟩
      · rw [e]
        have e0 : P.headD 0 = d := by
          obtain ⟨_, h2, _⟩ := hP.head
          rw [h2] at hh
          exact Option.some.inj hh
        obtain ⟨h1, h2, h3, h4⟩ := flow_move F hP hnd (by rw [e0]; exact c)
        refine fill_ok hm hd k _ _ ks ?_ hn h3 fun k' hk' => ?_
        · rw [h4, e0, if_pos rfl]
          simp at hk
          omega
        · rcases D k' hk' with h | ⟨T, hT, hC⟩
          · have : ¬ k' = d := fun z => hn (z ▸ hk')
            rw [h4, e0, if_neg this, h]
            exact .inl rfl
          · exact .inr ⟨T, hT, closed_move (by omega) F.sh F.lr hP hC⟩
      · rw [e]
        refine ⟨F, fun k' hk' => ?_⟩
        rcases List.mem_cons.mp hk' with rfl | h
        · exact .inr ⟨T, hT, hC⟩
        · exact D k' h
    · rw [if_neg c]
      refine ⟨F, fun k' hk' => ?_⟩
      rcases List.mem_cons.mp hk' with rfl | h
      · have := (F.ow k' hd).2
        exact .inl (by show gi S.owed k' = 0; omega)
      · exact D k' h
theorem fillA_ok {n m : Nat} {lots : List (List Nat)} {amt cap : Nat → Int} (hm : ∀ d, d < n → ∀ p ∈ lots.getD d [], p < m) : ∀ (ds : List Nat) (S : St) (ks : List Nat), (∀ d ∈ ds, d < n) → ds.Nodup → (∀ d ∈ ds, d ∉ ks) → Flow n m lots amt cap S → Done n lots S ks → Flow n m lots amt cap (fillA lots ds S) ∧ Done n lots (fillA lots ds S) (ds.reverse ++ ks)
  | [], S, ks, _, _, _, F, D => ⟨F, D⟩
  | d :: r, S, ks, h1, h2, h3, F, D => by
    have hd := h1 d List.mem_cons_self
    obtain ⟨F', D'⟩ := fill_ok hm hd (gi S.owed d).toNat 0 S ks (Int.self_le_toNat _) (h3 d List.mem_cons_self) F D
    obtain ⟨h4, h5⟩ := List.nodup_cons.mp h2
    have q := fillA_ok hm r _ (d :: ks) (fun d' h => h1 d' (List.mem_cons_of_mem _ h)) h5 (fun d' h z => by
      rcases List.mem_cons.mp z with e | z
      · exact h4 (e ▸ h)
      · exact h3 d' (List.mem_cons_of_mem _ h) z) F' D'
    refine ⟨q.1, fun k hk => q.2 k ?_⟩
    simp only [List.reverse_cons, List.append_assoc, List.mem_append, List.mem_cons, List.not_mem_nil, or_false] at hk ⊢
    exact hk

/-! ### cuts -/
open Classical in
/-- the worth of a cut: what the others ask for, and all that the chosen reach -/
noncomputable def cutW (n m : Nat) (lots : Nat → List Nat) (amt cap : Nat → Int) (T : Nat → Prop) : Int := sumR n (fun d => if T d then 0 else amt d) + sumR m (fun p => if ∃ d, d < n ∧ T d ∧ p ∈ lots d then cap p else 0)
def tot (n m : Nat) (G : List (List Int)) : Int := sumR n fun d => rowS m G d
theorem tot_split (n m : Nat) (G : List (List Int)) (lots : Nat → List Nat) (hs : ∀ d p, at2 G d p ≠ 0 → p ∈ lots d) (T : Nat → Prop) [DecidablePred T] [∀ p, Decidable (∃ d, d < n ∧ T d ∧ p ∈ lots d)] :
    tot n m G = sumR n (fun d => if T d then 0 else rowS m G d) + sumR m (fun p => if ∃ d, d < n ∧ T d ∧ p ∈ lots d then sumR n (fun d => if T d then at2 G d p else 0) else 0) := by
  have e1 : sumR m (fun p => if ∃ d, d < n ∧ T d ∧ p ∈ lots d then sumR n (fun d => if T d then at2 G d p else 0) else 0) = sumR n (fun d => if T d then rowS m G d else 0) := by
    have e2 : sumR m (fun p => if ∃ d, d < n ∧ T d ∧ p ∈ lots d then sumR n (fun d => if T d then at2 G d p else 0) else 0) = sumR m (fun p => sumR n (fun d => if T d then at2 G d p else 0)) := by
      refine sumR_congr fun p _ => ?_
      by_cases c : ∃ d, d < n ∧ T d ∧ p ∈ lots d
      · rw [if_pos c]
      · rw [if_neg c, sumR_congr (g := fun _ => 0), sumR_const0]
        intro d hd
        by_cases ht : T d
        · rw [if_pos ht]
          rcases Decidable.em (at2 G d p = 0) with e | e
          · exact e
          · exact absurd ⟨d, hd, ht, hs d p e⟩ c
        · rw [if_neg ht]
    rw [e2, ← sumR_swap]
    refine sumR_congr fun d _ => ?_
    by_cases ht : T d
    · simp only [if_pos ht]
      rfl
    · simp only [if_neg ht]
      exact sumR_const0 m
  rw [e1, ← sumR_add]
  unfold tot
  refine sumR_congr fun d _ => ?_
  by_cases ht : T d
  · simp [ht]
  · simp [ht]
theorem cut_ge {n m : Nat} {lots : List (List Nat)} {amt cap : Nat → Int} {S : St} (F : Flow n m lots amt cap S) (T : Nat → Prop) : tot n m S.G ≤ cutW n m (fun d => lots.getD d []) amt cap T := by
  have i1 : DecidablePred T := fun d => Classical.propDecidable _
  have i2 : ∀ p, Decidable (∃ d, d < n ∧ T d ∧ p ∈ (fun d => lots.getD d []) d) := fun p => Classical.propDecidable _
  rw [tot_split n m S.G (fun d => lots.getD d []) (fun d p h => F.su d p (by have := F.nn d p; omega)) T]
  unfold cutW
  refine Int.add_le_add (sumR_le fun d hd => ?_) (sumR_le fun p hp => ?_)
  · obtain ⟨h1, h2⟩ := F.ow d hd
    by_cases ht : T d
    · simp [ht]
    · simp [ht]
      omega
  · obtain ⟨h1, h2⟩ := F.rs p hp
    by_cases c : ∃ d, d < n ∧ T d ∧ p ∈ (fun d => lots.getD d []) d
    · rw [if_pos c, if_pos c]
      have : sumR n (fun d => if T d then at2 S.G d p else 0) ≤ colS n S.G p := sumR_le fun d _ => by
        have := F.nn d p
        split <;> omega
      omega
    · rw [if_neg c, if_neg c]
      exact Int.le_refl _
theorem cut_eq {n m : Nat} {lots : List (List Nat)} {amt cap : Nat → Int} {S : St} (F : Flow n m lots amt cap S) (D : Done n lots S (List.range n)) :
    ∃ T : Nat → Prop, Closed n (fun d => lots.getD d []) (gi S.rests) (at2 S.G) T ∧ (∀ d, d < n → ¬ T d → gi S.owed d = 0) ∧ (tot n m S.G = cutW n m (fun d => lots.getD d []) amt cap T) := by
  let T : Nat → Prop := fun d => ∃ T : Nat → Prop, T d ∧ Closed n (fun d => lots.getD d []) (gi S.rests) (at2 S.G) T
  have hC : Closed n (fun d => lots.getD d []) (gi S.rests) (at2 S.G) T := by
    rintro d hd ⟨T', h1, h2⟩ p hp
    exact ⟨(h2 d hd h1 p hp).1, fun d' hd' h => ⟨T', (h2 d hd h1 p hp).2 d' hd' h, h2⟩⟩
  have hO : ∀ d, d < n → ¬ T d → gi S.owed d = 0 := fun d hd hn => (D d (List.mem_range.mpr hd)).resolve_right hn
  refine ⟨T, hC, hO, ?_⟩
  have i1 : DecidablePred T := fun d => Classical.propDecidable _
  have i2 : ∀ p, Decidable (∃ d, d < n ∧ T d ∧ p ∈ (fun d => lots.getD d []) d) := fun p => Classical.propDecidable _
  rw [tot_split n m S.G (fun d => lots.getD d []) (fun d p h => F.su d p (by have := F.nn d p; omega)) T]
  unfold cutW
  congr 1
  · refine sumR_congr fun d hd => ?_
    by_cases ht : T d
    · simp [ht]
    · have h1 := (F.ow d hd).1
      have h2 := hO d hd ht
      simp [ht]
      omega
  · refine sumR_congr fun p hp => ?_
    obtain ⟨h1, h2⟩ := F.rs p hp
    by_cases c : ∃ d, d < n ∧ T d ∧ p ∈ (fun d => lots.getD d []) d
    · rw [if_pos c, if_pos c]
      obtain ⟨d, hd, ht, hpd⟩ := c
      obtain ⟨h3, h4⟩ := hC d hd ht p hpd
      have : sumR n (fun d => if T d then at2 S.G d p else 0) = colS n S.G p := sumR_congr fun d' hd' => by
        by_cases ht' : T d'
        · rw [if_pos ht']
        · rw [if_neg ht']
          have h5 := F.nn d' p
          rcases Int.lt_or_le 0 (at2 S.G d' p) with h6 | h6
          · exact absurd (h4 d' hd' h6) ht'
          · omega
      omega
    · rw [if_neg c, if_neg c]
/-- the state at the outset -/
def St0 (amts caps : List Int) : St := ⟨amts, caps, List.replicate amts.length (List.replicate caps.length 0)⟩
theorem at2_zero (n m d p : Nat) : at2 (List.replicate n (List.replicate m (0 : Int))) d p = 0 := by
  unfold at2 gi
  rw [List.getD_eq_getElem?_getD, List.getD_eq_getElem?_getD, List.getElem?_replicate]
  split
  · simp [List.getElem?_replicate]
    split <;> rfl
  · simp
theorem flow0 {amts caps : List Int} {lots : List (List Nat)} (ha : ∀ a ∈ amts, 0 ≤ a) (hc : ∀ a ∈ caps, 0 ≤ a) : Flow amts.length caps.length lots (gi amts) (gi caps) (St0 amts caps) := by
  have hgi : ∀ {l : List Int} {i : Nat}, (∀ a ∈ l, 0 ≤ a) → 0 ≤ gi l i := fun {l i} h => by
    unfold gi
    rw [List.getD_eq_getElem?_getD]
    cases e : l[i]? with
    | none => exact Int.le_refl _
    | some x => exact h x (List.mem_of_getElem? e)
  refine ⟨⟨?_, ?_⟩, rfl, rfl, ?_, ?_, ?_, ?_⟩
  · exact List.length_replicate
  · intro r hr
    rw [(List.mem_replicate.mp hr).2, List.length_replicate]
  · intro d p
    show 0 ≤ at2 (List.replicate _ _) d p
    rw [at2_zero]
    exact Int.le_refl _
  · intro d hd
    refine ⟨?_, hgi ha⟩
    show gi amts d = gi amts d - rowS caps.length (List.replicate _ _) d
    unfold rowS
    rw [sumR_congr (g := fun _ => 0) (fun i _ => at2_zero _ _ _ _), sumR_const0]
    omega
  · intro p hp
    refine ⟨?_, hgi hc⟩
    show gi caps p = gi caps p - colS amts.length (List.replicate _ _) p
    unfold colS
    rw [sumR_congr (g := fun _ => 0) (fun i _ => at2_zero _ _ _ _), sumR_const0]
    omega
  · intro d p h
    have h : 0 < at2 (List.replicate _ _) d p := h
    rw [at2_zero] at h
    exact absurd h (by omega)
def endS (lots : List (List Nat)) (amts caps : List Int) : St := fillA lots (List.range amts.length) (St0 amts caps)
theorem end_ok {amts caps : List Int} {lots : List (List Nat)} (ha : ∀ a ∈ amts, 0 ≤ a) (hc : ∀ a ∈ caps, 0 ≤ a) (hm : ∀ d, d < amts.length → ∀ p ∈ lots.getD d [], p < caps.length) : Flow amts.length caps.length lots (gi amts) (gi caps) (endS lots amts caps) ∧ Done amts.length lots (endS lots amts caps) (List.range amts.length) := by
  have q := fillA_ok hm (List.range amts.length) (St0 amts caps) [] (fun d h => List.mem_range.mp h) List.nodup_range (fun _ _ h => by cases h) (flow0 (lots := lots) ha hc) (fun k h => by cases h)
  refine ⟨q.1, fun k hk => q.2 k (by simpa using hk)⟩
end Dr

set_option maxHeartbeats 8000000
/-! Cuts and their worth. -/
namespace Dr
open PySem PySem.Spec PyProof.Rows L2
def nV (row : List Nat) : List V := row.map fun k => V.int ((k : Nat) : Int)
theorem inV_nat (k : Nat) (row : List Nat) : inV (.int (k : Int)) (nV row) = decide (k ∈ row) := by
  unfold inV nV
  rw [List.any_map]
  induction row with
  | nil => rfl
  | cons y r ih =>
    rw [List.any_cons, ih]
    show (((y : Nat) : Int) == ((k : Nat) : Int) || decide (k ∈ r)) = decide (k ∈ y :: r)
    by_cases q : y = k
    · subst q
      simp
    · have q' : ¬ k = y := fun h => q h.symm
      have q2 : ¬ ((y : Nat) : Int) = ((k : Nat) : Int) := fun h => q (Int.ofNat.inj h)
      simp [q', beq_eq_false_iff_ne.mpr q2]
theorem flat_nat (row : List Nat) : (nV row).all flatV = true := by
  unfold nV
  rw [List.all_map, List.all_eq_true]
  intro _ _
  rfl
def alOk (al : Option (List Str)) (z : Str) : Bool := match al with
  | none => true
  | some ps => decide (z ∈ ps)
/-- some parcels or all: None, a list or a tuple of texts -/
def AlAt (H : Hp) (x : V) (al : Option (List Str)) : Prop := (al = none ∧ x = .non) ∨ ∃ a b ps, al = some ps ∧ x = .ref a ∧ H a = some (seqO b (ps.map V.str))
theorem AlAt.same {H H' : Hp} {x : V} {al : Option (List Str)} (h : AlAt H x al) (s : Same H H') : AlAt H' x al := by
  rcases h with h | ⟨a, b, ps, h1, h2, h3⟩
  · exact .inl h
  · exact .inr ⟨a, b, ps, h1, h2, s _ _ h3⟩
def amtOf (D : List Dem) (k : Nat) : Int := ((D[k]?).map (·.2.1)).getD 0
def lotOf (D : List Dem) (k : Nat) : List Str := ((D[k]?).map (·.2.2)).getD []
def lotsLen (D : List Dem) : Nat := (D.map (·.2.2.length)).sum
/-- the worth of the cut that row chooses -/
def Worth (D : List Dem) (pr : List (Str × Int)) (row : List Nat) (al : Option (List Str)) (v : Int) : Prop := ∃ ys : List Str, ys.Pairwise (fun a b => slt a b = true) ∧ (∀ z, z ∈ ys ↔ ∃ k, k < D.length ∧ k ∈ row ∧ z ∈ lotOf D k) ∧
  v = sumR D.length (fun k => if k ∈ row then 0 else amtOf D k) + ((ys.filter (alOk al)).map (lkP pr)).sum
def cutsM : Nat → List (List Nat)
  | 0 => [[]]
  | n + 1 => cutsM n ++ (cutsM n).map (· ++ [n])
theorem cutsM_len : ∀ n, (cutsM n).length = 2 ^ n
  | 0 => rfl
  | n + 1 => by
    show (cutsM n ++ (cutsM n).map (· ++ [n])).length = _
    rw [List.length_append, List.length_map, cutsM_len n]
    omega
theorem cutsM_ne (n : Nat) : 0 < (cutsM n).length := by
  rw [cutsM_len]
  exact Nat.two_pow_pos n
theorem cutsM_row : ∀ n, ∀ row ∈ cutsM n, row.length ≤ n
  | 0, row, h => by
    have : row = [] := by simpa [cutsM] using h
    rw [this]
    exact Nat.le_refl _
  | n + 1, row, h => by
    rcases List.mem_append.mp (show row ∈ cutsM n ++ (cutsM n).map (· ++ [n]) from h) with h | h
    · exact Nat.le_succ_of_le (cutsM_row n row h)
    · obtain ⟨r, hr, rfl⟩ := List.mem_map.mp h
      have := cutsM_row n r hr
      simp
      omega
def RowAt (H : Hp) (a : Addr) (row : List Nat) : Prop := H a = some (.lst (nV row))
abbrev RowsAt (H : Hp) (rs : List Addr) (rows : List (List Nat)) : Prop := Paired (RowAt H) rs rows
theorem RowsAt.same {H H' : Hp} {rs : List Addr} {rows : List (List Nat)} (h : RowsAt H rs rows) (s : Same H H') : RowsAt H' rs rows := Paired.mapP h fun _ _ x => s _ _ x
theorem Paired.append {α β : Type} {F : α → β → Prop} : ∀ {l l' : List α} {m m' : List β}, Paired F l m → Paired F l' m' → Paired F (l ++ l') (m ++ m')
  | _, _, _, _, .nil, k => k
  | _, _, _, _, .cons r t, k => .cons r (Paired.append t k)
theorem lot_at {D : List Dem} {k : Nat} {d : Dem} (h : D[k]? = some d) : lotOf D k = d.2.2 ∧ amtOf D k = d.2.1 := by
  unfold lotOf amtOf
  rw [h]
  exact ⟨rfl, rfl⟩
theorem lotsLen_take {D : List Dem} {k : Nat} {d : Dem} (h : D[k]? = some d) : lotsLen (D.take (k + 1)) = lotsLen (D.take k) + d.2.2.length := by
  unfold lotsLen
  rw [take_snoc h, List.map_append, List.sum_append]
  simp
theorem lotsLen_le (D : List Dem) (k : Nat) : lotsLen (D.take k) ≤ lotsLen D := by
  unfold lotsLen
  conv => rhs; rw [← List.take_append_drop k D, List.map_append, List.sum_append]
  omega
section
variable {P : Program} {w : World} {K : PySem.W.Frag} {mg : Str → Option Value} {base : Heap}
abbrev s_l_worth : Stmt := topS 39
theorem sc_l_worth : FnScope ["_law_demands_here", "_law_prices_here", "_law_chosen", "_law_allowed", "_law_total", "_law_reached", "_law_k", "_law_place"] ["_law_demands_here", "_law_prices_here", "_law_chosen", "_law_allowed"] (defScope s_l_worth) := ⟨rfl, rfl, rfl, by decide +kernel, rfl, by decide +kernel, by decide +kernel⟩
def sp_worth : Sp := fun vs H Q _ => ∃ (da pa ca : Addr) (x : V) (ts : List Addr) (D : List Dem) (pr : List (Str × Int)) (row : List Nat) (al : Option (List Str)), vs = [.ref da, .ref pa, .ref ca, x] ∧ H da = some (.lst (ts.map V.ref)) ∧ DemsAt H ts D ∧ D.length ≤ 24 ∧ lotsLen D ≤ 62 ∧ H pa = some (.dK (prK pr)) ∧ RowAt H ca row ∧ AlAt H x al ∧
  ∀ v H', Same H H' → Worth D pr row al v → Q (.int v) H'
theorem ok_worth {f : Addr} {fd : FuncData} (F : Fun K "_law_worth" "_law_worth" s_l_worth f fd) (T : Tx K mg) : FnOk P w K mg base CX0 1 f fd ["_law_demands_here", "_law_prices_here", "_law_chosen", "_law_allowed"] sp_worth := by
  refine F.ok sc_l_worth (fun vs H Q E h => ?_) (fun cdv A outer s H vs Q E hr h => ?_)
  · obtain ⟨da, pa, ca, x, ts, D, pr, row, al, rfl, _⟩ := h
    rfl
  · obtain ⟨da, pa, ca, x, ts, D, pr, row, al, rfl, hda, hD, hDl, h62, hpa, hca, hal, k⟩ := h
    have hu := hu_of hr
    have hlen : ts.length = D.length := Paired.length hD
    -- slots 0:_law_demands_here 1:_law_prices_here 2:_law_chosen 3:_law_allowed 4:_law_total 5:_law_reached 6:_law_k 7:_law_place
    refine ⟨_, (pss_cons (ps_par (i := 4) (j := 5) (by rfl) sc_l_worth.nd rfl rfl (by decide) rfl rfl (pa_cons (pe_int) (pa_cons (pe_lst pa_nil) pa_nil)) (by rfl))
    (pss_cons (ps_for PassesOwn.never rfl (pi_range1 (by rfl) T.range_ (pa_cons (pe_callB (call_len_seq : CallR _ _ (rLenS K)) (by rfl) T.len_ PySem.boot_len (pa_cons (pv 0) pa_nil)) pa_nil)) (pg_name (i := 6) sc_l_worth.nd rfl (Or.inl rfl))
      (pss_one (ps_if (pt_cmpR (op_in_seq : OpR _ _ (rIn K false)) (pv 6) (pv 2) (by rfl))
        (pss_one (ps_set (i := 5) sc_l_worth.nd rfl (Or.inl rfl) (pe_op op_cat (pv 5) (pe_callTy (call_list_of : CallR _ _ (rListOf K)) (by rfl) T.list_ (by decide +kernel) (pa_cons (pe_ix (ix_tup : IxR _ (rIxT K)) (pe_ix (ix_list : IxR _ (rIxL K)) (pv 0) (pv 6) (fun _ _ => rfl)) (pe_int) (fun _ _ => rfl)) pa_nil))))) 
        (pss_one (ps_set (i := 4) sc_l_worth.nd rfl (Or.inl rfl) (pe_op op_add (pv 4) (pe_ix (ix_tup : IxR _ (rIxT K)) (pe_ix (ix_list : IxR _ (rIxL K)) (pv 0) (pv 6) (fun _ _ => rfl)) (pe_int) (fun _ _ => rfl))))))))
    (pss_one (ps_ret (pe_op op_add (pv 4) (pe_callB (cr_sum rfl : CallR _ _ (rSum K)) (by rfl) T.sum_ (by decide +kernel) (pa_cons (pe_lc (own := [("_law_place", 7)]) rfl sc_l_worth.nd (pi_list (pe_callB (cr_sortSet rfl : CallR _ _ (rSortSet w)) (by rfl) T.sorted_ (by decide +kernel) (pa_cons (pe_callTy (cr_setOf rfl : CallR _ _ (rSetOf K w)) (by rfl) T.set_ (by decide +kernel) (pa_cons (pv 5) pa_nil)) pa_nil)) : PI _ _ _ (iList K _)) (blkOk_by (N := ["_law_demands_here", "_law_prices_here", "_law_chosen", "_law_allowed", "_law_total", "_law_reached", "_law_k", "_law_place"]) (sc := defScope s_l_worth) (by decide +kernel)) (fun _ _ _ _ _ => (pg_name (i := 7) sc_l_worth.nd rfl (Or.inl rfl))) (fun _ _ _ _ _ => pts_one (PW.pt (pw_or (pt_cmp (pc_isN (pv 3))) (pw_or1 (pt_cmpR (op_in_seq : OpR _ _ (rIn K false)) (pv 7) (pv 3) (by rfl)))))) (fun _ _ _ _ _ => pe_dget2 hu (pv 1) (pv 7) (pe_int) ⟨by rfl, by rfl, by rfl, by rfl⟩)) pa_nil))))))), ?_⟩
    refine ⟨Nat.zero_le _, fun r0 hr0 => ⟨_, _, rfl, ?_⟩⟩
    have S1 := same_upd (o := .lst []) hr0
    refine ⟨_, rfl, _, _, rfl, .inl (SqL.of (S1 _ _ hda)), _, rfl, by omega, by rw [List.length_map]; omega, ?_⟩
    rw [List.length_map, hlen]
    refine for_range (n := D.length) (fun i σ H' => ∃ (re : Addr) (zs : List Str) (v6 : Option V), σ = [some (.ref da), some (.ref pa), some (.ref ca), some x, some (.int (sumR i fun k => if k ∈ row then 0 else amtOf D k)), some (.ref re), v6, none] ∧ Same H H' ∧ H' re = some (.lst (zs.map V.str)) ∧ zs.length ≤ lotsLen (D.take i) ∧ ∀ z, z ∈ zs ↔ ∃ k, k < i ∧ k ∈ row ∧ z ∈ lotOf D k)
      ⟨r0, [], none, rfl, S1, upd_same, Nat.zero_le _, by intro z; simp⟩ ?_ ?_
    · rintro i σ H1 hi ⟨re, zs, v6, rfl, S, hre, hzl, hz⟩
      obtain ⟨d, hd⟩ : ∃ d, D[i]? = some d := ⟨_, List.getElem?_eq_getElem hi⟩
      obtain ⟨t, ht⟩ : ∃ t, ts[i]? = some t := ⟨_, List.getElem?_eq_getElem (by omega)⟩
      obtain ⟨d', hd', q, h1, h2⟩ := Paired.at (i := i) hD ht
      rw [hd] at hd'
      cases hd'
      obtain ⟨el, ea⟩ := lot_at hd
      have hti : (ts.map V.ref)[i]? = some (.ref t) := by
        rw [List.getElem?_map, ht]
        rfl
      refine ⟨_, rfl, _, rfl, _, _, rfl, .inl (SqL.of (S _ _ hca)), rfl, flat_nat row, _, rfl, ?_⟩
      have e0 : (0 : Int) + ((i : Nat) : Int) = ((i : Nat) : Int) := Int.zero_add _
      show if inV (.int (0 + ((i : Nat) : Int))) (nV row) = true then _ else _
      rw [e0, inV_nat]
      by_cases c : i ∈ row
      · rw [decide_eq_true c]
        refine iteT ?_
        refine ⟨_, rfl, _, rfl, _, rfl, _, _, _, V.ref t, rfl, rfl, SqL.of (S _ _ hda), atI_nat hti, _, _, _, V.ref q, rfl, rfl, SqT.of (S _ _ h1), rfl, ?_⟩
        refine ⟨_, _, rfl, .inr (SqT.of (S _ _ h2)), fun l1 hl1 => ?_⟩
        refine ⟨_, _, _, _, rfl, rfl, same_upd hl1 _ _ hre, upd_same, ?_, fun l2 hl2 => ?_⟩
        · rw [List.length_map, List.length_map]
          have h3 := lotsLen_take hd
          have h4 := lotsLen_le D (i + 1)
          exact Nat.le_trans (show zs.length + d.2.2.length ≤ 62 by omega) (by decide)
        rw [← List.map_append]
        refine ⟨l2, zs ++ d.2.2, some (.int ((i : Nat) : Int)), ?_, (S.trans (same_upd hl1)).trans (same_upd hl2), upd_same, ?_, ?_⟩
        · rw [sumR_succ, if_pos c, Int.add_zero]
          rfl
        · rw [lotsLen_take hd, List.length_append]
          omega
        · intro z
          rw [List.mem_append, hz]
          constructor
          · rintro (⟨k, h3, h4, h5⟩ | h)
            · exact ⟨k, by omega, h4, h5⟩
            · exact ⟨i, by omega, c, by rw [el]; exact h⟩
          · rintro ⟨k, h3, h4, h5⟩
            by_cases e : k = i
            · subst e
              rw [el] at h5
              exact .inr h5
            · exact .inl ⟨k, by omega, h4, h5⟩
      · rw [decide_eq_false c]
        refine iteF ?_
        refine ⟨_, rfl, _, rfl, _, rfl, _, _, _, V.ref t, rfl, rfl, SqL.of (S _ _ hda), atI_nat hti, _, _, _, V.int d.2.1, rfl, rfl, SqT.of (S _ _ h1), rfl, _, _, rfl, rfl, ?_⟩
        refine ⟨re, zs, some (.int ((i : Nat) : Int)), ?_, S, hre, ?_, ?_⟩
        · rw [sumR_succ, if_neg c, ea]
          rfl
        · have := lotsLen_take hd
          omega
        · intro z
          rw [hz]
          constructor
          · rintro ⟨k, h3, h4, h5⟩
            exact ⟨k, by omega, h4, h5⟩
          · rintro ⟨k, h3, h4, h5⟩
            by_cases e : k = i
            · subst e
              exact absurd h4 c
            · exact ⟨k, by omega, h4, h5⟩
    · rintro σ H1 ⟨re, zs, v6, rfl, S, hre, hzl, hz⟩
      rw [List.take_length] at hzl
      refine ⟨_, rfl, _, rfl, _, _, rfl, SqL.of hre, by omega, fun p1 hp1 => ?_⟩
      have S2 := S.trans (same_upd (o := SetSO w p1 (dedS zs)) hp1)
      have hdl := len_dedS zs
      refine ⟨_, _, rfl, upd_same, by omega, fun ys p2 hasc hperm hp2 => ?_⟩
      have S3 := S2.trans (same_upd (o := .lst (ys.map V.str)) hp2)
      have hym : ∀ z, z ∈ ys ↔ ∃ k, k < D.length ∧ k ∈ row ∧ z ∈ lotOf D k := fun z => by rw [hperm.mem_iff, mem_dedS, hz]
      have hyl : ys.length ≤ 62 := by
        rw [hperm.length_eq]
        omega
      refine ⟨_, rfl, ⟨_, SqL.of upd_same⟩, fun L hL => ?_⟩
      refine lc_list (xs := ys.map V.str) (fun i H' => Same (upd (upd H1 p1 (SetSO w p1 (dedS zs))) p2 (.lst (ys.map V.str))) H' ∧ H' L = some (.lst ((((ys.take i).filter (alOk al)).map (lkP pr)).map V.int))) ⟨same_upd hL, upd_same⟩ (fun i H' _ ⟨S, _⟩ => SqL.of (S _ _ upd_same)) ?_ ?_
      · rintro i y H2 hi ⟨S4, hLL⟩
        obtain ⟨z, hzi, rfl⟩ := get_map hi
        have S5 := S3.trans S4
        have hpa5 := S5 _ _ hpa
        have hkeep : ∀ b : Bool, b = alOk al z → (if b = true then (tDGet2 (tVar 1) (tVar 7) (tC (.int 0))) (wipe [some (.ref da), some (.ref pa), some (.ref ca), some x, some (.int (sumR D.length fun k => if k ∈ row then 0 else amtOf D k)), some (.ref re), v6, none] [7] |>.set 7 (some (.str z))) H2 fun y H4 => ∃ acc, H4 L = some (.lst acc) ∧ acc.length < sizeLine ∧
            (Same (upd (upd H1 p1 (SetSO w p1 (dedS zs))) p2 (.lst (ys.map V.str))) (upd H4 L (.lst (acc ++ [y]))) ∧ upd H4 L (.lst (acc ++ [y])) L = some (.lst ((((ys.take (i + 1)).filter (alOk al)).map (lkP pr)).map V.int)))
            else Same (upd (upd H1 p1 (SetSO w p1 (dedS zs))) p2 (.lst (ys.map V.str))) H2 ∧ H2 L = some (.lst ((((ys.take (i + 1)).filter (alOk al)).map (lkP pr)).map V.int))) := by
          intro b hb
          rw [take_snoc hzi, List.filter_append]
          cases hc : alOk al z with
          | true =>
            rw [hb, hc]
            refine iteT ?_
            have el : (valV (prK pr) (Sum.inr z : Key)).getD (V.int 0) = V.int (lkP pr z) := by
              rw [valV_prK]
              unfold lkP
              cases pr.lookup z <;> rfl
            refine ⟨_, rfl, _, rfl, .inl ⟨_, .inl hpa5⟩, _, rfl, _, DGet.k (k := Sum.inr z) hpa5, ?_⟩
            rw [el]
            refine ⟨_, hLL, ?_, same_new S4 hL, ?_⟩
            · rw [List.length_map, List.length_map]
              have h1 := List.length_filter_le (alOk al) (ys.take i)
              rw [List.length_take] at h1
              exact Nat.lt_of_le_of_lt (show _ ≤ 62 by omega) (by decide)
            · rw [upd_same]
              simp [hc]
          | false =>
            rw [hb, hc]
            refine iteF ⟨S4, ?_⟩
            rw [hLL]
            simp [hc]
        refine ⟨rfl, _, rfl, _, rfl, ?_⟩
        rcases hal with ⟨rfl, rfl⟩ | ⟨a, b, ps, rfl, rfl, ha⟩
        · exact iteT (hkeep true rfl)
        · refine iteF ?_
          have ha5 := S5 _ _ ha
          refine ⟨_, rfl, _, rfl, _, _, rfl, sq_either ha5, rfl, flat_str ps, _, rfl, ?_⟩
          show if inV (.str z) (ps.map V.str) = true then _ else _
          rw [inV_str]
          exact hkeep _ rfl
      · rintro H2 ⟨S4, hLL⟩
        rw [List.length_map, List.take_length] at hLL
        refine ⟨_, _, rfl, SqL.of hLL, _, _, rfl, rfl, k _ _ (S3.trans S4) ⟨ys, hasc, hym, rfl⟩⟩
end
end Dr

set_option maxHeartbeats 8000000
/-! All cuts, the least of them, the judgement. -/
namespace Dr
open PySem PySem.Spec PyProof.Rows L2
/-- the least worth, as a plan's value -/
structure Great (D : List Dem) (pr : List (Str × Int)) (al : Option (List Str)) (E : List Ent) : Prop where
  fit : PlanFit D pr E
  asc : (E.map (·.1)).Pairwise (fun a b => plt a b = true)
  some_ : ∀ e ∈ E, alOk al e.1.2 = true
  le : ∀ row v, Worth D pr row al v → (E.map (·.2)).sum ≤ v
  ge : ∃ row ∈ cutsM D.length, ∀ v, Worth D pr row al v → v ≤ (E.map (·.2)).sum
theorem names_ok {D : List Dem} {pr : List (Str × Int)} {E : List Ent} (fit : PlanFit D pr E) (hD : ∀ d ∈ D, DemOk d) : ∀ e ∈ E, NameOk e.1.1 ∧ NameOk e.1.2 := fun e he => by
  obtain ⟨_, d, hd, h1, h2, _⟩ := fit.ok e he
  exact ⟨h1 ▸ (hD d hd).nm, (hD d hd).lt.nm _ h2⟩
def pdKey (k : Str × Str) : PyData := .tuple [.str k.1, .str k.2]
theorem sd_keys {E : List Ent} (h : ∀ e ∈ E, NameOk e.1.1 ∧ NameOk e.1.2) : Sd 2 (.list (E.map fun e => pdKey e.1)) := by
  refine Sd.list fun d hd => ?_
  obtain ⟨e, he, rfl⟩ := List.mem_map.mp hd
  refine Sd.tup fun d hd => ?_
  rcases List.mem_cons.mp hd with rfl | hd
  · exact (h e he).1.sd 0
  · have : d = .str e.1.2 := by simpa using hd
    rw [this]
    exact (h e he).2.sd 0
section
variable {P : Program} {w : World} {K : PySem.W.Frag} {mg : Str → Option Value} {base : Heap}
abbrev s_l_cuts : Stmt := topS 40
theorem sc_l_cuts : FnScope ["_law_many", "_law_found", "_law_k", "_law_row"] ["_law_many"] (defScope s_l_cuts) := ⟨rfl, rfl, rfl, by decide +kernel, rfl, by decide +kernel, by decide +kernel⟩
def sp_cuts : Sp := fun vs H Q _ => ∃ (n : Nat), vs = [.int n] ∧ n ≤ 5 ∧ ∀ (p : Addr) (rs : List Addr) (H' : Hp), Same H H' → H' p = some (.lst (rs.map V.ref)) → RowsAt H' rs (cutsM n) → Q (.ref p) H'
theorem ok_cuts {f : Addr} {fd : FuncData} (F : Fun K "_law_cuts" "_law_cuts" s_l_cuts f fd) (T : Tx K mg) : FnOk P w K mg base CX0 1 f fd ["_law_many"] sp_cuts := by
  refine F.ok sc_l_cuts (fun vs H Q E h => ?_) (fun cdv A outer s H vs Q E hr h => ?_)
  · obtain ⟨n, rfl, _⟩ := h
    rfl
  · obtain ⟨n, rfl, hn, k⟩ := h
    -- slots 0:_law_many 1:_law_found 2:_law_k 3:_law_row
    refine ⟨_, (pss_cons (ps_set (i := 1) sc_l_cuts.nd rfl (Or.inl rfl) (pe_lst (pa_cons (pe_lst pa_nil) pa_nil)))
    (pss_cons (ps_for PassesOwn.never rfl (pi_range1 (by rfl) T.range_ (pa_cons (pv 0) pa_nil)) (pg_name (i := 2) sc_l_cuts.nd rfl (Or.inr rfl))
      (pss_one (ps_set (i := 1) sc_l_cuts.nd rfl (Or.inl rfl) (pe_op op_cat (pv 1) (pe_lc (own := [("_law_row", 3)]) rfl sc_l_cuts.nd (pi_list (pv 1) : PI _ _ _ (iList K _)) (blkOk_by (N := ["_law_many", "_law_found", "_law_k", "_law_row"]) (sc := defScope s_l_cuts) (by decide +kernel)) (fun _ _ _ _ _ => (pg_name (i := 3) sc_l_cuts.nd rfl (Or.inl rfl))) (fun _ _ _ _ _ => pts_nil) (fun _ _ _ _ _ => pe_op op_cat (pv 3) (pe_lst (pa_cons (pv 2) pa_nil))))))))
    (pss_one (ps_ret (pv 1))))), ?_⟩
    refine ⟨Nat.zero_le _, fun r0 hr0 => ?_⟩
    refine ⟨by show 1 ≤ sizeLine; decide, fun f0 hf0 => ?_⟩
    have S1 := same_upd (o := .lst []) hr0
    have S2 := S1.trans (same_upd (o := .lst [.ref r0]) hf0)
    refine ⟨_, rfl, _, rfl, by omega, by omega, ?_⟩
    refine for_range (n := n) (fun i σ H' => ∃ (fo : Addr) (rs : List Addr) (v2 : Option V), σ = [some (.int n), some (.ref fo), v2, none] ∧ Same H H' ∧ H' fo = some (.lst (rs.map V.ref)) ∧ RowsAt H' rs (cutsM i))
      ⟨f0, [r0], none, rfl, S2, upd_same, .cons (same_upd hf0 _ _ upd_same) .nil⟩ ?_ ?_
    · rintro i σ H1 hi ⟨fo, rs, v2, rfl, S, hfo, hrs⟩
      have hrl : rs.length = 2 ^ i := (Paired.length hrs).trans (cutsM_len i)
      have h32 : 2 ^ i ≤ 16 := Nat.le_trans (Nat.pow_le_pow_right (by decide) (show i ≤ 4 by omega)) (by decide)
      refine ⟨_, rfl, _, rfl, _, rfl, ⟨_, SqL.of hfo⟩, fun L hL => ?_⟩
      refine lc_list (xs := rs.map V.ref) (fun j H' => ∃ us : List Addr, Same H1 H' ∧ H' L = some (.lst (us.map V.ref)) ∧ Paired (fun u row => u ≠ L ∧ RowAt H' u row) us (((cutsM i).map (· ++ [i])).take j)) ⟨[], same_upd hL, upd_same, .nil⟩ (fun j H' _ ⟨_, S, _⟩ => SqL.of (S _ _ hfo)) ?_ ?_
      · rintro j y H2 hj ⟨us, S2, hLL, hus⟩
        obtain ⟨r, hr, rfl⟩ := get_map hj
        obtain ⟨row, hrow, hra⟩ := Paired.at hrs hr
        have hrl2 := cutsM_row i row (List.mem_of_getElem? hrow)
        refine ⟨rfl, _, rfl, _, rfl, by show 1 ≤ sizeLine; decide, fun l1 hl1 => ?_⟩
        refine ⟨_, _, _, _, rfl, rfl, same_upd hl1 _ _ (S2 _ _ hra), upd_same, ?_, fun l2 hl2 => ?_⟩
        · unfold nV
          rw [List.length_map]
          exact Nat.le_trans (show row.length + 1 ≤ 6 by omega) (by decide)
        have en : nV row ++ [V.int (0 + ((i : Nat) : Int))] = nV (row ++ [i]) := by
          unfold nV
          rw [List.map_append, Int.zero_add]
          rfl
        rw [en]
        have S23 := (same_upd (H := H2) (o := .lst [V.int (0 + ((i : Nat) : Int))]) hl1).trans (same_upd (o := .lst (nV (row ++ [i]))) hl2)
        have hL2 := S23 _ _ hLL
        have hjl := (List.getElem?_eq_some_iff.mp hr).1
        have hul : us.length = j := by
          have := Paired.length hus
          rw [List.length_take, List.length_map, cutsM_len] at this
          omega
        have l2L : l2 ≠ L := (ne_of_none (same_upd hl1 _ _ hLL) hl2).symm
        refine ⟨_, hL2, ?_, us ++ [l2], same_new (S2.trans S23) hL, ?_, ?_⟩
        · rw [List.length_map]
          exact Nat.lt_of_le_of_lt (show us.length ≤ 16 by omega) (by decide)
        · rw [upd_same, List.map_append]
          rfl
        · have hrow2 : ((cutsM i).map (· ++ [i]))[j]? = some (row ++ [i]) := by
            rw [List.getElem?_map, hrow]
            rfl
          rw [take_snoc hrow2]
          refine Paired.snoc (Paired.mapP hus fun u r ⟨e1, e2⟩ => ⟨e1, ?_⟩) ⟨l2L, ?_⟩
          · show upd _ L _ u = _
            rw [upd_ne e1]
            exact S23 _ _ e2
          · show upd _ L _ l2 = _
            rw [upd_ne l2L, upd_same]
      · rintro H2 ⟨us, S2, hLL, hus⟩
        have e1 : (rs.map V.ref).length = ((cutsM i).map (· ++ [i])).length := by
          rw [List.length_map, List.length_map, hrl, cutsM_len]
        rw [e1, List.take_length] at hus
        have hul : us.length = 2 ^ i := by
          rw [Paired.length hus, List.length_map, cutsM_len]
        refine ⟨_, _, _, _, rfl, rfl, S2 _ _ hfo, hLL, ?_, fun l3 hl3 => ?_⟩
        · rw [List.length_map, List.length_map]
          exact Nat.le_trans (show rs.length + us.length ≤ 32 by omega) (by decide)
        have S3 := S2.trans (same_upd (o := .lst (rs.map V.ref ++ us.map V.ref)) hl3)
        refine ⟨l3, rs ++ us, _, rfl, S.trans S3, ?_, ?_⟩
        · rw [upd_same, List.map_append]
        · exact Paired.append (RowsAt.same hrs S3) (Paired.mapP hus fun u r x => same_upd hl3 _ _ x.2)
    · rintro σ H1 ⟨fo, rs, v2, rfl, S, hfo, hrs⟩
      exact ⟨_, rfl, k fo rs H1 S hfo hrs⟩
abbrev s_l_least : Stmt := topS 41
theorem sc_l_least : FnScope ["_law_demands_here", "_law_prices_here", "_law_allowed", "_law_row"] ["_law_demands_here", "_law_prices_here", "_law_allowed"] (defScope s_l_least) := ⟨rfl, rfl, rfl, by decide +kernel, rfl, by decide +kernel, by decide +kernel⟩
def sp_least : Sp := fun vs H Q _ => ∃ (da pa : Addr) (x : V) (ts : List Addr) (D : List Dem) (pr : List (Str × Int)) (al : Option (List Str)), vs = [.ref da, .ref pa, x] ∧ H da = some (.lst (ts.map V.ref)) ∧ DemsAt H ts D ∧ D.length ≤ 5 ∧ lotsLen D ≤ 62 ∧ H pa = some (.dK (prK pr)) ∧ AlAt H x al ∧
  ∀ m H', Same H H' → (∃ row, Worth D pr row al m) → (∀ row ∈ cutsM D.length, ∃ v, Worth D pr row al v ∧ m ≤ v) → Q (.int m) H'
theorem ok_least {f : Addr} {fd : FuncData} (F : Fun K "_law_least" "_law_least" s_l_least f fd) (T : Tx K mg) (A__law_worth : Fn P w K mg base 1 "_law_worth" ["_law_demands_here", "_law_prices_here", "_law_chosen", "_law_allowed"] sp_worth) (A__law_cuts : Fn P w K mg base 1 "_law_cuts" ["_law_many"] sp_cuts) : FnOk P w K mg base CX0 2 f fd ["_law_demands_here", "_law_prices_here", "_law_allowed"] sp_least := by
  refine F.ok sc_l_least (fun vs H Q E h => ?_) (fun cdv A outer s H vs Q E hr h => ?_)
  · obtain ⟨da, pa, x, ts, D, pr, al, rfl, _⟩ := h
    rfl
  · obtain ⟨da, pa, x, ts, D, pr, al, rfl, hda, hD, hDl, h62, hpa, hal, k⟩ := h
    have hu := hu_of hr
    have hlen : ts.length = D.length := Paired.length hD
    -- slots 0:_law_demands_here 1:_law_prices_here 2:_law_allowed 3:_law_row
    refine ⟨_, (pss_one (ps_ret (pe_callB (cr_min rfl : CallR _ _ (rMin K)) (by rfl) T.min_ (by decide +kernel) (pa_cons (pe_lc (own := [("_law_row", 3)]) rfl sc_l_least.nd (pi_list (pe_call A__law_cuts.G (hr.mono (by decide)) (by rfl) A__law_cuts.m A__law_cuts.kp A__law_cuts.b A__law_cuts.v pass0 (pa_cons (pe_callB (call_len_seq : CallR _ _ (rLenS K)) (by rfl) T.len_ PySem.boot_len (pa_cons (pv 0) pa_nil)) pa_nil)) : PI _ _ _ (iList K _)) (blkOk_by (N := ["_law_demands_here", "_law_prices_here", "_law_allowed", "_law_row"]) (sc := defScope s_l_least) (by decide +kernel)) (fun _ _ _ _ _ => (pg_name (i := 3) sc_l_least.nd rfl (Or.inl rfl))) (fun _ _ _ _ _ => pts_nil) (fun _ _ _ _ _ => pe_call A__law_worth.G (hr.mono (by decide)) (by rfl) A__law_worth.m A__law_worth.kp A__law_worth.b A__law_worth.v pass0 (pa_cons (pv 0) (pa_cons (pv 1) (pa_cons (pv 3) (pa_cons (pv 2) pa_nil)))))) pa_nil)))), ?_⟩
    refine ⟨_, rfl, _, _, rfl, .inl (SqL.of hda), D.length, by rw [List.length_map, hlen]; rfl, hDl, fun p rs H1 S1 hp hrs => ?_⟩
    have hrl : rs.length = (cutsM D.length).length := Paired.length hrs
    have h32 : 2 ^ D.length ≤ 32 := Nat.le_trans (Nat.pow_le_pow_right (by decide) hDl) (by decide)
    refine ⟨_, rfl, ⟨_, SqL.of hp⟩, fun L hL => ?_⟩
    refine lc_list (xs := rs.map V.ref) (fun i H' => ∃ ns : List Int, Same H1 H' ∧ H' L = some (.lst (ns.map V.int)) ∧ Paired (fun m row => Worth D pr row al m) ns ((cutsM D.length).take i)) ⟨[], same_upd hL, upd_same, .nil⟩ (fun i H' _ ⟨_, S, _⟩ => SqL.of (S _ _ hp)) ?_ ?_
    · rintro i y H2 hi ⟨ns, S2, hLL, hns⟩
      obtain ⟨r, hri, rfl⟩ := get_map hi
      obtain ⟨row, hrow, hra⟩ := Paired.at hrs hri
      have S12 := S1.trans S2
      refine ⟨rfl, _, rfl, _, rfl, _, rfl, _, rfl, da, pa, r, x, ts, D, pr, row, al, rfl, S12 _ _ hda, hD.same S12, by omega, h62, S12 _ _ hpa, S2 _ _ hra, hal.same S12, fun v H3 S3 hw => ?_⟩
      refine ⟨_, S3 _ _ hLL, ?_, ns ++ [v], same_new (S2.trans S3) hL, ?_, ?_⟩
      · rw [List.length_map]
        have := Paired.length hns
        rw [List.length_take, cutsM_len] at this
        exact Nat.lt_of_le_of_lt (show ns.length ≤ 32 by omega) (by decide)
      · rw [upd_same, List.map_append]
        rfl
      · rw [take_snoc hrow]
        exact Paired.snoc hns hw
    · rintro H2 ⟨ns, S2, hLL, hns⟩
      rw [List.length_map, hrl, List.take_length] at hns
      have hnl := Paired.length hns
      refine ⟨_, ns, rfl, SqL.of hLL, ?_, fun m hm hle => ?_⟩
      · rw [hnl]
        exact cutsM_ne _
      · obtain ⟨j, hj⟩ := List.mem_iff_getElem?.mp hm
        obtain ⟨row, _, hw⟩ := Paired.at hns hj
        refine k m H2 (S1.trans S2) ⟨row, hw⟩ fun row hrow => ?_
        obtain ⟨j, hj⟩ := List.mem_iff_getElem?.mp hrow
        have hjl := (List.getElem?_eq_some_iff.mp hj).1
        have hjn : ns[j]? = some (ns[j]'(by omega)) := List.getElem?_eq_getElem _
        obtain ⟨row', h1, h2⟩ := Paired.at hns hjn
        rw [hj] at h1
        cases h1
        exact ⟨_, h2, hle _ (List.getElem_mem _)⟩
end
end Dr

set_option maxHeartbeats 8000000
/-! The judgement. -/
namespace Dr
open PySem PySem.Spec PyProof.Rows L2
/-- keys sorted are told once -/
theorem sorted_once {ks : List (Str × Str)} {ls : List (Str × Str)} (h : ls.Perm ks) (hl : ls.Pairwise (fun a b => plt b a = false)) (hk : ks.Pairwise (fun a b => plt b a = false)) : ls = ks :=
  List.Perm.eq_of_pairwise (le := fun a b => plt b a = false) (fun a b _ _ h1 h2 => plt_conn h2 h1) hl hk h
theorem asc_weak {ks : List (Str × Str)} (h : ks.Pairwise (fun a b => plt a b = true)) : ks.Pairwise (fun a b => plt b a = false) := h.imp fun x => plt_asymm x
theorem asc_nd {ks : List (Str × Str)} (h : ks.Pairwise (fun a b => plt a b = true)) : ks.Nodup := h.imp fun {a b} x e => by
  rw [e, plt_irrefl] at x
  cases x
/-- the keys of a dict, laid as tuples at bs -/
theorem keys_pair {H : Hp} {E : List Ent} {bs : List Addr} (h : IsKeys H (plT E) bs) : Paired (fun b (k : Str × Str) => H b = some (.tup [.str k.1, .str k.2])) bs (E.map (·.1)) := by
  have hl := Paired.length h
  have hpl : (plT E).length = E.length := List.length_map _
  refine paired_of (by rw [List.length_map]; omega) fun j b k hb hk => ?_
  obtain ⟨e, he, hkb⟩ := key_at h hb
  rw [List.getElem?_map, he] at hk
  cases hk
  exact hkb
theorem dp_keys {K : PySem.W.Frag} {H : Hp} {bs : List Addr} {ks : List (Str × Str)} (h : Paired (fun b (k : Str × Str) => H b = some (.tup [.str k.1, .str k.2])) bs ks) : DpAll K H (bs.map V.ref) (ks.map pdKey) :=
  dp_refs (d := pdKey) (fun t k e => .tup (SqT.of e) (.cons (.str _) (.cons (.str _) .nil))) h
section
variable {P : Program} {w : World} {K : PySem.W.Frag} {mg : Str → Option Value} {base : Heap}
abbrev s_l_greatest_so : Stmt := topS 42
theorem sc_l_greatest_so : FnScope ["_law_demands_here", "_law_prices_here", "_law_some", "_law_found", "_law_key"] ["_law_demands_here", "_law_prices_here", "_law_some", "_law_found"] (defScope s_l_greatest_so) := ⟨rfl, rfl, rfl, by decide +kernel, rfl, by decide +kernel, by decide +kernel⟩
def sp_greatSo : Sp := fun vs H Q _ => ∃ (da pa R : Addr) (x : V) (ts : List Addr) (D : List Dem) (pr : List (Str × Int)) (al : Option (List Str)) (E : List Ent), vs = [.ref da, .ref pa, x, .ref R] ∧ H da = some (.lst (ts.map V.ref)) ∧ DemsAt H ts D ∧ D.length ≤ 5 ∧ lotsLen D ≤ 62 ∧ (D.map (·.1)).Nodup ∧ (∀ d ∈ D, DemOk d) ∧ H pa = some (.dK (prK pr)) ∧ AlAt H x al ∧ H R = some (.dT (plT E)) ∧ Great D pr al E ∧
  ∀ H', Same H H' → Q (.bl true) H'
theorem ok_greatSo {f : Addr} {fd : FuncData} (F : Fun K "_law_greatest_so" "_law_greatest_so" s_l_greatest_so f fd) (T : Tx K mg) (A__law_plan_so : Fn P w K mg base 2 "_law_plan_so" ["_law_demands_here", "_law_prices_here", "_law_value"] sp_planSo) (A__law_least : Fn P w K mg base 2 "_law_least" ["_law_demands_here", "_law_prices_here", "_law_allowed"] sp_least) :
    FnOk P w K mg base CX0 3 f fd ["_law_demands_here", "_law_prices_here", "_law_some", "_law_found"] sp_greatSo := by
  refine F.ok sc_l_greatest_so (fun vs H Q E h => ?_) (fun cdv A outer s H vs Q E hr h => ?_)
  · obtain ⟨da, pa, R, x, ts, D, pr, al, E, rfl, _⟩ := h
    rfl
  · obtain ⟨da, pa, R, x, ts, D, pr, al, E, rfl, hda, hD, hDl, h62, hDn, hDo, hpa, hal, hR, g, k⟩ := h
    have hu := hu_of hr
    have hnm := names_ok g.fit hDo
    -- slots 0:_law_demands_here 1:_law_prices_here 2:_law_some 3:_law_found 4:_law_key
    refine ⟨_, (pss_cons (ps_if (PW.pt (pw_or (pt_not (pt_val (pe_call A__law_plan_so.G (hr.mono (by decide)) (by rfl) A__law_plan_so.m A__law_plan_so.kp A__law_plan_so.b A__law_plan_so.v pass0 (pa_cons (pv 0) (pa_cons (pv 1) (pa_cons (pv 3) pa_nil)))))) (pw_or1 (pt_cmpR (op_neD hr.units : OpR _ _ (rNeD K)) (pe_callTy (call_list_dT rfl) (by rfl) T.list_ (by decide +kernel) (pa_cons (pv 3) pa_nil)) (pe_callB (cr_sortSP : CallR _ _ (rSortSP K)) (by rfl) T.sorted_ (by decide +kernel) (pa_cons (pe_callTy (call_list_dT rfl) (by rfl) T.list_ (by decide +kernel) (pa_cons (pv 3) pa_nil)) pa_nil)) (nomark _)))))
      (pss_one (ps_ret (pe_bl))) pss_nil)
    (pss_join (ps_if (PW.pt (pw_and (pt_cmp (pc_notN (pv 2))) (pw_and1 (pt_cmpR (op_neD hr.units : OpR _ _ (rNeD K)) (pe_lc (own := [("_law_key", 4)]) rfl sc_l_greatest_so.nd (pi_list (pe_callTy (call_list_dT rfl) (by rfl) T.list_ (by decide +kernel) (pa_cons (pv 3) pa_nil)) : PI _ _ _ (iList K _)) (blkOk_by (N := ["_law_demands_here", "_law_prices_here", "_law_some", "_law_found", "_law_key"]) (sc := defScope s_l_greatest_so) (by decide +kernel)) (fun _ _ _ _ _ => (pg_name (i := 4) sc_l_greatest_so.nd rfl (Or.inl rfl))) (fun _ _ _ _ _ => pts_one (pt_cmpR (op_notIn_seq : OpR _ _ (rIn K true)) (pe_ix (ix_tup : IxR _ (rIxT K)) (pv 4) (pe_int) (fun _ _ => rfl)) (pv 2) (by rfl))) (fun _ _ _ _ _ => pv 4)) (pe_lst pa_nil) (nomark _)))))
      (pss_one (ps_ret (pe_bl))) pss_nil)
    (pss_one (ps_ret (pe_cmpR op_eq (pe_callB (cr_sum rfl : CallR _ _ (rSum K)) (by rfl) T.sum_ (by decide +kernel) (pa_cons (pe_lc (own := [("_law_key", 4)]) rfl sc_l_greatest_so.nd (pi_list (pe_callTy (call_list_dT rfl) (by rfl) T.list_ (by decide +kernel) (pa_cons (pv 3) pa_nil)) : PI _ _ _ (iList K _)) (blkOk_by (N := ["_law_demands_here", "_law_prices_here", "_law_some", "_law_found", "_law_key"]) (sc := defScope s_l_greatest_so) (by decide +kernel)) (fun _ _ _ _ _ => (pg_name (i := 4) sc_l_greatest_so.nd rfl (Or.inl rfl))) (fun _ _ _ _ _ => pts_nil) (fun _ _ _ _ _ => pe_dget hu (pv 3) (pv 4) (fun _ _ => rfl))) pa_nil)) (pe_call A__law_least.G (hr.mono (by decide)) (by rfl) A__law_least.m A__law_least.kp A__law_least.b A__law_least.v pass0 (pa_cons (pv 0) (pa_cons (pv 1) (pa_cons (pv 2) pa_nil)))) (nomark _)))))), ?_⟩
    refine ⟨_, rfl, _, rfl, _, rfl, da, pa, R, ts, D, pr, E, rfl, hda, hD, hDn, by omega, hpa, hR, g.fit, fun H1 S1 => ⟨_, rfl, iteF ?_⟩⟩
    -- list(found) != sorted(list(found))
    refine ⟨_, rfl, _, _, rfl, .inl (S1 _ _ hR), fun p1 bs1 hp1 hk1 => ?_⟩
    have S2 := S1.trans (same_upd (o := .lst (bs1.map V.ref)) hp1)
    refine ⟨_, rfl, _, _, rfl, .inl (S2 _ _ hR), fun p2 bs2 hp2 hk2 => ?_⟩
    have Sp2 := same_upd (o := .lst (bs2.map V.ref)) hp2
    have kp1 := keys_pair hk1
    have kp2 := keys_pair hk2
    have hl2 := Paired.length kp2
    have ez : (bs2.zip (E.map (·.1))).map (fun e => V.ref e.1) = bs2.map V.ref := by
      have : (bs2.zip (E.map (·.1))).map (·.1) = bs2 := List.map_fst_zip (by omega)
      show (bs2.zip (E.map (·.1))).map (V.ref ∘ Prod.fst) = _
      rw [← List.map_map, this]
    refine ⟨_, bs2.zip (E.map (·.1)), rfl, by rw [ez]; exact SqL.of upd_same, fun e he => ?_, fun ks' p3 hperm hsort hp3 => ?_⟩
    · obtain ⟨j, hj⟩ := List.mem_iff_getElem?.mp he
      obtain ⟨h1, h2⟩ := List.getElem?_zip_eq_some.mp hj
      obtain ⟨k', h3, h4⟩ := Paired.at kp2 h1
      rw [h2] at h3
      cases h3
      exact Sp2 _ _ h4
    have S3 := S2.trans (Sp2.trans (same_upd (o := .lst (ks'.map fun e => V.ref e.1)) hp3))
    have e1 : ks'.map (·.2) = E.map (·.1) := by
      refine sorted_once ?_ (by rw [List.pairwise_map]; exact hsort) (asc_weak g.asc)
      have := hperm.map (·.2)
      rw [show (bs2.zip (E.map (·.1))).map (·.2) = E.map (·.1) from List.map_snd_zip (by omega)] at this
      exact this
    have kp3 : Paired (fun b (k : Str × Str) => upd (upd (upd H1 p1 (.lst (bs1.map V.ref))) p2 (.lst (bs2.map V.ref))) p3 (.lst (ks'.map fun e => V.ref e.1)) b = some (.tup [.str k.1, .str k.2])) (ks'.map (·.1)) (E.map (·.1)) := by
      rw [← e1]
      refine paired_of (by rw [List.length_map, List.length_map]) fun j b k' hb hk => ?_
      rw [List.getElem?_map] at hb hk
      cases q : ks'[j]? with
      | none =>
        rw [q] at hb
        cases hb
      | some e =>
        rw [q] at hb hk
        cases hb
        cases hk
        have em := hperm.mem_iff.mp (List.mem_of_getElem? q)
        obtain ⟨j2, hj2⟩ := List.mem_iff_getElem?.mp em
        obtain ⟨h1, h2⟩ := List.getElem?_zip_eq_some.mp hj2
        obtain ⟨k', h3, h4⟩ := Paired.at kp2 h1
        rw [h2] at h3
        cases h3
        exact (Sp2.trans (same_upd hp3)) _ _ h4
    have hp13 : upd (upd (upd H1 p1 (.lst (bs1.map V.ref))) p2 (.lst (bs2.map V.ref))) p3 (.lst (ks'.map fun e => V.ref e.1)) p1 = some (.lst (bs1.map V.ref)) := (Sp2.trans (same_upd hp3)) _ _ upd_same
    have d1 : Dp K (upd (upd (upd H1 p1 (.lst (bs1.map V.ref))) p2 (.lst (bs2.map V.ref))) p3 (.lst (ks'.map fun e => V.ref e.1))) (.ref p1) (.list ((E.map (·.1)).map pdKey)) := .lst (SqL.of hp13) (dp_keys (Paired.mapP kp1 fun b k' h => ((same_upd hp1).trans (Sp2.trans (same_upd hp3))) _ _ h))
    have d2 : Dp K (upd (upd (upd H1 p1 (.lst (bs1.map V.ref))) p2 (.lst (bs2.map V.ref))) p3 (.lst (ks'.map fun e => V.ref e.1))) (.ref p3) (.list ((E.map (·.1)).map pdKey)) := .lst (xs := (ks'.map (·.1)).map V.ref) (by rw [List.map_map]; exact SqL.of upd_same) (dp_keys kp3)
    have sd : Sd 2 (.list ((E.map (·.1)).map pdKey)) := by
      rw [List.map_map]
      exact sd_keys hnm
    refine ⟨_, _, d1, d2, sd.shaped (by decide), sd.shaped (by decide), _, rfl, ?_⟩
    rw [sd.refl]
    refine iteF ?_
    -- nothing out of the others' parcels
    refine ⟨fun σ' H' => σ' = [some (.ref da), some (.ref pa), some x, some (.ref R), none] ∧ Same H H', ?_, ?_⟩
    · rintro σ H4 ⟨rfl, S4⟩
      have hR4 := S4 _ _ hR
      refine ⟨_, rfl, _, _, rfl, .inl hR4, fun p5 bs5 hp5 hk5 => ?_⟩
      have S5 := S4.trans (same_upd (o := .lst (bs5.map V.ref)) hp5)
      have hbl : bs5.length = E.length := by
        have h1 := Paired.length (keys_pair hk5)
        rw [List.length_map] at h1
        exact h1
      refine ⟨_, rfl, ⟨_, SqL.of upd_same⟩, fun L hL => ?_⟩
      refine lc_list (xs := bs5.map V.ref) (fun i H' => Same (upd H4 p5 (.lst (bs5.map V.ref))) H' ∧ H' L = some (.lst (((E.take i).map (·.2)).map V.int))) ⟨same_upd hL, upd_same⟩ (fun i H' _ ⟨S, _⟩ => SqL.of (S _ _ upd_same)) ?_ ?_
      · rintro i y H6 hi ⟨S6, hLL⟩
        obtain ⟨b, hb, rfl⟩ := get_map hi
        obtain ⟨e, he, hkb⟩ := key_at hk5 hb
        have S56 := S5.trans S6
        refine ⟨rfl, _, rfl, _, rfl, _, V.int e.2, rfl, get_plT (S56 _ _ hR) g.fit.nd (List.mem_of_getElem? he) (S6 _ _ (same_upd hp5 _ _ hkb)), _, hLL, ?_, same_new S6 hL, ?_⟩
        · rw [List.length_map, List.length_map, List.length_take]
          have := g.fit.len
          exact Nat.lt_of_le_of_lt (show _ ≤ 10000 by omega) (by decide)
        · rw [upd_same, take_snoc he, List.map_append, List.map_append]
          rfl
      · rintro H6 ⟨S6, hLL⟩
        rw [List.length_map, hbl, List.take_length] at hLL
        have S56 := S5.trans S6
        refine ⟨_, _, rfl, SqL.of hLL, ?_⟩
        refine ⟨_, rfl, _, rfl, _, rfl, da, pa, x, ts, D, pr, al, rfl, S56 _ _ hda, hD.same S56, hDl, h62, S56 _ _ hpa, hal.same S56, fun m H7 S7 hm hle => ?_⟩
        have em : (E.map (·.2)).sum = m := by
          obtain ⟨row, hw⟩ := hm
          have h1 := g.le row m hw
          obtain ⟨row2, hr2, h2⟩ := g.ge
          obtain ⟨v, hv, hmv⟩ := hle row2 hr2
          have h3 := h2 v hv
          omega
        refine ⟨rfl, ?_⟩
        rw [em, decide_eq_true rfl]
        exact k _ (S56.trans S7)
    · refine ⟨_, rfl, _, rfl, ?_⟩
      rcases hal with ⟨rfl, rfl⟩ | ⟨a, b, ps, rfl, rfl, ha⟩
      · exact iteF ⟨rfl, S3⟩
      · refine iteT ?_
        have hR3 := S3 _ _ hR
        refine ⟨_, rfl, _, _, rfl, .inl hR3, fun p5 bs5 hp5 hk5 => ?_⟩
        have S5 := S3.trans (same_upd (o := .lst (bs5.map V.ref)) hp5)
        refine ⟨_, rfl, ⟨_, SqL.of upd_same⟩, fun L hL => ?_⟩
        refine lc_list (xs := bs5.map V.ref) (fun i H' => Same _ H' ∧ H' L = some (.lst [])) ⟨same_upd hL, upd_same⟩ (fun i H' _ ⟨S, _⟩ => SqL.of (S _ _ upd_same)) ?_ ?_
        · rintro i y H6 hi ⟨S6, hLL⟩
          obtain ⟨b2, hb, rfl⟩ := get_map hi
          obtain ⟨e, he, hkb⟩ := key_at hk5 hb
          have S56 := S5.trans S6
          refine ⟨rfl, _, rfl, _, _, _, V.str e.1.2, rfl, rfl, SqT.of (S6 _ _ (same_upd hp5 _ _ hkb)), rfl, _, rfl, _, _, rfl, sq_either (S56 _ _ ha), rfl, flat_str ps, _, rfl, ?_⟩
          have ho := g.some_ e (List.mem_of_getElem? he)
          show if (!inV (.str e.1.2) (ps.map V.str)) = true then _ else _
          rw [inV_str, show decide (e.1.2 ∈ ps) = true from ho]
          exact iteF ⟨S6, hLL⟩
        · rintro H6 ⟨S6, hLL⟩
          refine ⟨Nat.zero_le _, fun l0 hl0 => ?_⟩
          refine ⟨_, _, .lst (xs := []) (SqL.of (same_upd hl0 _ _ hLL)) .nil, .lst (SqL.of upd_same) .nil, rfl, rfl, _, rfl, ?_⟩
          rw [eqv_nil]
          exact iteF ⟨rfl, (S5.trans S6).trans (same_upd hl0)⟩
end
end Dr

set_option maxHeartbeats 8000000
/-! Prices turned, data the same, what demands reach. -/
namespace Dr
open PySem PySem.Spec PyProof.Rows L2
theorem merge_nd : ∀ (m : List (Key × V)) (acc : List (Key × V)), (m.map (·.1)).Nodup → (∀ e ∈ m, valV acc e.1 = none) → mergeK acc m = acc ++ m
  | [], acc, _, _ => by simp [mergeK]
  | e :: m, acc, hn, h => by
    obtain ⟨h1, h2⟩ := List.nodup_cons.mp hn
    show mergeK (putK acc e.1 e.2) m = _
    rw [putK_new _ (h e List.mem_cons_self), merge_nd m _ h2 fun x hx => ?_]
    · simp
    · have hne : ¬ x.1 = e.1 := fun q => h1 (List.mem_map.mpr ⟨x, hx, q⟩)
      rw [valV_snoc _ _ _ _ (h e List.mem_cons_self), if_neg hne]
      exact h x (List.mem_cons_of_mem _ hx)
theorem lookup_mem {pr : List (Str × Int)} (h : (pr.map (·.1)).Nodup) {z : Str} {i : Int} : pr.lookup z = some i ↔ (z, i) ∈ pr := by
  constructor
  · intro e
    obtain ⟨l1, l2, e2, _⟩ := List.lookup_eq_some_iff.mp e
    rw [e2]
    simp
  · intro e
    induction pr with
    | nil => cases e
    | cons x r ih =>
      obtain ⟨h1, h2⟩ := List.nodup_cons.mp h
      obtain ⟨a, b⟩ := x
      rcases List.mem_cons.mp e with q | q
      · cases q
        simp
      · have ne : ¬ z = a := fun y => h1 (List.mem_map.mpr ⟨(z, i), q, y⟩)
        rw [List.lookup_cons, beq_eq_false_iff_ne.mpr ne]
        exact ih h2 q
theorem nd_rev {α : Type} {l : List α} (h : l.Nodup) : l.reverse.Nodup := List.pairwise_reverse.mpr (h.imp fun x => Ne.symm x)
theorem lookup_rev {pr : List (Str × Int)} (h : (pr.map (·.1)).Nodup) (z : Str) : pr.reverse.lookup z = pr.lookup z := by
  have h' : (pr.reverse.map (·.1)).Nodup := by
    rw [List.map_reverse]
    exact nd_rev h
  cases e : pr.lookup z with
  | some i => exact (lookup_mem h').mpr (List.mem_reverse.mpr ((lookup_mem h).mp e))
  | none =>
    cases e2 : pr.reverse.lookup z with
    | none => rfl
    | some i =>
      have := (lookup_mem h).mpr (List.mem_reverse.mp ((lookup_mem h').mp e2))
      rw [e] at this
      cases this
theorem Paired.reverse {α β : Type} {F : α → β → Prop} : ∀ {l : List α} {m : List β}, Paired F l m → Paired F l.reverse m.reverse
  | _, _, .nil => .nil
  | _, _, .cons r t => by
    rw [List.reverse_cons, List.reverse_cons]
    exact Paired.snoc (Paired.reverse t) r
/-- the same data -/
def Sm (H : Hp) : Nat → V → V → Prop
  | 0, x, y => (∃ i, x = .int i ∧ y = .int i) ∨ (∃ z, x = .str z ∧ y = .str z)
  | k + 1, x, y => ((∃ i, x = .int i ∧ y = .int i) ∨ (∃ z, x = .str z ∧ y = .str z)) ∨
    (∃ (a b : Addr) (xs ys : List V) (c : Bool), x = .ref a ∧ y = .ref b ∧ H a = some (seqO c xs) ∧ H b = some (seqO c ys) ∧ Paired (Sm H k) xs ys ∧ xs.length ≤ 10000) ∨
    ∃ a b, k ≠ 0 ∧ x = .ref a ∧ y = .ref b ∧ H a = some (.dT []) ∧ H b = some (.dK [])
theorem Sm.same {H H' : Hp} (s : Same H H') : ∀ {k : Nat} {x y : V}, Sm H k x y → Sm H' k x y
  | 0, _, _, h => h
  | k + 1, _, _, .inl h => .inl h
  | k + 1, _, _, .inr (.inl ⟨a, b, xs, ys, c, h1, h2, h3, h4, h5, h6⟩) => .inr (.inl ⟨a, b, xs, ys, c, h1, h2, s _ _ h3, s _ _ h4, Paired.mapP h5 fun _ _ x => Sm.same s x, h6⟩)
  | k + 1, _, _, .inr (.inr ⟨a, b, h0, h1, h2, h3, h4⟩) => .inr (.inr ⟨a, b, h0, h1, h2, s _ _ h3, s _ _ h4⟩)
section
variable {P : Program} {w : World} {K : PySem.W.Frag} {mg : Str → Option Value} {base : Heap}
abbrev s_l_turned : Stmt := topS 43
theorem sc_l_turned : FnScope ["_law_prices_here"] ["_law_prices_here"] (defScope s_l_turned) := ⟨rfl, rfl, rfl, by decide +kernel, rfl, by decide +kernel, by decide +kernel⟩
def sp_turned : Sp := fun vs H Q _ => ∃ (pa : Addr) (pr : List (Str × Int)), vs = [.ref pa] ∧ H pa = some (.dK (prK pr)) ∧ (pr.map (·.1)).Nodup ∧ ∀ (p : Addr) (H' : Hp), Same H H' → H' p = some (.dK (prK pr.reverse)) → Q (.ref p) H'
theorem ok_turned {f : Addr} {fd : FuncData} (F : Fun K "_law_turned" "_law_turned" s_l_turned f fd) (T : Tx K mg) : FnOk P w K mg base CX0 1 f fd ["_law_prices_here"] sp_turned := by
  refine F.ok sc_l_turned (fun vs H Q E h => ?_) (fun cdv A outer s H vs Q E hr h => ?_)
  · obtain ⟨pa, pr, rfl, _⟩ := h
    rfl
  · obtain ⟨pa, pr, rfl, hpa, hnd, k⟩ := h
    -- slots 0:_law_prices_here
    refine ⟨_, (pss_one (ps_ret (pe_callTy (call_dictP rfl : CallR _ _ (rDictP K)) (by rfl) T.dict_ (by decide +kernel) (pa_cons (pe_revL (LiI.pe_listItems rfl (pv 0) (by rfl) T.list_ (by decide +kernel))) pa_nil)))), ?_⟩
    refine ⟨_, rfl, _, _, rfl, hpa, fun H1 p ts S1 hp0 hts0 hpt hp hts => ?_⟩
    refine ⟨_, _, rfl, SqL.of hp, fun p2 hp2 => ?_⟩
    have Sp := same_upd (o := .lst (ts.map V.ref).reverse) hp2
    rw [← List.map_reverse] at Sp ⊢
    refine ⟨_, _, (prK pr).reverse, rfl, SqL.of upd_same, Paired.mapP (Paired.reverse hts) fun t e h => SqT.of (Sp _ _ h), fun p3 hp3 => ?_⟩
    have e1 : mergeK [] (prK pr).reverse = prK pr.reverse := by
      have e2 : (prK pr).reverse = prK pr.reverse := by
        unfold prK
        rw [List.map_reverse]
      rw [e2, merge_nd _ [] ?_ fun _ _ => rfl]
      · rfl
      · unfold prK
        rw [List.map_map]
        show (pr.reverse.map fun e => (Sum.inr e.1 : Key)).Nodup
        have e3 : (pr.reverse.map fun e => (Sum.inr e.1 : Key)) = ((pr.map (·.1)).map Sum.inr).reverse := by
          rw [List.map_reverse, List.map_map]
          rfl
        rw [e3]
        refine nd_rev ?_
        unfold List.Nodup at hnd ⊢
        rw [List.pairwise_map]
        exact hnd.imp fun h q => h (Sum.inr.inj q)
    rw [e1]
    exact k p3 _ ((Same.trans S1 Sp).trans (same_upd hp3)) upd_same
abbrev s_l_reach : Stmt := topS 45
theorem sc_l_reach : FnScope ["_law_rows", "_law_found", "_law_row"] ["_law_rows"] (defScope s_l_reach) := ⟨rfl, rfl, rfl, by decide +kernel, rfl, by decide +kernel, by decide +kernel⟩
def sp_reach : Sp := fun vs H Q _ => ∃ (da : Addr) (ts : List Addr) (D : List Dem), vs = [.ref da] ∧ H da = some (.lst (ts.map V.ref)) ∧ DemsAt H ts D ∧ lotsLen D ≤ 62 ∧ ∀ (p : Addr) (zs : List Str) (H' : Hp), Same H H' → H' p = some (.lst (zs.map V.str)) → zs.length ≤ 62 → (∀ z ∈ zs, ∃ d ∈ D, z ∈ d.2.2) → Q (.ref p) H'
theorem ok_reach {f : Addr} {fd : FuncData} (F : Fun K "_law_reach" "_law_reach" s_l_reach f fd) (T : Tx K mg) : FnOk P w K mg base CX0 1 f fd ["_law_rows"] sp_reach := by
  refine F.ok sc_l_reach (fun vs H Q E h => ?_) (fun cdv A outer s H vs Q E hr h => ?_)
  · obtain ⟨da, ts, D, rfl, _⟩ := h
    rfl
  · obtain ⟨da, ts, D, rfl, hda, hD, h62, k⟩ := h
    have hlen : ts.length = D.length := Paired.length hD
    -- slots 0:_law_rows 1:_law_found 2:_law_row
    refine ⟨_, (pss_cons (ps_set (i := 1) sc_l_reach.nd rfl (Or.inl rfl) (pe_lst pa_nil))
    (pss_cons (ps_for PassesOwn.never rfl (pi_list (pv 0) : PI _ _ _ (iList K _)) (pg_name (i := 2) sc_l_reach.nd rfl (Or.inl rfl))
      (pss_one (ps_set (i := 1) sc_l_reach.nd rfl (Or.inl rfl) (pe_op op_cat (pv 1) (pe_callTy (call_list_of : CallR _ _ (rListOf K)) (by rfl) T.list_ (by decide +kernel) (pa_cons (pe_ix (ix_tup : IxR _ (rIxT K)) (pv 2) (pe_int) (fun _ _ => rfl)) pa_nil))))))
    (pss_one (ps_ret (pv 1))))), ?_⟩
    refine ⟨Nat.zero_le _, fun f0 hf0 => ?_⟩
    have S1 := same_upd (o := .lst []) hf0
    refine ⟨_, rfl, _, rfl, ⟨_, SqL.of (S1 _ _ hda)⟩, ?_⟩
    refine for_list (xs := ts.map V.ref) (fun i σ H' => ∃ (fo : Addr) (zs : List Str) (v2 : Option V), σ = [some (.ref da), some (.ref fo), v2] ∧ Same H H' ∧ H' fo = some (.lst (zs.map V.str)) ∧ zs.length ≤ lotsLen (D.take i) ∧ ∀ z ∈ zs, ∃ d ∈ D, z ∈ d.2.2)
      ⟨f0, [], none, rfl, S1, upd_same, Nat.zero_le _, by intro z hz; cases hz⟩ (fun i σ H' _ ⟨_, _, _, _, S, _⟩ => SqL.of (S _ _ hda)) ?_ ?_
    · rintro i x σ H1 hi ⟨fo, zs, v2, rfl, S, hfo, hzl, hz⟩
      obtain ⟨t, ht, rfl⟩ := get_map hi
      obtain ⟨d, hd, q, h1, h2⟩ := Paired.at (i := i) hD ht
      refine ⟨_, rfl, _, rfl, _, _, _, V.ref q, rfl, rfl, SqT.of (S _ _ h1), rfl, _, _, rfl, .inr (SqT.of (S _ _ h2)), fun l1 hl1 => ?_⟩
      have h3 := lotsLen_take hd
      have h4 := lotsLen_le D (i + 1)
      refine ⟨_, _, _, _, rfl, rfl, same_upd hl1 _ _ hfo, upd_same, ?_, fun l2 hl2 => ?_⟩
      · rw [List.length_map, List.length_map]
        exact Nat.le_trans (show zs.length + d.2.2.length ≤ 62 by omega) (by decide)
      rw [← List.map_append]
      refine ⟨l2, zs ++ d.2.2, _, rfl, (S.trans (same_upd hl1)).trans (same_upd hl2), upd_same, ?_, fun z hz' => ?_⟩
      · rw [List.length_append]
        omega
      · rcases List.mem_append.mp hz' with h | h
        · exact hz z h
        · exact ⟨d, List.mem_of_getElem? hd, h⟩
    · rintro σ H1 ⟨fo, zs, v2, rfl, S, hfo, hzl, hz⟩
      rw [List.length_map, hlen, List.take_length] at hzl
      exact ⟨_, rfl, k fo zs H1 S hfo (by omega) hz⟩
end
end Dr

set_option maxHeartbeats 8000000
/-! The same data. -/
namespace Dr
open PySem PySem.Spec PyProof.Rows L2 RZ
theorem walk_zipT {K : PySem.W.Frag} {a b : Addr} {xs ys : List V} {n : Nat} (hn : n = min xs.length ys.length) : Walk (ItzT K a b) n (fun H => SqT K H a xs ∧ SqT K H b ys) (YPair (fun i => xs[i]?) (fun i => ys[i]?)) := by
  subst hn
  refine ⟨fun i _ hi q => ?_, fun _ q => ⟨xs, ys, q.1, q.2, by omega⟩, fun i H v H' _ q y => ?_⟩
  · have h1 : i < xs.length := by omega
    have h2 : i < ys.length := by omega
    exact ⟨xs, ys, xs[i], ys[i], q.1, q.2, by simp [h1], by simp [h2]⟩
  · obtain ⟨T, x, z, h1, h2, h3, h4, h5⟩ := y
    exact ⟨T, x, z, h1, h2, h3, h4 xs q.1, h5 ys q.2⟩
theorem isi_one {K : PySem.W.Frag} {H : Hp} {a : Addr} {b : Bool} {xs : List V} (ha : H a = some (seqO b xs)) : ∃ t, TyX K H (.ref a) t ∧ PySem.W.kitOne K t (.type "dict") = some false ∧ PySem.W.kitOne K t (.type "list") = some (!b) ∧ PySem.W.kitOne K t (.type "tuple") = some b := by
  cases b with
  | false => exact ⟨_, .base (.lst ha), kit_ty (by decide +kernel), kit_ty (by decide +kernel), kit_ty (by decide +kernel)⟩
  | true => exact ⟨_, .base (.tup ha), kit_ty (by decide +kernel), kit_ty (by decide +kernel), kit_ty (by decide +kernel)⟩
section
variable {P : Program} {w : World} {K : PySem.W.Frag} {mg : Str → Option Value} {base : Heap}
abbrev s_l_same : Stmt := topS 44
theorem sc_l_same : FnScope ["_law_found", "_law_due", "_law_one", "_law_two"] ["_law_found", "_law_due"] (defScope s_l_same) := ⟨rfl, rfl, rfl, by decide +kernel, rfl, by decide +kernel, by decide +kernel⟩
def sp_same (n : Nat) : Sp := fun vs H Q _ => ∃ x y, vs = [x, y] ∧ Sm H n x y ∧ ∀ H', Same H H' → Q (.bl true) H'
def sp_sameR : Nat → Sp
  | 0 => fun _ _ _ _ => False
  | n + 1 => sp_same n
theorem same_step {n : Nat} {f : Addr} {fd : FuncData} (F : Fun K "_law_same" "_law_same" s_l_same f fd) (T : Tx K mg) (A__law_same : Fn P w K mg base n "_law_same" ["_law_found", "_law_due"] (sp_sameR n)) : FnOk P w K mg base CX0 (n + 1) f fd ["_law_found", "_law_due"] (sp_same n) := by
  refine F.ok sc_l_same (fun vs H Q E h => ?_) (fun cdv A outer s H vs Q E hr h => ?_)
  · obtain ⟨x, y, rfl, _⟩ := h
    rfl
  · obtain ⟨x, y, rfl, hs, k⟩ := h
    -- slots 0:_law_found 1:_law_due 2:_law_one 3:_law_two
    refine ⟨_, (pss_cons (ps_if (pt_val (pe_callB (call_isi : CallR _ _ (rIsi K)) (by rfl) T.isinstance_ (by decide +kernel) (pa_cons (pv 1) (pa_cons (pe_bltn (v := .ty "dict") (by rfl) T.dict_ (by decide +kernel) rfl) pa_nil))))
      (pss_one (ps_ret (pe_and (pe_callB (call_isi : CallR _ _ (rIsi K)) (by rfl) T.isinstance_ (by decide +kernel) (pa_cons (pv 0) (pa_cons (pe_bltn (v := .ty "dict") (by rfl) T.dict_ (by decide +kernel) rfl) pa_nil))) (pe_one (pe_call A__law_same.G hr (by rfl) A__law_same.m A__law_same.kp A__law_same.b A__law_same.v pass0 (pa_cons (pe_callTy (cr_itT rfl) (by rfl) T.list_ (by decide +kernel) (pa_cons (pe_bm0 PySem.F.plainAttrs_dict PySem.F.slot_dict_items PySem.F.type_dict_items L2.DX.mt_itemsT (pv 0)) pa_nil)) (pa_cons (LiI.pe_listItems rfl (pv 1) (by rfl) T.list_ (by decide +kernel)) pa_nil))))))) pss_nil)
    (pss_cons (ps_if (pt_val (pe_callB (call_isiT : CallR _ _ (rIsiT K)) (by rfl) T.isinstance_ (by decide +kernel) (pa_cons (pv 1) (pa_cons (pe_tup (pa_cons (pe_bltn (v := .ty "list") (by rfl) T.list_ (by decide +kernel) rfl) (pa_cons (pe_bltn (v := .ty "tuple") (by rfl) T.tuple_ (by decide +kernel) rfl) pa_nil))) pa_nil))))
      (pss_cons (ps_if (PW.pt (pw_or (pt_cmpR op_ne (pe_callB (call_isi : CallR _ _ (rIsi K)) (by rfl) T.isinstance_ (by decide +kernel) (pa_cons (pv 0) (pa_cons (pe_bltn (v := .ty "list") (by rfl) T.list_ (by decide +kernel) rfl) pa_nil))) (pe_callB (call_isi : CallR _ _ (rIsi K)) (by rfl) T.isinstance_ (by decide +kernel) (pa_cons (pv 1) (pa_cons (pe_bltn (v := .ty "list") (by rfl) T.list_ (by decide +kernel) rfl) pa_nil))) (nomark _)) (pw_or1 (pt_cmpR op_ne (pe_callB (call_isi : CallR _ _ (rIsi K)) (by rfl) T.isinstance_ (by decide +kernel) (pa_cons (pv 0) (pa_cons (pe_bltn (v := .ty "tuple") (by rfl) T.tuple_ (by decide +kernel) rfl) pa_nil))) (pe_callB (call_isi : CallR _ _ (rIsi K)) (by rfl) T.isinstance_ (by decide +kernel) (pa_cons (pv 1) (pa_cons (pe_bltn (v := .ty "tuple") (by rfl) T.tuple_ (by decide +kernel) rfl) pa_nil))) (nomark _)))))
        (pss_one (ps_ret (pe_bl))) pss_nil)
      (pss_one (ps_ret (pe_and (pe_cmpR op_eq (pe_callB (call_len_seq : CallR _ _ (rLenS K)) (by rfl) T.len_ PySem.boot_len (pa_cons (pv 0) pa_nil)) (pe_callB (call_len_seq : CallR _ _ (rLenS K)) (by rfl) T.len_ PySem.boot_len (pa_cons (pv 1) pa_nil)) (nomark _)) (pe_one (pe_callB (cr_all rfl : CallR _ _ (rAll K)) (by rfl) T.all_ (by decide +kernel) (pa_cons (pe_lc (own := [("_law_one", 2), ("_law_two", 3)]) rfl sc_l_same.nd (pi_zipA (by rfl) T.zip_ (pa_cons (pv 0) (pa_cons (pv 1) pa_nil)) : PI _ _ _ (iZipA K _)) (blkOk_by (N := ["_law_found", "_law_due", "_law_one", "_law_two"]) (sc := defScope s_l_same) (by decide +kernel)) (fun _ _ _ _ _ => (pg_tup (by rfl) (pgs_cons (pg_name (i := 2) sc_l_same.nd rfl (Or.inl rfl)) (pgs_cons (pg_name (i := 3) sc_l_same.nd rfl (Or.inl rfl)) pgs_nil)) : PG _ _ (gTup K 2 _))) (fun _ _ _ _ _ => pts_nil) (fun _ _ _ _ _ => pe_call A__law_same.G hr (by rfl) A__law_same.m A__law_same.kp A__law_same.b A__law_same.v pass0 (pa_cons (pv 2) (pa_cons (pv 3) pa_nil)))) pa_nil))))))) pss_nil)
    (pss_cons (ps_if (PW.pt (pw_or (pt_cmp (pc_isN (pv 1))) (pw_or1 (pt_cmp (pc_isN (pv 0))))))
      (pss_one (ps_ret (pe_and (pe_cmp (pc_isN (pv 1)) rfl) (pe_one (pe_cmp (pc_isN (pv 0)) rfl))))) pss_nil)
    (pss_cons (ps_if (PW.pt (pw_or (pt_cmpR op_ne (pe_callB (call_isi : CallR _ _ (rIsi K)) (by rfl) T.isinstance_ (by decide +kernel) (pa_cons (pv 0) (pa_cons (pe_bltn (v := .ty "bool") (by rfl) T.bool_ (by decide +kernel) rfl) pa_nil))) (pe_callB (call_isi : CallR _ _ (rIsi K)) (by rfl) T.isinstance_ (by decide +kernel) (pa_cons (pv 1) (pa_cons (pe_bltn (v := .ty "bool") (by rfl) T.bool_ (by decide +kernel) rfl) pa_nil))) (nomark _)) (pw_or1 (pt_cmpR op_ne (pe_callB (call_isi : CallR _ _ (rIsi K)) (by rfl) T.isinstance_ (by decide +kernel) (pa_cons (pv 0) (pa_cons (pe_bltn (v := .ty "int") (by rfl) T.int_ (by decide +kernel) rfl) pa_nil))) (pe_callB (call_isi : CallR _ _ (rIsi K)) (by rfl) T.isinstance_ (by decide +kernel) (pa_cons (pv 1) (pa_cons (pe_bltn (v := .ty "int") (by rfl) T.int_ (by decide +kernel) rfl) pa_nil))) (nomark _)))))
      (pss_one (ps_ret (pe_bl))) pss_nil)
    (pss_one (ps_ret (pe_and (pe_cmpR op_eq (pe_callB (call_isi : CallR _ _ (rIsi K)) (by rfl) T.isinstance_ (by decide +kernel) (pa_cons (pv 0) (pa_cons (pe_bltn (v := .ty "str") (by rfl) T.str_ (by decide +kernel) rfl) pa_nil))) (pe_callB (call_isi : CallR _ _ (rIsi K)) (by rfl) T.isinstance_ (by decide +kernel) (pa_cons (pv 1) (pa_cons (pe_bltn (v := .ty "str") (by rfl) T.str_ (by decide +kernel) rfl) pa_nil))) (nomark _)) (pe_one (pe_cmpR op_eq (pv 0) (pv 1) (nomark _)))))))))), ?_⟩
    have hs' : ((∃ i, x = .int i ∧ y = .int i) ∨ (∃ z, x = .str z ∧ y = .str z)) ∨ (∃ m, n = m + 1 ∧ ((∃ (a b : Addr) (xs ys : List V) (c : Bool), x = .ref a ∧ y = .ref b ∧ H a = some (seqO c xs) ∧ H b = some (seqO c ys) ∧ Paired (Sm H m) xs ys ∧ xs.length ≤ 10000) ∨
        ∃ a b, m ≠ 0 ∧ x = .ref a ∧ y = .ref b ∧ H a = some (.dT []) ∧ H b = some (.dK []))) := by
      cases n with
      | zero => exact .inl hs
      | succ m =>
        rcases hs with h | h
        · exact .inl h
        · exact .inr ⟨m, rfl, h⟩
    rcases hs' with (⟨i, rfl, rfl⟩ | ⟨z, rfl, rfl⟩) | ⟨m, rfl, (⟨a, b, xs, ys, c, rfl, rfl, ha, hb, hp, hxl⟩ | ⟨a, b, hm0, rfl, rfl, ha, hb⟩)⟩
    · -- ints
      refine ⟨_, rfl, _, _, _, _, false, rfl, .ty _, .base (.int _), kit_ty (by decide +kernel), _, rfl, iteF ?_⟩
      refine ⟨_, rfl, by show 2 ≤ sizeLine; decide, fun t ht => ?_⟩
      have S1 := same_upd (o := .tup [.ty "list", .ty "tuple"]) ht
      refine ⟨_, _, _, _, [.type "list", .type "tuple"], false, rfl, upd_same, .cons (.ty _) (.cons (.ty _) .nil), .base (.int _), kitAny_cons (b := false) (kit_ty (by decide +kernel)) (fun _ => kitAny_cons (b := false) (kit_ty (by decide +kernel)) (fun _ => kitAny_nil) (fun z => by cases z)) (fun z => by cases z), _, rfl, iteF ?_⟩
      refine ⟨_, rfl, _, rfl, iteF ⟨_, rfl, _, rfl, iteF ?_⟩⟩
      refine ⟨_, rfl, _, _, _, _, false, rfl, .ty _, .base (.int _), kit_ty (by decide +kernel), _, rfl, _, _, _, _, false, rfl, .ty _, .base (.int _), kit_ty (by decide +kernel), rfl, _, rfl, iteF ?_⟩
      refine ⟨_, rfl, _, _, _, _, true, rfl, .ty _, .base (.int _), kit_ty (by decide +kernel), _, rfl, _, _, _, _, true, rfl, .ty _, .base (.int _), kit_ty (by decide +kernel), rfl, _, rfl, iteF ?_⟩
      refine ⟨_, rfl, _, _, _, _, false, rfl, .ty _, .base (.int _), kit_ty (by decide +kernel), _, rfl, _, _, _, _, false, rfl, .ty _, .base (.int _), kit_ty (by decide +kernel), rfl, _, rfl, iteT ?_⟩
      refine ⟨_, rfl, _, rfl, rfl, ?_⟩
      rw [decide_eq_true rfl]
      exact k _ S1
    · -- texts
      refine ⟨_, rfl, _, _, _, _, false, rfl, .ty _, .base (.str _), kit_ty (by decide +kernel), _, rfl, iteF ?_⟩
      refine ⟨_, rfl, by show 2 ≤ sizeLine; decide, fun t ht => ?_⟩
      have S1 := same_upd (o := .tup [.ty "list", .ty "tuple"]) ht
      refine ⟨_, _, _, _, [.type "list", .type "tuple"], false, rfl, upd_same, .cons (.ty _) (.cons (.ty _) .nil), .base (.str _), kitAny_cons (b := false) (kit_ty (by decide +kernel)) (fun _ => kitAny_cons (b := false) (kit_ty (by decide +kernel)) (fun _ => kitAny_nil) (fun z => by cases z)) (fun z => by cases z), _, rfl, iteF ?_⟩
      refine ⟨_, rfl, _, rfl, iteF ⟨_, rfl, _, rfl, iteF ?_⟩⟩
      refine ⟨_, rfl, _, _, _, _, false, rfl, .ty _, .base (.str _), kit_ty (by decide +kernel), _, rfl, _, _, _, _, false, rfl, .ty _, .base (.str _), kit_ty (by decide +kernel), rfl, _, rfl, iteF ?_⟩
      refine ⟨_, rfl, _, _, _, _, false, rfl, .ty _, .base (.str _), kit_ty (by decide +kernel), _, rfl, _, _, _, _, false, rfl, .ty _, .base (.str _), kit_ty (by decide +kernel), rfl, _, rfl, iteF ?_⟩
      refine ⟨_, rfl, _, _, _, _, true, rfl, .ty _, .base (.str _), kit_ty (by decide +kernel), _, rfl, _, _, _, _, true, rfl, .ty _, .base (.str _), kit_ty (by decide +kernel), rfl, _, rfl, iteT ?_⟩
      refine ⟨_, rfl, _, rfl, rfl, ?_⟩
      rw [decide_eq_true rfl]
      exact k _ S1
    · -- lists, tuples
      obtain ⟨t1, a1, a2, a3, a4⟩ := isi_one (K := K) ha
      obtain ⟨t2, b1, b2, b3, b4⟩ := isi_one (K := K) hb
      refine ⟨_, rfl, _, _, _, _, false, rfl, .ty _, b1, b2, _, rfl, iteF ?_⟩
      refine ⟨_, rfl, by show 2 ≤ sizeLine; decide, fun t ht => ?_⟩
      have S1 := same_upd (o := .tup [.ty "list", .ty "tuple"]) ht
      obtain ⟨ty, us, c1, c2, c3⟩ := isi_seq (K := K) (S1 _ _ hb)
      refine ⟨_, _, _, _, _, true, rfl, upd_same, c1, c2, c3, _, rfl, iteT ?_⟩
      obtain ⟨t1, a1, a2, a3, a4⟩ := isi_one (K := K) (S1 _ _ ha)
      obtain ⟨t2, b1, b2, b3, b4⟩ := isi_one (K := K) (S1 _ _ hb)
      refine ⟨_, rfl, _, _, _, _, _, rfl, .ty _, a1, a3, _, rfl, _, _, _, _, _, rfl, .ty _, b1, b3, rfl, _, rfl, ?_⟩
      rw [decide_eq_true rfl]
      refine iteF ?_
      refine ⟨_, rfl, _, _, _, _, _, rfl, .ty _, a1, a4, _, rfl, _, _, _, _, _, rfl, .ty _, b1, b4, rfl, _, rfl, ?_⟩
      rw [decide_eq_true rfl]
      refine iteF ?_
      have hl := Paired.length hp
      refine ⟨_, rfl, _, _, rfl, sq_either (S1 _ _ ha), _, rfl, _, _, rfl, sq_either (S1 _ _ hb), rfl, ?_⟩
      rw [hl, decide_eq_true rfl]
      refine ⟨_, rfl, iteT ?_⟩
      refine ⟨_, rfl, _, rfl, _, _, xs, ys, rfl, ?_⟩
      cases c
      · refine .inl ⟨SqL.of (S1 _ _ ha), SqL.of (S1 _ _ hb), fun D hD => ?_⟩
        refine lc_it (walk_zip (xs := xs) (ys := ys) (n := xs.length) (by omega)) (fun i H' => Same (upd H t (.tup [.ty "list", .ty "tuple"])) H' ∧ H' D = some (.lst ((List.replicate i true).map V.bl))) ⟨same_upd hD, upd_same⟩ (fun i H' _ ⟨S, _⟩ => ⟨SqL.of (S _ _ (S1 _ _ ha)), SqL.of (S _ _ (S1 _ _ hb))⟩) ?_ ?_
        · rintro i v H1 H2 hi ⟨S, hL⟩ ⟨T0, x, y, rfl, hT, rfl, hx, hy⟩
          have ST := same_upd (o := .tup [x, y]) hT
          refine ⟨_, _, rfl, SqT.of upd_same, rfl, _, _, rfl, _, _, rfl, rfl, rfl, ?_⟩
          obtain ⟨y', hy', hxy⟩ := Paired.at hp hx
          cases (Option.some.inj (hy'.symm.trans hy))
          refine ⟨_, rfl, _, rfl, _, _, rfl, Sm.same (S1.trans (S.trans ST)) hxy, fun H3 S3 => ?_⟩
          have hL3 := S3 _ _ (ST _ _ hL)
          refine ⟨_, hL3, ?_, all_step (S.trans (ST.trans S3)) hD hL3⟩
          simp only [List.length_map, List.length_replicate]
          exact Nat.lt_of_le_of_lt (show i ≤ 10000 by omega) (by decide)
        · rintro H1 ⟨S, hL⟩
          refine ⟨_, _, rfl, SqL.of hL, ?_⟩
          rw [all_true]
          exact k _ (S1.trans S)
      · refine .inr ⟨SqT.of (S1 _ _ ha), SqT.of (S1 _ _ hb), fun D hD => ?_⟩
        refine lc_it (walk_zipT (xs := xs) (ys := ys) (n := xs.length) (by omega)) (fun i H' => Same (upd H t (.tup [.ty "list", .ty "tuple"])) H' ∧ H' D = some (.lst ((List.replicate i true).map V.bl))) ⟨same_upd hD, upd_same⟩ (fun i H' _ ⟨S, _⟩ => ⟨SqT.of (S _ _ (S1 _ _ ha)), SqT.of (S _ _ (S1 _ _ hb))⟩) ?_ ?_
        · rintro i v H1 H2 hi ⟨S, hL⟩ ⟨T0, x, y, rfl, hT, rfl, hx, hy⟩
          have ST := same_upd (o := .tup [x, y]) hT
          refine ⟨_, _, rfl, SqT.of upd_same, rfl, _, _, rfl, _, _, rfl, rfl, rfl, ?_⟩
          obtain ⟨y', hy', hxy⟩ := Paired.at hp hx
          cases (Option.some.inj (hy'.symm.trans hy))
          refine ⟨_, rfl, _, rfl, _, _, rfl, Sm.same (S1.trans (S.trans ST)) hxy, fun H3 S3 => ?_⟩
          have hL3 := S3 _ _ (ST _ _ hL)
          refine ⟨_, hL3, ?_, all_step (S.trans (ST.trans S3)) hD hL3⟩
          simp only [List.length_map, List.length_replicate]
          exact Nat.lt_of_le_of_lt (show i ≤ 10000 by omega) (by decide)
        · rintro H1 ⟨S, hL⟩
          refine ⟨_, _, rfl, SqL.of hL, ?_⟩
          rw [all_true]
          exact k _ (S1.trans S)
    · -- empty dicts
      refine ⟨_, rfl, _, _, _, _, true, rfl, .ty _, .base (.dK hb), kit_ty (by decide +kernel), _, rfl, iteT ?_⟩
      refine ⟨_, rfl, _, _, _, _, true, rfl, .ty _, .base (.dT ha), kit_ty (by decide +kernel), _, rfl, iteT ?_⟩
      refine ⟨_, rfl, tyT ha, _, _, rfl, rfl, ha, fun p hp => ?_⟩
      have S1 := same_upd (o := L2.DX.itemsO p a) hp
      refine ⟨_, _, _, rfl, upd_same, S1 _ _ ha, fun H2 l ts S2 hl hlt hts => ?_⟩
      have S12 := S1.trans S2
      refine ⟨_, rfl, _, _, rfl, S12 _ _ hb, fun H3 p2 us S3 _ _ _ hu2 hus => ?_⟩
      have S13 := S12.trans S3
      have et : ts = [] := by
        cases hts
        rfl
      have eu : us = [] := by
        cases hus
        rfl
      subst et eu
      refine ⟨_, _, rfl, ?_, fun H4 S4 => ?_⟩
      · have h0 : ∀ k, Sm H3 (k + 1) (.ref l) (.ref p2) := fun k => .inr (.inl ⟨l, p2, [], [], false, rfl, rfl, S3 _ _ hlt, hu2, .nil, by decide⟩)
        cases m with
        | zero => exact absurd rfl hm0
        | succ j => exact h0 j
      · exact k _ (S13.trans S4)
theorem ok_sameR {f : Addr} {fd : FuncData} (F : Fun K "_law_same" "_law_same" s_l_same f fd) (T : Tx K mg) (hm : mg "_law_same" = some (.ref f)) (hb : Binds K fd ["_law_found", "_law_due"] []) : ∀ n, FnOk P w K mg base CX0 n f fd ["_law_found", "_law_due"] (sp_sameR n)
  | 0 => ⟨fun _ _ _ _ h => h.elim, fun _ _ _ _ _ _ _ _ _ _ _ _ _ h => h.elim⟩
  | n + 1 => same_step F T ⟨f, fd, [], hm, F.kp, hb, .nil, ok_sameR F T hm hb n⟩
end
end Dr

set_option maxHeartbeats 8000000
/-! No shorter way is left. -/
namespace Dr
open PySem PySem.Spec PyProof.Rows L2
structure Short (D : List Dem) (pr : List (Str × Int)) (E : List Ent) (T : Dem → Prop) : Prop where
  h0 : ∀ d ∈ D, gvn E d.1 < d.2.1 → T d
  h1 : ∀ d ∈ D, T d → ∀ z ∈ d.2.2, lkP pr z ≤ tkn E z
  h2 : ∀ d ∈ D, T d → ∀ z ∈ d.2.2, ∀ d' ∈ D, 0 < (E.lookup (d'.1, z)).getD 0 → T d'
theorem lotsLen_sub {D D' : List Dem} (h : D'.Sublist D) : lotsLen D' ≤ lotsLen D := by
  induction h with
  | slnil => exact Nat.le_refl _
  | cons a h ih =>
    unfold lotsLen at *
    rw [List.map_cons, List.sum_cons]
    omega
  | cons_cons a h ih =>
    unfold lotsLen at *
    rw [List.map_cons, List.sum_cons, List.map_cons, List.sum_cons]
    omega
section
variable {P : Program} {w : World} {K : PySem.W.Frag} {mg : Str → Option Value} {base : Heap}
abbrev sc2 : Scope := { kind := .function, names := [(".0", .local), ("_law_row", .cell), ("_law_known", .cell), ("_law_places", .cell), ("_law_plan", .cell)], isGenerator := false, isCoroutine := false }
abbrev s_l_shortest : Stmt := topS 46
theorem sc_l_shortest : FnScope ["_law_demands_here", "_law_prices_here", "_law_plan", "_law_now", "_law_known", "_law_seen", "_law_turn", "_law_places", "_law_row", "_law_place"] ["_law_demands_here", "_law_prices_here", "_law_plan"] (defScope s_l_shortest) := ⟨rfl, rfl, rfl, by decide +kernel, rfl, by decide +kernel, by decide +kernel⟩
def sp_short : Sp := fun vs H Q _ => ∃ (da pa R : Addr) (ts : List Addr) (D : List Dem) (pr : List (Str × Int)) (E : List Ent) (Tp : Dem → Prop), vs = [.ref da, .ref pa, .ref R] ∧ H da = some (.lst (ts.map V.ref)) ∧ DemsAt H ts D ∧ D.length ≤ 24 ∧ lotsLen D ≤ 62 ∧ (∀ d ∈ D, DemOk d) ∧ H pa = some (.dK (prK pr)) ∧ H R = some (.dT (plT E)) ∧ (E.map (·.1)).Nodup ∧ E.length ≤ 10000 ∧ Short D pr E Tp ∧ ∀ H', Same H H' → Q .non H'
theorem ok_short {f : Addr} {fd : FuncData} (F : Fun K "_law_shortest" "_law_shortest" s_l_shortest f fd) (T : Tx K mg) (A__law_given : Fn P w K mg base 1 "_law_given" ["_law_plan", "_law_name"] sp_given) (A__law_taken : Fn P w K mg base 1 "_law_taken" ["_law_plan", "_law_place"] sp_taken) (A__law_reach : Fn P w K mg base 1 "_law_reach" ["_law_rows"] sp_reach) :
    FnOk P w K mg base CX0 2 f fd ["_law_demands_here", "_law_prices_here", "_law_plan"] sp_short := by
  refine F.ok sc_l_shortest (fun vs H Q E h => ?_) (fun cdv A outer s H vs Q E hr h => ?_)
  · obtain ⟨da, pa, R, ts, D, pr, E, Tp, rfl, _⟩ := h
    rfl
  · obtain ⟨da, pa, R, ts, D, pr, E, Tp, rfl, hda, hD, hDl, h62, hDo, hpa, hR, hnd, hEl, sh, k⟩ := h
    have hu := hu_of hr
    have hlen : ts.length = D.length := Paired.length hD
    -- slots 0:_law_demands_here 1:_law_prices_here 2:_law_plan 3:_law_now 4:_law_known 5:_law_seen 6:_law_turn 7:_law_places 8:_law_row 9:_law_place
    refine ⟨_, (pss_cons (ps_setLc (i := 3) (own := [("_law_row", 8)]) rfl sc_l_shortest.nd rfl rfl (sw_true rfl rfl rfl (by decide +kernel)) (pi_list (pv 0) : PI _ _ _ (iList K _)) (blkOk_by (N := ["_law_demands_here", "_law_prices_here", "_law_plan", "_law_now", "_law_known", "_law_seen", "_law_turn", "_law_places", "_law_row", "_law_place"]) (sc := defScope s_l_shortest) (by decide +kernel)) (fun _ _ _ _ _ => (pg_name (i := 8) sc_l_shortest.nd rfl (Or.inl rfl))) (fun _ _ _ _ _ => pts_one (pt_cmpR op_lt (pe_call A__law_given.G (hr.mono (by decide)) (by rfl) A__law_given.m A__law_given.kp A__law_given.b A__law_given.v pass0 (pa_cons (pv 2) (pa_cons (pe_ix (ix_tup : IxR _ (rIxT K)) (pv 8) (pe_int) (fun _ _ => rfl)) pa_nil))) (pe_ix (ix_tup : IxR _ (rIxT K)) (pv 8) (pe_int) (fun _ _ => rfl)) (nomark _))) (fun _ _ _ _ _ => pv 8))
    (pss_cons (ps_asg (pe_tup (pa_cons (pe_lc (own := [("_law_row", 8)]) rfl sc_l_shortest.nd (pi_list (pv 3) : PI _ _ _ (iList K _)) (blkOk_by (N := ["_law_demands_here", "_law_prices_here", "_law_plan", "_law_now", "_law_known", "_law_seen", "_law_turn", "_law_places", "_law_row", "_law_place"]) (sc := defScope s_l_shortest) (by decide +kernel)) (fun _ _ _ _ _ => (pg_name (i := 8) sc_l_shortest.nd rfl (Or.inl rfl))) (fun _ _ _ _ _ => pts_nil) (fun _ _ _ _ _ => pe_ix (ix_tup : IxR _ (rIxT K)) (pv 8) (pe_int) (fun _ _ => rfl))) (pa_cons (pe_lst pa_nil) pa_nil))) (pg_tup (by rfl) (pgs_cons (pg_name (i := 4) sc_l_shortest.nd rfl (Or.inr rfl)) (pgs_cons (pg_name (i := 5) sc_l_shortest.nd rfl (Or.inr rfl)) pgs_nil)) : PG _ _ (gTup K 2 _)))
    (pss_cons (ps_for PassesOwn.never rfl (pi_range1 (by rfl) T.range_ (pa_cons (pe_op op_add (pe_callB (call_len_seq : CallR _ _ (rLenS K)) (by rfl) T.len_ PySem.boot_len (pa_cons (pv 0) pa_nil)) (pe_int)) pa_nil)) (pg_name (i := 6) sc_l_shortest.nd rfl (Or.inl rfl))
      (pss_cons (ps_set (i := 7) sc_l_shortest.nd rfl (Or.inr rfl) (pe_callB (cr_sortSet rfl : CallR _ _ (rSortSet w)) (by rfl) T.sorted_ (by decide +kernel) (pa_cons (pe_callTy (cr_setOf rfl : CallR _ _ (rSetOf K w)) (by rfl) T.set_ (by decide +kernel) (pa_cons (pe_lc (own := [("_law_place", 9)]) rfl sc_l_shortest.nd (pi_list (pe_call A__law_reach.G (hr.mono (by decide)) (by rfl) A__law_reach.m A__law_reach.kp A__law_reach.b A__law_reach.v pass0 (pa_cons (pv 3) pa_nil)) : PI _ _ _ (iList K _)) (blkOk_by (N := ["_law_demands_here", "_law_prices_here", "_law_plan", "_law_now", "_law_known", "_law_seen", "_law_turn", "_law_places", "_law_row", "_law_place"]) (sc := defScope s_l_shortest) (by decide +kernel)) (fun _ _ _ _ _ => (pg_name (i := 9) sc_l_shortest.nd rfl (Or.inl rfl))) (fun _ _ _ _ _ => pts_one (pt_cmpR (op_notIn_seq : OpR _ _ (rIn K true)) (pv 9) (pv 5) (by rfl))) (fun _ _ _ _ _ => pv 9)) pa_nil)) pa_nil)))
      (pss_cons (ps_if (pt_cmpR (op_neD hr.units : OpR _ _ (rNeD K)) (pe_lc (own := [("_law_place", 9)]) rfl sc_l_shortest.nd (pi_list (pv 7) : PI _ _ _ (iList K _)) (blkOk_by (N := ["_law_demands_here", "_law_prices_here", "_law_plan", "_law_now", "_law_known", "_law_seen", "_law_turn", "_law_places", "_law_row", "_law_place"]) (sc := defScope s_l_shortest) (by decide +kernel)) (fun _ _ _ _ _ => (pg_name (i := 9) sc_l_shortest.nd rfl (Or.inl rfl))) (fun _ _ _ _ _ => pts_one (pt_cmpR op_gt (pe_dget2 hu (pv 1) (pv 9) (pe_int) ⟨by rfl, by rfl, by rfl, by rfl⟩) (pe_call A__law_taken.G (hr.mono (by decide)) (by rfl) A__law_taken.m A__law_taken.kp A__law_taken.b A__law_taken.v pass0 (pa_cons (pv 2) (pa_cons (pv 9) pa_nil))) (nomark _))) (fun _ _ _ _ _ => pv 9)) (pe_lst pa_nil) (nomark _))
        (pss_one (ps_ret (pe_op op_add (pe_op op_mul (pe_int) (pv 6)) (pe_int)))) pss_nil)
      (pss_cons (ps_set (i := 5) sc_l_shortest.nd rfl (Or.inr rfl) (pe_op op_cat (pv 5) (pv 7)))
      (pss_cons (ps_setLc (i := 3) (own := [("_law_row", 8)]) rfl sc_l_shortest.nd rfl rfl (sw_true rfl rfl rfl (by decide +kernel)) (pi_list (pv 0) : PI _ _ _ (iList K _)) (blkOk_by (N := ["_law_demands_here", "_law_prices_here", "_law_plan", "_law_now", "_law_known", "_law_seen", "_law_turn", "_law_places", "_law_row", "_law_place"]) (sc := defScope s_l_shortest) (by decide +kernel)) (fun _ _ _ _ _ => (pg_name (i := 8) sc_l_shortest.nd rfl (Or.inr rfl))) (fun _ _ _ _ _ => pts_one (PW.pt (pw_and (pt_cmpR (op_notIn_seq : OpR _ _ (rIn K true)) (pe_ix (ix_tup : IxR _ (rIxT K)) (pv 8) (pe_int) (fun _ _ => rfl)) (pv 4) (by rfl)) (pw_and1 (pt_cmpR (op_neD hr.units : OpR _ _ (rNeD K)) (pe_lc (own := [("_law_place", 9)]) rfl sc_l_shortest.nd (pi_list (pv 7) : PI _ _ _ (iList K _)) (blkOk_by (N := ["_law_demands_here", "_law_prices_here", "_law_plan", "_law_now", "_law_known", "_law_seen", "_law_turn", "_law_places", "_law_row", "_law_place"]) (sc := sc2) (by decide +kernel)) (fun _ _ _ _ _ => (pg_name (i := 9) sc_l_shortest.nd rfl (Or.inl rfl))) (fun _ _ _ _ _ => pts_one (pt_cmpR op_gt (pe_dget2 hu (pv 2) (pe_tup (pa_cons (pe_ix (ix_tup : IxR _ (rIxT K)) (pv 8) (pe_int) (fun _ _ => rfl)) (pa_cons (pv 9) pa_nil))) (pe_int) ⟨by rfl, by rfl, by rfl, by rfl⟩) (pe_int) (nomark _))) (fun _ _ _ _ _ => pv 9)) (pe_lst pa_nil) (nomark _)))))) (fun _ _ _ _ _ => pv 8))
      (pss_one (ps_set (i := 4) sc_l_shortest.nd rfl (Or.inr rfl) (pe_op op_cat (pv 4) (pe_lc (own := [("_law_row", 8)]) rfl sc_l_shortest.nd (pi_list (pv 3) : PI _ _ _ (iList K _)) (blkOk_by (N := ["_law_demands_here", "_law_prices_here", "_law_plan", "_law_now", "_law_known", "_law_seen", "_law_turn", "_law_places", "_law_row", "_law_place"]) (sc := defScope s_l_shortest) (by decide +kernel)) (fun _ _ _ _ _ => (pg_name (i := 8) sc_l_shortest.nd rfl (Or.inl rfl))) (fun _ _ _ _ _ => pts_nil) (fun _ _ _ _ _ => pe_ix (ix_tup : IxR _ (rIxT K)) (pv 8) (pe_int) (fun _ _ => rfl)))))))))))
    (pss_one (ps_ret (pe_non)))))), ?_⟩
    -- now
    refine ⟨_, rfl, _, rfl, ⟨_, SqL.of hda⟩, fun L hL => ?_⟩
    refine lc_list (xs := ts.map V.ref) (fun i H' => ∃ (us : List Addr) (Dn : List Dem), Same H H' ∧ H' L = some (.lst (us.map V.ref)) ∧ DemsAt H us Dn ∧ Dn.Sublist (D.take i) ∧ ∀ d ∈ Dn, Tp d) ⟨[], [], same_upd hL, upd_same, .nil, List.nil_sublist _, by intro d hd; cases hd⟩ (fun i H' _ ⟨_, _, S, _⟩ => SqL.of (S _ _ hda)) ?_ ?_
    · rintro i x H1 hi ⟨us, Dn, S, hLL, hus, hsub, hT⟩
      obtain ⟨t, ht, rfl⟩ := get_map hi
      obtain ⟨d, hd, q, h1, h2⟩ := Paired.at (i := i) hD ht
      have hdm := List.mem_of_getElem? hd
      refine ⟨rfl, _, rfl, _, rfl, _, _, _, V.str d.1, rfl, rfl, SqT.of (S _ _ h1), rfl, R, d.1, E, rfl, S _ _ hR, hnd, hEl, fun H2 S2 => ?_⟩
      refine ⟨_, rfl, _, _, _, V.int d.2.1, rfl, rfl, SqT.of (S2 _ _ (S _ _ h1)), rfl, _, _, rfl, rfl, _, rfl, ?_⟩
      refine ite2 (fun hc => ?_) (fun _ => ⟨us, Dn, S.trans S2, S2 _ _ hLL, hus, ?_, hT⟩)
      · have hTd := sh.h0 d hdm (of_decide_eq_true hc)
        have hul := Paired.length hus
        have hsl := hsub.length_le
        rw [List.length_take] at hsl
        refine ⟨_, rfl, _, S2 _ _ hLL, ?_, us ++ [t], Dn ++ [d], same_new (S.trans S2) hL, ?_, Paired.snoc hus ⟨q, h1, h2⟩, ?_, ?_⟩
        · rw [List.length_map]
          exact Nat.lt_of_le_of_lt (show us.length ≤ 24 by omega) (by decide)
        · rw [upd_same, List.map_append]
          rfl
        · rw [take_snoc hd]
          exact hsub.append (List.Sublist.refl _)
        · intro d' hd'
          rcases List.mem_append.mp hd' with h | h
          · exact hT d' h
          · have e : d' = d := by simpa using h
            rw [e]
            exact hTd
      · rw [take_snoc hd]
        exact hsub.trans (List.sublist_append_left _ _)
    · rintro H1 ⟨us, Dn, S, hLL, hus, hsub, hT⟩
      rw [List.length_map, hlen, List.take_length] at hsub
      have hul := Paired.length hus
      have hsl := hsub.length_le
      have hrow : ∀ {us : List Addr} {Dn : List Dem} {i : Nat} {t : Addr}, DemsAt H us Dn → us[i]? = some t → ∃ d q, Dn[i]? = some d ∧ H t = some (.tup [.str d.1, .int d.2.1, .ref q]) ∧ H q = some (.tup (d.2.2.map V.str)) := fun hU ht => by
        obtain ⟨d, hd, q, h1, h2⟩ := Paired.at hU ht
        exact ⟨d, q, hd, h1, h2⟩
      -- known, seen
      refine ⟨_, rfl, _, rfl, ⟨_, SqL.of hLL⟩, fun L2 hL2 => ?_⟩
      refine lc_list (xs := us.map V.ref) (fun i H' => Same H1 H' ∧ H' L2 = some (.lst (((Dn.take i).map (·.1)).map V.str))) ⟨same_upd hL2, upd_same⟩ (fun i H' _ ⟨S, _⟩ => SqL.of (S _ _ hLL)) ?_ ?_
      · rintro i x H2 hi ⟨S2, hLL2⟩
        obtain ⟨t, ht, rfl⟩ := get_map hi
        obtain ⟨d, q, hd, h1, h2⟩ := hrow hus ht
        refine ⟨rfl, _, rfl, _, _, _, V.str d.1, rfl, rfl, SqT.of (S2 _ _ (S _ _ h1)), rfl, _, hLL2, ?_, same_new S2 hL2, ?_⟩
        · rw [List.length_map, List.length_map, List.length_take]
          exact Nat.lt_of_le_of_lt (show _ ≤ 24 by omega) (by decide)
        · rw [upd_same, take_snoc hd, List.map_append, List.map_append]
          rfl
      · rintro H2 ⟨S2, hLL2⟩
        rw [List.length_map, hul, List.take_length] at hLL2
        refine ⟨Nat.zero_le _, fun L3 hL3 => ?_⟩
        refine ⟨by show 2 ≤ sizeLine; decide, fun t2 ht2 => ?_⟩
        have S3 := (S.trans S2).trans ((same_upd (o := .lst []) hL3).trans (same_upd (o := .tup [.ref L2, .ref L3]) ht2))
        refine ⟨_, _, rfl, SqT.of upd_same, rfl, _, _, rfl, _, _, rfl, rfl, ?_⟩
        refine ⟨_, rfl, _, _, rfl, .inl (SqL.of (S3 _ _ hda)), _, _, rfl, rfl, _, rfl, by omega, by rw [List.length_map]; omega, ?_⟩
        have en : (((ts.map V.ref).length : Nat) : Int) + 1 = ((D.length + 1 : Nat) : Int) := by
          rw [List.length_map, hlen]
          omega
        rw [en]
        refine for_range (n := D.length + 1) (fun i σ H' => ∃ (nw kn se : Addr) (us : List Addr) (Dn : List Dem) (kl sl : List Str) (v6 v7 : Option V), σ = [some (.ref da), some (.ref pa), some (.ref R), some (.ref nw), some (.ref kn), some (.ref se), v6, v7, none, none] ∧ Same H H' ∧ H' nw = some (.lst (us.map V.ref)) ∧ DemsAt H us Dn ∧ Dn.Sublist D ∧ (∀ d ∈ Dn, Tp d) ∧
            H' kn = some (.lst (kl.map V.str)) ∧ kl.length ≤ 24 * (i + 1) ∧ H' se = some (.lst (sl.map V.str)) ∧ sl.length ≤ 62 * i)
          ⟨L, L2, L3, us, Dn, Dn.map (·.1), [], none, none, rfl, S3, (S2.trans ((same_upd hL3).trans (same_upd ht2))) _ _ hLL, hus, hsub, hT, ((same_upd hL3).trans (same_upd ht2)) _ _ hLL2, by rw [List.length_map]; omega, same_upd ht2 _ _ upd_same, Nat.zero_le _⟩ ?_ ?_
        · rintro i σ H3 hi ⟨nw, kn, se, us, Dn, kl, sl, v6, v7, rfl, S, hnw, hus, hsub, hT, hkn, hkl, hse, hsl2⟩
          have hul := Paired.length hus
          have hsl := hsub.length_le
          have hDn62 : lotsLen Dn ≤ 62 := Nat.le_trans (lotsLen_sub hsub) h62
          -- places
          refine ⟨_, rfl, nw, us, Dn, rfl, hnw, hus.same S, hDn62, fun p0 zs H4 S4 hp0 hzl hzs => ?_⟩
          refine ⟨_, rfl, ⟨_, SqL.of hp0⟩, fun L4 hL4 => ?_⟩
          refine lc_list (xs := zs.map V.str) (fun j H' => ∃ ws : List Str, Same H4 H' ∧ H' L4 = some (.lst (ws.map V.str)) ∧ ws.length ≤ j ∧ ∀ z ∈ ws, z ∈ zs) ⟨[], same_upd hL4, upd_same, Nat.zero_le _, by intro z hz; cases hz⟩ (fun i H' _ ⟨_, S, _⟩ => SqL.of (S _ _ hp0)) ?_ ?_
          · rintro j x H5 hj ⟨ws, S5, hL5, hwl, hws⟩
            obtain ⟨z, hz, rfl⟩ := get_map hj
            have hjl := (List.getElem?_eq_some_iff.mp hz).1
            refine ⟨rfl, _, rfl, _, rfl, _, _, rfl, .inl (SqL.of (S5 _ _ (S4 _ _ hse))), rfl, flat_str sl, _, rfl, ?_⟩
            refine ite2 (fun _ => ?_) (fun _ => ⟨ws, S5, hL5, by omega, hws⟩)
            refine ⟨_, rfl, _, hL5, ?_, ws ++ [z], same_new S5 hL4, ?_, ?_, ?_⟩
            · rw [List.length_map]
              exact Nat.lt_of_le_of_lt (show ws.length ≤ 62 by omega) (by decide)
            · rw [upd_same, List.map_append]
              rfl
            · rw [List.length_append, List.length_singleton]
              omega
            · intro y hy
              rcases List.mem_append.mp hy with h | h
              · exact hws y h
              · have e : y = z := by simpa using h
                rw [e]
                exact List.mem_of_getElem? hz
          · rintro H5 ⟨ws, S5, hL5, hwl, hws⟩
            rw [List.length_map] at hwl
            refine ⟨_, _, rfl, SqL.of hL5, by omega, fun p1 hp1 => ?_⟩
            have hdl := len_dedS ws
            refine ⟨_, _, rfl, upd_same, by omega, fun ys p2 hasc hperm hp2 => ?_⟩
            have hyz : ∀ z ∈ ys, ∃ d ∈ Dn, z ∈ d.2.2 := fun z hz => hzs z (hws z (mem_dedS.mp (hperm.mem_iff.mp hz)))
            have hyl : ys.length ≤ 62 := by
              rw [hperm.length_eq]
              omega
            have hyn : ∀ z ∈ ys, NameOk z := fun z hz => by
              obtain ⟨d, hd, hzd⟩ := hyz z hz
              exact (hDo d (hsub.subset hd)).lt.nm z hzd
            have S36 : Same H3 (upd (upd H5 p1 (SetSO w p1 (dedS ws))) p2 (.lst (ys.map V.str))) := S4.trans (S5.trans ((same_upd hp1).trans (same_upd hp2)))
            have S6 := S.trans S36
            have hp2' : upd (upd H5 p1 (SetSO w p1 (dedS ws))) p2 (.lst (ys.map V.str)) p2 = some (.lst (ys.map V.str)) := upd_same
            generalize upd (upd H5 p1 (SetSO w p1 (dedS ws))) p2 (.lst (ys.map V.str)) = H6 at S36 S6 hp2' ⊢
            -- none with room
            refine ⟨_, rfl, _, rfl, ⟨_, SqL.of hp2'⟩, fun L7 hL7 => ?_⟩
            refine lc_list (xs := ys.map V.str) (fun j H' => Same H6 H' ∧ H' L7 = some (.lst [])) ⟨same_upd hL7, upd_same⟩ (fun i H' _ ⟨S, _⟩ => SqL.of (S _ _ hp2')) ?_ ?_
            · rintro j x H7 hj ⟨S7, hL7'⟩
              obtain ⟨z, hz, rfl⟩ := get_map hj
              obtain ⟨d, hd, hzd⟩ := hyz z (List.mem_of_getElem? hz)
              have hle := sh.h1 d (hsub.subset hd) (hT d hd) z hzd
              have hpa7 := S7 _ _ (S6 _ _ hpa)
              have el : (valV (prK pr) (Sum.inr z : Key)).getD (V.int 0) = V.int (lkP pr z) := by
                rw [valV_prK]
                unfold lkP
                cases pr.lookup z <;> rfl
              refine ⟨rfl, _, rfl, _, rfl, .inl ⟨_, .inl hpa7⟩, _, rfl, _, DGet.k (k := Sum.inr z) hpa7, ?_⟩
              rw [el]
              refine ⟨_, rfl, _, rfl, R, z, E, rfl, S7 _ _ (S6 _ _ hR), hnd, hEl, fun H8 S8 => ?_⟩
              refine ⟨_, _, rfl, rfl, _, rfl, ?_⟩
              rw [show decide (tkn E z < lkP pr z) = false from decide_eq_false (by omega)]
              exact iteF ⟨S7.trans S8, S8 _ _ hL7'⟩
            · rintro H7 ⟨S7, hL7'⟩
              refine ⟨Nat.zero_le _, fun l0 hl0 => ?_⟩
              refine ⟨_, _, .lst (xs := []) (SqL.of (same_upd hl0 _ _ hL7')) .nil, .lst (SqL.of upd_same) .nil, rfl, rfl, _, rfl, ?_⟩
              rw [eqv_nil]
              refine iteF ?_
              have S78 : Same H3 (upd H7 l0 (.lst [])) := S36.trans (S7.trans (same_upd hl0))
              have hp28 := (S7.trans (same_upd (o := .lst []) hl0)) _ _ hp2'
              generalize upd H7 l0 (.lst []) = H8 at S78 hp28 ⊢
              have S8 := S.trans S78
              -- seen = seen + places
              refine ⟨_, rfl, _, rfl, _, _, _, _, rfl, rfl, S78 _ _ hse, hp28, ?_, fun s2 hs2 => ?_⟩
              · rw [List.length_map, List.length_map]
                exact Nat.le_trans (show sl.length + ys.length ≤ 62 * 26 by omega) (by decide)
              rw [← List.map_append]
              have S9 : Same H8 (upd H8 s2 (.lst ((sl ++ ys).map V.str))) := same_upd hs2
              have hse9 : upd H8 s2 (.lst ((sl ++ ys).map V.str)) s2 = some (.lst ((sl ++ ys).map V.str)) := upd_same
              generalize upd H8 s2 (.lst ((sl ++ ys).map V.str)) = H9 at S9 hse9 ⊢
              have S39 := S78.trans S9
              have S09 := S.trans S39
              have hp29 := S9 _ _ hp28
              -- now
              refine ⟨_, rfl, _, rfl, ⟨_, SqL.of (S09 _ _ hda)⟩, fun LA hLA => ?_⟩
              refine lc_list (xs := ts.map V.ref) (fun j H' => ∃ (us : List Addr) (Dn : List Dem), Same H9 H' ∧ H' LA = some (.lst (us.map V.ref)) ∧ DemsAt H us Dn ∧ Dn.Sublist (D.take j) ∧ ∀ d ∈ Dn, Tp d) ⟨[], [], same_upd hLA, upd_same, .nil, List.nil_sublist _, by intro d hd; cases hd⟩ (fun i H' _ ⟨_, _, S, _⟩ => SqL.of (S _ _ (S09 _ _ hda))) ?_ ?_
              · rintro j x HA hj ⟨us', Dn', SA, hLA', hus', hsub', hT'⟩
                obtain ⟨t, ht, rfl⟩ := get_map hj
                obtain ⟨d, q, hd, h1, h2⟩ := hrow hD ht
                have hdm := List.mem_of_getElem? hd
                have S0A := S09.trans SA
                have skip : ∀ HB, Same HA HB → ∃ (us : List Addr) (Dn : List Dem), Same H9 HB ∧ HB LA = some (.lst (us.map V.ref)) ∧ DemsAt H us Dn ∧ Dn.Sublist (D.take (j + 1)) ∧ ∀ d ∈ Dn, Tp d := fun HB SB => ⟨us', Dn', SA.trans SB, SB _ _ hLA', hus', by rw [take_snoc hd]; exact hsub'.trans (List.sublist_append_left _ _), hT'⟩
                refine ⟨rfl, _, rfl, _, _, _, V.str d.1, rfl, rfl, SqT.of (S0A _ _ h1), rfl, _, rfl, _, _, rfl, .inl (SqL.of ((S39.trans SA) _ _ hkn)), rfl, flat_str kl, _, rfl, ?_⟩
                refine ite2 (fun _ => ?_) (fun _ => iteF (skip HA (Same.refl _)))
                refine ⟨_, rfl, _, rfl, ⟨_, SqL.of (SA _ _ hp29)⟩, fun LB hLB => ?_⟩
                refine lc_list (xs := ys.map V.str) (fun j H' => ∃ ws : List Str, Same HA H' ∧ H' LB = some (.lst (ws.map V.str)) ∧ ws.length ≤ j ∧ ∀ z ∈ ws, z ∈ ys ∧ 0 < (E.lookup (d.1, z)).getD 0) ⟨[], same_upd hLB, upd_same, Nat.zero_le _, by intro z hz; cases hz⟩ (fun i H' _ ⟨_, S, _⟩ => SqL.of (S _ _ (SA _ _ hp29))) ?_ ?_
                · rintro m x HB hm ⟨ws2, SB, hLB', hwl2, hws2⟩
                  obtain ⟨z, hz, rfl⟩ := get_map hm
                  have hml := (List.getElem?_eq_some_iff.mp hz).1
                  have S0B := S0A.trans SB
                  refine ⟨rfl, _, rfl, _, rfl, .inr ⟨_, .inl (S0B _ _ hR)⟩, _, rfl, _, _, _, V.str d.1, rfl, rfl, SqT.of (S0B _ _ h1), rfl, _, rfl, by show 2 ≤ sizeLine; decide, fun kb hkb => ?_⟩
                  have Sk := same_upd (o := .tup [.str d.1, .str z]) hkb
                  have hg := DGet.t (k := keyT (d.1, z)) (Sk _ _ (S0B _ _ hR)) (show upd HB kb (.tup [.str d.1, .str z]) kb = some (.tup ((keyT (d.1, z)).map kV)) from upd_same)
                  refine ⟨_, hg, ?_⟩
                  have el : (valV (plT E) (keyT (d.1, z))).getD (V.int 0) = V.int ((E.lookup (d.1, z)).getD 0) := by
                    rw [valV_plT]
                    cases E.lookup (d.1, z) <;> rfl
                  rw [el]
                  refine ⟨_, _, rfl, rfl, _, rfl, ?_⟩
                  refine ite2 (fun hc => ?_) (fun _ => ⟨ws2, SB.trans Sk, Sk _ _ hLB', by omega, hws2⟩)
                  refine ⟨_, rfl, _, Sk _ _ hLB', ?_, ws2 ++ [z], same_new (SB.trans Sk) hLB, ?_, ?_, ?_⟩
                  · rw [List.length_map]
                    exact Nat.lt_of_le_of_lt (show ws2.length ≤ 62 by omega) (by decide)
                  · rw [upd_same, List.map_append]
                    rfl
                  · rw [List.length_append, List.length_singleton]
                    omega
                  · intro y hy
                    rcases List.mem_append.mp hy with h | h
                    · exact hws2 y h
                    · have e : y = z := by simpa using h
                      rw [e]
                      exact ⟨List.mem_of_getElem? hz, of_decide_eq_true hc⟩
                · rintro HB ⟨ws2, SB, hLB', hwl2, hws2⟩
                  refine ⟨Nat.zero_le _, fun l1 hl1 => ?_⟩
                  have Sl := same_upd (o := .lst []) hl1
                  refine ⟨_, _, .lst (SqL.of (Sl _ _ hLB')) (dp_strs ws2), .lst (SqL.of upd_same) .nil, (Sd.list (sd_strs (fun z hz => hyn z (hws2 z hz).1) 0)).shaped (by decide), rfl, _, rfl, ?_⟩
                  rw [eqv_nil]
                  cases hw2 : ws2 with
                  | nil => exact iteF (skip _ (SB.trans Sl))
                  | cons z r =>
                    refine iteT ?_
                    obtain ⟨hzy, hpos⟩ := hws2 z (by rw [hw2]; exact List.mem_cons_self)
                    obtain ⟨d0, hd0, hzd⟩ := hyz z hzy
                    have hTd := sh.h2 d0 (hsub.subset hd0) (hT d0 hd0) z hzd d hdm hpos
                    have hul' := Paired.length hus'
                    have hsl' := hsub'.length_le
                    rw [List.length_take] at hsl'
                    refine ⟨_, rfl, _, Sl _ _ (SB _ _ hLA'), ?_, us' ++ [t], Dn' ++ [d], same_new (SA.trans (SB.trans Sl)) hLA, ?_, Paired.snoc hus' ⟨q, h1, h2⟩, ?_, ?_⟩
                    · rw [List.length_map]
                      exact Nat.lt_of_le_of_lt (show us'.length ≤ 24 by omega) (by decide)
                    · rw [upd_same, List.map_append]
                      rfl
                    · rw [take_snoc hd]
                      exact hsub'.append (List.Sublist.refl _)
                    · intro d' hd'
                      rcases List.mem_append.mp hd' with h | h
                      · exact hT' d' h
                      · have e : d' = d := by simpa using h
                        rw [e]
                        exact hTd
              · rintro HA ⟨us', Dn', SA, hLA', hus', hsub', hT'⟩
                rw [List.length_map, hlen, List.take_length] at hsub'
                have hul' := Paired.length hus'
                have hsl' := hsub'.length_le
                -- known = known + [..]
                refine ⟨_, rfl, _, rfl, _, rfl, ⟨_, SqL.of hLA'⟩, fun LC hLC => ?_⟩
                refine lc_list (xs := us'.map V.ref) (fun i H' => Same HA H' ∧ H' LC = some (.lst (((Dn'.take i).map (·.1)).map V.str))) ⟨same_upd hLC, upd_same⟩ (fun i H' _ ⟨S, _⟩ => SqL.of (S _ _ hLA')) ?_ ?_
                · rintro m x HB hm ⟨SB, hLC'⟩
                  obtain ⟨t, ht, rfl⟩ := get_map hm
                  obtain ⟨d, q, hd, h1, h2⟩ := hrow hus' ht
                  refine ⟨rfl, _, rfl, _, _, _, V.str d.1, rfl, rfl, SqT.of (SB _ _ (SA _ _ (S09 _ _ h1))), rfl, _, hLC', ?_, same_new SB hLC, ?_⟩
                  · rw [List.length_map, List.length_map, List.length_take]
                    exact Nat.lt_of_le_of_lt (show _ ≤ 24 by omega) (by decide)
                  · rw [upd_same, take_snoc hd, List.map_append, List.map_append]
                    rfl
                · rintro HB ⟨SB, hLC'⟩
                  rw [List.length_map, hul', List.take_length] at hLC'
                  refine ⟨_, _, _, _, rfl, rfl, (S39.trans (SA.trans SB)) _ _ hkn, hLC', ?_, fun k2 hk2 => ?_⟩
                  · rw [List.length_map, List.length_map, List.length_map]
                    exact Nat.le_trans (show kl.length + Dn'.length ≤ 24 * 27 by omega) (by decide)
                  rw [← List.map_append]
                  have Sk := same_upd (o := .lst ((kl ++ Dn'.map (·.1)).map V.str)) hk2
                  refine ⟨LA, k2, s2, us', Dn', kl ++ Dn'.map (·.1), sl ++ ys, _, _, rfl, S09.trans (SA.trans (SB.trans Sk)), (SB.trans Sk) _ _ hLA', hus', hsub', hT', upd_same, ?_, (SA.trans (SB.trans Sk)) _ _ hse9, ?_⟩
                  · rw [List.length_append, List.length_map]
                    omega
                  · rw [List.length_append]
                    omega
        · rintro σ H3 ⟨nw, kn, se, us, Dn, kl, sl, v6, v7, rfl, S, _⟩
          exact k _ S
end
end Dr

set_option maxHeartbeats 4000000
/-! A network as it stands. -/
namespace Dr
open PySem PySem.Spec PyProof.Rows L2
/-- the attributes of a network, in the order they are set -/
def flds (a b c d e f g : Addr) : List (Str × V) := [("own_names", .ref a), ("own_parcels", .ref b), ("own_places", .ref c), ("own_lots", .ref d), ("own_owed", .ref e), ("own_rests", .ref f), ("own_given", .ref g)]
theorem lk1 {x y : Str} {v : V} {l : List (Str × V)} (h : ¬ x = y) : ((y, v) :: l).lookup x = l.lookup x := by
  rw [List.lookup_cons, beq_eq_false_iff_ne.mpr h]
theorem lk0 {x : Str} {v : V} {l : List (Str × V)} : ((x, v) :: l).lookup x = some v := by
  rw [List.lookup_cons, beq_self_eq_true]
section
variable (a b c d e f g : Addr)
theorem fl_names : (flds a b c d e f g).lookup ("own_names" : Str) = some (.ref a) := lk0
theorem fl_parcels : (flds a b c d e f g).lookup ("own_parcels" : Str) = some (.ref b) := (lk1 (by decide +kernel)).trans lk0
theorem fl_lots : (flds a b c d e f g).lookup ("own_lots" : Str) = some (.ref d) := (lk1 (by decide +kernel)).trans ((lk1 (by decide +kernel)).trans ((lk1 (by decide +kernel)).trans lk0))
theorem fl_owed : (flds a b c d e f g).lookup ("own_owed" : Str) = some (.ref e) := (lk1 (by decide +kernel)).trans ((lk1 (by decide +kernel)).trans ((lk1 (by decide +kernel)).trans ((lk1 (by decide +kernel)).trans lk0)))
theorem fl_rests : (flds a b c d e f g).lookup ("own_rests" : Str) = some (.ref f) := (lk1 (by decide +kernel)).trans ((lk1 (by decide +kernel)).trans ((lk1 (by decide +kernel)).trans ((lk1 (by decide +kernel)).trans ((lk1 (by decide +kernel)).trans lk0))))
theorem fl_given : (flds a b c d e f g).lookup ("own_given" : Str) = some (.ref g) := (lk1 (by decide +kernel)).trans ((lk1 (by decide +kernel)).trans ((lk1 (by decide +kernel)).trans ((lk1 (by decide +kernel)).trans ((lk1 (by decide +kernel)).trans ((lk1 (by decide +kernel)).trans lk0)))))
theorem fl_no {x : Str} (h1 : ¬ x = "own_names") (h2 : ¬ x = "own_parcels") (h3 : ¬ x = "own_places") (h4 : ¬ x = "own_lots") (h5 : ¬ x = "own_owed") (h6 : ¬ x = "own_rests") (h7 : ¬ x = "own_given") : (flds a b c d e f g).lookup x = none :=
  (lk1 h1).trans ((lk1 h2).trans ((lk1 h3).trans ((lk1 h4).trans ((lk1 h5).trans ((lk1 h6).trans ((lk1 h7).trans rfl))))))
end
def iV (l : List Int) : List V := l.map V.int
/-- what stands still of a network at p -/
structure NetS (C : Addr) (Hs : Hp) (p : Addr) (nms PL : List Str) (lots : List (List Nat)) (aO aR aG : Addr) (rows : List Addr) : Prop where
  ex : ∃ dx aN aP apl aL lo, Hs p = some (.ins C dx (flds aN aP apl aL aO aR aG)) ∧ Hs aN = some (.lst (nms.map V.str)) ∧ Hs aP = some (.lst (PL.map V.str)) ∧ Hs aL = some (.lst (lo.map V.ref)) ∧ RowsAt Hs lo lots
  gv : Hs aG = some (.lst (rows.map V.ref))
/-- what moves -/
structure NetM (Hs H : Hp) (aO aR : Addr) (rows : List Addr) (S : St) : Prop where
  same : Same Hs H
  nd : (aO :: aR :: rows).Nodup
  new : ∀ m ∈ aO :: aR :: rows, Hs m = none
  o : H aO = some (.lst (iV S.owed))
  r : H aR = some (.lst (iV S.rests))
  g : Paired (fun a row => H a = some (.lst (iV row))) rows S.G
theorem NetM.keep {Hs H H' : Hp} {aO aR : Addr} {rows : List Addr} {S : St} (M : NetM Hs H aO aR rows S) (s : Same H H') : NetM Hs H' aO aR rows S :=
  ⟨M.same.trans s, M.nd, M.new, s _ _ M.o, s _ _ M.r, Paired.mapP M.g fun _ _ h => s _ _ h⟩
structure TxN (K : PySem.W.Frag) (C : Addr) : Prop where
  cl : Cls K C
  nN : NoAttr K C "own_names"
  nP : NoAttr K C "own_parcels"
  nPl : NoAttr K C "own_places"
  nL : NoAttr K C "own_lots"
  nO : NoAttr K C "own_owed"
  nR : NoAttr K C "own_rests"
  nG : NoAttr K C "own_given"
/-- a method of the class -/
structure Mth (P : Program) (w : World) (K : PySem.W.Frag) (mg : Str → Option Value) (base : Heap) (C : Addr) (k : Nat) (x : Str) (ps : List Str) (dvs : List V) (sp : Sp) where
  f : Addr
  fd : FuncData
  ds : List Value
  m : Meth K C x f
  b : Binds K fd ps ds
  v : Vals dvs ds
  G : FnOk P w K mg base CX0 k f fd ps sp
theorem iV_get {l : List Int} {i : Nat} (h : i < l.length) : (iV l)[i]? = some (.int (gi l i)) := by
  unfold iV gi
  rw [List.getElem?_map, List.getD_eq_getElem?_getD, List.getElem?_eq_getElem h]
  rfl
theorem iV_set (l : List Int) (i : Nat) (x : Int) : (iV l).set i (.int x) = iV (l.set i x) := by
  unfold iV
  rw [List.map_set]
theorem nV_get {l : List Nat} {i k : Nat} (h : l[i]? = some k) : (nV l)[i]? = some (.int (k : Int)) := by
  unfold nV
  rw [List.getElem?_map, h]
  rfl
end Dr

set_option maxHeartbeats 8000000
/-! The search, walked. -/
namespace Dr
open PySem PySem.Spec PyProof.Rows L2
def ovN : Option Nat → V
  | none => .non
  | some q => .int (q : Int)
def fpK (fp : List (Nat × Option Nat)) : List (Key × V) := fp.map fun e => (Sum.inl ((e.1 : Nat) : Int), ovN e.2)
def fdK (fd : List (Nat × Nat)) : List (Key × V) := fd.map fun e => (Sum.inl ((e.1 : Nat) : Int), V.int ((e.2 : Nat) : Int))
theorem inl_inj {a b : Nat} (h : (Sum.inl ((a : Nat) : Int) : Key) = Sum.inl ((b : Nat) : Int)) : a = b := Int.ofNat.inj (Sum.inl.inj h)
theorem valV_fp (k : Nat) : ∀ fp : List (Nat × Option Nat), valV (fpK fp) (Sum.inl (k : Int) : Key) = (fp.lookup k).map ovN
  | [] => rfl
  | (a, b) :: r => by
    by_cases e : a = k
    · subst e
      rw [show fpK ((a, b) :: r) = (Sum.inl (a : Int), ovN b) :: fpK r from rfl, valV_pos rfl]
      simp
    · rw [show fpK ((a, b) :: r) = (Sum.inl (a : Int), ovN b) :: fpK r from rfl, valV_neg (fun q => e (inl_inj q)), valV_fp k r, List.lookup_cons, beq_eq_false_iff_ne.mpr (fun q => e q.symm)]
theorem valV_fd (k : Nat) : ∀ fd : List (Nat × Nat), valV (fdK fd) (Sum.inl (k : Int) : Key) = (fd.lookup k).map fun (q : Nat) => V.int ((q : Nat) : Int)
  | [] => rfl
  | (a, b) :: r => by
    by_cases e : a = k
    · subst e
      rw [show fdK ((a, b) :: r) = (Sum.inl (a : Int), V.int (b : Int)) :: fdK r from rfl, valV_pos rfl]
      simp
    · rw [show fdK ((a, b) :: r) = (Sum.inl (a : Int), V.int (b : Int)) :: fdK r from rfl, valV_neg (fun q => e (inl_inj q)), valV_fd k r, List.lookup_cons, beq_eq_false_iff_ne.mpr (fun q => e q.symm)]
theorem lk_kys {α : Type} {l : List (Nat × α)} {k : Nat} : (l.lookup k).isSome = decide (k ∈ kys l) := by
  induction l with
  | nil => rfl
  | cons x r ih =>
    obtain ⟨a, b⟩ := x
    rw [List.lookup_cons]
    by_cases e : k = a
    · subst e
      simp [kys]
    · rw [beq_eq_false_iff_ne.mpr e]
      show (r.lookup k).isSome = decide (k ∈ a :: kys r)
      rw [ih]
      simp [e]
theorem has_fp (k : Nat) (fp : List (Nat × Option Nat)) : (valV (fpK fp) (Sum.inl (k : Int) : Key)).isSome = decide (k ∈ kys fp) := by
  rw [valV_fp, Option.isSome_map, lk_kys]
theorem has_fd (k : Nat) (fd : List (Nat × Nat)) : (valV (fdK fd) (Sum.inl (k : Int) : Key)).isSome = decide (k ∈ kys fd) := by
  rw [valV_fd, Option.isSome_map, lk_kys]
theorem put_fp {k : Nat} {o : Option Nat} {fp : List (Nat × Option Nat)} (h : k ∉ kys fp) : putK (fpK fp) (Sum.inl (k : Int) : Key) (ovN o) = fpK (fp ++ [(k, o)]) := by
  rw [putK_new]
  · unfold fpK
    rw [List.map_append]
    rfl
  · have := has_fp k fp
    rw [decide_eq_false h] at this
    cases e : valV (fpK fp) (Sum.inl (k : Int) : Key) with
    | none => rfl
    | some v =>
      rw [e] at this
      cases this
theorem put_fd {k q : Nat} {fd : List (Nat × Nat)} (h : k ∉ kys fd) : putK (fdK fd) (Sum.inl (k : Int) : Key) (.int (q : Int)) = fdK (fd ++ [(k, q)]) := by
  rw [putK_new]
  · unfold fdK
    rw [List.map_append]
    rfl
  · have := has_fd k fd
    rw [decide_eq_false h] at this
    cases e : valV (fdK fd) (Sum.inl (k : Int) : Key) with
    | none => rfl
    | some v =>
      rw [e] at this
      cases this
/-- what stays true of the two dicts -/
structure WI (n m : Nat) (fp : List (Nat × Option Nat)) (fd : List (Nat × Nat)) : Prop where
  np : (kys fp).Nodup
  lp : ∀ k ∈ kys fp, k < n
  nd : (kys fd).Nodup
  ld : ∀ k ∈ kys fd, k < m
theorem kys_len {α : Type} {l : List (Nat × α)} {n : Nat} (h : (kys l).Nodup) (k : ∀ x ∈ kys l, x < n) : l.length ≤ n := by
  have h1 : (kys l).length ≤ (List.range n).length := List.Nodup.length_le_of_subset h fun x hx => List.mem_range.mpr (k x hx)
  rw [List.length_range] at h1
  unfold kys at h1
  rw [List.length_map] at h1
  exact h1
theorem kys_snoc {α : Type} {l : List (Nat × α)} {n k : Nat} {o : α} (h : (kys l).Nodup) (hn : ∀ x ∈ kys l, x < n) (hk : k < n) (hm : k ∉ kys l) : (kys (l ++ [(k, o)])).Nodup ∧ ∀ x ∈ kys (l ++ [(k, o)]), x < n := by
  rw [kys_append]
  refine ⟨List.nodup_append.mpr ⟨h, by simp [kys], ?_⟩, ?_⟩
  · intro a ha b hb e
    have : b = k := by simpa [kys] using hb
    exact hm (by rw [← this, ← e]; exact ha)
  · intro x hx
    rcases List.mem_append.mp hx with h1 | h1
    · exact hn x h1
    · have : x = k := by simpa [kys] using h1
      rw [this]
      exact hk
theorem wi0 {n m d : Nat} (h : d < n) : WI n m [(d, none)] [] := by
  refine ⟨by simp [kys], fun k hk => ?_, by simp [kys], fun k hk => ?_⟩
  · have : k = d := by simpa [kys] using hk
    rw [this]
    exact h
  · simp [kys] at hk
section
variable {P : Program} {w : World} {K : PySem.W.Frag} {mg : Str → Option Value} {base : Heap}
abbrev s_walked : Stmt := inClass (topS 21) 6
theorem sc_walked : FnScope ["self", "starts", "barred", "at", "from_place", "from_demand", "waiting", "spot", "place", "other", "row"] ["self", "starts", "barred"] (defScope s_walked) := ⟨rfl, rfl, rfl, by decide +kernel, rfl, by decide +kernel, by decide +kernel⟩
def sp_walked (K : PySem.W.Frag) (C : Addr) : Sp := fun vs H Q _ => ∃ (Hs : Hp) (p st ba aO aR aG : Addr) (nms PL : List Str) (lots : List (List Nat)) (rows : List Addr) (S : St) (n m d : Nat), vs = [.ref p, .ref st, .ref ba] ∧ NetS C Hs p nms PL lots aO aR aG rows ∧ NetM Hs H aO aR rows S ∧ Sh S.G n m ∧ S.rests.length = m ∧ lots.length = n ∧
  (∀ k, k < n → ∀ q ∈ lots.getD k [], q < m) ∧ n ≤ 24 ∧ m ≤ 1000 ∧ d < n ∧ H st = some (.lst [.int (d : Int)]) ∧ (∀ H', SqT K H' ba []) ∧
  ∀ t a b H', Same H H' → H' t = some (.tup [ovN (walkF lots S.rests S.G (n + 1) 0 [(d, none)] []).1, .ref a, .ref b]) → H' a = some (.dK (fpK (walkF lots S.rests S.G (n + 1) 0 [(d, none)] []).2.1)) → H' b = some (.dK (fdK (walkF lots S.rests S.G (n + 1) 0 [(d, none)] []).2.2)) → Q (.ref t) H'
theorem ok_walked {f C : Addr} {fd : FuncData} (F : Fun K "walked" "Network.walked" s_walked f fd) (T : Tx K mg) (TN : TxN K C) : FnOk P w K mg base CX0 1 f fd ["self", "starts", "barred"] (sp_walked K C) := by
  refine F.ok sc_walked (fun vs H Q E h => ?_) (fun cdv A outer s H vs Q E hr h => ?_)
  · obtain ⟨Hs, p, st, ba, aO, aR, aG, nms, PL, lots, rows, S, n, m, d, rfl, _⟩ := h
    rfl
  · obtain ⟨Hs, p, st, ba, aO, aR, aG, nms, PL, lots, rows, S, n, m, d, rfl, NS, NM, hSh, hrl, hll, hlm, hn24, hm1000, hdn, hst, hba, k⟩ := h
    have hu := hu_of hr
    obtain ⟨⟨dx, aN, aP, apl, aL, lo, hp, haN, haP, haL, hlo⟩, haG⟩ := NS
    have hlol : lo.length = n := (Paired.length hlo).trans hll
    have hrowl : rows.length = n := (Paired.length NM.g).trans hSh.len
    -- slots 0:self 1:starts 2:barred 3:at 4:from_place 5:from_demand 6:waiting 7:spot 8:place 9:other 10:row
    refine ⟨_, (pss_cons (ps_setDc (i := 4) (own := [("at", 3)]) rfl sc_walked.nd rfl rfl (swD rfl rfl rfl (by decide +kernel)) (pi_list (pv 1) : PI _ _ _ (iList K _)) (blkOk_by (N := ["self", "starts", "barred", "at", "from_place", "from_demand", "waiting", "spot", "place", "other", "row"]) (sc := defScope s_walked) (by decide +kernel)) (fun _ _ _ _ _ => (pg_name (i := 3) sc_walked.nd rfl (Or.inl rfl))) (fun _ _ _ _ _ => pts_nil) (fun _ _ _ _ _ => pv 3) (fun _ _ _ _ _ => pe_non))
    (pss_cons (ps_par3 (i := 5) (j := 6) (l := 7) (by rfl) sc_walked.nd rfl rfl rfl (by decide) (by decide) (by decide) rfl rfl rfl (pa_cons (pe_dnewK) (pa_cons (pe_callTy (call_list_dK rfl) (by rfl) T.list_ (by decide +kernel) (pa_cons (pv 4) pa_nil)) (pa_cons (pe_int) pa_nil))) (by rfl))
    (pss_cons (ps_while PassesOwn.never (pt_cmpR op_lt (pv 7) (pe_callB (call_len_seq : CallR _ _ (rLenS K)) (by rfl) T.len_ PySem.boot_len (pa_cons (pv 6) pa_nil)) (nomark _))
      (pss_cons (ps_set (i := 3) sc_walked.nd rfl (Or.inl rfl) (pe_ix (ix_list : IxR _ (rIxL K)) (pv 6) (pv 7) (fun _ _ => rfl)))
      (pss_cons (ps_aug (i := 7) sc_walked.nd rfl (.inl rfl) (pe_int) ip_add)
      (pss_one (ps_for PassesOwn.never rfl (pi_list (pe_ix (ix_list : IxR _ (rIxL K)) (pe_fld (pv 0) rfl) (pv 3) (fun _ _ => rfl)) : PI _ _ _ (iList K _)) (pg_name (i := 8) sc_walked.nd rfl (Or.inl rfl))
        (pss_cons (ps_if (PW.pt (pw_or (pt_cmp (pc_din hu (pv 8) (pv 5))) (pw_or1 (pt_cmpR (op_in_seq : OpR _ _ (rIn K false)) (pv 8) (pv 2) (by rfl)))))
          (pss_one ps_continue) pss_nil)
        (pss_cons (ps_dput hu (pv 5) (pv 8) (pv 3) rfl)
        (pss_cons (ps_if (pt_cmpR op_gt (pe_ix (ix_list : IxR _ (rIxL K)) (pe_fld (pv 0) rfl) (pv 8) (fun _ _ => rfl)) (pe_int) (nomark _))
          (pss_one (ps_ret (pe_tup (pa_cons (pv 8) (pa_cons (pv 4) (pa_cons (pv 5) pa_nil)))))) pss_nil)
        (pss_one (ps_for PassesOwn.never rfl (pi_enum (by rfl) T.enumerate_ (pa_cons (pe_fld (pv 0) rfl) pa_nil) : PI _ _ _ (iEnum K _)) (pg_tup (by rfl) (pgs_cons (pg_name (i := 9) sc_walked.nd rfl (Or.inl rfl)) (pgs_cons (pg_name (i := 10) sc_walked.nd rfl (Or.inl rfl)) pgs_nil)) : PG _ _ (gTup K 2 _))
          (pss_one (ps_if (PW.pt (pw_and (pt_cmpR op_gt (pe_ix (ix_list : IxR _ (rIxL K)) (pv 10) (pv 8) (fun _ _ => rfl)) (pe_int) (nomark _)) (pw_and1 (pt_cmp (pc_dnotin hu (pv 9) (pv 4))))))
            (pss_cons (ps_dput hu (pv 4) (pv 9) (pv 8) rfl)
            (pss_one (ps_expr (pe_bm PySem.F.plainAttrs_list PySem.F.slot_list_append PySem.F.type_list_append mt_append (pv 6) (pa_cons (pv 9) pa_nil))))) pss_nil))))))))))))
    (pss_one (ps_ret (pe_tup (pa_cons (pe_non) (pa_cons (pv 4) (pa_cons (pv 5) pa_nil))))))))), ?_⟩
    refine ⟨_, rfl, _, rfl, ⟨_, SqL.of hst⟩, fun A1 hA1 => ?_⟩
    refine dc_it (walk_list (xs := [.int (d : Int)])) (fun i H' => Same H H' ∧ H' A1 = some (.dK (fpK (([(d, none)] : List (Nat × Option Nat)).take i)))) ⟨same_upd hA1, upd_same⟩ (fun i H' _ ⟨S, _⟩ => SqL.of (S _ _ hst)) ?_ ?_
    · rintro i x H1 H2 hi ⟨S1, hA⟩ ⟨rfl, hx⟩
      have hi0 : i = 0 := by simpa using hi
      subst hi0
      cases (Option.some.inj hx)
      exact ⟨rfl, _, rfl, _, Sum.inl (d : Int), rfl, hA, Nat.lt_of_le_of_lt (Nat.zero_le 0) (by decide), same_new S1 hA1, upd_same⟩
    · rintro H1 ⟨S1, hA⟩
      intro A2 hA2
      have S2 := S1.trans (same_upd (o := .dK []) hA2)
      refine ⟨_, rfl, _, _, rfl, same_upd hA2 _ _ hA, fun A3 hA3 => ?_⟩
      have S3 := S2.trans (same_upd (o := .lst ((fpK (([(d, none)] : List (Nat × Option Nat)).take 1)).map fun kv => kV kv.1)) hA3)
      refine ⟨_, _, _, rfl, ?_⟩
      have hA13 : upd (upd H1 A2 (.dK [])) A3 (.lst ((fpK (([(d, none)] : List (Nat × Option Nat)).take 1)).map fun kv => kV kv.1)) A1 = some (.dK (fpK [(d, none)])) := same_upd hA3 _ _ (same_upd hA2 _ _ hA)
      have hA23 : upd (upd H1 A2 (.dK [])) A3 (.lst ((fpK (([(d, none)] : List (Nat × Option Nat)).take 1)).map fun kv => kV kv.1)) A2 = some (.dK (fdK [])) := same_upd hA3 _ _ upd_same
      have n12 : A1 ≠ A2 := ne_of_none hA hA2
      have n13 : A1 ≠ A3 := ne_of_none (same_upd hA2 _ _ hA) hA3
      have n23 : A2 ≠ A3 := ne_of_none upd_same hA3
      have f1 : H A1 = none := hA1
      have f2 : H A2 = none := S1.free hA2
      have f3 : H A3 = none := S2.free hA3
      generalize hRES : walkF lots S.rests S.G (n + 1) 0 [(d, none)] [] = RES at k
      let W : Nat → L2.St → Hp → Prop := fun mm σ H' => ∃ (fp : List (Nat × Option Nat)) (fd : List (Nat × Nat)) (spot : Nat) (v3 v8 v9 v10 : Option V), mm = n + 1 - spot ∧ σ = [some (.ref p), some (.ref st), some (.ref ba), v3, some (.ref A1), some (.ref A2), some (.ref A3), some (.int (spot : Int)), v8, v9, v10] ∧ Same H H' ∧ H' A1 = some (.dK (fpK fp)) ∧ H' A2 = some (.dK (fdK fd)) ∧ H' A3 = some (.lst (nV (kys fp))) ∧
        spot ≤ fp.length ∧ WI n m fp fd ∧ walkF lots S.rests S.G (n + 1 - spot) spot fp fd = RES
      refine ⟨W, ⟨_, [(d, none)], [], 0, none, none, none, none, rfl, rfl, S3, hA13, hA23, upd_same, Nat.zero_le _, wi0 hdn, hRES⟩, ?_⟩
      rintro mm σ H4 ⟨fp, fd, spot, v3, v8, v9, v10, rfl, rfl, S4, h1, h2, h3, hsp, wi, hres⟩
      have hfl := kys_len wi.np wi.lp
      refine ⟨_, rfl, _, rfl, _, _, rfl, .inl (SqL.of h3), _, _, rfl, rfl, _, rfl, ?_⟩
      refine ite2 (fun hc => ?_) (fun hc => ?_)
      · have hlt : spot < fp.length := by
          have h4 : (spot : Int) < ((nV (kys fp)).length : Nat) := of_decide_eq_true hc
          unfold nV kys at h4
          rw [List.length_map, List.length_map] at h4
          omega
        refine ⟨fun σ' H' => ∃ m', m' < n + 1 - spot ∧ W m' σ' H', fun _ _ h => h, ?_⟩
        obtain ⟨e, he⟩ : ∃ e, fp[spot]? = some e := ⟨_, List.getElem?_eq_getElem hlt⟩
        have hke : (kys fp)[spot]? = some e.1 := kys_get he
        have hen : e.1 < n := wi.lp _ (List.mem_of_getElem? hke)
        refine ⟨_, rfl, _, rfl, _, _, _, V.int (e.1 : Int), rfl, rfl, SqL.of h3, atI_nat (nV_get hke), ?_⟩
        refine ⟨_, rfl, _, _, rfl, rfl, ?_⟩
        have e1 : (spot : Int) + 1 = ((spot + 1 : Nat) : Int) := by omega
        obtain ⟨la, hla⟩ : ∃ la, lo[e.1]? = some la := ⟨_, List.getElem?_eq_getElem (by omega)⟩
        obtain ⟨row, hrow, hra⟩ := Paired.at hlo hla
        have hgd : lots.getD e.1 [] = row := by
          rw [List.getD_eq_getElem?_getD, hrow]
          rfl
        have hloR : (lo.map V.ref)[e.1]? = some (.ref la) := by
          rw [List.getElem?_map, hla]
          rfl
        have SH := NM.same.trans S4
        refine ⟨_, rfl, p, C, dx, _, _, rfl, SH _ _ hp, TN.cl, TN.nL, fl_lots _ _ _ _ _ _ _, _, rfl, _, _, _, V.ref la, rfl, rfl, SqL.of (SH _ _ haL), atI_nat hloR, la, rfl, ⟨_, SqL.of (SH _ _ hra)⟩, ?_⟩
        -- one step of the mirror
        have hf : n + 1 - spot = (n - spot) + 1 := by omega
        rw [hf] at hres
        unfold walkF at hres
        rw [he] at hres
        have hres : (match scan S.rests S.G e.1 (lots.getD e.1 []) fp fd with
          | .found pl fp' fd' => (some pl, fp', fd')
          | .cont fp' fd' => walkF lots S.rests S.G (n - spot) (spot + 1) fp' fd') = RES := hres
        rw [hgd] at hres
        generalize hSC : scan S.rests S.G e.1 row fp fd = SC at hres
        refine for_list (xs := nV row) (fun j σ H' => ∃ (fp' : List (Nat × Option Nat)) (fd' : List (Nat × Nat)) (v8 v9 v10 : Option V), σ = [some (.ref p), some (.ref st), some (.ref ba), some (.int (e.1 : Int)), some (.ref A1), some (.ref A2), some (.ref A3), some (.int ((spot + 1 : Nat) : Int)), v8, v9, v10] ∧ Same H H' ∧ H' A1 = some (.dK (fpK fp')) ∧ H' A2 = some (.dK (fdK fd')) ∧ H' A3 = some (.lst (nV (kys fp'))) ∧
            spot + 1 ≤ fp'.length ∧ WI n m fp' fd' ∧ scan S.rests S.G e.1 (row.drop j) fp' fd' = SC)
          ⟨fp, fd, v8, v9, v10, rfl, S4, h1, h2, h3, hlt, wi, by rw [List.drop_zero]; exact hSC⟩ (fun j σ H' _ ⟨_, _, _, _, _, _, S5, _⟩ => SqL.of ((NM.same.trans S5) _ _ hra)) ?_ ?_
        · rintro j x σ H5 hj ⟨fp1, fd1, v8, v9, v10, rfl, S5, g1, g2, g3, hsp1, wi1, hsc⟩
          obtain ⟨pl, hpl, rfl⟩ := get_map hj
          have hplm : pl < m := hlm e.1 hen pl (by rw [hgd]; exact List.mem_of_getElem? hpl)
          have hdj : row.drop j = pl :: row.drop (j + 1) := by
            have := (List.getElem?_eq_some_iff.mp hpl)
            rw [List.drop_eq_getElem_cons this.1, this.2]
          rw [hdj] at hsc
          unfold scan at hsc
          -- if place in from_demand or place in barred: continue
          refine ⟨_, rfl, _, rfl, _, _, rfl, DGet.k (k := Sum.inl (pl : Int)) g2, _, rfl, ?_⟩
          rw [has_fd]
          by_cases c1 : pl ∈ kys fd1
          · rw [if_pos c1] at hsc
            rw [decide_eq_true c1]
            exact iteT (iteT ⟨fp1, fd1, _, v9, v10, rfl, S5, g1, g2, g3, hsp1, wi1, hsc⟩)
          · rw [if_neg c1] at hsc
            rw [decide_eq_false c1]
            refine iteF ?_
            refine ⟨_, rfl, _, rfl, _, _, rfl, .inr (hba _), rfl, rfl, _, rfl, iteF ?_⟩
            -- from_demand[place] = at
            have hfdl := kys_len wi1.nd wi1.ld
            have hfdz : (fdK fd1).length < sizeLine := by
              unfold fdK
              rw [List.length_map]
              exact Nat.lt_of_le_of_lt (show fd1.length ≤ 1000 by omega) (by decide)
            refine ⟨_, rfl, _, rfl, _, rfl, _, _, rfl, DPut.k (k := Sum.inl (pl : Int)) g2 hfdz, ?_⟩
            rw [put_fd c1]
            have S6 : Same H (upd H5 A2 (.dK (fdK (fd1 ++ [(pl, e.1)])))) := same_new S5 f2
            have SH6 := NM.same.trans S6
            have NM6 := NM.keep S6
            have hgr : gi S.rests pl = gi S.rests pl := rfl
            obtain ⟨nd6, ld6⟩ := kys_snoc (o := e.1) wi1.nd wi1.ld hplm c1
            have wi6 : WI n m fp1 (fd1 ++ [(pl, e.1)]) := ⟨wi1.np, wi1.lp, nd6, ld6⟩
            have g16 : upd H5 A2 (.dK (fdK (fd1 ++ [(pl, e.1)]))) A1 = some (.dK (fpK fp1)) := by rw [upd_ne n12]; exact g1
            have g36 : upd H5 A2 (.dK (fdK (fd1 ++ [(pl, e.1)]))) A3 = some (.lst (nV (kys fp1))) := by rw [upd_ne n23.symm]; exact g3
            have g26 : upd H5 A2 (.dK (fdK (fd1 ++ [(pl, e.1)]))) A2 = some (.dK (fdK (fd1 ++ [(pl, e.1)]))) := upd_same
            generalize upd H5 A2 (.dK (fdK (fd1 ++ [(pl, e.1)]))) = H6 at S6 SH6 NM6 g16 g36 g26 ⊢
            -- if self.own_rests[place] > 0
            refine ⟨_, rfl, p, C, dx, _, _, rfl, SH6 _ _ hp, TN.cl, TN.nR, fl_rests _ _ _ _ _ _ _, _, rfl, _, _, _, V.int (gi S.rests pl), rfl, rfl, SqL.of NM6.r, atI_nat (iV_get (by omega)), _, _, rfl, rfl, _, rfl, ?_⟩
            refine ite2 (fun hc2 => ?_) (fun hc2 => ?_)
            · have hc2 : 0 < gi S.rests pl := of_decide_eq_true hc2
              rw [if_pos hc2] at hsc
              rw [← hsc] at hres
              have hres : (some pl, fp1, fd1 ++ [(pl, e.1)]) = RES := hres
              refine ⟨_, rfl, _, rfl, _, rfl, by show 3 ≤ sizeLine; decide, fun t ht => ?_⟩
              refine k t A1 A2 _ (S6.trans (same_upd ht)) ?_ ?_ ?_
              · rw [← hres, upd_same]
                rfl
              · rw [← hres, upd_ne (ne_of_none g16 ht)]
                exact g16
              · rw [← hres, upd_ne (ne_of_none g26 ht)]
                exact g26
            · have hc2 : ¬ 0 < gi S.rests pl := of_decide_eq_false (by simpa using hc2)
              rw [if_neg hc2] at hsc
              -- the demands behind the place
              refine ⟨_, rfl, p, C, dx, _, _, rfl, SH6 _ _ hp, TN.cl, TN.nG, fl_given _ _ _ _ _ _ _, _, _, rfl, SqL.of (SH6 _ _ haG), ?_⟩
              generalize hVR : visit pl 0 S.G fp1 = VR at hsc
              refine for_it (walk_enum (xs := rows.map V.ref)) (fun i σ H' => ∃ (fp2 : List (Nat × Option Nat)) (v9 v10 : Option V), σ = [some (.ref p), some (.ref st), some (.ref ba), some (.int (e.1 : Int)), some (.ref A1), some (.ref A2), some (.ref A3), some (.int ((spot + 1 : Nat) : Int)), some (.int (pl : Int)), v9, v10] ∧ Same H H' ∧ H' A1 = some (.dK (fpK fp2)) ∧ H' A2 = some (.dK (fdK (fd1 ++ [(pl, e.1)]))) ∧ H' A3 = some (.lst (nV (kys fp2))) ∧
                  spot + 1 ≤ fp2.length ∧ WI n m fp2 (fd1 ++ [(pl, e.1)]) ∧ visit pl i (S.G.drop i) fp2 = VR)
                ⟨fp1, v9, v10, rfl, S6, g16, g26, g36, hsp1, wi6, by rw [List.drop_zero]; exact hVR⟩ (fun i σ H' _ ⟨_, _, _, _, S7, _⟩ => SqL.of ((NM.same.trans S7) _ _ haG)) ?_ ?_
              · rintro i x σ H7 H8 hi ⟨fp2, v9, v10, rfl, S7, q1, q2, q3, hsp2, wi2, hvr⟩ ⟨T0, x0, y0, rfl, hT0, rfl, ex, ey⟩
                cases (Option.some.inj ex)
                obtain ⟨ra, hrai, rfl⟩ := get_map ey
                have hin : i < n := by
                  rw [List.length_map] at hi
                  omega
                have ST := same_upd (o := .tup [.int (i : Nat), .ref ra]) hT0
                have S8 := S7.trans ST
                have NM8 := NM.keep S8
                obtain ⟨grow, hgrow, hgra⟩ := Paired.at NM8.g hrai
                have hgl : grow.length = m := hSh.row grow (List.mem_of_getElem? hgrow)
                have hdi : S.G.drop i = grow :: S.G.drop (i + 1) := by
                  have := (List.getElem?_eq_some_iff.mp hgrow)
                  rw [List.drop_eq_getElem_cons this.1, this.2]
                rw [hdi] at hvr
                unfold visit at hvr
                refine ⟨_, _, rfl, SqT.of upd_same, rfl, _, _, rfl, _, _, rfl, rfl, ?_⟩
                refine ⟨_, rfl, _, rfl, _, _, _, V.int (gi grow pl), rfl, rfl, SqL.of hgra, atI_nat (iV_get (by omega)), _, _, rfl, rfl, _, rfl, ?_⟩
                have q1' := ST _ _ q1
                have q2' := ST _ _ q2
                have q3' := ST _ _ q3
                refine ite2 (fun hc3 => ?_) (fun hc3 => ?_)
                · have hc3 : 0 < gi grow pl := of_decide_eq_true hc3
                  refine ⟨_, rfl, _, rfl, _, _, rfl, DGet.k (k := Sum.inl ((i : Nat) : Int)) q1', _, rfl, ?_⟩
                  rw [has_fp]
                  by_cases c4 : i ∈ kys fp2
                  · rw [if_neg (fun z => z.2 c4)] at hvr
                    rw [decide_eq_true c4]
                    exact iteF ⟨fp2, _, _, rfl, S8, q1', q2', q3', hsp2, wi2, hvr⟩
                  · rw [if_pos ⟨hc3, c4⟩] at hvr
                    rw [decide_eq_false c4]
                    refine iteT ?_
                    have hfpl := kys_len wi2.np wi2.lp
                    have hfpz : (fpK fp2).length < sizeLine := by
                      unfold fpK
                      rw [List.length_map]
                      exact Nat.lt_of_le_of_lt (show fp2.length ≤ 24 by omega) (by decide)
                    refine ⟨_, rfl, _, rfl, _, rfl, _, _, rfl, DPut.k (k := Sum.inl ((i : Nat) : Int)) q1' hfpz, ?_⟩
                    have ep : putK (fpK fp2) (Sum.inl ((i : Nat) : Int)) (V.int (pl : Int)) = fpK (fp2 ++ [(i, some pl)]) := put_fp (o := some pl) c4
                    rw [ep]
                    have q3'' : upd (upd H7 T0 (.tup [.int (i : Nat), .ref ra])) A1 (.dK (fpK (fp2 ++ [(i, some pl)]))) A3 = some (.lst (nV (kys fp2))) := by rw [upd_ne n13.symm]; exact q3'
                    obtain ⟨np9, lp9⟩ := kys_snoc (o := (some pl : Option Nat)) wi2.np wi2.lp hin c4
                    refine ⟨_, rfl, .inl ⟨rfl, _, SqL.of q3''⟩, _, rfl, _, _, _, rfl, rfl, q3'', ?_, ?_⟩
                    · unfold nV kys
                      rw [List.length_map, List.length_map]
                      exact Nat.lt_of_le_of_lt (show fp2.length ≤ 24 by omega) (by decide)
                    · refine ⟨fp2 ++ [(i, some pl)], _, _, rfl, same_new (same_new S8 f1) f3, ?_, ?_, ?_, ?_, ⟨np9, lp9, wi2.nd, wi2.ld⟩, hvr⟩
                      · rw [upd_ne n13, upd_same]
                      · rw [upd_ne n23, upd_ne n12.symm]
                        exact q2'
                      · rw [upd_same, kys_append]
                        unfold nV
                        rw [List.map_append]
                        rfl
                      · rw [List.length_append]
                        omega
                · have hc3 : ¬ 0 < gi grow pl := of_decide_eq_false (by simpa using hc3)
                  rw [if_neg (fun z => hc3 z.1)] at hvr
                  exact iteF ⟨fp2, _, _, rfl, S8, q1', q2', q3', hsp2, wi2, hvr⟩
              · rintro σ H7 ⟨fp2, v9, v10, rfl, S7, q1, q2, q3, hsp2, wi2, hvr⟩
                rw [List.length_map, hrowl, ← hSh.len, List.drop_length] at hvr
                have hvr : fp2 = VR := hvr
                subst hvr
                exact ⟨fp2, _, _, _, _, rfl, S7, q1, q2, q3, hsp2, wi2, hsc⟩
        · rintro σ H5 ⟨fp1, fd1, v8, v9, v10, rfl, S5, g1, g2, g3, hsp1, wi1, hsc⟩
          have hlen : (nV row).length = row.length := by
            unfold nV
            rw [List.length_map]
          rw [hlen, List.drop_length] at hsc
          have hsc : Sc.cont fp1 fd1 = SC := hsc
          rw [← hsc] at hres
          have hres : walkF lots S.rests S.G (n - spot) (spot + 1) fp1 fd1 = RES := hres
          refine ⟨n + 1 - (spot + 1), by omega, fp1, fd1, spot + 1, _, _, _, _, rfl, rfl, S5, g1, g2, g3, hsp1, wi1, ?_⟩
          rw [show n + 1 - (spot + 1) = n - spot by omega]
          exact hres
      · have hge : fp.length ≤ spot := by
          have h4 : ¬ (spot : Int) < ((nV (kys fp)).length : Nat) := of_decide_eq_false (by simpa using hc)
          unfold nV kys at h4
          rw [List.length_map, List.length_map] at h4
          omega
        have hres : (none, fp, fd) = RES := by
          have hf : ∃ q, n + 1 - spot = q + 1 := ⟨n - spot, by omega⟩
          obtain ⟨q, hq⟩ := hf
          rw [hq] at hres
          unfold walkF at hres
          rw [List.getElem?_eq_none hge] at hres
          exact hres
        refine ⟨_, rfl, _, rfl, by show 3 ≤ sizeLine; decide, fun t ht => ?_⟩
        refine k t A1 A2 _ (S4.trans (same_upd ht)) ?_ ?_ ?_
        · rw [← hres, upd_same]
          rfl
        · rw [← hres, upd_ne (ne_of_none h1 ht)]
          exact h1
        · rw [← hres, upd_ne (ne_of_none h2 ht)]
          exact h2
end
end Dr

set_option maxHeartbeats 8000000
/-! A path, its room. -/
namespace Dr
open PySem PySem.Spec PyProof.Rows L2
theorem rgc2 {i : Int} {m : Nat} {n : Nat} (h1 : 0 ≤ i) (h2 : i ≤ 2) (h3 : m ≤ 1000000) (hn : i + 2 * n = m) : RgC i m 2 n := by
  have hs : Builtin.Range.rangeSize i m 2 = n := by
    unfold Builtin.Range.rangeSize
    simp only [show (2 : Int) > 0 by decide, if_true]
    split <;> omega
  refine ⟨by decide, by decide, ?_, hs⟩
  unfold Builtin.Range.small
  rw [hs]
  unfold Builtin.Range.rangeFitsLong
  rw [if_pos (by decide : (2 : Int) > 0), decide_eq_true (by omega : -(2 ^ 63) ≤ i), decide_eq_true (by omega : i < 2 ^ 63), decide_eq_true (by omega : -(2 ^ 63) ≤ (m : Int)), decide_eq_true (by omega : (m : Int) < 2 ^ 63),
    decide_eq_true (by decide : -(2 ^ 63) ≤ (2 : Int)), decide_eq_true (by decide : (2 : Int) < 2 ^ 63), decide_eq_true (by omega : -(2 ^ 63) ≤ (n : Int)), decide_eq_true (by omega : (n : Int) < 2 ^ 63),
    decide_eq_true (by omega : -(2 ^ 63) ≤ (m : Int) + (2 - 1)), decide_eq_true (by omega : (m : Int) + (2 - 1) < 2 ^ 63)]
  simp
theorem atI_end {α : Type} {xs : List α} {v : α} (h : xs.getLast? = some v) : atI xs (-1) = some v := by
  obtain ⟨l, rfl⟩ := List.getLast?_eq_some_iff.mp h
  exact atI_last l v
/-- what the search gives, in full -/
theorem walk_BI {n m : Nat} {lotsL : List (List Nat)} {rests : List Int} {G : List (List Int)} {d0 : Nat} (hGn : G.length = n) (hd0 : d0 < n) (hm : ∀ d, d < n → ∀ p ∈ lotsL.getD d [], p < m) :
    WkOk n m (fun d => lotsL.getD d []) (gi rests) (at2 G) d0 (walkF lotsL rests G (n + 1) 0 [(d0, none)] []) := by
  have B0 : BI n m (fun d => lotsL.getD d []) (gi rests) (at2 G) d0 [(d0, none)] [] := by
    refine ⟨rfl, by simp [kys], fun e he => ?_, fun i d o hi h0 => ?_, by simp [kys], fun e he => by cases he⟩
    · have : e = (d0, none) := by simpa using he
      rw [this]
      exact hd0
    · have := (List.getElem?_eq_some_iff.mp hi).1
      rw [List.length_singleton] at this
      omega
  exact walk_ok (lots := fun d => lotsL.getD d []) (rst := gi rests) (g := at2 G) (fun _ _ => rfl) (fun _ => rfl) (fun _ => rfl) hGn hm (n + 1) 0 [(d0, none)] [] (by omega) (Nat.zero_le _) B0 (fun p hp => by simp [kys] at hp) (fun i d hi => absurd hi (by omega))
def PathV (H0 H : Hp) (x : V) : Option (List Nat) → Prop
  | none => x = .non
  | some P => ∃ a, x = .ref a ∧ H0 a = none ∧ H a = some (.lst (nV P))
section
variable {P : Program} {w : World} {K : PySem.W.Frag} {mg : Str → Option Value} {base : Heap}
abbrev s_path : Stmt := inClass (topS 21) 7
theorem sc_path : FnScope ["self", "starts", "barred", "place", "from_place", "from_demand", "found", "at"] ["self", "starts", "barred"] (defScope s_path) := ⟨rfl, rfl, rfl, by decide +kernel, rfl, by decide +kernel, by decide +kernel⟩
def sp_path (K : PySem.W.Frag) (C : Addr) : Sp := fun vs H Q _ => ∃ (Hs : Hp) (p st ba aO aR aG : Addr) (nms PL : List Str) (lots : List (List Nat)) (rows : List Addr) (S : St) (n m d : Nat), vs = [.ref p, .ref st, .ref ba] ∧ NetS C Hs p nms PL lots aO aR aG rows ∧ NetM Hs H aO aR rows S ∧ Sh S.G n m ∧ S.rests.length = m ∧ lots.length = n ∧
  (∀ k, k < n → ∀ q ∈ lots.getD k [], q < m) ∧ n ≤ 24 ∧ m ≤ 1000 ∧ d < n ∧ H st = some (.lst [.int (d : Int)]) ∧ (∀ H', SqT K H' ba []) ∧
  ∀ x H', Same H H' → PathV H H' x (pathM lots S.rests S.G d) → Q x H'
theorem ok_path {f C : Addr} {fd : FuncData} {dvs : List V} (F : FunK K "path" "Network.path" s_path dvs [] f fd) (T : Tx K mg) (TN : TxN K C) (A_walked : Mth P w K mg base C 1 "walked" ["self", "starts", "barred"] [] (sp_walked K C)) : FnOk P w K mg base CX0 2 f fd ["self", "starts", "barred"] (sp_path K C) := by
  refine okD F sc_path (fun vs H Q E h => ?_) (fun cdv A outer s H vs Q E hr h => ?_)
  · obtain ⟨Hs, p, st, ba, aO, aR, aG, nms, PL, lots, rows, S, n, m, d, rfl, _⟩ := h
    rfl
  · obtain ⟨Hs, p, st, ba, aO, aR, aG, nms, PL, lots, rows, S, n, m, d, rfl, NS, NM, hSh, hrl, hll, hlm, hn24, hm1000, hdn, hst, hba, k⟩ := h
    have hu := hu_of hr
    obtain ⟨dx, aN, aP, apl, aL, lo, hp, _⟩ := NS.ex
    -- slots 0:self 1:starts 2:barred 3:place 4:from_place 5:from_demand 6:found 7:at
    refine ⟨_, (pss_cons (ps_asg (pe_meth (pv 0) TN.cl A_walked.m A_walked.G (hr.mono (by decide)) A_walked.b A_walked.v pass0 (pa_cons (pv 1) (pa_cons (pv 2) pa_nil))) (pg_tup (by rfl) (pgs_cons (pg_name (i := 3) sc_path.nd rfl (Or.inl rfl)) (pgs_cons (pg_name (i := 4) sc_path.nd rfl (Or.inl rfl)) (pgs_cons (pg_name (i := 5) sc_path.nd rfl (Or.inl rfl)) pgs_nil))) : PG _ _ (gTup K 3 _)))
    (pss_cons (ps_if (pt_cmp (pc_isN (pv 3)))
      (pss_one (ps_ret (pe_non))) pss_nil)
    (pss_cons (ps_set (i := 6) sc_path.nd rfl (Or.inl rfl) (pe_lst pa_nil))
    (pss_cons (ps_while PassesOwn.never (pt_cmp (pc_notN (pv 3)))
      (pss_cons (ps_set (i := 7) sc_path.nd rfl (Or.inl rfl) (pe_dget hu (pv 5) (pv 3) (fun _ _ => rfl)))
      (pss_cons (ps_expr (pe_bm PySem.F.plainAttrs_list PySem.F.slot_list_extend PySem.F.type_list_extend mt_extend (pv 6) (pa_cons (pe_lst (pa_cons (pv 3) (pa_cons (pv 7) pa_nil))) pa_nil)))
      (pss_one (ps_set (i := 3) sc_path.nd rfl (Or.inl rfl) (pe_dget hu (pv 4) (pv 7) (fun _ _ => rfl)))))))
    (pss_one (ps_ret (pe_revL (pv 6)))))))), ?_⟩
    have hB := walk_BI (rests := S.rests) hSh.len hdn hlm
    have hpm : ∀ o fp fd, walkF lots S.rests S.G (n + 1) 0 [(d, none)] [] = (o, fp, fd) → pathM lots S.rests S.G d = (match o with
      | none => none
      | some pl => some (back fp fd (n + 1) (some pl) [])) := fun o fp fd e => by
      unfold pathM
      rw [hSh.len, e]
      cases o <;> rfl
    refine ⟨_, rfl, p, dx, _, rfl, NM.same _ _ hp, fl_no _ _ _ _ _ _ _ (by decide +kernel) (by decide +kernel) (by decide +kernel) (by decide +kernel) (by decide +kernel) (by decide +kernel) (by decide +kernel), _, rfl, _, rfl, Hs, p, st, ba, aO, aR, aG, nms, PL, lots, rows, S, n, m, d, rfl, NS, NM, hSh, hrl, hll, hlm, hn24, hm1000, hdn, hst, hba, fun t a b H1 S1 ht ha hb => ?_⟩
    generalize walkF lots S.rests S.G (n + 1) 0 [(d, none)] [] = RES at hB hpm ht ha hb
    obtain ⟨o, fp, fd⟩ := RES
    have hpm := hpm o fp fd rfl
    refine ⟨_, _, rfl, SqT.of ht, rfl, _, _, rfl, _, _, rfl, _, _, rfl, rfl, ?_⟩
    refine ⟨_, rfl, _, rfl, ?_⟩
    cases o with
    | none =>
      refine iteT ?_
      refine k _ H1 S1 ?_
      rw [hpm]
      rfl
    | some pl =>
      refine iteF ?_
      obtain ⟨B, hplm, hplr, hk⟩ := hB
      refine ⟨Nat.zero_le _, fun fo hfo => ?_⟩
      have hpm : pathM lots S.rests S.G d = some (back fp fd (n + 1) (some pl) []) := hpm
      -- the way back
      have hstart : ∃ j d1, (pl, d1) ∈ fd ∧ (kys fp)[j]? = some d1 ∧ j < n + 1 := by
        obtain ⟨⟨pl', d1⟩, he, e⟩ := List.mem_map.mp hk
        have e : pl' = pl := e
        subst e
        obtain ⟨j, hj, ej⟩ := List.getElem_of_mem (B.fdc _ he).2.2
        have hfl := B.len
        unfold kys at hj
        rw [List.length_map] at hj
        exact ⟨j, d1, he, List.getElem?_eq_some_iff.mpr ⟨by unfold kys; rw [List.length_map]; exact hj, ej⟩, by omega⟩
      have ha1 : upd H1 fo (.lst []) a = some (.dK (fpK fp)) := same_upd hfo _ _ ha
      have hb1 : upd H1 fo (.lst []) b = some (.dK (fdK fd)) := same_upd hfo _ _ hb
      have nfa : fo ≠ a := (ne_of_none ha hfo).symm
      have nfb : fo ≠ b := (ne_of_none hb hfo).symm
      have hfo0 := S1.free hfo
      let W : Nat → L2.St → Hp → Prop := fun ff σ H' => ∃ (o : Option Nat) (Fl : List Nat) (v7 : Option V), σ = [some (.ref p), some (.ref st), some (.ref ba), some (ovN o), some (.ref a), some (.ref b), some (.ref fo), v7] ∧ Same H H' ∧ H' a = some (.dK (fpK fp)) ∧ H' b = some (.dK (fdK fd)) ∧ H' fo = some (.lst (nV Fl)) ∧ Fl.length + 2 * ff ≤ 2 * (n + 1) ∧
        back fp fd ff o Fl.reverse = back fp fd (n + 1) (some pl) [] ∧ ∀ q, o = some q → ∃ j d1, (q, d1) ∈ fd ∧ (kys fp)[j]? = some d1 ∧ j < ff
      refine ⟨W, ⟨n + 1, some pl, [], none, rfl, S1.trans (same_upd hfo), ha1, hb1, upd_same, by simp, rfl, fun q e => by cases e; exact hstart⟩, ?_⟩
      rintro ff σ H4 ⟨o, Fl, v7, rfl, S4, g1, g2, g3, hlen, hbk, hidx⟩
      refine ⟨_, rfl, _, rfl, ?_⟩
      cases o with
      | none =>
        refine iteF ?_
        have e3 : ∀ f, back fp fd f none Fl.reverse = Fl.reverse := fun f => by cases f <;> rfl
        rw [e3] at hbk
        refine ⟨_, rfl, _, _, rfl, SqL.of g3, fun q hq => ?_⟩
        refine k _ _ (S4.trans (same_upd hq)) ?_
        rw [hpm, ← hbk]
        refine ⟨q, rfl, S4.free hq, ?_⟩
        rw [upd_same]
        unfold nV
        rw [List.map_reverse]
      | some q =>
        refine iteT ?_
        obtain ⟨j, d1, hfd, hkj, hjf⟩ := hidx q rfl
        obtain ⟨f', rfl⟩ : ∃ f', ff = f' + 1 := ⟨ff - 1, by omega⟩
        refine ⟨fun σ' H' => ∃ m', m' < f' + 1 ∧ W m' σ' H', fun _ _ h => h, ?_⟩
        have e1 : lkN fd q = d1 := by
          unfold lkN
          rw [lookup_of_mem B.ndd hfd]
          rfl
        obtain ⟨⟨d2, o⟩, he⟩ : ∃ e, fp[j]? = some e := by
          have h1 := (List.getElem?_eq_some_iff.mp hkj).1
          unfold kys at h1
          rw [List.length_map] at h1
          exact ⟨_, List.getElem?_eq_getElem h1⟩
        have ed : d2 = d1 := by
          have := kys_get he
          rw [hkj] at this
          exact (Option.some.inj this).symm
        subst ed
        have hlo := lookup_of_mem B.ndp (List.mem_of_getElem? he)
        have e2 : lkO fp d2 = o := by
          unfold lkO
          rw [hlo]
          rfl
        -- at = from_demand[place]
        refine ⟨_, rfl, _, rfl, _, V.int (d2 : Int), rfl, ?_, ?_⟩
        · have g := DGet.k (k := Sum.inl (q : Int)) g2
          rw [valV_fd, lookup_of_mem B.ndd hfd] at g
          exact g
        -- found.extend([place, at])
        refine ⟨_, rfl, .inl ⟨rfl, _, SqL.of g3⟩, ?_⟩
        refine ⟨_, rfl, _, rfl, by show 2 ≤ sizeLine; decide, fun l hl => ?_⟩
        have hfl3 : upd H4 l (.lst [.int (q : Int), .int (d2 : Int)]) fo = some (.lst (nV Fl)) := same_upd hl _ _ g3
        refine ⟨_, _, _, _, rfl, rfl, hfl3, upd_same, ?_, ?_⟩
        · unfold nV
          rw [List.length_map]
          exact Nat.le_trans (show Fl.length + 2 ≤ 100 by omega) (by decide)
        -- place = from_place[at]
        have ga : upd (upd H4 l (.lst [.int (q : Int), .int (d2 : Int)])) fo (.lst (nV Fl ++ [.int (q : Int), .int (d2 : Int)])) a = some (.dK (fpK fp)) := by
          rw [upd_ne nfa.symm]
          exact same_upd hl _ _ g1
        have gb : upd (upd H4 l (.lst [.int (q : Int), .int (d2 : Int)])) fo (.lst (nV Fl ++ [.int (q : Int), .int (d2 : Int)])) b = some (.dK (fdK fd)) := by
          rw [upd_ne nfb.symm]
          exact same_upd hl _ _ g2
        refine ⟨_, rfl, _, rfl, _, ovN o, rfl, ?_, ?_⟩
        · have g := DGet.k (k := Sum.inl (d2 : Int)) ga
          rw [valV_fp, hlo] at g
          exact g
        refine ⟨f', by omega, o, Fl ++ [q, d2], _, rfl, same_new (S4.trans (same_upd hl)) hfo0, ga, gb, ?_, ?_, ?_, ?_⟩
        · rw [upd_same]
          unfold nV
          rw [List.map_append]
          rfl
        · rw [List.length_append]
          simp
          omega
        · rw [← hbk]
          show _ = back fp fd f' (lkO fp (lkN fd q)) (lkN fd q :: q :: Fl.reverse)
          rw [e1, e2, List.reverse_append]
          rfl
        · intro q2 eq2
          have hj0 : 0 < j := by
            rcases Nat.eq_zero_or_pos j with h | h
            · subst h
              rw [B.h0] at he
              cases he
              cases eq2
            · exact h
          obtain ⟨q', j', d', h1, h2, h3, h4, h5⟩ := B.fpc j d2 o he hj0
          rw [eq2] at h1
          cases h1
          exact ⟨j', d', h2, h4, by omega⟩
end
end Dr

set_option maxHeartbeats 8000000
/-! Room and move. -/
namespace Dr
open PySem PySem.Spec PyProof.Rows L2
theorem ixN_nat {n j : Nat} (h : j < n) : ixN n (j : Int) = some j := by
  unfold ixN
  rw [if_pos (by omega), if_pos (by omega)]
  simp
structure FrM (M : List Addr) (H H' : Hp) : Prop where
  keep : ∀ x o, H x = some o → x ∉ M → H' x = some o
  dom : ∀ x, H' x = none → H x = none
theorem FrM.refl (M : List Addr) (H : Hp) : FrM M H H := ⟨fun _ _ h _ => h, fun _ h => h⟩
theorem FrM.trans {M : List Addr} {H H1 H2 : Hp} (a : FrM M H H1) (b : FrM M H1 H2) : FrM M H H2 := ⟨fun x o h n => b.keep x o (a.keep x o h n) n, fun x h => a.dom x (b.dom x h)⟩
theorem FrM.of_same {M : List Addr} {H H' : Hp} (s : Same H H') : FrM M H H' := ⟨fun x o h _ => s x o h, fun x h => s.free h⟩
theorem FrM.set {M : List Addr} {H : Hp} {m : Addr} {o : HO} (h : m ∈ M) (hs : ∃ o', H m = some o') : FrM M H (upd H m o) := ⟨fun x o' e n => by
    have ne : x ≠ m := fun q => n (by rw [q]; exact h)
    rw [upd_ne ne]
    exact e, fun x e => by
    by_cases q : x = m
    · rw [q, upd_same] at e
      cases e
    · rw [upd_ne q] at e
      exact e⟩
theorem NetM.mem {Hs H : Hp} {aO aR : Addr} {rows : List Addr} {S : St} (M : NetM Hs H aO aR rows S) {x : Addr} (h : ∃ o, Hs x = some o) : x ∉ aO :: aR :: rows := fun q => by
  obtain ⟨o, e⟩ := h
  rw [M.new x q] at e
  cases e
theorem NetM.nes {Hs H : Hp} {aO aR : Addr} {rows : List Addr} {S : St} (M : NetM Hs H aO aR rows S) : aO ≠ aR ∧ aO ∉ rows ∧ aR ∉ rows ∧ rows.Nodup := by
  obtain ⟨h1, h2⟩ := List.nodup_cons.mp M.nd
  obtain ⟨h3, h4⟩ := List.nodup_cons.mp h2
  exact ⟨fun e => h1 (e ▸ List.mem_cons_self), fun e => h1 (List.mem_cons_of_mem _ e), h3, h4⟩
theorem NetM.setO {Hs H : Hp} {aO aR : Addr} {rows : List Addr} {S : St} (M : NetM Hs H aO aR rows S) (l : List Int) : NetM Hs (upd H aO (.lst (iV l))) aO aR rows ⟨l, S.rests, S.G⟩ := by
  obtain ⟨n1, n2, n3, n4⟩ := M.nes
  refine ⟨same_new M.same (M.new _ List.mem_cons_self), M.nd, M.new, upd_same, by rw [upd_ne n1.symm]; exact M.r, ?_⟩
  refine paired_of (Paired.length M.g) fun j a row hj hr => ?_
  obtain ⟨row', h1, h2⟩ := Paired.at M.g hj
  rw [hr] at h1
  cases h1
  have ne : a ≠ aO := fun e => n2 (by rw [← e]; exact List.mem_of_getElem? hj)
  rw [upd_ne ne]
  exact h2
theorem NetM.setR {Hs H : Hp} {aO aR : Addr} {rows : List Addr} {S : St} (M : NetM Hs H aO aR rows S) (l : List Int) : NetM Hs (upd H aR (.lst (iV l))) aO aR rows ⟨S.owed, l, S.G⟩ := by
  obtain ⟨n1, n2, n3, n4⟩ := M.nes
  refine ⟨same_new M.same (M.new _ (by simp)), M.nd, M.new, by rw [upd_ne n1]; exact M.o, upd_same, ?_⟩
  refine paired_of (Paired.length M.g) fun j a row hj hr => ?_
  obtain ⟨row', h1, h2⟩ := Paired.at M.g hj
  rw [hr] at h1
  cases h1
  have ne : a ≠ aR := fun e => n3 (by rw [← e]; exact List.mem_of_getElem? hj)
  rw [upd_ne ne]
  exact h2
theorem NetM.setG {Hs H : Hp} {aO aR : Addr} {rows : List Addr} {S : St} (M : NetM Hs H aO aR rows S) {d : Nat} {ra : Addr} (hd : rows[d]? = some ra) (l : List Int) : NetM Hs (upd H ra (.lst (iV l))) aO aR rows ⟨S.owed, S.rests, S.G.set d l⟩ := by
  obtain ⟨n1, n2, n3, n4⟩ := M.nes
  have hm := List.mem_of_getElem? hd
  have ne1 : aO ≠ ra := fun e => n2 (by rw [e]; exact hm)
  have ne2 : aR ≠ ra := fun e => n3 (by rw [e]; exact hm)
  refine ⟨same_new M.same (M.new _ (List.mem_cons_of_mem _ (List.mem_cons_of_mem _ hm))), M.nd, M.new, by rw [upd_ne ne1]; exact M.o, by rw [upd_ne ne2]; exact M.r, ?_⟩
  refine paired_of (by rw [List.length_set]; exact Paired.length M.g) fun j a row hj hr => ?_
  by_cases e : j = d
  · subst e
    rw [hd] at hj
    cases hj
    rw [upd_same]
    have hjl : j < S.G.length := by
      have := (List.getElem?_eq_some_iff.mp hd).1
      have h2 := Paired.length M.g
      omega
    rw [List.getElem?_set_self hjl] at hr
    cases hr
    rfl
  · rw [List.getElem?_set_ne (Ne.symm e)] at hr
    obtain ⟨row', h1, h2⟩ := Paired.at M.g hj
    rw [hr] at h1
    cases h1
    have ne : a ≠ ra := fun q => by
      subst q
      have := (List.getElem?_inj (List.getElem?_eq_some_iff.mp hj).1 n4).mp (hj.trans hd.symm)
      exact e this
    rw [upd_ne ne]
    exact h2
/-- a path by its places in the list -/
theorem path_ix {n m : Nat} {lots : Nat → List Nat} {rst : Nat → Int} {g : Nat → Nat → Int} {P : List Nat} {L : Nat} (h : Pth n m lots rst g none P L) {i : Nat} (hi : 2 * i < P.length) : ∃ d p, P[2 * i]? = some d ∧ P[2 * i + 1]? = some p ∧ d < n ∧ p < m ∧ P.drop (2 * i) = d :: p :: P.drop (2 * (i + 1)) := by
  have he := h.even.1
  have h1 : P[2 * i]? = some P[2 * i] := List.getElem?_eq_getElem hi
  have hi2 : 2 * i + 1 < P.length := by omega
  have h2 : P[2 * i + 1]? = some P[2 * i + 1] := List.getElem?_eq_getElem hi2
  refine ⟨_, _, h1, h2, h.mem.1 _ (mem_dms he h1), h.mem.2 _ (mem_pls he h2), ?_⟩
  rw [List.drop_eq_getElem_cons hi, List.drop_eq_getElem_cons hi2, show 2 * (i + 1) = 2 * i + 1 + 1 by omega]
section
variable {P : Program} {w : World} {K : PySem.W.Frag} {mg : Str → Option Value} {base : Heap}
abbrev s_room : Stmt := inClass (topS 21) 10
theorem sc_room : FnScope ["self", "path", "found", "spot"] ["self", "path"] (defScope s_room) := ⟨rfl, rfl, rfl, by decide +kernel, rfl, by decide +kernel, by decide +kernel⟩
def sp_room (C : Addr) : Sp := fun vs H Q _ => ∃ (Hs : Hp) (p pa aO aR aG : Addr) (nms PL : List Str) (lots : List (List Nat)) (rows : List Addr) (S : St) (n m L : Nat) (PP : List Nat), vs = [.ref p, .ref pa] ∧ NetS C Hs p nms PL lots aO aR aG rows ∧ NetM Hs H aO aR rows S ∧ Sh S.G n m ∧ S.owed.length = n ∧ S.rests.length = m ∧ PP.length ≤ 1000 ∧
  H pa = some (.lst (nV PP)) ∧ Pth n m (fun d => lots.getD d []) (gi S.rests) (at2 S.G) none PP L ∧ Q (.int (roomS S PP)) H
theorem ok_room {f C : Addr} {fd : FuncData} (F : Fun K "room" "Network.room" s_room f fd) (T : Tx K mg) (TN : TxN K C) : FnOk P w K mg base CX0 1 f fd ["self", "path"] (sp_room C) := by
  refine F.ok sc_room (fun vs H Q E h => ?_) (fun cdv A outer s H vs Q E hr h => ?_)
  · obtain ⟨Hs, p, pa, aO, aR, aG, nms, PL, lots, rows, S, n, m, L, PP, rfl, _⟩ := h
    rfl
  · obtain ⟨Hs, p, pa, aO, aR, aG, nms, PL, lots, rows, S, n, m, L, PP, rfl, NS, NM, hSh, hol, hrl, hP1000, hpa, hP, k⟩ := h
    obtain ⟨⟨dx, aN, aP, apl, aL, lo, hp, haN, haP, haL, hlo⟩, haG⟩ := NS
    have hpH := NM.same _ _ hp
    have hev := hP.even
    obtain ⟨hh1, hh2, hh3⟩ := hP.head
    obtain ⟨hL1, hL2⟩ := hP.lastOk
    have hp0 : PP[0]? = some (PP.headD 0) := by rw [← List.head?_eq_getElem?]; exact hh2
    have hplast : (nV PP).getLast? = some (.int (L : Int)) := by
      unfold nV
      rw [List.getLast?_map, hP.getLast]
      rfl
    have hnl : (nV PP).length = PP.length := by
      unfold nV
      rw [List.length_map]
    have hrowl : rows.length = n := (Paired.length NM.g).trans hSh.len
    -- slots 0:self 1:path 2:found 3:spot
    refine ⟨_, (pss_cons (ps_set (i := 2) sc_room.nd rfl (Or.inl rfl) (pe_callB (call_min2 rfl) (by rfl) T.min_ (by decide +kernel) (pa_cons (pe_ix (ix_list : IxR _ (rIxL K)) (pe_fld (pv 0) rfl) (pe_ix (ix_list : IxR _ (rIxL K)) (pv 1) (pe_int) (fun _ _ => rfl)) (fun _ _ => rfl)) (pa_cons (pe_ix (ix_list : IxR _ (rIxL K)) (pe_fld (pv 0) rfl) (pe_ix (ix_list : IxR _ (rIxL K)) (pv 1) (pe_un un_neg (pe_int)) (fun _ _ => rfl)) (fun _ _ => rfl)) pa_nil))))
    (pss_cons (ps_for PassesOwn.never rfl (pi_range3 (by rfl) T.range_ (pa_cons (pe_int) (pa_cons (pe_callB (call_len_seq : CallR _ _ (rLenS K)) (by rfl) T.len_ PySem.boot_len (pa_cons (pv 1) pa_nil)) (pa_cons (pe_int) pa_nil)))) (pg_name (i := 3) sc_room.nd rfl (Or.inl rfl))
      (pss_one (ps_set (i := 2) sc_room.nd rfl (Or.inl rfl) (pe_callB (call_min2 rfl) (by rfl) T.min_ (by decide +kernel) (pa_cons (pv 2) (pa_cons (pe_ix (ix_list : IxR _ (rIxL K)) (pe_ix (ix_list : IxR _ (rIxL K)) (pe_fld (pv 0) rfl) (pe_ix (ix_list : IxR _ (rIxL K)) (pv 1) (pv 3) (fun _ _ => rfl)) (fun _ _ => rfl)) (pe_ix (ix_list : IxR _ (rIxL K)) (pv 1) (pe_op op_sub (pv 3) (pe_int)) (fun _ _ => rfl)) (fun _ _ => rfl)) pa_nil))))))
    (pss_one (ps_ret (pv 2))))), ?_⟩
    refine ⟨_, rfl, p, C, dx, _, _, rfl, hpH, TN.cl, TN.nO, fl_owed _ _ _ _ _ _ _, _, rfl, _, _, _, V.int (PP.headD 0 : Int), rfl, rfl, SqL.of hpa, atI_nat (nV_get hp0), _, _, _, V.int (gi S.owed (PP.headD 0)), rfl, rfl, SqL.of NM.o, atI_nat (iV_get (by omega)), ?_⟩
    refine ⟨_, rfl, p, C, dx, _, _, rfl, hpH, TN.cl, TN.nR, fl_rests _ _ _ _ _ _ _, _, rfl, _, rfl, _, _, _, V.int (L : Int), rfl, rfl, SqL.of hpa, atI_end hplast, _, _, _, V.int (gi S.rests L), rfl, rfl, SqL.of NM.r, atI_nat (iV_get (by omega)), _, _, rfl, ?_⟩
    obtain ⟨c, hc⟩ : ∃ c, PP.length = 2 + 2 * c := ⟨(PP.length - 2) / 2, by omega⟩
    have hfin : roomS S PP = roomM S.G (if gi S.rests L < gi S.owed (PP.headD 0) then gi S.rests L else gi S.owed (PP.headD 0)) none PP := by
      unfold roomS mn
      rw [hh3]
    generalize hv0 : (if gi S.rests L < gi S.owed (PP.headD 0) then gi S.rests L else gi S.owed (PP.headD 0)) = v0 at hfin ⊢
    obtain ⟨d0, p0, e0, e1, _, _, edrop⟩ := path_ix hP (i := 0) (by omega)
    rw [List.drop_zero] at edrop
    have hfin : roomM S.G v0 (some p0) (PP.drop 2) = roomS S PP := by
      rw [hfin, edrop]
      rfl
    refine ⟨_, rfl, _, _, rfl, .inl (SqL.of hpa), 2, _, 2, c, rfl, ?_, ?_⟩
    · rw [hnl]
      exact rgc2 (by decide) (by decide) (by omega) (by rw [hc]; omega)
    refine for_rangeC (lo := 2) (c := 2) (n := c) (fun i σ H' => ∃ (v : Int) (v3 : Option V) (q : Nat), σ = [some (.ref p), some (.ref pa), some (.int v), v3] ∧ H' = H ∧ PP[2 * i + 1]? = some q ∧ roomM S.G v (some q) (PP.drop (2 * (i + 1))) = roomS S PP)
      ⟨v0, none, p0, rfl, rfl, e1, hfin⟩ ?_ ?_
    · rintro i σ H' hi ⟨v, v3, q, rfl, rfl, hq, hrm⟩
      obtain ⟨d, p1, hd1, hp1, hdn, hpm, hdr⟩ := path_ix hP (i := i + 1) (by omega)
      have hqm : q < m := hP.mem.2 _ (mem_pls hev.1 hq)
      have es : (2 : Int) + ((i : Nat) : Int) * 2 = ((2 * (i + 1) : Nat) : Int) := by omega
      have es1 : (2 : Int) + ((i : Nat) : Int) * 2 - 1 = ((2 * i + 1 : Nat) : Int) := by omega
      obtain ⟨ra, hra⟩ : ∃ ra, rows[d]? = some ra := ⟨_, List.getElem?_eq_getElem (by omega)⟩
      obtain ⟨grow, hgrow, hgra⟩ := Paired.at NM.g hra
      have hgl : grow.length = m := hSh.row grow (List.mem_of_getElem? hgrow)
      have hraR : (rows.map V.ref)[d]? = some (.ref ra) := by
        rw [List.getElem?_map, hra]
        rfl
      have eat : gi grow q = at2 S.G d q := by
        unfold at2
        rw [List.getD_eq_getElem?_getD, hgrow]
        rfl
      rw [hdr] at hrm
      have hrm : roomM S.G (if at2 S.G d q < v then at2 S.G d q else v) (some p1) (PP.drop (2 * (i + 1 + 1))) = roomS S PP := hrm
      refine ⟨_, rfl, _, rfl, p, C, dx, _, _, rfl, hpH, TN.cl, TN.nG, fl_given _ _ _ _ _ _ _, _, rfl, _, rfl, _, _, _, V.int (d : Int), rfl, rfl, SqL.of hpa, by rw [es]; exact atI_nat (nV_get hd1), _, _, _, V.ref ra, rfl, rfl, SqL.of (NM.same _ _ haG), atI_nat hraR, ?_⟩
      refine ⟨_, rfl, _, rfl, _, _, rfl, rfl, _, _, _, V.int (q : Int), rfl, rfl, SqL.of hpa, by rw [es1]; exact atI_nat (nV_get hq), _, _, _, V.int (gi grow q), rfl, rfl, SqL.of hgra, atI_nat (iV_get (by omega)), _, _, rfl, ?_⟩
      rw [eat]
      exact ⟨_, _, p1, rfl, rfl, by rw [show 2 * (i + 1) + 1 = 2 * (i + 1) + 1 from rfl]; exact hp1, hrm⟩
    · rintro σ H' ⟨v, v3, q, rfl, rfl, hq, hrm⟩
      rw [show 2 * (c + 1) = PP.length by omega, List.drop_length] at hrm
      have hrm : v = roomS S PP := hrm
      subst hrm
      exact ⟨_, rfl, k⟩
end
end Dr

set_option maxHeartbeats 8000000
/-! Move. -/
namespace Dr
open PySem PySem.Spec PyProof.Rows L2
theorem row_at {Hs H : Hp} {aO aR : Addr} {rows : List Addr} {S : St} {n m d : Nat} (M : NetM Hs H aO aR rows S) (hSh : Sh S.G n m) (hd : d < n) : ∃ ra, rows[d]? = some ra ∧ (rows.map V.ref)[d]? = some (.ref ra) ∧ H ra = some (.lst (iV (S.G.getD d []))) ∧ (S.G.getD d []).length = m := by
  have hrowl : rows.length = n := (Paired.length M.g).trans hSh.len
  obtain ⟨ra, hra⟩ : ∃ ra, rows[d]? = some ra := ⟨_, List.getElem?_eq_getElem (by omega)⟩
  obtain ⟨grow, hgrow, hgra⟩ := Paired.at M.g hra
  have e : S.G.getD d [] = grow := by
    rw [List.getD_eq_getElem?_getD, hgrow]
    rfl
  refine ⟨ra, hra, ?_, by rw [e]; exact hgra, hSh.rowLen hd⟩
  rw [List.getElem?_map, hra]
  rfl
section
variable {P : Program} {w : World} {K : PySem.W.Frag} {mg : Str → Option Value} {base : Heap}
abbrev s_move : Stmt := inClass (topS 21) 11
theorem sc_move : FnScope ["self", "path", "many", "spot"] ["self", "path", "many"] (defScope s_move) := ⟨rfl, rfl, rfl, by decide +kernel, rfl, by decide +kernel, by decide +kernel⟩
def sp_move (C : Addr) : Sp := fun vs H Q _ => ∃ (Hs : Hp) (p pa aO aR aG : Addr) (nms PL : List Str) (lots : List (List Nat)) (rows : List Addr) (S : St) (n m L : Nat) (PP : List Nat) (many : Int), vs = [.ref p, .ref pa, .int many] ∧ NetS C Hs p nms PL lots aO aR aG rows ∧ NetM Hs H aO aR rows S ∧ Sh S.G n m ∧ S.owed.length = n ∧ S.rests.length = m ∧ PP.length ≤ 1000 ∧
  H pa = some (.lst (nV PP)) ∧ pa ∉ aO :: aR :: rows ∧ Pth n m (fun d => lots.getD d []) (gi S.rests) (at2 S.G) none PP L ∧ ∀ H', FrM (aO :: aR :: rows) H H' → NetM Hs H' aO aR rows (moveS many PP S) → Q .non H'
theorem ok_move {f C : Addr} {fd : FuncData} (F : Fun K "move" "Network.move" s_move f fd) (T : Tx K mg) (TN : TxN K C) : FnOk P w K mg base CX0 1 f fd ["self", "path", "many"] (sp_move C) := by
  refine F.ok sc_move (fun vs H Q E h => ?_) (fun cdv A outer s H vs Q E hr h => ?_)
  · obtain ⟨Hs, p, pa, aO, aR, aG, nms, PL, lots, rows, S, n, m, L, PP, many, rfl, _⟩ := h
    rfl
  · obtain ⟨Hs, p, pa, aO, aR, aG, nms, PL, lots, rows, S, n, m, L, PP, many, rfl, NS, NM, hSh, hol, hrl, hP1000, hpa, hpm, hP, k⟩ := h
    obtain ⟨⟨dx, aN, aP, apl, aL, lo, hp, haN, haP, haL, hlo⟩, haG⟩ := NS
    have hev := hP.even
    obtain ⟨hh1, hh2, hh3⟩ := hP.head
    obtain ⟨hL1, hL2⟩ := hP.lastOk
    have hp0 : PP[0]? = some (PP.headD 0) := by rw [← List.head?_eq_getElem?]; exact hh2
    have hplast : (nV PP).getLast? = some (.int (L : Int)) := by
      unfold nV
      rw [List.getLast?_map, hP.getLast]
      rfl
    have hnl : (nV PP).length = PP.length := by
      unfold nV
      rw [List.length_map]
    have hil : ∀ l : List Int, (iV l).length = l.length := fun l => by
      unfold iV
      rw [List.length_map]
    -- slots 0:self 1:path 2:many 3:spot
    refine ⟨_, (pss_cons (ps_augL (pe_fld (pv 0) rfl) (pe_ix (ix_list : IxR _ (rIxL K)) (pv 1) (pe_int) (fun _ _ => rfl)) (pv 2) ip_sub)
    (pss_cons (ps_augL (pe_fld (pv 0) rfl) (pe_ix (ix_list : IxR _ (rIxL K)) (pv 1) (pe_un un_neg (pe_int)) (fun _ _ => rfl)) (pv 2) ip_sub)
    (pss_one (ps_for PassesOwn.never rfl (pi_range3 (by rfl) T.range_ (pa_cons (pe_int) (pa_cons (pe_callB (call_len_seq : CallR _ _ (rLenS K)) (by rfl) T.len_ PySem.boot_len (pa_cons (pv 1) pa_nil)) (pa_cons (pe_int) pa_nil)))) (pg_name (i := 3) sc_move.nd rfl (Or.inl rfl))
      (pss_cons (ps_augL (pe_ix (ix_list : IxR _ (rIxL K)) (pe_fld (pv 0) rfl) (pe_ix (ix_list : IxR _ (rIxL K)) (pv 1) (pv 3) (fun _ _ => rfl)) (fun _ _ => rfl)) (pe_ix (ix_list : IxR _ (rIxL K)) (pv 1) (pe_op op_add (pv 3) (pe_int)) (fun _ _ => rfl)) (pv 2) ip_add)
      (pss_one (ps_if (pt_cmpR op_gt (pv 3) (pe_int) (nomark _))
        (pss_one (ps_augL (pe_ix (ix_list : IxR _ (rIxL K)) (pe_fld (pv 0) rfl) (pe_ix (ix_list : IxR _ (rIxL K)) (pv 1) (pv 3) (fun _ _ => rfl)) (fun _ _ => rfl)) (pe_ix (ix_list : IxR _ (rIxL K)) (pv 1) (pe_op op_sub (pv 3) (pe_int)) (fun _ _ => rfl)) (pv 2) ip_sub)) pss_nil))))))), ?_⟩
    -- owed
    refine ⟨_, rfl, p, C, dx, _, _, rfl, NM.same _ _ hp, TN.cl, TN.nO, fl_owed _ _ _ _ _ _ _, _, rfl, _, _, _, V.int (PP.headD 0 : Int), rfl, rfl, SqL.of hpa, atI_nat (nV_get hp0), _, _, _, V.int (gi S.owed (PP.headD 0)), rfl, rfl, SqL.of NM.o, atI_nat (iV_get (by omega)), ?_⟩
    refine ⟨_, rfl, _, _, rfl, rfl, _, _, _, _, rfl, rfl, NM.o, ixN_nat (by rw [hil]; omega), ?_⟩
    have hpaM := hpm
    have F1 : FrM (aO :: aR :: rows) H (upd H aO (.lst ((iV S.owed).set (PP.headD 0) (.int (gi S.owed (PP.headD 0) - many))))) := .set List.mem_cons_self ⟨_, NM.o⟩
    have M1 : NetM Hs (upd H aO (.lst ((iV S.owed).set (PP.headD 0) (.int (gi S.owed (PP.headD 0) - many))))) aO aR rows ⟨addL S.owed (PP.headD 0) (-many), S.rests, S.G⟩ := by
      have eO : (iV S.owed).set (PP.headD 0) (.int (gi S.owed (PP.headD 0) - many)) = iV (addL S.owed (PP.headD 0) (-many)) := by
        rw [iV_set]
        rfl
      rw [eO]
      exact NM.setO _
    dsimp only
    generalize upd H aO (.lst ((iV S.owed).set (PP.headD 0) (.int (gi S.owed (PP.headD 0) - many)))) = H1 at F1 M1 ⊢
    have hpa1 := F1.keep _ _ hpa hpaM
    have hM1r : H1 aR = some (.lst (iV S.rests)) := M1.r
    -- rests
    refine ⟨_, rfl, p, C, dx, _, _, rfl, M1.same _ _ hp, TN.cl, TN.nR, fl_rests _ _ _ _ _ _ _, _, rfl, _, rfl, _, _, _, V.int (L : Int), rfl, rfl, SqL.of hpa1, atI_end hplast, _, _, _, V.int (gi S.rests L), rfl, rfl, SqL.of hM1r, atI_nat (iV_get (by omega)), ?_⟩
    refine ⟨_, rfl, _, _, rfl, rfl, _, _, _, _, rfl, rfl, hM1r, ixN_nat (by rw [hil]; omega), ?_⟩
    have F2 : FrM (aO :: aR :: rows) H1 (upd H1 aR (.lst ((iV S.rests).set L (.int (gi S.rests L - many))))) := .set (by simp) ⟨_, M1.r⟩
    have M2 : NetM Hs (upd H1 aR (.lst ((iV S.rests).set L (.int (gi S.rests L - many))))) aO aR rows ⟨addL S.owed (PP.headD 0) (-many), addL S.rests (PP.getLastD 0) (-many), S.G⟩ := by
      have eR : (iV S.rests).set L (.int (gi S.rests L - many)) = iV (addL S.rests (PP.getLastD 0) (-many)) := by
        rw [iV_set, hh3]
        rfl
      rw [eR]
      exact M1.setR _
    dsimp only
    generalize upd H1 aR (.lst ((iV S.rests).set L (.int (gi S.rests L - many)))) = H2 at F2 M2 ⊢
    have F02 := F1.trans F2
    have hpa2 := F02.keep _ _ hpa hpaM
    obtain ⟨c, hc⟩ : ∃ c, PP.length = 2 * c := ⟨PP.length / 2, by omega⟩
    refine ⟨_, rfl, _, _, rfl, .inl (SqL.of hpa2), 0, _, 2, c, rfl, ?_, ?_⟩
    · rw [hnl]
      exact rgc2 (by decide) (by decide) (by omega) (by rw [hc]; omega)
    have hSfin : moveS many PP S = ⟨addL S.owed (PP.headD 0) (-many), addL S.rests (PP.getLastD 0) (-many), moveM many none PP S.G⟩ := rfl
    generalize addL S.owed (PP.headD 0) (-many) = ow at M2 hSfin
    generalize addL S.rests (PP.getLastD 0) (-many) = rs at M2 hSfin
    let prev : Nat → Option Nat := fun i => if i = 0 then none else PP[2 * i - 1]?
    refine for_rangeC (lo := 0) (c := 2) (n := c) (fun i σ H' => ∃ (G : List (List Int)) (v3 : Option V), σ = [some (.ref p), some (.ref pa), some (.int many), v3] ∧ FrM (aO :: aR :: rows) H H' ∧ NetM Hs H' aO aR rows ⟨ow, rs, G⟩ ∧ Sh G n m ∧ moveM many (prev i) (PP.drop (2 * i)) G = moveM many none PP S.G)
      ⟨S.G, none, rfl, F02, M2, hSh, rfl⟩ ?_ ?_
    · rintro i σ H3 hi ⟨G, v3, rfl, F3, M3, hS3, hmv⟩
      have hpa3 := F3.keep _ _ hpa hpaM
      obtain ⟨d, p1, hd1, hp1, hdn, hp1m, hdr⟩ := path_ix hP (i := i) (by omega)
      have es : (0 : Int) + ((i : Nat) : Int) * 2 = ((2 * i : Nat) : Int) := by omega
      have es1 : (0 : Int) + ((i : Nat) : Int) * 2 + 1 = ((2 * i + 1 : Nat) : Int) := by omega
      obtain ⟨ra, hra, hraR, hrow, hrl2⟩ := row_at M3 hS3 hdn
      refine ⟨_, rfl, p, C, dx, _, _, rfl, M3.same _ _ hp, TN.cl, TN.nG, fl_given _ _ _ _ _ _ _, _, rfl, _, rfl, _, _, _, V.int (d : Int), rfl, rfl, SqL.of hpa3, by rw [es]; exact atI_nat (nV_get hd1), _, _, _, V.ref ra, rfl, rfl, SqL.of (M3.same _ _ haG), atI_nat hraR, ?_⟩
      refine ⟨_, rfl, _, rfl, _, _, rfl, rfl, _, _, _, V.int (p1 : Int), rfl, rfl, SqL.of hpa3, by rw [es1]; exact atI_nat (nV_get hp1), _, _, _, V.int (gi (G.getD d []) p1), rfl, rfl, SqL.of hrow, atI_nat (iV_get (by omega)), ?_⟩
      refine ⟨_, rfl, _, _, rfl, rfl, _, _, _, _, rfl, rfl, hrow, ixN_nat (by rw [hil]; omega), ?_⟩
      have ram : ra ∈ aO :: aR :: rows := List.mem_cons_of_mem _ (List.mem_cons_of_mem _ (List.mem_of_getElem? hra))
      have F4 : FrM (aO :: aR :: rows) H3 (upd H3 ra (.lst ((iV (G.getD d [])).set p1 (.int (gi (G.getD d []) p1 + many))))) := .set ram ⟨_, hrow⟩
      have M4 : NetM Hs (upd H3 ra (.lst ((iV (G.getD d [])).set p1 (.int (gi (G.getD d []) p1 + many))))) aO aR rows ⟨ow, rs, addAt G d p1 many⟩ := by
        rw [iV_set]
        exact M3.setG hra _
      have hS4 : Sh (addAt G d p1 many) n m := hS3.addAt hdn many
      dsimp only
      generalize upd H3 ra (.lst ((iV (G.getD d [])).set p1 (.int (gi (G.getD d []) p1 + many)))) = H4 at F4 M4 ⊢
      have F04 := F3.trans F4
      have hpa4 := F04.keep _ _ hpa hpaM
      rw [hdr] at hmv
      -- if spot > 0
      refine ⟨_, rfl, _, _, rfl, rfl, _, rfl, ?_⟩
      have eprev : prev (i + 1) = some p1 := by
        show (if i + 1 = 0 then none else PP[2 * (i + 1) - 1]?) = some p1
        rw [if_neg (by omega), show 2 * (i + 1) - 1 = 2 * i + 1 by omega]
        exact hp1
      by_cases hi0 : i = 0
      · subst hi0
        refine iteF ⟨addAt G d p1 many, _, rfl, F04, M4, hS4, ?_⟩
        rw [eprev, ← hmv]
        rfl
      · have hpos : decide ((0 : Int) < 0 + ((i : Nat) : Int) * 2) = true := decide_eq_true (by omega)
        rw [hpos]
        refine iteT ?_
        obtain ⟨q, hq⟩ : ∃ q, PP[2 * i - 1]? = some q := ⟨_, List.getElem?_eq_getElem (by omega)⟩
        have hqm : q < m := by
          have hq2 : PP[2 * (i - 1) + 1]? = some q := by rw [show 2 * (i - 1) + 1 = 2 * i - 1 by omega]; exact hq
          exact hP.mem.2 _ (mem_pls hev.1 hq2)
        have eprev0 : prev i = some q := by
          show (if i = 0 then none else PP[2 * i - 1]?) = some q
          rw [if_neg hi0]
          exact hq
        rw [eprev0] at hmv
        have es2 : (0 : Int) + ((i : Nat) : Int) * 2 - 1 = ((2 * i - 1 : Nat) : Int) := by omega
        obtain ⟨rb, hrb, hrbR, hrow2, hrl3⟩ := row_at M4 hS4 hdn
        refine ⟨_, rfl, p, C, dx, _, _, rfl, M4.same _ _ hp, TN.cl, TN.nG, fl_given _ _ _ _ _ _ _, _, rfl, _, rfl, _, _, _, V.int (d : Int), rfl, rfl, SqL.of hpa4, by rw [es]; exact atI_nat (nV_get hd1), _, _, _, V.ref rb, rfl, rfl, SqL.of (M4.same _ _ haG), atI_nat hrbR, ?_⟩
        refine ⟨_, rfl, _, rfl, _, _, rfl, rfl, _, _, _, V.int (q : Int), rfl, rfl, SqL.of hpa4, by rw [es2]; exact atI_nat (nV_get hq), _, _, _, V.int (gi ((addAt G d p1 many).getD d []) q), rfl, rfl, SqL.of hrow2, atI_nat (iV_get (by omega)), ?_⟩
        refine ⟨_, rfl, _, _, rfl, rfl, _, _, _, _, rfl, rfl, hrow2, ixN_nat (by rw [hil]; omega), ?_⟩
        have rbm : rb ∈ aO :: aR :: rows := List.mem_cons_of_mem _ (List.mem_cons_of_mem _ (List.mem_of_getElem? hrb))
        refine ⟨addAt (addAt G d p1 many) d q (-many), _, rfl, F04.trans (.set rbm ⟨_, hrow2⟩), ?_, hS4.addAt hdn _, ?_⟩
        · rw [iV_set]
          exact M4.setG hrb _
        · rw [eprev, ← hmv]
          rfl
    · rintro σ H3 ⟨G, v3, rfl, F3, M3, hS3, hmv⟩
      rw [← hc, List.drop_length] at hmv
      refine k _ F3 ?_
      rw [hSfin, ← hmv]
      have : moveM many (prev c) [] G = G := by
        cases prev c <;> rfl
      rw [this]
      exact M3
end
end Dr

set_option maxHeartbeats 8000000
/-! Fill one, fill all. -/
namespace Dr
open PySem PySem.Spec PyProof.Rows L2
theorem FrM.new {M : List Addr} {H H' : Hp} {p : Addr} {o : HO} (f : FrM M H H') (h : H p = none) : FrM M H (upd H' p o) := ⟨fun x o' e n => by
    rw [upd_ne (ne_of_none e h)]
    exact f.keep x o' e n, fun x e => by
    by_cases q : x = p
    · rw [q]
      exact h
    · rw [upd_ne q] at e
      exact f.dom x e⟩
theorem NetM.upd {Hs H : Hp} {aO aR : Addr} {rows : List Addr} {S : St} (M : NetM Hs H aO aR rows S) {p : Addr} {o : HO} (h : Hs p = none) (hn : p ∉ aO :: aR :: rows) : NetM Hs (upd H p o) aO aR rows S := by
  have h1 : aO ≠ p := fun e => hn (by rw [e]; exact List.mem_cons_self)
  have h2 : aR ≠ p := fun e => hn (by rw [e]; simp)
  refine ⟨same_new M.same h, M.nd, M.new, by rw [upd_ne h1]; exact M.o, by rw [upd_ne h2]; exact M.r, ?_⟩
  refine paired_of (Paired.length M.g) fun j a row hj hr => ?_
  obtain ⟨row', e1, e2⟩ := Paired.at M.g hj
  rw [hr] at e1
  cases e1
  have h3 : a ≠ p := fun e => hn (by rw [← e]; exact List.mem_cons_of_mem _ (List.mem_cons_of_mem _ (List.mem_of_getElem? hj)))
  rw [upd_ne h3]
  exact e2
theorem NetM.fresh {Hs H : Hp} {aO aR : Addr} {rows : List Addr} {S : St} (M : NetM Hs H aO aR rows S) {p : Addr} (h : H p = none) : Hs p = none ∧ p ∉ aO :: aR :: rows := by
  refine ⟨M.same.free h, fun hm => ?_⟩
  rcases List.mem_cons.mp hm with e | hm
  · rw [e, M.o] at h
    cases h
  · rcases List.mem_cons.mp hm with e | hm
    · rw [e, M.r] at h
      cases h
    · obtain ⟨j, hj⟩ := List.mem_iff_getElem?.mp hm
      obtain ⟨row, _, e⟩ := Paired.at M.g hj
      rw [h] at e
      cases e
theorem pls_len : ∀ {P : List Nat}, P.length % 2 = 0 → P.length = 2 * (pls P).length
  | [], _ => rfl
  | [_], h => by simp at h
  | _ :: _ :: r, h => by
    have := pls_len (P := r) (by simp only [List.length_cons] at h; omega)
    simp only [List.length_cons, pls]
    omega
theorem fillA_snoc (lots : List (List Nat)) : ∀ (ds : List Nat) (d : Nat) (S : St), fillA lots (ds ++ [d]) S = (fillM lots d (gi (fillA lots ds S).owed d).toNat 0 (fillA lots ds S)).2
  | [], _, _ => rfl
  | x :: r, d, S => by
    show fillA lots (r ++ [d]) _ = _
    rw [fillA_snoc lots r d]
    rfl
section
variable {P : Program} {w : World} {K : PySem.W.Frag} {mg : Str → Option Value} {base : Heap}
abbrev s_fill : Stmt := inClass (topS 21) 12
theorem sc_fill : FnScope ["self", "at", "found", "path", "many"] ["self", "at"] (defScope s_fill) := ⟨rfl, rfl, rfl, by decide +kernel, rfl, by decide +kernel, by decide +kernel⟩
def sp_fill (C : Addr) : Sp := fun vs H Q _ => ∃ (Hs : Hp) (p aO aR aG : Addr) (nms PL : List Str) (lots : List (List Nat)) (rows : List Addr) (S : St) (n m d : Nat) (amt cap : Nat → Int), vs = [.ref p, .int (d : Int)] ∧ NetS C Hs p nms PL lots aO aR aG rows ∧ NetM Hs H aO aR rows S ∧ Flow n m lots amt cap S ∧ lots.length = n ∧
  (∀ k, k < n → ∀ q ∈ lots.getD k [], q < m) ∧ n ≤ 24 ∧ m ≤ 500 ∧ d < n ∧ ∀ v H', FrM (aO :: aR :: rows) H H' → NetM Hs H' aO aR rows (fillM lots d (gi S.owed d).toNat 0 S).2 → Q (.int v) H'
theorem ok_fill {f C ba : Addr} {fd : FuncData} (F : Fun K "fill" "Network.fill" s_fill f fd) (T : Tx K mg) (TN : TxN K C) (hba : ∀ H', SqT K H' ba []) (A_path : Mth P w K mg base C 2 "path" ["self", "starts", "barred"] [.ref ba] (sp_path K C)) (A_room : Mth P w K mg base C 1 "room" ["self", "path"] [] (sp_room C)) (A_move : Mth P w K mg base C 1 "move" ["self", "path", "many"] [] (sp_move C)) :
    FnOk P w K mg base CX0 3 f fd ["self", "at"] (sp_fill C) := by
  refine F.ok sc_fill (fun vs H Q E h => ?_) (fun cdv A outer s H vs Q E hr h => ?_)
  · obtain ⟨Hs, p, aO, aR, aG, nms, PL, lots, rows, S, n, m, d, amt, cap, rfl, _⟩ := h
    rfl
  · obtain ⟨Hs, p, aO, aR, aG, nms, PL, lots, rows, S, n, m, d, amt, cap, rfl, NS, NM, FL, hll, hlm, hn24, hm500, hdn, k⟩ := h
    obtain ⟨dx, aN, aP, apl, aL, lo, hp, _⟩ := NS.ex
    -- slots 0:self 1:at 2:found 3:path 4:many
    refine ⟨_, (pss_cons (ps_set (i := 2) sc_fill.nd rfl (Or.inl rfl) (pe_int))
    (pss_cons (ps_while PassesOwn.never (pt_cmpR op_gt (pe_ix (ix_list : IxR _ (rIxL K)) (pe_fld (pv 0) rfl) (pv 1) (fun _ _ => rfl)) (pe_int) (nomark _))
      (pss_cons (ps_set (i := 3) sc_fill.nd rfl (Or.inl rfl) (pe_meth (pv 0) TN.cl A_path.m A_path.G (hr.mono (by decide)) A_path.b A_path.v pass0 (pa_cons (pe_lst (pa_cons (pv 1) pa_nil)) pa_nil)))
      (pss_cons (ps_if (pt_cmp (pc_isN (pv 3)))
        (pss_one ps_break) pss_nil)
      (pss_cons (ps_set (i := 4) sc_fill.nd rfl (Or.inl rfl) (pe_meth (pv 0) TN.cl A_room.m A_room.G (hr.mono (by decide)) A_room.b A_room.v pass0 (pa_cons (pv 3) pa_nil)))
      (pss_cons (ps_expr (pe_meth (pv 0) TN.cl A_move.m A_move.G (hr.mono (by decide)) A_move.b A_move.v pass0 (pa_cons (pv 3) (pa_cons (pv 4) pa_nil))))
      (pss_one (ps_set (i := 2) sc_fill.nd rfl (Or.inl rfl) (pe_op op_add (pv 2) (pv 4)))))))))
    (pss_one (ps_ret (pv 2))))), ?_⟩
    generalize hRES : fillM lots d (gi S.owed d).toNat 0 S = RES at k
    let W : Nat → L2.St → Hp → Prop := fun ff σ H' => ∃ (S' : St) (fnd : Int) (v3 v4 : Option V), σ = [some (.ref p), some (.int (d : Int)), some (.int fnd), v3, v4] ∧ FrM (aO :: aR :: rows) H H' ∧ NetM Hs H' aO aR rows S' ∧ Flow n m lots amt cap S' ∧ gi S'.owed d ≤ ff ∧ fillM lots d ff fnd S' = RES
    refine ⟨W, ⟨_, S, 0, none, none, rfl, FrM.refl _ _, NM, FL, Int.self_le_toNat _, hRES⟩, ?_⟩
    rintro ff σ H1 ⟨S', fnd, v3, v4, rfl, F1, M1, FL1, hle, hres⟩
    refine ⟨_, rfl, p, C, dx, _, _, rfl, M1.same _ _ hp, TN.cl, TN.nO, fl_owed _ _ _ _ _ _ _, _, rfl, _, _, _, V.int (gi S'.owed d), rfl, rfl, SqL.of M1.o, atI_nat (iV_get (by rw [FL1.lo]; exact hdn)), _, _, rfl, rfl, _, rfl, ?_⟩
    refine ite2 (fun hc => ?_) (fun hc => ?_)
    · have hc : 0 < gi S'.owed d := of_decide_eq_true hc
      obtain ⟨f', rfl⟩ : ∃ f', ff = f' + 1 := ⟨ff - 1, by omega⟩
      unfold fillM at hres
      rw [if_pos hc] at hres
      refine ⟨fun σ' H' => ∃ m', m' < f' + 1 ∧ W m' σ' H', fun _ _ h => h, ?_⟩
      refine ⟨_, rfl, p, dx, _, rfl, M1.same _ _ hp, fl_no _ _ _ _ _ _ _ (by decide +kernel) (by decide +kernel) (by decide +kernel) (by decide +kernel) (by decide +kernel) (by decide +kernel) (by decide +kernel), _, rfl, by show 1 ≤ sizeLine; decide, fun st hst => ?_⟩
      have Sst := same_upd (o := .lst [.int (d : Int)]) hst
      have M2 := M1.keep Sst
      refine ⟨Hs, p, st, ba, aO, aR, aG, nms, PL, lots, rows, S', n, m, d, rfl, NS, M2, FL1.sh, FL1.lr, hll, hlm, hn24, by omega, hdn, upd_same, hba, fun x H3 S3 hx => ?_⟩
      have M3 := M2.keep S3
      have F3 : FrM (aO :: aR :: rows) H H3 := F1.trans (FrM.of_same (Sst.trans S3))
      rcases path_ok (rests := S'.rests) FL1.sh.len hdn hlm with ⟨PP, L, ep, hP, hnd, hh⟩ | ⟨ep, _⟩
      · rw [ep] at hres hx
        obtain ⟨pa, rfl, hpa0, hpa⟩ := hx
        refine ⟨_, rfl, _, rfl, iteF ?_⟩
        have e0 : PP.headD 0 = d := by
          obtain ⟨_, h2, _⟩ := hP.head
          rw [h2] at hh
          exact Option.some.inj hh
        have hPl : PP.length ≤ 1000 := by
          have h1 := pls_len hP.even.1
          have h2 : (pls PP).length ≤ (List.range m).length := List.Nodup.length_le_of_subset hnd fun x hx => List.mem_range.mpr (hP.mem.2 x hx)
          rw [List.length_range] at h2
          omega
        obtain ⟨r1, r2, r3, r4⟩ := flow_move FL1 hP hnd (by rw [e0]; exact hc)
        have hpaM := (M2.fresh hpa0).2
        -- many = self.room(path)
        refine ⟨_, rfl, p, dx, _, rfl, M3.same _ _ hp, fl_no _ _ _ _ _ _ _ (by decide +kernel) (by decide +kernel) (by decide +kernel) (by decide +kernel) (by decide +kernel) (by decide +kernel) (by decide +kernel), _, rfl, Hs, p, pa, aO, aR, aG, nms, PL, lots, rows, S', n, m, L, PP, rfl, NS, M3, FL1.sh, FL1.lo, FL1.lr, hPl, hpa, hP, ?_⟩
        -- self.move(path, many)
        refine ⟨_, rfl, p, dx, _, rfl, M3.same _ _ hp, fl_no _ _ _ _ _ _ _ (by decide +kernel) (by decide +kernel) (by decide +kernel) (by decide +kernel) (by decide +kernel) (by decide +kernel) (by decide +kernel), _, rfl, _, rfl, Hs, p, pa, aO, aR, aG, nms, PL, lots, rows, S', n, m, L, PP, roomS S' PP, rfl, NS, M3, FL1.sh, FL1.lo, FL1.lr, hPl, hpa, hpaM, hP, fun H4 F4 M4 => ?_⟩
        refine ⟨_, rfl, _, rfl, _, _, rfl, rfl, ?_⟩
        refine ⟨f', by omega, _, _, _, _, rfl, F3.trans F4, M4, r3, ?_, hres⟩
        rw [r4, e0, if_pos rfl]
        omega
      · rw [ep] at hres hx
        have hx : x = .non := hx
        subst hx
        refine ⟨_, rfl, _, rfl, iteT ?_⟩
        have hres : (fnd, S') = RES := hres
        refine ⟨_, rfl, k _ _ F3 ?_⟩
        rw [← hres]
        exact M3
    · have hc : ¬ 0 < gi S'.owed d := of_decide_eq_false (by simpa using hc)
      have hres : (fnd, S') = RES := by
        cases ff with
        | zero => exact hres
        | succ f' =>
          unfold fillM at hres
          rw [if_neg hc] at hres
          exact hres
      refine ⟨_, rfl, k _ _ F1 ?_⟩
      rw [← hres]
      exact M1
abbrev s_fill_all : Stmt := inClass (topS 21) 13
theorem sc_fill_all : FnScope ["self", "at"] ["self"] (defScope s_fill_all) := ⟨rfl, rfl, rfl, by decide +kernel, rfl, by decide +kernel, by decide +kernel⟩
def sp_fillAll (C : Addr) : Sp := fun vs H Q _ => ∃ (Hs : Hp) (p aO aR aG : Addr) (nms PL : List Str) (lots : List (List Nat)) (rows : List Addr) (S : St) (n m : Nat) (amt cap : Nat → Int), vs = [.ref p] ∧ NetS C Hs p nms PL lots aO aR aG rows ∧ NetM Hs H aO aR rows S ∧ Flow n m lots amt cap S ∧ lots.length = n ∧ nms.length = n ∧
  (∀ k, k < n → ∀ q ∈ lots.getD k [], q < m) ∧ n ≤ 24 ∧ m ≤ 500 ∧ ∀ v H', FrM (aO :: aR :: rows) H H' → NetM Hs H' aO aR rows (fillA lots (List.range n) S) → Q (.int v) H'
theorem ok_fillAll {f C : Addr} {fd : FuncData} (F : Fun K "fill_all" "Network.fill_all" s_fill_all f fd) (T : Tx K mg) (TN : TxN K C) (A_fill : Mth P w K mg base C 3 "fill" ["self", "at"] [] (sp_fill C)) :
    FnOk P w K mg base CX0 4 f fd ["self"] (sp_fillAll C) := by
  refine F.ok sc_fill_all (fun vs H Q E h => ?_) (fun cdv A outer s H vs Q E hr h => ?_)
  · obtain ⟨Hs, p, aO, aR, aG, nms, PL, lots, rows, S, n, m, amt, cap, rfl, _⟩ := h
    rfl
  · obtain ⟨Hs, p, aO, aR, aG, nms, PL, lots, rows, S, n, m, amt, cap, rfl, NS, NM, FL, hll, hnl, hlm, hn24, hm500, k⟩ := h
    obtain ⟨dx, aN, aP, apl, aL, lo, hp, haN, _⟩ := NS.ex
    -- slots 0:self 1:at
    refine ⟨_, (pss_one (ps_ret (pe_callB (cr_sum rfl : CallR _ _ (rSum K)) (by rfl) T.sum_ (by decide +kernel) (pa_cons (pe_lc (own := [("at", 1)]) rfl sc_fill_all.nd (pi_range1 (by rfl) T.range_ (pa_cons (pe_callB (call_len_seq : CallR _ _ (rLenS K)) (by rfl) T.len_ PySem.boot_len (pa_cons (pe_fld (pv 0) rfl) pa_nil)) pa_nil)) (blkOk_by (N := ["self", "at"]) (sc := defScope s_fill_all) (by decide +kernel)) (fun _ _ _ _ _ => (pg_name (i := 1) sc_fill_all.nd rfl (Or.inl rfl))) (fun _ _ _ _ _ => pts_nil) (fun _ _ _ _ _ => pe_meth (pv 0) TN.cl A_fill.m A_fill.G (hr.mono (by decide)) A_fill.b A_fill.v pass0 (pa_cons (pv 1) pa_nil))) pa_nil)))), ?_⟩
    refine ⟨_, rfl, p, C, dx, _, _, rfl, NM.same _ _ hp, TN.cl, TN.nN, fl_names _ _ _ _ _ _ _, _, _, rfl, .inl (SqL.of (NM.same _ _ haN)), _, rfl, by omega, by rw [List.length_map]; omega, fun D hD => ?_⟩
    obtain ⟨hDs, hDM⟩ := NM.fresh hD
    rw [List.length_map, hnl]
    refine lc_range (lo := 0) (n := n) (fun i H' => ∃ ns : List Int, FrM (aO :: aR :: rows) H H' ∧ NetM Hs H' aO aR rows (fillA lots (List.range i) S) ∧ Flow n m lots amt cap (fillA lots (List.range i) S) ∧ H' D = some (.lst (ns.map V.int)) ∧ ns.length = i)
      ⟨[], (FrM.refl _ _).new hD, NM.upd hDs hDM, FL, upd_same, rfl⟩ ?_ ?_
    · rintro i H1 hi ⟨ns, F1, M1, FL1, hL, hnsl⟩
      refine ⟨rfl, _, rfl, p, dx, _, rfl, M1.same _ _ hp, fl_no _ _ _ _ _ _ _ (by decide +kernel) (by decide +kernel) (by decide +kernel) (by decide +kernel) (by decide +kernel) (by decide +kernel) (by decide +kernel), _, rfl, Hs, p, aO, aR, aG, nms, PL, lots, rows, _, n, m, i, amt, cap, by rw [Int.zero_add]; rfl, NS, M1, FL1, hll, hlm, hn24, hm500, hi, fun v H2 F2 M2 => ?_⟩
      have hL2 := F2.keep _ _ hL hDM
      have FL2 := (fill_ok hlm hi (gi (fillA lots (List.range i) S).owed i).toNat 0 (fillA lots (List.range i) S) [] (Int.self_le_toNat _) (by simp) FL1 (fun k hk => by cases hk)).1
      refine ⟨_, hL2, ?_, ns ++ [v], (F1.trans F2).new hD, ?_, ?_, ?_, ?_⟩
      · rw [List.length_map]
        exact Nat.lt_of_le_of_lt (show ns.length ≤ 24 by omega) (by decide)
      · rw [List.range_succ, fillA_snoc]
        exact M2.upd hDs hDM
      · rw [List.range_succ, fillA_snoc]
        exact FL2
      · rw [upd_same, List.map_append]
        rfl
      · rw [List.length_append, hnsl]
        rfl
    · rintro H1 ⟨ns, F1, M1, FL1, hL, hnsl⟩
      exact ⟨_, _, rfl, SqL.of hL, k _ _ F1 M1⟩
end
end Dr

set_option maxHeartbeats 8000000
/-! The plan told. -/
namespace Dr
open PySem PySem.Spec PyProof.Rows L2
/-- the entries of a row, of the first rows -/
def entR (a : Str) (PL : List Str) (row : List Int) (j : Nat) : List Ent := ((List.range j).filter fun p => decide (0 < gi row p)).map fun p => ((a, PL.getD p ""), gi row p)
def entG (nms PL : List Str) (G : List (List Int)) (m i : Nat) : List Ent := (List.range i).flatMap fun d => entR (nms.getD d "") PL (G.getD d []) m
theorem entR_succ (a : Str) (PL : List Str) (row : List Int) (j : Nat) : entR a PL row (j + 1) = entR a PL row j ++ (if 0 < gi row j then [((a, PL.getD j ""), gi row j)] else []) := by
  unfold entR
  rw [List.range_succ, List.filter_append, List.map_append]
  by_cases c : 0 < gi row j
  · rw [if_pos c]
    simp [c]
  · rw [if_neg c]
    simp [c]
theorem entG_succ (nms PL : List Str) (G : List (List Int)) (m i : Nat) : entG nms PL G m (i + 1) = entG nms PL G m i ++ entR (nms.getD i "") PL (G.getD i []) m := by
  unfold entG
  rw [List.range_succ, List.flatMap_append]
  simp
theorem mem_entR {a : Str} {PL : List Str} {row : List Int} {j : Nat} {e : Ent} : e ∈ entR a PL row j ↔ ∃ p, p < j ∧ 0 < gi row p ∧ e = ((a, PL.getD p ""), gi row p) := by
  unfold entR
  rw [List.mem_map]
  constructor
  · rintro ⟨p, hp, rfl⟩
    obtain ⟨h1, h2⟩ := List.mem_filter.mp hp
    exact ⟨p, List.mem_range.mp h1, of_decide_eq_true h2, rfl⟩
  · rintro ⟨p, h1, h2, rfl⟩
    exact ⟨p, List.mem_filter.mpr ⟨List.mem_range.mpr h1, decide_eq_true h2⟩, rfl⟩
theorem mem_entG {nms PL : List Str} {G : List (List Int)} {m i : Nat} {e : Ent} : e ∈ entG nms PL G m i ↔ ∃ d p, d < i ∧ p < m ∧ 0 < at2 G d p ∧ e = ((nms.getD d "", PL.getD p ""), at2 G d p) := by
  unfold entG
  rw [List.mem_flatMap]
  constructor
  · rintro ⟨d, hd, he⟩
    obtain ⟨p, h1, h2, h3⟩ := mem_entR.mp he
    exact ⟨d, p, List.mem_range.mp hd, h1, h2, h3⟩
  · rintro ⟨d, p, h1, h2, h3, h4⟩
    exact ⟨d, List.mem_range.mpr h1, mem_entR.mpr ⟨p, h2, h3, h4⟩⟩
theorem getD_inj {l : List Str} (h : l.Nodup) {i j : Nat} (hi : i < l.length) (hj : j < l.length) (e : l.getD i "" = l.getD j "") : i = j := by
  rw [List.getD_eq_getElem?_getD, List.getD_eq_getElem?_getD, List.getElem?_eq_getElem hi, List.getElem?_eq_getElem hj] at e
  exact (List.getElem_inj h).mp e
theorem entR_len (a : Str) (PL : List Str) (row : List Int) (j : Nat) : (entR a PL row j).length ≤ j := by
  unfold entR
  rw [List.length_map]
  have := List.length_filter_le (fun p => decide (0 < gi row p)) (List.range j)
  rw [List.length_range] at this
  exact this
theorem entG_len (nms PL : List Str) (G : List (List Int)) (m : Nat) : ∀ i, (entG nms PL G m i).length ≤ i * m
  | 0 => by simp [entG]
  | i + 1 => by
    rw [entG_succ, List.length_append]
    have h1 := entG_len nms PL G m i
    have h2 := entR_len (nms.getD i "") PL (G.getD i []) m
    rw [Nat.succ_mul]
    omega
/-- the next key is new -/
theorem ent_new {nms PL : List Str} {G : List (List Int)} {m i j : Nat} (hn : nms.Nodup) (hp : PL.Nodup) (hi : i < nms.length) (hm : PL.length = m) (hj : j < m) :
    (nms.getD i "", PL.getD j "") ∉ (entG nms PL G m i ++ entR (nms.getD i "") PL (G.getD i []) j).map (·.1) := by
  intro h
  obtain ⟨e, he, ek⟩ := List.mem_map.mp h
  rcases List.mem_append.mp he with he | he
  · obtain ⟨d, p, h1, h2, h3, rfl⟩ := mem_entG.mp he
    have := getD_inj hn (by omega) hi (congrArg Prod.fst ek)
    omega
  · obtain ⟨p, h1, h2, rfl⟩ := mem_entR.mp he
    have := getD_inj hp (by omega) (by omega) (congrArg Prod.snd ek)
    omega
theorem lookup_none {E : List Ent} {k : Str × Str} (h : k ∉ E.map (·.1)) : E.lookup k = none := by
  rw [List.lookup_eq_none_iff]
  intro e he
  exact bne_iff_ne.mpr fun q => h (List.mem_map.mpr ⟨e, he, q.symm⟩)
theorem put_plT {E : List Ent} {k : Str × Str} {v : Int} (h : k ∉ E.map (·.1)) : putK (plT E) (keyT k) (.int v) = plT (E ++ [(k, v)]) := by
  rw [putK_new]
  · unfold plT
    rw [List.map_append]
    rfl
  · rw [valV_plT, lookup_none h]
    rfl
theorem nd_snoc {E : List Ent} {k : Str × Str} {v : Int} (hn : (E.map (·.1)).Nodup) (h : k ∉ E.map (·.1)) : ((E ++ [(k, v)]).map (·.1)).Nodup := by
  rw [List.map_append]
  refine List.nodup_append.mpr ⟨hn, by simp, fun a ha b hb e => ?_⟩
  have : b = k := by simpa using hb
  exact h (by rw [← this, ← e]; exact ha)
theorem ent_again {E : List Ent} (h : (E.map (·.1)).Nodup) : (E.map (·.1)).map (fun k => (k, (E.lookup k).getD 0)) = E := by
  rw [List.map_map]
  have : ∀ e ∈ E, ((fun k => (k, (E.lookup k).getD 0)) ∘ fun e : Ent => e.1) e = e := fun e he => by
    show (e.1, (E.lookup e.1).getD 0) = e
    rw [lookup_nd h he]
    rfl
  rw [List.map_congr_left this]
  simp
theorem strictP {ks : List (Str × Str)} (h : ks.Pairwise (fun a b => plt b a = false)) (hn : ks.Nodup) : ks.Pairwise (fun a b => plt a b = true) := by
  refine List.Pairwise.imp₂ (fun {a b} h1 h2 => ?_) h hn
  cases e : plt a b with
  | true => rfl
  | false => exact absurd (plt_conn e h1) h2
section
variable {P : Program} {w : World} {K : PySem.W.Frag} {mg : Str → Option Value} {base : Heap}
abbrev s_plan : Stmt := inClass (topS 21) 5
theorem sc_plan : FnScope ["self", "found", "at", "row", "place", "many", "pair"] ["self"] (defScope s_plan) := ⟨rfl, rfl, rfl, by decide +kernel, rfl, by decide +kernel, by decide +kernel⟩
def sp_plan (C : Addr) : Sp := fun vs H Q _ => ∃ (Hs : Hp) (p aO aR aG : Addr) (nms PL : List Str) (lots : List (List Nat)) (rows : List Addr) (S : St) (n m : Nat), vs = [.ref p] ∧ NetS C Hs p nms PL lots aO aR aG rows ∧ NetM Hs H aO aR rows S ∧ Sh S.G n m ∧ nms.length = n ∧ PL.length = m ∧ nms.Nodup ∧ PL.Nodup ∧ n ≤ 24 ∧ m ≤ 288 ∧
  ∀ R E H', Same H H' → H R = none → H' R = some (.dT (plT E)) → E.Perm (entG nms PL S.G m n) → (E.map (·.1)).Pairwise (fun a b => plt a b = true) → Q (.ref R) H'
theorem ok_plan {f C : Addr} {fd : FuncData} (F : Fun K "plan" "Network.plan" s_plan f fd) (T : Tx K mg) (TN : TxN K C) : FnOk P w K mg base CX0 1 f fd ["self"] (sp_plan C) := by
  refine F.ok sc_plan (fun vs H Q E h => ?_) (fun cdv A outer s H vs Q E hr h => ?_)
  · obtain ⟨Hs, p, aO, aR, aG, nms, PL, lots, rows, S, n, m, rfl, _⟩ := h
    rfl
  · obtain ⟨Hs, p, aO, aR, aG, nms, PL, lots, rows, S, n, m, rfl, NS, NM, hSh, hnl, hml, hnn, hpn, hn24, hm288, k⟩ := h
    have hu := hu_of hr
    obtain ⟨⟨dx, aN, aP, apl, aL, lo, hp, haN, haP, haL, hlo⟩, haG⟩ := NS
    have hrowl : rows.length = n := (Paired.length NM.g).trans hSh.len
    -- slots 0:self 1:found 2:at 3:row 4:place 5:many 6:pair
    refine ⟨_, (pss_cons (ps_set (i := 1) sc_plan.nd rfl (Or.inr rfl) pe_dnewT)
    (pss_cons (ps_for PassesOwn.never rfl (pi_enum (by rfl) T.enumerate_ (pa_cons (pe_fld (pv 0) rfl) pa_nil) : PI _ _ _ (iEnum K _)) (pg_tup (by rfl) (pgs_cons (pg_name (i := 2) sc_plan.nd rfl (Or.inl rfl)) (pgs_cons (pg_name (i := 3) sc_plan.nd rfl (Or.inl rfl)) pgs_nil)) : PG _ _ (gTup K 2 _))
      (pss_one (ps_for PassesOwn.never rfl (pi_enum (by rfl) T.enumerate_ (pa_cons (pv 3) pa_nil) : PI _ _ _ (iEnum K _)) (pg_tup (by rfl) (pgs_cons (pg_name (i := 4) sc_plan.nd rfl (Or.inl rfl)) (pgs_cons (pg_name (i := 5) sc_plan.nd rfl (Or.inl rfl)) pgs_nil)) : PG _ _ (gTup K 2 _))
        (pss_one (ps_if (pt_cmpR op_gt (pv 5) (pe_int) (nomark _))
          (pss_one (ps_dput hu (pv 1) (pe_tup (pa_cons (pe_ix (ix_list : IxR _ (rIxL K)) (pe_fld (pv 0) rfl) (pv 2) (fun _ _ => rfl)) (pa_cons (pe_ix (ix_list : IxR _ (rIxL K)) (pe_fld (pv 0) rfl) (pv 4) (fun _ _ => rfl)) pa_nil))) (pv 5) rfl)) pss_nil)))))
    (pss_one (ps_ret (pe_dcT (own := [("pair", 6)]) rfl hu sc_plan.nd (pi_list (pe_callB (cr_sortSP : CallR _ _ (rSortSP K)) (by rfl) T.sorted_ (by decide +kernel) (pa_cons (pe_callTy (call_list_dT rfl) (by rfl) T.list_ (by decide +kernel) (pa_cons (pv 1) pa_nil)) pa_nil)) : PI _ _ _ (iList K _)) (blkOk_by (N := ["self", "found", "at", "row", "place", "many", "pair"]) (sc := defScope s_plan) (by decide +kernel)) (fun _ _ _ _ _ => (pg_name (i := 6) sc_plan.nd rfl (Or.inl rfl))) (fun _ _ _ _ _ => pts_nil) (fun _ _ _ _ _ => pv 6) (fun _ _ _ _ _ => pe_dget hu (pv 1) (pv 6) (fun _ _ => rfl))))))), ?_⟩
    intro fo hfo
    have S1 := same_upd (o := .dT []) hfo
    refine ⟨_, rfl, p, C, dx, _, _, rfl, S1 _ _ (NM.same _ _ hp), TN.cl, TN.nG, fl_given _ _ _ _ _ _ _, _, _, rfl, SqL.of (S1 _ _ (NM.same _ _ haG)), ?_⟩
    refine for_it (walk_enum (xs := rows.map V.ref)) (fun i σ H' => ∃ (v2 v3 v4 v5 : Option V), σ = [some (.ref p), some (.ref fo), v2, v3, v4, v5, none] ∧ Same H H' ∧ H' fo = some (.dT (plT (entG nms PL S.G m i))) ∧ ((entG nms PL S.G m i).map (·.1)).Nodup)
      ⟨none, none, none, none, rfl, S1, upd_same, by simp [entG]⟩ (fun i σ H' _ ⟨_, _, _, _, _, S, _⟩ => SqL.of (S _ _ (NM.same _ _ haG))) ?_ ?_
    · rintro i x σ H1 H2 hi ⟨v2, v3, v4, v5, rfl, S2, hf, hnd⟩ ⟨T0, x0, y0, rfl, hT0, rfl, ex, ey⟩
      cases (Option.some.inj ex)
      obtain ⟨ra, hrai, rfl⟩ := get_map ey
      have hin : i < n := by
        rw [List.length_map] at hi
        omega
      have ST := same_upd (o := .tup [.int (i : Nat), .ref ra]) hT0
      have S3 := S2.trans ST
      have NM3 := NM.keep S3
      obtain ⟨ra', hra', hraR, hrow, hrl⟩ := row_at NM3 hSh hin
      rw [hrai] at hra'
      cases hra'
      have hil : (iV (S.G.getD i [])).length = m := by
        unfold iV
        rw [List.length_map, hrl]
      refine ⟨_, _, rfl, SqT.of upd_same, rfl, _, _, rfl, _, _, rfl, rfl, ?_⟩
      refine ⟨_, rfl, _, _, rfl, SqL.of hrow, ?_⟩
      refine for_it (walk_enum (xs := iV (S.G.getD i []))) (fun j σ H' => ∃ (v4 v5 : Option V), σ = [some (.ref p), some (.ref fo), some (.int (i : Nat)), some (.ref ra), v4, v5, none] ∧ Same H H' ∧ H' fo = some (.dT (plT (entG nms PL S.G m i ++ entR (nms.getD i "") PL (S.G.getD i []) j))) ∧ ((entG nms PL S.G m i ++ entR (nms.getD i "") PL (S.G.getD i []) j).map (·.1)).Nodup)
        ⟨v4, v5, rfl, S3, by rw [show entR (nms.getD i "") PL (S.G.getD i []) 0 = [] from rfl, List.append_nil]; exact ST _ _ hf, by rw [show entR (nms.getD i "") PL (S.G.getD i []) 0 = [] from rfl, List.append_nil]; exact hnd⟩ (fun j σ H' _ ⟨_, _, _, S, _⟩ => SqL.of (by
          obtain ⟨ra2, h1, _, h3, _⟩ := row_at (NM.keep S) hSh hin
          rw [hrai] at h1
          cases h1
          exact h3)) ?_ ?_
      · rintro j x σ H4 H5 hj ⟨v4, v5, rfl, S4, hf4, hnd4⟩ ⟨T1, x1, y1, rfl, hT1, rfl, ex1, ey1⟩
        cases (Option.some.inj ex1)
        have hjm : j < m := by omega
        have hyj : (iV (S.G.getD i []))[j]? = some y1 := ey1
        rw [iV_get (by omega)] at hyj
        cases (Option.some.inj hyj)
        have ST1 := same_upd (o := .tup [.int (j : Nat), .int (gi (S.G.getD i []) j)]) hT1
        have S5 := S4.trans ST1
        refine ⟨_, _, rfl, SqT.of upd_same, rfl, _, _, rfl, _, _, rfl, rfl, ?_⟩
        refine ⟨_, rfl, _, _, rfl, rfl, _, rfl, ?_⟩
        rw [entR_succ]
        refine ite2 (fun hc => ?_) (fun hc => ?_)
        · have hc : 0 < gi (S.G.getD i []) j := of_decide_eq_true hc
          rw [if_pos hc]
          have hnm : (nms.map V.str)[i]? = some (.str (nms.getD i "")) := by
            rw [List.getElem?_map, List.getD_eq_getElem?_getD, List.getElem?_eq_getElem (by omega)]
            rfl
          have hpl : (PL.map V.str)[j]? = some (.str (PL.getD j "")) := by
            rw [List.getElem?_map, List.getD_eq_getElem?_getD, List.getElem?_eq_getElem (by omega)]
            rfl
          refine ⟨_, rfl, _, rfl, ?_⟩
          refine ⟨_, rfl, p, C, dx, _, _, rfl, S5 _ _ (NM.same _ _ hp), TN.cl, TN.nN, fl_names _ _ _ _ _ _ _, _, rfl, _, _, _, V.str (nms.getD i ""), rfl, rfl, SqL.of (S5 _ _ (NM.same _ _ haN)), atI_nat hnm, ?_⟩
          refine ⟨_, rfl, p, C, dx, _, _, rfl, S5 _ _ (NM.same _ _ hp), TN.cl, TN.nP, fl_parcels _ _ _ _ _ _ _, _, rfl, _, _, _, V.str (PL.getD j ""), rfl, rfl, SqL.of (S5 _ _ (NM.same _ _ haP)), atI_nat hpl, ?_⟩
          refine ⟨by show 2 ≤ sizeLine; decide, fun kb hkb => ?_⟩
          have Sk := same_upd (o := .tup [.str (nms.getD i ""), .str (PL.getD j "")]) hkb
          have hf6 := Sk _ _ (ST1 _ _ hf4)
          have hnew := ent_new (G := S.G) hnn hpn (show i < nms.length by omega) hml hjm
          refine ⟨_, _, rfl, DPut.t (k := keyT (nms.getD i "", PL.getD j "")) hf6 upd_same ?_, ?_⟩
          · unfold plT
            rw [List.length_map, List.length_append]
            have h1 := entG_len nms PL S.G m i
            have h2 := entR_len (nms.getD i "") PL (S.G.getD i []) j
            have h3 : i * m ≤ 24 * 288 := Nat.mul_le_mul (by omega) hm288
            exact Nat.lt_of_le_of_lt (show _ ≤ 10000 by omega) (by decide)
          · rw [put_plT hnew, ← List.append_assoc]
            exact ⟨_, _, rfl, same_new (S5.trans Sk) hfo, upd_same, nd_snoc hnd4 hnew⟩
        · have hc : ¬ 0 < gi (S.G.getD i []) j := of_decide_eq_false (by simpa using hc)
          rw [if_neg hc, List.append_nil]
          exact ⟨_, _, rfl, S5, ST1 _ _ hf4, hnd4⟩
      · rintro σ H4 ⟨v4, v5, rfl, S4, hf4, hnd4⟩
        rw [hil, ← entG_succ] at hf4 hnd4
        exact ⟨_, _, _, _, rfl, S4, hf4, hnd4⟩
    · rintro σ H1 ⟨v2, v3, v4, v5, rfl, S2, hf, hnd⟩
      rw [List.length_map, hrowl] at hf hnd
      have hE := entG_len nms PL S.G m n
      have hE2 : n * m ≤ 24 * 288 := Nat.mul_le_mul hn24 hm288
      generalize hE0 : entG nms PL S.G m n = E0 at hf hnd hE k
      -- sorted(list(found))
      refine ⟨_, rfl, _, _, rfl, .inl hf, fun p1 bs hp1 hks => ?_⟩
      have Sp1 := same_upd (o := .lst (bs.map V.ref)) hp1
      have kp := keys_pair hks
      have hbl := Paired.length kp
      have ez : (bs.zip (E0.map (·.1))).map (fun e => V.ref e.1) = bs.map V.ref := by
        have : (bs.zip (E0.map (·.1))).map (·.1) = bs := List.map_fst_zip (by omega)
        show (bs.zip (E0.map (·.1))).map (V.ref ∘ Prod.fst) = _
        rw [← List.map_map, this]
      have hzk : ∀ e ∈ bs.zip (E0.map (·.1)), H1 e.1 = some (.tup [.str e.2.1, .str e.2.2]) := fun e he => by
        obtain ⟨j, hj⟩ := List.mem_iff_getElem?.mp he
        obtain ⟨h1, h2⟩ := List.getElem?_zip_eq_some.mp hj
        obtain ⟨k', h3, h4⟩ := Paired.at kp h1
        rw [h2] at h3
        cases h3
        exact h4
      refine ⟨_, bs.zip (E0.map (·.1)), rfl, by rw [ez]; exact SqL.of upd_same, fun e he => Sp1 _ _ (hzk e he), fun ks' p3 hperm hsort hp3 => ?_⟩
      have Sp3 := Sp1.trans (same_upd (o := .lst (ks'.map fun e => V.ref e.1)) hp3)
      have hkp : (ks'.map (·.2)).Perm (E0.map (·.1)) := by
        have := hperm.map (·.2)
        rw [show (bs.zip (E0.map (·.1))).map (·.2) = E0.map (·.1) from List.map_snd_zip (by omega)] at this
        exact this
      have hkn : (ks'.map (·.2)).Nodup := hkp.nodup_iff.mpr hnd
      let E1 : List Ent := (ks'.map (·.2)).map fun k => (k, (E0.lookup k).getD 0)
      have hE1p : E1.Perm E0 := by
        have := hkp.map fun k => ((k, (E0.lookup k).getD 0) : Ent)
        rw [ent_again hnd] at this
        exact this
      have hE1k : E1.map (·.1) = ks'.map (·.2) := by
        show ((ks'.map (·.2)).map fun k => ((k, (E0.lookup k).getD 0) : Ent)).map (·.1) = _
        rw [List.map_map]
        show (ks'.map (·.2)).map id = _
        simp
      have hE1l : E1.length = ks'.length := by
        show ((ks'.map (·.2)).map _).length = _
        rw [List.length_map, List.length_map]
      refine ⟨_, rfl, ⟨_, SqL.of upd_same⟩, fun D hD => ?_⟩
      refine dcT_it (walk_list (xs := ks'.map fun e => V.ref e.1)) (fun i H' => Same (upd (upd H1 p1 (.lst (bs.map V.ref))) p3 (.lst (ks'.map fun e => V.ref e.1))) H' ∧ H' D = some (.dT (plT (E1.take i)))) ⟨same_upd hD, upd_same⟩ (fun i H' _ ⟨S, _⟩ => SqL.of (S _ _ upd_same)) ?_ ?_
      · rintro i x H4 H5 hi ⟨S4, hDD⟩ ⟨rfl, hx⟩
        rw [List.getElem?_map] at hx
        cases q : ks'[i]? with
        | none =>
          rw [q] at hx
          cases hx
        | some e =>
          rw [q] at hx
          cases hx
          have hik := (List.getElem?_eq_some_iff.mp q).1
          have em := hperm.mem_iff.mp (List.mem_of_getElem? q)
          have hkb := S4 _ _ (Sp3 _ _ (hzk e em))
          have hfo4 := S4 _ _ (Sp3 _ _ hf)
          have hke : e.2 ∈ E0.map (·.1) := hkp.mem_iff.mp (List.mem_map.mpr ⟨e, List.mem_of_getElem? q, rfl⟩)
          obtain ⟨en, hen, hek⟩ := List.mem_map.mp hke
          have hlk : E0.lookup e.2 = some en.2 := by
            rw [← hek]
            exact lookup_nd hnd hen
          have hE1i : E1[i]? = some (e.2, en.2) := by
            show ((ks'.map (·.2)).map fun k => ((k, (E0.lookup k).getD 0) : Ent))[i]? = _
            rw [List.getElem?_map, List.getElem?_map, q]
            show some ((e.2, (E0.lookup e.2).getD 0) : Ent) = _
            rw [hlk]
            rfl
          refine ⟨rfl, _, rfl, _, rfl, _, rfl, _, V.int en.2, rfl, ?_, plT (E1.take i), keyT e.2, e.1, rfl, hkb, hDD, ?_, same_new S4 hD, ?_⟩
          · have g := DGet.t (k := keyT e.2) hfo4 hkb
            rw [valV_plT, hlk] at g
            exact g
          · unfold plT
            rw [List.length_map, List.length_take]
            have := hperm.length_eq
            rw [List.length_zip] at this
            rw [List.length_map] at hbl
            exact Nat.lt_of_le_of_lt (show _ ≤ 10000 by omega) (by decide)
          · rw [upd_same, put_plT, take_snoc hE1i]
            intro hm
            obtain ⟨e', he', hk'⟩ := List.mem_map.mp hm
            obtain ⟨j, hj⟩ := List.mem_iff_getElem?.mp he'
            have hji : j < i := by
              have := (List.getElem?_eq_some_iff.mp hj).1
              rw [List.length_take] at this
              omega
            rw [List.getElem?_take_of_lt hji] at hj
            have g1 : (E1.map (·.1))[j]? = some e.2 := by
              rw [List.getElem?_map, hj]
              exact congrArg some hk'
            have g2 : (E1.map (·.1))[i]? = some e.2 := by
              rw [List.getElem?_map, hE1i]
              rfl
            have hnd1 : (E1.map (·.1)).Nodup := by rw [hE1k]; exact hkn
            have := (List.getElem?_inj (List.getElem?_eq_some_iff.mp g1).1 hnd1).mp (g1.trans g2.symm)
            omega
      · rintro H4 ⟨S4, hDD⟩
        rw [List.length_map, ← hE1l, List.take_length] at hDD
        refine k D E1 H4 (S2.trans (Sp3.trans S4)) (S2.free (Sp3.free hD)) hDD hE1p ?_
        rw [hE1k]
        exact strictP (by rw [List.pairwise_map]; exact hsort) hkn
end
end Dr

set_option maxHeartbeats 16000000
/-! A network made. -/
namespace Dr
open PySem PySem.Spec PyProof.Rows L2
structure PLok (D : List Dem) (PL : List Str) : Prop where
  asc : PL.Pairwise (fun a b => slt a b = true)
  mem : ∀ z, z ∈ PL ↔ ∃ d ∈ D, z ∈ d.2.2
theorem PLok.nd {D : List Dem} {PL : List Str} (h : PLok D PL) : PL.Nodup := h.asc.imp fun {a b} x e => by
  rw [e, slt_irrefl] at x
  cases x
def ixOf : List Str → Str → Nat
  | [], _ => 0
  | x :: r, z => if x = z then 0 else ixOf r z + 1
theorem ixOf_ok : ∀ {l : List Str} {z : Str}, z ∈ l → ixOf l z < l.length ∧ l.getD (ixOf l z) "" = z
  | [], _, h => by cases h
  | x :: r, z, h => by
    unfold ixOf
    by_cases e : x = z
    · rw [if_pos e]
      exact ⟨Nat.succ_pos _, e⟩
    · rw [if_neg e]
      have h2 : z ∈ r := by
        rcases List.mem_cons.mp h with q | q
        · exact absurd q.symm e
        · exact q
      obtain ⟨h3, h4⟩ := ixOf_ok h2
      refine ⟨Nat.succ_lt_succ h3, ?_⟩
      rw [List.getD_eq_getElem?_getD, List.getElem?_cons_succ, ← List.getD_eq_getElem?_getD]
      exact h4
def lotsIx (PL : List Str) (D : List Dem) : List (List Nat) := D.map fun d => d.2.2.map (ixOf PL)
def amts (D : List Dem) : List Int := D.map (·.2.1)
theorem pfs {f g : Str} {v x : V} {r : List (Str × V)} (h : ¬ g = f) : putF f v ((g, x) :: r) = (g, x) :: putF f v r := if_neg h
/-- all but one object is as it was -/
def SX (p : Addr) (H H' : Hp) : Prop := ∀ b o, b ≠ p → H b = some o → H' b = some o
theorem SX.of {p : Addr} {H H' : Hp} (s : Same H H') : SX p H H' := fun b o _ e => s b o e
theorem SX.trans {p : Addr} {H H1 H2 : Hp} (a : SX p H H1) (b : SX p H1 H2) : SX p H H2 := fun c o n e => b c o n (a c o n e)
theorem SX.put {p : Addr} {H H' : Hp} {o : HO} (a : SX p H H') : SX p H (upd H' p o) := fun c u n e => by
  rw [upd_ne n]
  exact a c u n e
theorem SX.free {p x : Addr} {H H' : Hp} {o : HO} (a : SX p H H') (hp : H' p = some o) (h : H' x = none) : H x = none := by
  by_cases q : x = p
  · rw [q, hp] at h
    cases h
  · cases e : H x with
    | none => rfl
    | some u =>
      rw [a x u q e] at h
      cases h
theorem sc_out {w : World} {J : It} {n : Nat} {G : Hp → Prop} {Y : Nat → Hp → V → Hp → Prop} (wk : Walk J n G Y) {wi1 : TI} {g g1 : TG} {te : TE} {vs vs1 : List Nat} {σ : L2.St} {H1 : Hp} {D : Addr} {Qd : Hp → Prop} (Pv : Nat → Hp → Prop) (h0 : Pv 0 (upd H1 D (SetSO w D []))) (hG : ∀ i H, i ≤ n → Pv i H → G H)
    (hs : ∀ i x H H', i < n → Pv i H → Y i H x H' → g x (wipe σ vs) H' fun σ2 H2 => wipe σ2 vs = wipe σ vs ∧
      wi1 σ2 H2 fun J1 H4 => ∃ W1 : Nat → Nat → Hp → Prop, (∃ m, W1 0 m H4) ∧ ∀ j k H, W1 j k H →
        (J1.stop j H ∧ Pv (i + 1) H) ∨ (J1.go j H ∧ ∃ Nx1 : Hp → Prop, (∀ H', Nx1 H' → ∃ k', k' < k ∧ W1 (j + 1) k' H') ∧ ∀ x H', J1.yld j H x H' → g1 x (wipe σ2 vs1) H' fun σ3 H5 => wipe σ3 vs1 = wipe σ2 vs1 ∧
          te σ3 H5 fun y H7 => ∃ (z : Str) (L : List Str), y = .str z ∧ H7 D = some (SetSO w D L) ∧ L.length + 1 < scanBound ∧ Nx1 (upd H7 D (SetSO w D (insS z L))))) (hd : ∀ H, Pv n H → Qd H) :
    ∃ W : Nat → Nat → Hp → Prop, (∃ m, W 0 m (upd H1 D (SetSO w D []))) ∧ ∀ i m H, W i m H →
      (J.stop i H ∧ Qd H) ∨ (J.go i H ∧ ∃ Nx : Hp → Prop, (∀ H', Nx H' → ∃ m', m' < m ∧ W (i + 1) m' H') ∧ ∀ x H', J.yld i H x H' → g x (wipe σ vs) H' fun σ2 H2 => wipe σ2 vs = wipe σ vs ∧
        wi1 σ2 H2 fun J1 H4 => ∃ W1 : Nat → Nat → Hp → Prop, (∃ m, W1 0 m H4) ∧ ∀ j k H, W1 j k H →
          (J1.stop j H ∧ Nx H) ∨ (J1.go j H ∧ ∃ Nx1 : Hp → Prop, (∀ H', Nx1 H' → ∃ k', k' < k ∧ W1 (j + 1) k' H') ∧ ∀ x H', J1.yld j H x H' → g1 x (wipe σ2 vs1) H' fun σ3 H5 => wipe σ3 vs1 = wipe σ2 vs1 ∧
            te σ3 H5 fun y H7 => ∃ (z : Str) (L : List Str), y = .str z ∧ H7 D = some (SetSO w D L) ∧ L.length + 1 < scanBound ∧ Nx1 (upd H7 D (SetSO w D (insS z L))))) := by
  refine ⟨fun i m H => m = n - i ∧ i ≤ n ∧ Pv i H, ⟨n, by simp, Nat.zero_le _, h0⟩, ?_⟩
  rintro i m H ⟨rfl, hi, p⟩
  have q := hG i H hi p
  by_cases hlt : i < n
  · exact .inr ⟨wk.goes i H hlt q, Pv (i + 1), fun H' p' => ⟨n - (i + 1), by omega, rfl, hlt, p'⟩, fun x H' y => hs i x H H' hlt p (wk.yields i H x H' hlt q y)⟩
  · have e : i = n := by omega
    subst e
    exact .inl ⟨wk.stops H q, hd H p⟩
theorem sc_in {w : World} {J1 : It} {n : Nat} {G : Hp → Prop} {Y : Nat → Hp → V → Hp → Prop} (wk : Walk J1 n G Y) {g1 : TG} {te : TE} {vs1 : List Nat} {σ2 : L2.St} {H4 : Hp} {D : Addr} {Qd : Hp → Prop} (Pv : Nat → Hp → Prop) (h0 : Pv 0 H4) (hG : ∀ i H, i ≤ n → Pv i H → G H)
    (hs : ∀ j x H H', j < n → Pv j H → Y j H x H' → g1 x (wipe σ2 vs1) H' fun σ3 H5 => wipe σ3 vs1 = wipe σ2 vs1 ∧
      te σ3 H5 fun y H7 => ∃ (z : Str) (L : List Str), y = .str z ∧ H7 D = some (SetSO w D L) ∧ L.length + 1 < scanBound ∧ Pv (j + 1) (upd H7 D (SetSO w D (insS z L)))) (hd : ∀ H, Pv n H → Qd H) :
    ∃ W1 : Nat → Nat → Hp → Prop, (∃ m, W1 0 m H4) ∧ ∀ j k H, W1 j k H →
      (J1.stop j H ∧ Qd H) ∨ (J1.go j H ∧ ∃ Nx1 : Hp → Prop, (∀ H', Nx1 H' → ∃ k', k' < k ∧ W1 (j + 1) k' H') ∧ ∀ x H', J1.yld j H x H' → g1 x (wipe σ2 vs1) H' fun σ3 H5 => wipe σ3 vs1 = wipe σ2 vs1 ∧
        te σ3 H5 fun y H7 => ∃ (z : Str) (L : List Str), y = .str z ∧ H7 D = some (SetSO w D L) ∧ L.length + 1 < scanBound ∧ Nx1 (upd H7 D (SetSO w D (insS z L)))) := by
  refine ⟨fun i m H => m = n - i ∧ i ≤ n ∧ Pv i H, ⟨n, by simp, Nat.zero_le _, h0⟩, ?_⟩
  rintro i m H ⟨rfl, hi, p⟩
  have q := hG i H hi p
  by_cases hlt : i < n
  · exact .inr ⟨wk.goes i H hlt q, Pv (i + 1), fun H' p' => ⟨n - (i + 1), by omega, rfl, hlt, p'⟩, fun x H' y => hs i x H H' hlt p (wk.yields i H x H' hlt q y)⟩
  · have e : i = n := by omega
    subst e
    exact .inl ⟨wk.stops H q, hd H p⟩
def fl1 (a : Addr) : List (Str × V) := [("own_names", .ref a)]
def fl2 (a b : Addr) : List (Str × V) := [("own_names", .ref a), ("own_parcels", .ref b)]
def fl3 (a b c : Addr) : List (Str × V) := [("own_names", .ref a), ("own_parcels", .ref b), ("own_places", .ref c)]
def fl4 (a b c d : Addr) : List (Str × V) := [("own_names", .ref a), ("own_parcels", .ref b), ("own_places", .ref c), ("own_lots", .ref d)]
def fl5 (a b c d e : Addr) : List (Str × V) := [("own_names", .ref a), ("own_parcels", .ref b), ("own_places", .ref c), ("own_lots", .ref d), ("own_owed", .ref e)]
def fl6 (a b c d e f : Addr) : List (Str × V) := [("own_names", .ref a), ("own_parcels", .ref b), ("own_places", .ref c), ("own_lots", .ref d), ("own_owed", .ref e), ("own_rests", .ref f)]
theorem put0 (a : Addr) : putF ("own_names" : Str) (.ref a) [] = fl1 a := rfl
theorem put1 (a b : Addr) : putF ("own_parcels" : Str) (.ref b) (fl1 a) = fl2 a b := by
  unfold fl1
  rw [pfs (by decide +kernel)]
  rfl
theorem put2 (a b c : Addr) : putF ("own_places" : Str) (.ref c) (fl2 a b) = fl3 a b c := by
  unfold fl2
  rw [pfs (by decide +kernel), pfs (by decide +kernel)]
  rfl
theorem put3 (a b c d : Addr) : putF ("own_lots" : Str) (.ref d) (fl3 a b c) = fl4 a b c d := by
  unfold fl3
  rw [pfs (by decide +kernel), pfs (by decide +kernel), pfs (by decide +kernel)]
  rfl
theorem put4 (a b c d e : Addr) : putF ("own_owed" : Str) (.ref e) (fl4 a b c d) = fl5 a b c d e := by
  unfold fl4
  rw [pfs (by decide +kernel), pfs (by decide +kernel), pfs (by decide +kernel), pfs (by decide +kernel)]
  rfl
theorem put5 (a b c d e f : Addr) : putF ("own_rests" : Str) (.ref f) (fl5 a b c d e) = fl6 a b c d e f := by
  unfold fl5
  rw [pfs (by decide +kernel), pfs (by decide +kernel), pfs (by decide +kernel), pfs (by decide +kernel), pfs (by decide +kernel)]
  rfl
theorem put6 (a b c d e f g : Addr) : putF ("own_given" : Str) (.ref g) (fl6 a b c d e f) = flds a b c d e f g := by
  unfold fl6
  rw [pfs (by decide +kernel), pfs (by decide +kernel), pfs (by decide +kernel), pfs (by decide +kernel), pfs (by decide +kernel), pfs (by decide +kernel)]
  rfl
theorem take_mem {D : List Dem} {i : Nat} {d : Dem} (h : D[i]? = some d) (z : Str) : (∃ d' ∈ D.take (i + 1), z ∈ d'.2.2) ↔ (∃ d' ∈ D.take i, z ∈ d'.2.2) ∨ z ∈ d.2.2 := by
  rw [take_snoc h]
  constructor
  · rintro ⟨d', hd, hz⟩
    rcases List.mem_append.mp hd with h | h
    · exact .inl ⟨d', h, hz⟩
    · have : d' = d := by simpa using h
      rw [this] at hz
      exact .inr hz
  · rintro (⟨d', hd, hz⟩ | hz)
    · exact ⟨d', List.mem_append_left _ hd, hz⟩
    · exact ⟨d, List.mem_append_right _ (by simp), hz⟩
section
variable {P : Program} {w : World} {K : PySem.W.Frag} {mg : Str → Option Value} {base : Heap}
abbrev sc3 : Scope := { kind := .function, names := [(".0", .local), ("demand", .local), ("places", .cell)], isGenerator := false, isCoroutine := false }
abbrev s_init : Stmt := inClass (topS 21) 0
theorem sc_init : FnScope ["self", "demands", "prices", "parcels", "places", "at", "parcel", "demand"] ["self", "demands", "prices"] (defScope s_init) := ⟨rfl, rfl, rfl, by decide +kernel, rfl, by decide +kernel, by decide +kernel⟩
def sp_init (C : Addr) : Sp := fun vs H Q _ => ∃ (H0 : Hp) (p dx da pa : Addr) (b : Bool) (ts : List Addr) (D : List Dem) (prA : List (Str × Int)), vs = [.ref p, .ref da, .ref pa] ∧ Same H0 H ∧ H0 p = none ∧ H p = some (.ins C dx []) ∧ H da = some (seqO b (ts.map V.ref)) ∧ DemsAt H ts D ∧ D.length ≤ 24 ∧ lotsLen D ≤ 60 ∧ H pa = some (.dK (prK prA)) ∧
  ∀ (Hs H' : Hp) (PL : List Str) (aO aR aG : Addr) (rows : List Addr), PLok D PL → PL.length ≤ 60 → Same H0 Hs → NetS C Hs p (D.map (·.1)) PL (lotsIx PL D) aO aR aG rows → NetM Hs H' aO aR rows (St0 (amts D) (PL.map (lkP prA))) → Q .non H'
theorem ok_init {f C : Addr} {fd : FuncData} (F : Fun K "__init__" "Network.__init__" s_init f fd) (T : Tx K mg) (TN : TxN K C) : FnOk P w K mg base CX0 1 f fd ["self", "demands", "prices"] (sp_init C) := by
  refine F.ok sc_init (fun vs H Q E h => ?_) (fun cdv A outer s H vs Q E hr h => ?_)
  · obtain ⟨H0, p, dx, da, pa, b, ts, D, prA, rfl, _⟩ := h
    rfl
  · obtain ⟨H0, p, dx, da, pa, b, ts, D, prA, rfl, S0, hp0, hp, hda, hD, hDl, h60, hpa, k⟩ := h
    have hu := hu_of hr
    have hlen : ts.length = D.length := Paired.length hD
    have npd : da ≠ p := fun e => by
      rw [e, hp] at hda
      cases b <;> cases hda
    have npp : pa ≠ p := fun e => by
      rw [e, hp] at hpa
      cases hpa
    -- slots 0:self 1:demands 2:prices 3:parcels 4:places 5:at 6:parcel 7:demand
    refine ⟨_, (pss_cons (ps_set (i := 3) sc_init.nd rfl (Or.inr rfl) (pe_callB (cr_sortSet rfl : CallR _ _ (rSortSet w)) (by rfl) T.sorted_ (by decide +kernel) (pa_cons (pe_sc2 (own := [("demand", 7), ("parcel", 6)]) (vs1 := [6]) rfl sc_init.nd (pi_seq (pv 1)) (blkOk_by (N := ["self", "demands", "prices", "parcels", "places", "at", "parcel", "demand"]) (sc := defScope s_init) (by decide +kernel)) (by decide) (fun _ _ _ _ _ => pg_name (i := 7) sc_init.nd rfl (Or.inl rfl)) (fun _ _ _ _ _ => (pi_tup (pe_ix (ix_tup : IxR _ (rIxT K)) (pv 7) (pe_int) (fun _ _ => rfl)) : PI _ _ _ (iTup K _))) (fun _ _ _ _ _ => pg_name (i := 6) sc_init.nd rfl (Or.inl rfl)) (fun _ _ _ _ _ => pv 6)) pa_nil)))
    (pss_cons (ps_set (i := 4) sc_init.nd rfl (Or.inr rfl) (pe_dc (own := [("at", 5), ("parcel", 6)]) rfl sc_init.nd (pi_enum (by rfl) T.enumerate_ (pa_cons (pv 3) pa_nil) : PI _ _ _ (iEnum K _)) (blkOk_by (N := ["self", "demands", "prices", "parcels", "places", "at", "parcel", "demand"]) (sc := defScope s_init) (by decide +kernel)) (fun _ _ _ _ _ => (pg_tup (by rfl) (pgs_cons (pg_name (i := 5) sc_init.nd rfl (Or.inl rfl)) (pgs_cons (pg_name (i := 6) sc_init.nd rfl (Or.inl rfl)) pgs_nil)) : PG _ _ (gTup K 2 _))) (fun _ _ _ _ _ => pts_nil) (fun _ _ _ _ _ => pv 6) (fun _ _ _ _ _ => pv 5)))
    (pss_cons (ps_fld (pv 0) (pe_lc (own := [("demand", 7)]) rfl sc_init.nd (pi_seq (pv 1)) (blkOk_by (N := ["self", "demands", "prices", "parcels", "places", "at", "parcel", "demand"]) (sc := defScope s_init) (by decide +kernel)) (fun _ _ _ _ _ => (pg_name (i := 7) sc_init.nd rfl (Or.inl rfl))) (fun _ _ _ _ _ => pts_nil) (fun _ _ _ _ _ => pe_ix (ix_tup : IxR _ (rIxT K)) (pv 7) (pe_int) (fun _ _ => rfl))) rfl)
    (pss_cons (ps_fld (pv 0) (pv 3) rfl)
    (pss_cons (ps_fld (pv 0) (pv 4) rfl)
    (pss_cons (ps_fld (pv 0) (pe_lc (own := [("demand", 7)]) rfl sc_init.nd (pi_seq (pv 1)) (blkOk_by (N := ["self", "demands", "prices", "parcels", "places", "at", "parcel", "demand"]) (sc := defScope s_init) (by decide +kernel)) (fun _ _ _ _ _ => (pg_name (i := 7) sc_init.nd rfl (Or.inl rfl))) (fun _ _ _ _ _ => pts_nil) (fun _ _ _ _ _ => pe_lc (own := [("parcel", 6)]) rfl sc_init.nd (pi_tup (pe_ix (ix_tup : IxR _ (rIxT K)) (pv 7) (pe_int) (fun _ _ => rfl)) : PI _ _ _ (iTup K _)) (blkOk_by (N := ["self", "demands", "prices", "parcels", "places", "at", "parcel", "demand"]) (sc := sc3) (by decide +kernel)) (fun _ _ _ _ _ => (pg_name (i := 6) sc_init.nd rfl (Or.inl rfl))) (fun _ _ _ _ _ => pts_nil) (fun _ _ _ _ _ => pe_dget hu (pv 4) (pv 6) (fun _ _ => rfl)))) rfl)
    (pss_cons (ps_fld (pv 0) (pe_lc (own := [("demand", 7)]) rfl sc_init.nd (pi_seq (pv 1)) (blkOk_by (N := ["self", "demands", "prices", "parcels", "places", "at", "parcel", "demand"]) (sc := defScope s_init) (by decide +kernel)) (fun _ _ _ _ _ => (pg_name (i := 7) sc_init.nd rfl (Or.inl rfl))) (fun _ _ _ _ _ => pts_nil) (fun _ _ _ _ _ => pe_ix (ix_tup : IxR _ (rIxT K)) (pv 7) (pe_int) (fun _ _ => rfl))) rfl)
    (pss_cons (ps_fld (pv 0) (pe_lc (own := [("parcel", 6)]) rfl sc_init.nd (pi_list (pv 3) : PI _ _ _ (iList K _)) (blkOk_by (N := ["self", "demands", "prices", "parcels", "places", "at", "parcel", "demand"]) (sc := defScope s_init) (by decide +kernel)) (fun _ _ _ _ _ => (pg_name (i := 6) sc_init.nd rfl (Or.inl rfl))) (fun _ _ _ _ _ => pts_nil) (fun _ _ _ _ _ => pe_dget2 hu (pv 2) (pv 6) (pe_int) ⟨by rfl, by rfl, by rfl, by rfl⟩)) rfl)
    (pss_one (ps_fld (pv 0) (pe_lc (own := [("demand", 7)]) rfl sc_init.nd (pi_seq (pv 1)) (blkOk_by (N := ["self", "demands", "prices", "parcels", "places", "at", "parcel", "demand"]) (sc := defScope s_init) (by decide +kernel)) (fun _ _ _ _ _ => (pg_name (i := 7) sc_init.nd rfl (Or.inl rfl))) (fun _ _ _ _ _ => pts_nil) (fun _ _ _ _ _ => pe_op op_rep (pe_lst (pa_cons (pe_int) pa_nil)) (pe_callB (call_len_seq : CallR _ _ (rLenS K)) (by rfl) T.len_ PySem.boot_len (pa_cons (pv 3) pa_nil)))) rfl)))))))))), ?_⟩
    -- parcels
    refine ⟨_, rfl, _, b, _, rfl, hda, fun J W => fun A1 hA1 => ?_⟩
    refine sc_out W (fun i H' => ∃ L : List Str, Same H H' ∧ H' A1 = some (SetSO w A1 L) ∧ L.Nodup ∧ L.length ≤ lotsLen (D.take i) ∧ ∀ z, z ∈ L ↔ ∃ d ∈ D.take i, z ∈ d.2.2)
      ⟨[], same_upd hA1, upd_same, List.nodup_nil, Nat.zero_le _, by intro z; simp⟩ (fun i H' _ ⟨_, S, _⟩ => S _ _ hda) ?_ ?_
    · rintro i x H1 H2 hi ⟨L, S1, hL, hLn, hLl, hLm⟩ ⟨rfl, hx⟩
      obtain ⟨t, ht, rfl⟩ := get_map hx
      obtain ⟨d, hd, q, h1, h2⟩ := Paired.at (i := i) hD ht
      refine ⟨rfl, _, rfl, _, _, _, V.ref q, rfl, rfl, SqT.of (S1 _ _ h1), rfl, _, rfl, ⟨_, SqT.of (S1 _ _ h2)⟩, ?_⟩
      have h3 := lotsLen_take hd
      have h4 := lotsLen_le D (i + 1)
      refine sc_in (walk_tup (xs := d.2.2.map V.str)) (fun j H' => ∃ L : List Str, Same H H' ∧ H' A1 = some (SetSO w A1 L) ∧ L.Nodup ∧ L.length ≤ lotsLen (D.take i) + j ∧ ∀ z, z ∈ L ↔ (∃ d ∈ D.take i, z ∈ d.2.2) ∨ z ∈ d.2.2.take j)
        ⟨L, S1, hL, hLn, hLl, by intro z; rw [hLm]; simp⟩ (fun i H' _ ⟨_, S, _⟩ => SqT.of (S _ _ h2)) ?_ ?_
      · rintro j x H3 H4 hj ⟨L2, S3, hL2, hLn2, hLl2, hLm2⟩ ⟨rfl, hx⟩
        obtain ⟨z, hz, rfl⟩ := get_map hx
        rw [List.length_map] at hj
        refine ⟨rfl, _, rfl, z, L2, rfl, hL2, Nat.lt_of_le_of_lt (show L2.length + 1 ≤ 61 by omega) (by decide), insS z L2, same_new S3 hA1, upd_same, insS_nodup hLn2, ?_, ?_⟩
        · have := len_insS (x := z) (L := L2)
          omega
        · intro y
          rw [mem_insS, hLm2, take_snoc hz, List.mem_append, List.mem_singleton]
          constructor
          · rintro (h | h | h)
            · exact .inr (.inr h)
            · exact .inl h
            · exact .inr (.inl h)
          · rintro (h | h | h)
            · exact .inr (.inl h)
            · exact .inr (.inr h)
            · exact .inl h
      · rintro H3 ⟨L2, S3, hL2, hLn2, hLl2, hLm2⟩
        rw [List.length_map] at hLl2 hLm2
        rw [List.take_length] at hLm2
        exact ⟨L2, S3, hL2, hLn2, by omega, fun z => by rw [hLm2, take_mem hd]⟩
    · rintro H1 ⟨L, S1, hL, hLn, hLl, hLm⟩
      rw [List.length_map, hlen, List.take_length] at hLl hLm
      refine ⟨_, L, rfl, hL, by omega, fun PL aP hasc hperm haP0 => ?_⟩
      have PLk : PLok D PL := ⟨hasc, fun z => by rw [hperm.mem_iff, hLm]⟩
      have hPLl : PL.length ≤ 60 := by
        rw [hperm.length_eq]
        omega
      have hPLn := PLk.nd
      have S2 := S1.trans (same_upd (o := .lst (PL.map V.str)) haP0)
      -- places
      refine ⟨_, rfl, _, _, rfl, SqL.of upd_same, fun A3 hA3 => ?_⟩
      refine dc_it (walk_enum (xs := PL.map V.str)) (fun i H' => ∃ kvs : List (Key × V), Same (upd H1 aP (.lst (PL.map V.str))) H' ∧ H' A3 = some (.dK kvs) ∧ kvs.length ≤ i ∧ ∀ j, j < i → valV kvs (Sum.inr (PL.getD j "") : Key) = some (.int (j : Int))) ⟨[], same_upd hA3, upd_same, Nat.zero_le _, by intro j hj; omega⟩ (fun i H' _ ⟨_, S, _⟩ => SqL.of (S _ _ upd_same)) ?_ ?_
      · rintro i x H3 H4 hi ⟨kvs, S3, hk, hkl, hkv⟩ ⟨T0, x0, y0, rfl, hT0, rfl, ex, ey⟩
        cases (Option.some.inj ex)
        obtain ⟨z, hz, rfl⟩ := get_map ey
        rw [List.length_map] at hi
        have ST := same_upd (o := .tup [.int (i : Nat), .str z]) hT0
        refine ⟨_, _, rfl, SqT.of upd_same, rfl, _, _, rfl, _, _, rfl, rfl, rfl, _, rfl, _, rfl, kvs, Sum.inr z, rfl, ST _ _ hk, Nat.lt_of_le_of_lt (show kvs.length ≤ 60 by omega) (by decide), putK kvs (Sum.inr z) (.int (i : Nat)), same_new (S3.trans ST) hA3, upd_same, ?_, ?_⟩
        · have := length_putK kvs (Sum.inr z : Key) (V.int (i : Nat))
          omega
        · intro j hj
          have ez : PL.getD i "" = z := by
            rw [List.getD_eq_getElem?_getD, hz]
            rfl
          rw [valV_put]
          by_cases e : j = i
          · subst e
            rw [ez, if_pos rfl]
          · have ne : ¬ ((Sum.inr (PL.getD j "") : Key) = Sum.inr z) := fun h => by
              have h := Sum.inr.inj h
              rw [← ez] at h
              exact e (getD_inj hPLn (by omega) (by omega) h)
            rw [if_neg ne]
            exact hkv j (by omega)
      · rintro H3 ⟨kvs, S3, hk, hkl, hkv⟩
        rw [List.length_map] at hkv
        have SA : Same H H3 := S2.trans S3
        have haP : H3 aP = some (.lst (PL.map V.str)) := S3 _ _ upd_same
        -- own_names
        refine ⟨_, rfl, _, b, _, rfl, SA _ _ hda, fun J W => fun aN haN0 => ?_⟩
        refine lc_it W (fun i H' => Same H3 H' ∧ H' aN = some (.lst (((D.take i).map (·.1)).map V.str))) ⟨same_upd haN0, upd_same⟩ (fun i H' _ ⟨S, _⟩ => S _ _ (SA _ _ hda)) ?_ ?_
        · rintro i x H4 H5 hi ⟨S4, hLL⟩ ⟨rfl, hx⟩
          obtain ⟨t, ht, rfl⟩ := get_map hx
          obtain ⟨d, hd, q, h1, h2⟩ := Paired.at (i := i) hD ht
          have hi2 := (List.getElem?_eq_some_iff.mp hd).1
          refine ⟨rfl, _, rfl, _, _, _, V.str d.1, rfl, rfl, SqT.of (S4 _ _ (SA _ _ h1)), rfl, _, hLL, ?_, same_new S4 haN0, ?_⟩
          · rw [List.length_map, List.length_map, List.length_take]
            exact Nat.lt_of_le_of_lt (show _ ≤ 24 by omega) (by decide)
          · rw [upd_same, take_snoc hd, List.map_append, List.map_append]
            rfl
        · rintro H4 ⟨S4, haN⟩
          rw [List.length_map, hlen, List.take_length] at haN
          have hp4 : H4 p = some (.ins C dx []) := (SA.trans S4) _ _ hp
          refine ⟨_, rfl, p, C, dx, _, rfl, hp4, TN.cl, TN.nN, by decide, ?_⟩
          dsimp only
          have X5 : SX p H4 (upd H4 p (.ins C dx (putF "own_names" (.ref aN) []))) := (SX.of (Same.refl _)).put
          have hp5 : upd H4 p (.ins C dx (putF "own_names" (.ref aN) [])) p = some (.ins C dx (fl1 aN)) := upd_same
          generalize upd H4 p (.ins C dx (putF "own_names" (.ref aN) [])) = H5 at X5 hp5 ⊢
          -- own_parcels, own_places
          refine ⟨_, rfl, _, rfl, p, C, dx, _, rfl, hp5, TN.cl, TN.nP, by show 1 < 1000; decide, ?_⟩
          dsimp only
          have X6 : SX p H5 (upd H5 p (.ins C dx (putF "own_parcels" (.ref aP) (fl1 aN)))) := (SX.of (Same.refl _)).put
          have hp6 : upd H5 p (.ins C dx (putF "own_parcels" (.ref aP) (fl1 aN))) p = some (.ins C dx (fl2 aN aP)) := by rw [upd_same, put1]
          generalize upd H5 p (.ins C dx (putF "own_parcels" (.ref aP) (fl1 aN))) = H6 at X6 hp6 ⊢
          refine ⟨_, rfl, _, rfl, p, C, dx, _, rfl, hp6, TN.cl, TN.nPl, by show 2 < 1000; decide, ?_⟩
          dsimp only
          have X7 : SX p H6 (upd H6 p (.ins C dx (putF "own_places" (.ref A3) (fl2 aN aP)))) := (SX.of (Same.refl _)).put
          have hp7 : upd H6 p (.ins C dx (putF "own_places" (.ref A3) (fl2 aN aP))) p = some (.ins C dx (fl3 aN aP A3)) := by rw [upd_same, put2]
          generalize upd H6 p (.ins C dx (putF "own_places" (.ref A3) (fl2 aN aP))) = H7 at X7 hp7 ⊢
          have X07 : SX p H H7 := (SX.of (SA.trans S4)).trans (X5.trans (X6.trans X7))
          have X37 : SX p H3 H7 := (SX.of S4).trans (X5.trans (X6.trans X7))
          have X47 : SX p H4 H7 := X5.trans (X6.trans X7)
          have naP : aP ≠ p := (ne_of_none (S1 _ _ hp) haP0).symm
          have nA3 : A3 ≠ p := (ne_of_none (S2 _ _ hp) hA3).symm
          have naN : aN ≠ p := (ne_of_none (SA _ _ hp) haN0).symm
          have demX : ∀ {Hx : Hp} {t : Addr} {d : Dem}, SX p H Hx → DemAt H t d → ∃ q, Hx t = some (.tup [.str d.1, .int d.2.1, .ref q]) ∧ Hx q = some (.tup (d.2.2.map V.str)) := fun X hd => by
            obtain ⟨q, h1, h2⟩ := hd
            have n1 : _ ≠ p := ne_of h1 hp (by intro z; cases z)
            have n2 : q ≠ p := ne_of h2 hp (by intro z; cases z)
            exact ⟨q, X _ _ n1 h1, X _ _ n2 h2⟩
          have hda7 := X07 _ _ npd hda
          have hk7 := X37 _ _ nA3 hk
          have haP7 := X37 _ _ naP haP
          have haN7 := X47 _ _ naN haN
          -- own_lots
          refine ⟨_, rfl, _, b, _, rfl, hda7, fun J W => fun aL haL0 => ?_⟩
          refine lc_it W (fun i H' => ∃ us : List Addr, Same H7 H' ∧ H' aL = some (.lst (us.map V.ref)) ∧ Paired (fun u row => u ≠ aL ∧ RowAt H' u row) us ((lotsIx PL D).take i)) ⟨[], same_upd haL0, upd_same, .nil⟩ (fun i H' _ ⟨_, S, _⟩ => S _ _ hda7) ?_ ?_
          · rintro i x H8 H9 hi ⟨us, S8, hLL, hus⟩ ⟨hEq, hx⟩
            subst H9
            obtain ⟨t, ht, rfl⟩ := get_map hx
            obtain ⟨d, hd, hdt⟩ := Paired.at (i := i) hD ht
            obtain ⟨q, h1, h2⟩ := demX X07 hdt
            have hi2 := (List.getElem?_eq_some_iff.mp hd).1
            have hzP : ∀ z ∈ d.2.2, z ∈ PL := fun z hz => (PLk.mem z).mpr ⟨d, List.mem_of_getElem? hd, hz⟩
            have hdl : d.2.2.length ≤ 60 := by
              have h3 := lotsLen_take hd
              have h4 := lotsLen_le D (i + 1)
              omega
            refine ⟨rfl, ?_⟩
            refine ⟨_, rfl, _, _, _, V.ref q, rfl, rfl, SqT.of (S8 _ _ h1), rfl, q, rfl, ⟨_, SqT.of (S8 _ _ h2)⟩, fun L2 hL2 => ?_⟩
            refine lc_it (walk_tup (xs := d.2.2.map V.str)) (fun j H' => Same H8 H' ∧ H' L2 = some (.lst (nV ((d.2.2.take j).map (ixOf PL))))) ⟨same_upd hL2, upd_same⟩ (fun i H' _ ⟨S, _⟩ => SqT.of (S _ _ (S8 _ _ h2))) ?_ ?_
            · rintro j x Ha Hb hj ⟨Sa, hLa⟩ ⟨rfl, hx⟩
              obtain ⟨z, hz, rfl⟩ := get_map hx
              rw [List.length_map] at hj
              obtain ⟨h3, h4⟩ := ixOf_ok (hzP z (List.mem_of_getElem? hz))
              have hv := hkv _ h3
              rw [h4] at hv
              have hkA := Sa _ _ (S8 _ _ hk7)
              refine ⟨rfl, _, rfl, _, rfl, _, V.int (ixOf PL z : Int), rfl, ?_, _, hLa, ?_, same_new Sa hL2, ?_⟩
              · have g := DGet.k (k := Sum.inr z) hkA
                rw [hv] at g
                exact g
              · unfold nV
                rw [List.length_map, List.length_map, List.length_take]
                exact Nat.lt_of_le_of_lt (show _ ≤ 60 by omega) (by decide)
              · rw [upd_same, take_snoc hz, List.map_append]
                unfold nV
                rw [List.map_append]
                rfl
            · rintro Ha ⟨Sa, hLa⟩
              rw [List.length_map, List.take_length] at hLa
              have hLLa := Sa _ _ hLL
              have n2L : L2 ≠ aL := (ne_of_none hLL hL2).symm
              have hul := Paired.length hus
              have hll : (lotsIx PL D).length = D.length := by
                unfold lotsIx
                rw [List.length_map]
              rw [List.length_take, hll] at hul
              have hrow : (lotsIx PL D)[i]? = some (d.2.2.map (ixOf PL)) := by
                unfold lotsIx
                rw [List.getElem?_map, hd]
                rfl
              refine ⟨_, hLLa, ?_, us ++ [L2], same_new (S8.trans Sa) haL0, ?_, ?_⟩
              · rw [List.length_map]
                exact Nat.lt_of_le_of_lt (show us.length ≤ 24 by omega) (by decide)
              · rw [upd_same, List.map_append]
                rfl
              · rw [take_snoc hrow]
                refine Paired.snoc (Paired.mapP hus fun u r ⟨e1, e2⟩ => ⟨e1, ?_⟩) ⟨n2L, ?_⟩
                · show upd _ aL _ u = _
                  rw [upd_ne e1]
                  exact Sa _ _ e2
                · show upd _ aL _ L2 = _
                  rw [upd_ne n2L]
                  exact hLa
          · rintro H8 ⟨lo, S8, haL, hlo⟩
            have hll : (lotsIx PL D).length = D.length := by
              unfold lotsIx
              rw [List.length_map]
            rw [List.length_map, hlen, ← hll, List.take_length] at hlo
            have hlo : RowsAt H8 lo (lotsIx PL D) := Paired.mapP hlo fun _ _ x => x.2
            have hp8 := S8 _ _ hp7
            refine ⟨_, rfl, p, C, dx, _, rfl, hp8, TN.cl, TN.nL, by show 3 < 1000; decide, ?_⟩
            dsimp only
            have X9 : SX p H8 (upd H8 p (.ins C dx (putF "own_lots" (.ref aL) (fl3 aN aP A3)))) := (SX.of (Same.refl _)).put
            have hp9 : upd H8 p (.ins C dx (putF "own_lots" (.ref aL) (fl3 aN aP A3))) p = some (.ins C dx (fl4 aN aP A3 aL)) := by rw [upd_same, put3]
            generalize upd H8 p (.ins C dx (putF "own_lots" (.ref aL) (fl3 aN aP A3))) = HB at X9 hp9 ⊢
            have XB : SX p H7 HB := (SX.of S8).trans X9
            have X0B : SX p H HB := X07.trans XB
            have naL : aL ≠ p := (ne_of_none hp7 haL0).symm
            have nlo : ∀ u ∈ lo, u ≠ p := fun u hu e => by
              obtain ⟨j, hj⟩ := List.mem_iff_getElem?.mp hu
              obtain ⟨row, _, h⟩ := Paired.at hlo hj
              have h : H8 u = some (.lst (nV row)) := h
              rw [e, hp8] at h
              cases h
            -- what stands before the parts that move
            have hdaB := X0B _ _ npd hda
            have haPB := XB _ _ naP haP7
            have haNB := XB _ _ naN haN7
            have haLB := X9 _ _ naL haL
            have hloB : Paired (fun u row => u ≠ p ∧ RowAt HB u row) lo (lotsIx PL D) := paired_of (Paired.length hlo) fun j u row hj hr => by
              obtain ⟨row', e1, e2⟩ := Paired.at hlo hj
              rw [hr] at e1
              cases e1
              have nu := nlo u (List.mem_of_getElem? hj)
              exact ⟨nu, X9 _ _ nu e2⟩
            have npp' := X0B _ _ npp hpa
            -- own_owed
            refine ⟨_, rfl, _, b, _, rfl, hdaB, fun J W => fun aO haO0 => ?_⟩
            refine lc_it W (fun i H' => Same HB H' ∧ H' aO = some (.lst (iV ((D.take i).map (·.2.1))))) ⟨same_upd haO0, upd_same⟩ (fun i H' _ ⟨S, _⟩ => S _ _ hdaB) ?_ ?_
            · rintro i x Ha Hb hi ⟨Sa, hLa⟩ ⟨rfl, hx⟩
              obtain ⟨t, ht, rfl⟩ := get_map hx
              obtain ⟨d, hd, hdt⟩ := Paired.at (i := i) hD ht
              obtain ⟨q, h1, h2⟩ := demX X0B hdt
              have hi2 := (List.getElem?_eq_some_iff.mp hd).1
              refine ⟨rfl, _, rfl, _, _, _, V.int d.2.1, rfl, rfl, SqT.of (Sa _ _ h1), rfl, _, hLa, ?_, same_new Sa haO0, ?_⟩
              · unfold iV
                rw [List.length_map, List.length_map, List.length_take]
                exact Nat.lt_of_le_of_lt (show _ ≤ 24 by omega) (by decide)
              · rw [upd_same, take_snoc hd, List.map_append]
                unfold iV
                rw [List.map_append]
                rfl
            · rintro Ha ⟨Sa, haO⟩
              rw [List.length_map, hlen, List.take_length] at haO
              have haO : Ha aO = some (.lst (iV (amts D))) := haO
              have hpa' := Sa _ _ hp9
              refine ⟨_, rfl, p, C, dx, _, rfl, hpa', TN.cl, TN.nO, by show 4 < 1000; decide, ?_⟩
              dsimp only
              have Xb : SX p Ha (upd Ha p (.ins C dx (putF "own_owed" (.ref aO) (fl4 aN aP A3 aL)))) := (SX.of (Same.refl _)).put
              have hpb : upd Ha p (.ins C dx (putF "own_owed" (.ref aO) (fl4 aN aP A3 aL))) p = some (.ins C dx (fl5 aN aP A3 aL aO)) := by rw [upd_same, put4]
              generalize upd Ha p (.ins C dx (putF "own_owed" (.ref aO) (fl4 aN aP A3 aL))) = Hb at Xb hpb ⊢
              have naO : aO ≠ p := (ne_of_none hp9 haO0).symm
              have XBb : SX p HB Hb := (SX.of Sa).trans Xb
              have haOb := Xb _ _ naO haO
              have haPb := XBb _ _ naP haPB
              -- own_rests
              refine ⟨_, rfl, _, rfl, ⟨_, SqL.of haPb⟩, fun aR haR0 => ?_⟩
              have hpab := XBb _ _ npp npp'
              refine lc_it (walk_list (xs := PL.map V.str)) (fun i H' => Same Hb H' ∧ H' aR = some (.lst (iV ((PL.take i).map (lkP prA))))) ⟨same_upd haR0, upd_same⟩ (fun i H' _ ⟨S, _⟩ => SqL.of (S _ _ haPb)) ?_ ?_
              · rintro i x Hc Hd hi ⟨Sc, hLc⟩ ⟨rfl, hx⟩
                obtain ⟨z, hz, rfl⟩ := get_map hx
                rw [List.length_map] at hi
                have hpac := Sc _ _ hpab
                have el : (valV (prK prA) (Sum.inr z : Key)).getD (V.int 0) = V.int (lkP prA z) := by
                  rw [valV_prK]
                  unfold lkP
                  cases prA.lookup z <;> rfl
                refine ⟨rfl, _, rfl, _, rfl, .inl ⟨_, .inl hpac⟩, _, rfl, _, DGet.k (k := Sum.inr z) hpac, ?_⟩
                rw [el]
                refine ⟨_, hLc, ?_, same_new Sc haR0, ?_⟩
                · unfold iV
                  rw [List.length_map, List.length_map, List.length_take]
                  exact Nat.lt_of_le_of_lt (show _ ≤ 60 by omega) (by decide)
                · rw [upd_same, take_snoc hz, List.map_append]
                  unfold iV
                  rw [List.map_append]
                  rfl
              · rintro Hc ⟨Sc, haR⟩
                rw [List.length_map, List.take_length] at haR
                have hpc' := Sc _ _ hpb
                refine ⟨_, rfl, p, C, dx, _, rfl, hpc', TN.cl, TN.nR, by show 5 < 1000; decide, ?_⟩
                dsimp only
                have Xd : SX p Hc (upd Hc p (.ins C dx (putF "own_rests" (.ref aR) (fl5 aN aP A3 aL aO)))) := (SX.of (Same.refl _)).put
                have hpd : upd Hc p (.ins C dx (putF "own_rests" (.ref aR) (fl5 aN aP A3 aL aO))) p = some (.ins C dx (fl6 aN aP A3 aL aO aR)) := by rw [upd_same, put5]
                generalize upd Hc p (.ins C dx (putF "own_rests" (.ref aR) (fl5 aN aP A3 aL aO))) = Hd at Xd hpd ⊢
                have naR : aR ≠ p := (ne_of_none hpb haR0).symm
                have Xbd : SX p Hb Hd := (SX.of Sc).trans Xd
                have XBd : SX p HB Hd := XBb.trans Xbd
                have haRd := Xd _ _ naR haR
                have haOd := Xbd _ _ naO haOb
                have hdad := XBd _ _ npd hdaB
                have haPd := XBd _ _ naP haPB
                -- own_given
                refine ⟨_, rfl, _, b, _, rfl, hdad, fun J W => fun aG haG0 => ?_⟩
                have hrl : ∀ i, i ≤ D.length → (List.replicate D.length (List.replicate PL.length (0 : Int))).take i = List.replicate i (List.replicate PL.length (0 : Int)) := fun i hi => by
                  rw [List.take_replicate, Nat.min_eq_left hi]
                refine lc_it W (fun i H' => ∃ us : List Addr, Same Hd H' ∧ H' aG = some (.lst (us.map V.ref)) ∧ Paired (fun u row => u ≠ aG ∧ Hd u = none ∧ H' u = some (.lst (iV row))) us (List.replicate i (List.replicate PL.length (0 : Int))) ∧ us.Nodup) ⟨[], same_upd haG0, upd_same, .nil, List.nodup_nil⟩ (fun i H' _ ⟨_, S, _⟩ => S _ _ hdad) ?_ ?_
                · rintro i x He Hy hi ⟨us, Se, hLe, hus, hun⟩ ⟨hEq, hx⟩
                  subst Hy
                  rw [List.length_map, hlen] at hi
                  have haPe := Se _ _ haPd
                  refine ⟨rfl, by show 1 ≤ sizeLine; decide, fun l1 hl1 => ?_⟩
                  refine ⟨_, rfl, _, _, rfl, .inl (SqL.of (same_upd hl1 _ _ haPe)), ?_⟩
                  refine ⟨_, _, _, rfl, rfl, upd_same, by omega, ?_, ?_, fun r hr0 => ?_⟩
                  · rw [List.length_map]
                    omega
                  · rw [List.length_map]
                    simp
                    exact Nat.le_trans hPLl (by decide)
                  have er : (List.replicate ((((PL.map V.str).length : Nat) : Int)).toNat [V.int 0]).flatten = iV (List.replicate PL.length (0 : Int)) := by
                    rw [List.length_map, Int.toNat_natCast]
                    unfold iV
                    rw [List.map_replicate]
                    generalize PL.length = q
                    induction q with
                    | zero => rfl
                    | succ q ih =>
                      rw [List.replicate_succ, List.flatten_cons, ih]
                      rfl
                  have Sr := (same_upd (H := He) (o := .lst [.int 0]) hl1).trans (same_upd (o := .lst (List.replicate ((((PL.map V.str).length : Nat) : Int)).toNat [V.int 0]).flatten) hr0)
                  have hrv : upd (upd He l1 (.lst [.int 0])) r (.lst (List.replicate ((((PL.map V.str).length : Nat) : Int)).toNat [V.int 0]).flatten) r = some (.lst (iV (List.replicate PL.length (0 : Int)))) := by rw [upd_same, er]
                  have hr1 : He r = none := (same_upd hl1).free hr0
                  dsimp only
                  generalize upd (upd He l1 (.lst [.int 0])) r (.lst (List.replicate ((((PL.map V.str).length : Nat) : Int)).toNat [V.int 0]).flatten) = Hf at Sr hrv ⊢
                  have nrG : r ≠ aG := (ne_of_none hLe hr1).symm
                  have hul := Paired.length hus
                  rw [List.length_replicate] at hul
                  refine ⟨_, Sr _ _ hLe, ?_, us ++ [r], same_new (Se.trans Sr) haG0, ?_, ?_, ?_⟩
                  · rw [List.length_map]
                    exact Nat.lt_of_le_of_lt (show us.length ≤ 24 by omega) (by decide)
                  · rw [upd_same, List.map_append]
                    rfl
                  · rw [List.replicate_succ']
                    refine Paired.snoc (Paired.mapP hus fun u row ⟨e1, e2, e3⟩ => ⟨e1, e2, ?_⟩) ⟨nrG, Se.free hr1, ?_⟩
                    · rw [upd_ne e1]
                      exact Sr _ _ e3
                    · rw [upd_ne nrG]
                      exact hrv
                  · refine List.nodup_append.mpr ⟨hun, by simp, fun u hu v hv e => ?_⟩
                    have ev : v = r := by simpa using hv
                    obtain ⟨j, hj⟩ := List.mem_iff_getElem?.mp hu
                    obtain ⟨row, _, _, _, e3⟩ := Paired.at hus hj
                    rw [e, ev, hr1] at e3
                    cases e3
                · rintro He ⟨rows, Se, haG, hrows, hrn⟩
                  rw [List.length_map, hlen] at hrows
                  have hpe := Se _ _ hpd
                  refine ⟨_, rfl, p, C, dx, _, rfl, hpe, TN.cl, TN.nG, by show 6 < 1000; decide, ?_⟩
                  dsimp only
                  have Xf : SX p He (upd He p (.ins C dx (putF "own_given" (.ref aG) (fl6 aN aP A3 aL aO aR)))) := (SX.of (Same.refl _)).put
                  have hpf : upd He p (.ins C dx (putF "own_given" (.ref aG) (fl6 aN aP A3 aL aO aR))) p = some (.ins C dx (flds aN aP A3 aL aO aR aG)) := by rw [upd_same, put6]
                  generalize upd He p (.ins C dx (putF "own_given" (.ref aG) (fl6 aN aP A3 aL aO aR))) = HF at Xf hpf ⊢
                  have naG : aG ≠ p := (ne_of_none hpd haG0).symm
                  have Xdf : SX p Hd HF := (SX.of Se).trans Xf
                  have XBf : SX p HB HF := XBd.trans Xdf
                  -- M is new where all else stood
                  have hMB : ∀ x ∈ aO :: aR :: rows, HB x = none := fun x hx => by
                    rcases List.mem_cons.mp hx with e | hx
                    · rw [e]
                      exact haO0
                    · rcases List.mem_cons.mp hx with e | hx
                      · rw [e]
                        exact XBb.free hpb haR0
                      · obtain ⟨j, hj⟩ := List.mem_iff_getElem?.mp hx
                        obtain ⟨row, _, _, e2, _⟩ := Paired.at hrows hj
                        exact XBd.free hpd e2
                  have notM : ∀ x o, HB x = some o → x ∉ aO :: aR :: rows := fun x o e hx => by
                    rw [hMB x hx] at e
                    cases e
                  have nGM : aG ∉ aO :: aR :: rows := fun hx => by
                    rcases List.mem_cons.mp hx with e | hx
                    · rw [e, haOd] at haG0
                      cases haG0
                    · rcases List.mem_cons.mp hx with e | hx
                      · rw [e, haRd] at haG0
                        cases haG0
                      · obtain ⟨j, hj⟩ := List.mem_iff_getElem?.mp hx
                        obtain ⟨row, _, e1, _, _⟩ := Paired.at hrows hj
                        exact e1 rfl
                  have hrowN : ∀ u ∈ rows, Hd u = none := fun u hu => by
                    obtain ⟨j, hj⟩ := List.mem_iff_getElem?.mp hu
                    obtain ⟨row, _, _, e2, _⟩ := Paired.at hrows hj
                    exact e2
                  have hMnd : (aO :: aR :: rows).Nodup := by
                    refine List.nodup_cons.mpr ⟨fun hx => ?_, List.nodup_cons.mpr ⟨fun hx => ?_, hrn⟩⟩
                    · rcases List.mem_cons.mp hx with e | hx
                      · rw [← e, haOb] at haR0
                        cases haR0
                      · have := hrowN _ hx
                        rw [haOd] at this
                        cases this
                    · have := hrowN _ hx
                      rw [haRd] at this
                      cases this
                  let Hs : Hp := fun x => if x ∈ aO :: aR :: rows then none else HF x
                  have hsOf : ∀ {x : Addr} {o : HO}, x ∉ aO :: aR :: rows → HF x = some o → Hs x = some o := fun h e => by
                    show (if _ then _ else _) = _
                    rw [if_neg h]
                    exact e
                  have statB : ∀ {x : Addr} {o : HO}, x ≠ p → HB x = some o → Hs x = some o := fun n e => hsOf (notM _ _ e) (XBf _ _ n e)
                  refine k Hs HF PL aO aR aG rows PLk hPLl ?_ ⟨⟨dx, aN, aP, A3, aL, lo, hsOf (notM _ _ hp9) hpf, statB naN haNB, statB naP haPB, statB naL haLB, Paired.mapP hloB fun u row ⟨e1, e2⟩ => statB e1 e2⟩, hsOf nGM (Xf _ _ naG haG)⟩ ⟨?_, hMnd, ?_, ?_, ?_, ?_⟩
                  · intro x o e
                    have nx : x ≠ p := fun q => by
                      rw [q, hp0] at e
                      cases e
                    exact statB nx (X0B _ _ nx (S0 _ _ e))
                  · intro x o e
                    have e : (if x ∈ aO :: aR :: rows then none else HF x) = some o := e
                    by_cases q : x ∈ aO :: aR :: rows
                    · rw [if_pos q] at e
                      cases e
                    · rw [if_neg q] at e
                      exact e
                  · intro x hx
                    show (if x ∈ aO :: aR :: rows then none else HF x) = none
                    rw [if_pos hx]
                  · exact Xdf _ _ naO haOd
                  · exact Xdf _ _ naR haRd
                  · have en : (St0 (amts D) (PL.map (lkP prA))).G = List.replicate D.length (List.replicate PL.length 0) := by
                      unfold St0 amts
                      rw [List.length_map, List.length_map]
                    rw [en]
                    refine Paired.mapP hrows fun u row ⟨e1, e2, e3⟩ => ?_
                    have nu : u ≠ p := fun q => by
                      rw [q, hpd] at e2
                      cases e2
                    exact Xf _ _ nu e3
end
end Dr

set_option maxHeartbeats 8000000
/-! filled. -/
namespace Dr
open PySem PySem.Spec PyProof.Rows L2
def prF (al : Option (List Str)) (pr : List (Str × Int)) : List (Str × Int) := pr.filter fun e => alOk al e.1
theorem prK_take {pr : List (Str × Int)} {i : Nat} {key : Key} {vv : V} (h : (prK pr)[i]? = some (key, vv)) : ∃ e, pr[i]? = some e ∧ key = Sum.inr e.1 ∧ vv = V.int e.2 := by
  unfold prK at h
  rw [List.getElem?_map] at h
  cases q : pr[i]? with
  | none =>
    rw [q] at h
    cases h
  | some e =>
    rw [q] at h
    have h := Option.some.inj h
    exact ⟨e, rfl, (Prod.mk.inj h).1.symm, (Prod.mk.inj h).2.symm⟩
theorem prK_new {l : List (Str × Int)} {z : Str} {v : Int} (h : z ∉ l.map (·.1)) : putK (prK l) (Sum.inr z : Key) (V.int v) = prK (l ++ [(z, v)]) := by
  rw [putK_new]
  · unfold prK
    rw [List.map_append]
    rfl
  · rw [valV_prK]
    cases q : l.lookup z with
    | none => rfl
    | some j =>
      obtain ⟨l1, l2, e2, _⟩ := List.lookup_eq_some_iff.mp q
      exact absurd (by rw [e2]; simp) h
theorem lookup_ndS {E : List (Str × Int)} (h : (E.map (·.1)).Nodup) {e : Str × Int} (he : e ∈ E) : E.lookup e.1 = some e.2 := by
  induction E with
  | nil => cases he
  | cons a r ih =>
    rw [List.map_cons, List.nodup_cons] at h
    rcases List.mem_cons.mp he with q | q
    · subst q
      rw [show e = (e.1, e.2) from rfl, List.lookup_cons]
      simp
    · have hne : (e.1 == a.1) = false := beq_eq_false_iff_ne.mpr fun x => h.1 (List.mem_map.mpr ⟨e, q, x⟩)
      rw [show a = (a.1, a.2) from rfl, List.lookup_cons, hne]
      exact ih h.2 q
theorem prF_sub {al : Option (List Str)} {pr : List (Str × Int)} : ∀ e ∈ prF al pr, e ∈ pr := fun e h => (List.mem_filter.mp h).1
theorem lkP_F (al : Option (List Str)) (z : Str) : ∀ pr : List (Str × Int), lkP (prF al pr) z = if alOk al z = true then lkP pr z else 0
  | [] => by
    unfold prF lkP
    split <;> rfl
  | (a, v) :: r => by
    have ih := lkP_F al z r
    unfold prF lkP at *
    by_cases c : alOk al a = true
    · rw [List.filter_cons_of_pos (by exact c)]
      by_cases q : z = a
      · subst q
        rw [if_pos c]
        simp
      · have hb : (z == a) = false := beq_eq_false_iff_ne.mpr q
        rw [List.lookup_cons, List.lookup_cons, hb]
        exact ih
    · rw [List.filter_cons_of_neg (by exact c)]
      by_cases q : z = a
      · subst q
        rw [if_neg c] at ih ⊢
        exact ih
      · have hb : (z == a) = false := beq_eq_false_iff_ne.mpr q
        rw [List.lookup_cons, hb]
        exact ih
theorem lkP_nn {pr : List (Str × Int)} (h : ∀ e ∈ pr, 0 ≤ e.2) (z : Str) : 0 ≤ lkP pr z := by
  unfold lkP
  cases q : pr.lookup z with
  | none => exact Int.le_refl _
  | some j =>
    obtain ⟨l1, l2, e2, _⟩ := List.lookup_eq_some_iff.mp q
    exact h (z, j) (by rw [e2]; simp)
/-- what the network ends with -/
def endD (al : Option (List Str)) (D : List Dem) (PL : List Str) (pr : List (Str × Int)) : St := endS (lotsIx PL D) (amts D) (PL.map (lkP (prF al pr)))
theorem lotsIx_lt {D : List Dem} {PL : List Str} (h : PLok D PL) : ∀ d, d < D.length → ∀ p ∈ (lotsIx PL D).getD d [], p < PL.length := fun d hd p hp => by
  unfold lotsIx at hp
  rw [List.getD_eq_getElem?_getD, List.getElem?_map, List.getElem?_eq_getElem hd] at hp
  obtain ⟨z, hz, rfl⟩ := List.mem_map.mp hp
  exact (ixOf_ok ((h.mem z).mpr ⟨_, List.getElem_mem hd, hz⟩)).1
section
variable {P : Program} {w : World} {K : PySem.W.Frag} {mg : Str → Option Value} {base : Heap}
abbrev s_filled : Stmt := topS 22
theorem sc_filled : FnScope ["demands", "prices", "parcels", "allowed", "found", "parcel"] ["demands", "prices", "parcels"] (defScope s_filled) := ⟨rfl, rfl, rfl, by decide +kernel, rfl, by decide +kernel, by decide +kernel⟩
def sp_filled (C : Addr) : Sp := fun vs H Q _ => ∃ (da pa : Addr) (x : V) (b : Bool) (ts : List Addr) (D : List Dem) (pr : List (Str × Int)) (al : Option (List Str)), vs = [.ref da, .ref pa, x] ∧ H da = some (seqO b (ts.map V.ref)) ∧ DemsAt H ts D ∧ D.length ≤ 24 ∧ lotsLen D ≤ 60 ∧ (∀ d ∈ D, 0 ≤ d.2.1) ∧ H pa = some (.dK (prK pr)) ∧ (pr.map (·.1)).Nodup ∧ pr.length ≤ 1000 ∧ (∀ e ∈ pr, 0 ≤ e.2) ∧ AlAt H x al ∧
  ∀ (Hs H' : Hp) (p : Addr) (PL : List Str) (aO aR aG : Addr) (rows : List Addr), PLok D PL → PL.length ≤ 60 → Same H Hs → NetS C Hs p (D.map (·.1)) PL (lotsIx PL D) aO aR aG rows → NetM Hs H' aO aR rows (endD al D PL pr) → Q (.ref p) H'
theorem ok_filled {f fI C : Addr} {fd fdI : FuncData} (F : Fun K "filled" "filled" s_filled f fd) (T : Tx K mg) (TN : TxN K C) (hNet : mg "Network" = some (.ref C)) (MK : Mk K C fI) (bI : Binds K fdI ["self", "demands", "prices"] []) (FI : FnOk P w K mg base CX0 1 fI fdI ["self", "demands", "prices"] (sp_init C))
    (A_fill_all : Mth P w K mg base C 4 "fill_all" ["self"] [] (sp_fillAll C)) : FnOk P w K mg base CX0 5 f fd ["demands", "prices", "parcels"] (sp_filled C) := by
  refine F.ok sc_filled (fun vs H Q E h => ?_) (fun cdv A outer s H vs Q E hr h => ?_)
  · obtain ⟨da, pa, x, b, ts, D, pr, al, rfl, _⟩ := h
    rfl
  · obtain ⟨da, pa, x, b, ts, D, pr, al, rfl, hda, hD, h24, h60, hD0, hpa, hprn, hprl, hpr0, hal, k⟩ := h
    have hu := hu_of hr
    refine ⟨_, (pss_cons (ps_lock (ps_setDc (i := 3) (own := [("parcel", 5)]) rfl sc_filled.nd rfl rfl (swD rfl rfl rfl (by decide +kernel)) (pi_keys (pv 1)) (blkOk_by (N := ["demands", "prices", "parcels", "allowed", "found", "parcel"]) (sc := defScope s_filled) (by decide +kernel)) (fun _ _ _ _ _ => (pg_name (i := 5) sc_filled.nd rfl (Or.inl rfl))) (fun _ _ _ _ _ => pts_one (PW.pt (pw_or (pt_cmp (pc_isN (pv 2))) (pw_or1 (pt_cmpR (op_in_seq : OpR _ _ (rIn K false)) (pv 5) (pv 2) (by rfl)))))) (fun _ _ _ _ _ => pv 5) (fun _ _ _ _ _ => pe_dget hu (pv 1) (pv 5) (fun _ _ => rfl))))
    (pss_cons (ps_set (i := 4) sc_filled.nd rfl (Or.inl rfl) (pe_make MK FI (hr.mono (by decide)) (by rfl) hNet bI .nil pass0 (pa_cons (pv 0) (pa_cons (pv 3) pa_nil))))
    (pss_cons (ps_expr (pe_meth0 (pv 4) TN.cl A_fill_all.m A_fill_all.G (hr.mono (by decide)) A_fill_all.b A_fill_all.v pass0))
    (pss_one (ps_ret (pv 4)))))), ?_⟩
    refine ⟨pa, _, hpa, trivial, fun od => ?_⟩
    have key0 : ∀ i, (prF al (pr.take i)).length ≤ 1000 := fun i => by
      unfold prF
      have h1 := List.length_filter_le (fun e : Str × Int => alOk al e.1) (pr.take i)
      rw [List.length_take] at h1
      omega
    have alF : ∀ H1 : Hp, Same (upd H pa (.frz od (.dK (prK pr)))) H1 → AlAt H1 x al := fun H1 S1 => by
      rcases hal with h | ⟨a, b', ps, h1, h2, h3⟩
      · exact .inl h
      · refine .inr ⟨a, b', ps, h1, h2, S1 _ _ ?_⟩
        rw [upd_ne fun e => ?_]
        · exact h3
        · rw [e, hpa] at h3
          cases b' <;> cases h3
    refine ⟨_, rfl, _, _, rfl, .inl ⟨_, upd_same, fun A1 hA1 => ?_⟩⟩
    refine dc_it walk_keys (fun i H' => Same (upd H pa (.frz od (.dK (prK pr)))) H' ∧ H' A1 = some (.dK (prK (prF al (pr.take i))))) ⟨same_upd hA1, upd_same⟩ (fun i H' _ ⟨S, _⟩ => S _ _ upd_same) ?_ ?_
    · rintro i y H1 H2 hi ⟨S1, hDD⟩ ⟨hEq, key, vv, hkv, rfl⟩
      subst H2
      obtain ⟨e, he, rfl, rfl⟩ := prK_take hkv
      have hpa1 := S1 _ _ (upd_same (H := H))
      have hlk : pr.lookup e.1 = some e.2 := lookup_ndS hprn (List.mem_of_getElem? he)
      have hkeep : ∀ bb : Bool, bb = alOk al e.1 → (if bb = true then (tVar 5) (([some (.ref da), some (.ref pa), some x, none, none, none] : L2.St) |>.set 5 (some (.str e.1))) H1 fun y H4 => (tDGet (tVar 1) (tVar 5)) (([some (.ref da), some (.ref pa), some x, none, none, none] : L2.St) |>.set 5 (some (.str e.1))) H4 fun z H5 => ∃ kvs k, y = kV k ∧ H5 A1 = some (.dK kvs) ∧ kvs.length < sizeLine ∧
            (Same (upd H pa (.frz od (.dK (prK pr)))) (upd H5 A1 (.dK (putK kvs k z))) ∧ upd H5 A1 (.dK (putK kvs k z)) A1 = some (.dK (prK (prF al (pr.take (i + 1))))))
          else Same (upd H pa (.frz od (.dK (prK pr)))) H1 ∧ H1 A1 = some (.dK (prK (prF al (pr.take (i + 1)))))) := by
        intro bb hb
        rw [take_snoc he]
        cases hc : alOk al e.1 with
        | true =>
          rw [hb, hc]
          refine iteT ?_
          have hnew : e.1 ∉ (prF al (pr.take i)).map (·.1) := fun hm => by
            obtain ⟨e', h1, h2⟩ := List.mem_map.mp hm
            obtain ⟨j, hj⟩ := List.mem_iff_getElem?.mp (prF_sub e' h1)
            have hji : j < i := by
              have := (List.getElem?_eq_some_iff.mp hj).1
              rw [List.length_take] at this
              omega
            rw [List.getElem?_take_of_lt hji] at hj
            have g1 : (pr.map (·.1))[j]? = some e.1 := by
              rw [List.getElem?_map, hj]
              exact congrArg some h2
            have g2 : (pr.map (·.1))[i]? = some e.1 := by
              rw [List.getElem?_map, he]
              rfl
            have := (List.getElem?_inj (List.getElem?_eq_some_iff.mp g1).1 hprn).mp (g1.trans g2.symm)
            omega
          refine ⟨_, rfl, _, rfl, _, rfl, pa, V.int e.2, rfl, .inl ⟨_, Sum.inr e.1, .inr ⟨od, hpa1⟩, rfl, by rw [valV_prK, hlk]; rfl⟩, prK (prF al (pr.take i)), Sum.inr e.1, rfl, hDD, ?_, same_new S1 hA1, ?_⟩
          · unfold prK
            rw [List.length_map]
            exact Nat.lt_of_le_of_lt (key0 i) (by decide)
          · rw [upd_same, prK_new hnew]
            unfold prF
            rw [List.filter_append]
            simp [hc]
        | false =>
          rw [hb, hc]
          refine iteF ⟨S1, ?_⟩
          rw [hDD]
          unfold prF
          simp [hc]
      refine ⟨rfl, ?_⟩
      have hal1 := alF H1 S1
      refine ⟨_, rfl, _, rfl, ?_⟩
      rcases hal1 with ⟨h1, rfl⟩ | ⟨a, b', ps, h1, rfl, ha⟩
      · exact iteT (hkeep true (by rw [h1]; rfl))
      · refine iteF ?_
        refine ⟨_, rfl, _, rfl, _, _, rfl, sq_either ha, rfl, flat_str ps, _, rfl, ?_⟩
        show if inV (.str e.1) (ps.map V.str) = true then _ else _
        rw [inV_str]
        exact hkeep _ (by rw [h1]; rfl)
    · rintro H1 ⟨S1, hA⟩
      have hll : (prK pr).length = pr.length := by
        unfold prK
        rw [List.length_map]
      rw [hll, List.take_length] at hA
      refine ⟨S1 _ _ upd_same, ?_⟩
      have npA : A1 ≠ pa := (ne_of_none upd_same hA1).symm
      have S2 : Same H (upd H1 pa (.dK (prK pr))) := fun c o e => by
        by_cases q : c = pa
        · subst q
          rw [upd_same]
          rw [hpa] at e
          exact e
        · rw [upd_ne q]
          refine S1 _ _ ?_
          rw [upd_ne q]
          exact e
      have hA2 : upd H1 pa (.dK (prK pr)) A1 = some (.dK (prK (prF al pr))) := by
        rw [upd_ne npA]
        exact hA
      generalize upd H1 pa (.dK (prK pr)) = H2 at S2 hA2 ⊢
      refine ⟨_, rfl, _, rfl, fun p dx hp0 hdx0 hne => ?_⟩
      have Sd := same_upd (o := .own p) hdx0
      have hp1 : upd H2 dx (.own p) p = none := by
        rw [upd_ne (Ne.symm hne)]
        exact hp0
      have Sp := Sd.trans (same_upd (o := .ins C dx []) hp1)
      refine ⟨H2, p, dx, da, A1, b, ts, D, prF al pr, rfl, Sp, hp0, upd_same, (S2.trans Sp) _ _ hda, DemsAt.same hD (S2.trans Sp), h24, h60, Sp _ _ hA2, fun Hs H' PL aO aR aG rows plk pll S0 NS NM => ⟨rfl, ?_⟩⟩
      have hcl : ∀ c ∈ PL.map (lkP (prF al pr)), 0 ≤ c := fun c hc => by
        obtain ⟨z, _, rfl⟩ := List.mem_map.mp hc
        exact lkP_nn (fun e he => hpr0 e (prF_sub e he)) z
      have hal0 : ∀ c ∈ amts D, 0 ≤ c := fun c hc => by
        obtain ⟨d, hd, rfl⟩ := List.mem_map.mp hc
        exact hD0 d hd
      have hnl : (amts D).length = D.length := List.length_map _
      have hml : (PL.map (lkP (prF al pr))).length = PL.length := List.length_map _
      have hL := lotsIx_lt plk
      have FL := flow0 (lots := lotsIx PL D) hal0 hcl
      rw [hnl, hml] at FL
      have hix : (lotsIx PL D).length = D.length := List.length_map _
      obtain ⟨dx', aN, aP, apl, aL, lo, hpS, _⟩ := NS.ex
      refine ⟨_, rfl, p, dx', _, rfl, NM.same _ _ hpS, fl_no _ _ _ _ _ _ _ (by decide +kernel) (by decide +kernel) (by decide +kernel) (by decide +kernel) (by decide +kernel) (by decide +kernel) (by decide +kernel), ?_⟩
      refine ⟨Hs, p, aO, aR, aG, D.map (·.1), PL, lotsIx PL D, rows, _, D.length, PL.length, _, _, rfl, NS, NM, FL, hix, List.length_map _, hL, h24, Nat.le_trans pll (by decide), fun v H3 F3 M3 => ?_⟩
      refine ⟨_, rfl, k _ _ _ _ _ _ _ _ plk pll (S2.trans S0) NS ?_⟩
      unfold endD endS
      rw [hnl]
      exact M3
end
end Dr

set_option maxHeartbeats 8000000
/-! greatest_plan. -/
namespace Dr
open PySem PySem.Spec PyProof.Rows L2
/-- the plan that the function tells -/
def GreatE (al : Option (List Str)) (D : List Dem) (pr : List (Str × Int)) (E : List Ent) : Prop := ∃ PL : List Str, PLok D PL ∧ PL.length ≤ 60 ∧ E.Perm (entG (D.map (·.1)) PL (endD al D PL pr).G PL.length D.length) ∧ (E.map (·.1)).Pairwise (fun a b => plt a b = true)
section
variable {P : Program} {w : World} {K : PySem.W.Frag} {mg : Str → Option Value} {base : Heap}
abbrev s_greatest_plan : Stmt := topS 24
theorem sc_greatest_plan : FnScope ["demands", "prices", "parcels"] ["demands", "prices", "parcels"] (defScope s_greatest_plan) := ⟨rfl, rfl, rfl, by decide +kernel, rfl, by decide +kernel, by decide +kernel⟩
def sp_greatest : Sp := fun vs H Q _ => ∃ (da pa : Addr) (x : V) (b : Bool) (ts : List Addr) (D : List Dem) (pr : List (Str × Int)) (al : Option (List Str)), vs = [.ref da, .ref pa, x] ∧ H da = some (seqO b (ts.map V.ref)) ∧ DemsAt H ts D ∧ (∀ d ∈ D, DemOk d) ∧ (D.map (·.1)).Nodup ∧ D.length ≤ 24 ∧ lotsLen D ≤ 60 ∧ H pa = some (.dK (prK pr)) ∧ (pr.map (·.1)).Nodup ∧ pr.length ≤ 1000 ∧ (∀ e ∈ pr, NameOk e.1 ∧ 0 ≤ e.2) ∧ AlAt H x al ∧
  ∀ (R : Addr) (E : List Ent) (H' : Hp), Same H H' → H R = none → H' R = some (.dT (plT E)) → GreatE al D pr E → Q (.ref R) H'
theorem ok_greatest {f C : Addr} {fd : FuncData} (F : FunK K "greatest_plan" "greatest_plan" s_greatest_plan [] [("parcels", .non)] f fd) (T : Tx K mg) (TN : TxN K C) (A_check_demands : Fn P w K mg base 4 "check_demands" ["value"] sp_chkD) (A_check_prices : Fn P w K mg base 3 "check_prices" ["value"] sp_chkP)
    (A_filled : Fn P w K mg base 5 "filled" ["demands", "prices", "parcels"] (sp_filled C)) (A_plan : Mth P w K mg base C 1 "plan" ["self"] [] (sp_plan C)) : FnOk P w K mg base CX0 6 f fd ["demands", "prices", "parcels"] sp_greatest := by
  refine okD F sc_greatest_plan (fun vs H Q E h => ?_) (fun cdv A outer s H vs Q E hr h => ?_)
  · obtain ⟨da, pa, x, b, ts, D, pr, al, rfl, _⟩ := h
    rfl
  · obtain ⟨da, pa, x, b, ts, D, pr, al, rfl, hda, hD, hDok, hDn, h24, h60, hpa, hprn, hprl, hprok, hal, k⟩ := h
    have hu := hu_of hr
    -- slots 0:demands 1:prices 2:parcels
    refine ⟨_, (pss_cons (ps_expr (pe_call A_check_demands.G (hr.mono (by decide)) (by rfl) A_check_demands.m A_check_demands.kp A_check_demands.b A_check_demands.v pass0 (pa_cons (pv 0) pa_nil)))
    (pss_cons (ps_expr (pe_call A_check_prices.G (hr.mono (by decide)) (by rfl) A_check_prices.m A_check_prices.kp A_check_prices.b A_check_prices.v pass0 (pa_cons (pv 1) pa_nil)))
    (pss_one (ps_ret (pe_meth0 (pe_call A_filled.G (hr.mono (by decide)) (by rfl) A_filled.m A_filled.kp A_filled.b A_filled.v pass0 (pa_cons (pv 0) (pa_cons (pv 1) (pa_cons (pv 2) pa_nil)))) TN.cl A_plan.m A_plan.G (hr.mono (by decide)) A_plan.b A_plan.v pass0))))), ?_⟩
    refine ⟨_, rfl, da, b, ts, D, rfl, hda, hD, hDok, hDn, h24, fun H1 S1 => ?_⟩
    refine ⟨_, rfl, pa, pr, rfl, S1 _ _ hpa, hprok, fun H2 S2 => ?_⟩
    have S := S1.trans S2
    refine ⟨_, rfl, _, rfl, _, rfl, da, pa, x, b, ts, D, pr, al, rfl, S _ _ hda, hD.same S, h24, h60, fun d hd => Int.le_trans (by decide) (hDok d hd).am, S _ _ hpa, hprn, hprl, fun e he => (hprok e he).2, hal.same S, fun Hs H3 p PL aO aR aG rows plk pll S0 NS NM => ?_⟩
    have hcl : ∀ c ∈ PL.map (lkP (prF al pr)), 0 ≤ c := fun c hc => by
      obtain ⟨z, _, rfl⟩ := List.mem_map.mp hc
      exact lkP_nn (fun e he => (hprok e (prF_sub e he)).2) z
    have hal0 : ∀ c ∈ amts D, 0 ≤ c := fun c hc => by
      obtain ⟨d, hd, rfl⟩ := List.mem_map.mp hc
      exact Int.le_trans (by decide) (hDok d hd).am
    have hnl : (amts D).length = D.length := List.length_map _
    have hml : (PL.map (lkP (prF al pr))).length = PL.length := List.length_map _
    have hL := lotsIx_lt plk
    have EO := (end_ok (lots := lotsIx PL D) hal0 hcl (by rw [hnl, hml]; exact hL)).1
    rw [hnl, hml] at EO
    obtain ⟨dx', aN, aP, apl, aL, lo, hpS, _⟩ := NS.ex
    refine ⟨p, dx', _, rfl, NM.same _ _ hpS, fl_no _ _ _ _ _ _ _ (by decide +kernel) (by decide +kernel) (by decide +kernel) (by decide +kernel) (by decide +kernel) (by decide +kernel) (by decide +kernel), ?_⟩
    refine ⟨Hs, p, aO, aR, aG, D.map (·.1), PL, lotsIx PL D, rows, _, D.length, PL.length, rfl, NS, NM, EO.sh, List.length_map _, rfl, hDn, plk.nd, h24, Nat.le_trans pll (by decide), fun R E' H4 S4 hR0 hR hp hasc => ?_⟩
    exact k _ _ _ (S.trans (S0.trans (NM.same.trans S4))) ((S.trans (S0.trans NM.same)).free hR0) hR ⟨PL, plk, pll, hp, hasc⟩
end
end Dr

set_option maxHeartbeats 4000000
/-! What the plan is, in plain sums. -/
namespace Dr
open PySem PySem.Spec PyProof.Rows L2
theorem perm_sum {l l' : List Int} (h : l.Perm l') : l.sum = l'.sum := by
  induction h with
  | nil => rfl
  | cons x _ ih => rw [List.sum_cons, List.sum_cons, ih]
  | swap x y l =>
    rw [List.sum_cons, List.sum_cons, List.sum_cons, List.sum_cons]
    omega
  | trans _ _ h1 h2 => exact h1.trans h2
theorem gvn_perm {E E' : List Ent} (h : E.Perm E') (z : Str) : gvn E z = gvn E' z := perm_sum ((h.filter _).map _)
theorem tkn_perm {E E' : List Ent} (h : E.Perm E') (z : Str) : tkn E z = tkn E' z := perm_sum ((h.filter _).map _)
theorem gvn_append (A B : List Ent) (z : Str) : gvn (A ++ B) z = gvn A z + gvn B z := by
  unfold gvn
  rw [List.filter_append, List.map_append, List.sum_append]
theorem tkn_append (A B : List Ent) (z : Str) : tkn (A ++ B) z = tkn A z + tkn B z := by
  unfold tkn
  rw [List.filter_append, List.map_append, List.sum_append]
theorem gvn_one (a b z : Str) (v : Int) : gvn [((a, b), v)] z = if a = z then v else 0 := by
  unfold gvn
  by_cases c : a = z
  · rw [if_pos c]
    simp [c]
  · rw [if_neg c]
    simp [c]
theorem tkn_one (a b z : Str) (v : Int) : tkn [((a, b), v)] z = if b = z then v else 0 := by
  unfold tkn
  by_cases c : b = z
  · rw [if_pos c]
    simp [c]
  · rw [if_neg c]
    simp [c]
theorem gvn_nil (z : Str) : gvn [] z = 0 := rfl
theorem tkn_nil (z : Str) : tkn [] z = 0 := rfl
theorem entR_sum (a : Str) (PL : List Str) {row : List Int} (h : ∀ p, 0 ≤ gi row p) : ∀ j, ((entR a PL row j).map (·.2)).sum = sumR j (gi row)
  | 0 => rfl
  | j + 1 => by
    rw [entR_succ, List.map_append, List.sum_append, entR_sum a PL h j, sumR_succ]
    have := h j
    by_cases c : 0 < gi row j
    · rw [if_pos c]
      simp
    · rw [if_neg c]
      simp
      omega
theorem entR_gvn (a : Str) (PL : List Str) {row : List Int} (h : ∀ p, 0 ≤ gi row p) (z : Str) : ∀ j, gvn (entR a PL row j) z = if a = z then sumR j (gi row) else 0
  | 0 => by
    rw [sumR_zero]
    split <;> rfl
  | j + 1 => by
    rw [entR_succ, gvn_append, entR_gvn a PL h z j, sumR_succ]
    have := h j
    by_cases c : 0 < gi row j
    · rw [if_pos c, gvn_one]
      by_cases q : a = z
      · rw [if_pos q, if_pos q, if_pos q]
      · rw [if_neg q, if_neg q, if_neg q]
        rfl
    · rw [if_neg c, gvn_nil]
      by_cases q : a = z
      · rw [if_pos q, if_pos q]
        omega
      · rw [if_neg q, if_neg q]
        rfl
theorem entR_tkn (a : Str) {PL : List Str} (hn : PL.Nodup) {row : List Int} (h : ∀ p, 0 ≤ gi row p) {p : Nat} (hp : p < PL.length) : ∀ j, j ≤ PL.length → tkn (entR a PL row j) (PL.getD p "") = if p < j then gi row p else 0
  | 0, _ => rfl
  | j + 1, hj => by
    rw [entR_succ, tkn_append, entR_tkn a hn h hp j (by omega)]
    have h0 := h j
    by_cases e : p = j
    · subst e
      rw [if_neg (Nat.lt_irrefl _), if_pos (Nat.lt_succ_self _)]
      by_cases c : 0 < gi row p
      · rw [if_pos c, tkn_one, if_pos rfl]
        omega
      · rw [if_neg c, tkn_nil]
        omega
    · have hne : ¬ PL.getD j "" = PL.getD p "" := fun q => e (getD_inj hn (by omega) hp q).symm
      have e2 : (if 0 < gi row j then [((a, PL.getD j ""), gi row j)] else [] : List Ent) = (if 0 < gi row j then [((a, PL.getD j ""), gi row j)] else []) := rfl
      have e3 : tkn (if 0 < gi row j then [((a, PL.getD j ""), gi row j)] else [] : List Ent) (PL.getD p "") = 0 := by
        by_cases c : 0 < gi row j
        · rw [if_pos c, tkn_one, if_neg hne]
        · rw [if_neg c, tkn_nil]
      rw [e3]
      by_cases c : p < j
      · rw [if_pos c, if_pos (by omega)]
        omega
      · rw [if_neg c, if_neg (by omega)]
        rfl
section
variable {nms PL : List Str} {G : List (List Int)} {m : Nat}
theorem entG_sum (h : ∀ d p, 0 ≤ at2 G d p) : ∀ i, ((entG nms PL G m i).map (·.2)).sum = sumR i (fun d => rowS m G d)
  | 0 => rfl
  | i + 1 => by
    rw [entG_succ, List.map_append, List.sum_append, entG_sum h i, entR_sum _ _ (h i), sumR_succ]
    rfl
theorem entG_gvn (hn : nms.Nodup) (h : ∀ d p, 0 ≤ at2 G d p) {d : Nat} (hd : d < nms.length) : ∀ i, i ≤ nms.length → gvn (entG nms PL G m i) (nms.getD d "") = if d < i then rowS m G d else 0
  | 0, _ => rfl
  | i + 1, hi => by
    rw [entG_succ, gvn_append, entG_gvn hn h hd i (by omega), entR_gvn _ _ (h i)]
    by_cases e : d = i
    · subst e
      rw [if_neg (Nat.lt_irrefl _), if_pos rfl, if_pos (Nat.lt_succ_self _), Int.zero_add]
      rfl
    · have hne : ¬ nms.getD i "" = nms.getD d "" := fun q => e (getD_inj hn (by omega) hd q).symm
      rw [if_neg hne]
      by_cases c : d < i
      · rw [if_pos c, if_pos (by omega)]
        omega
      · rw [if_neg c, if_neg (by omega)]
        rfl
theorem entG_tkn (hn : PL.Nodup) (h : ∀ d p, 0 ≤ at2 G d p) (hm : m = PL.length) {p : Nat} (hp : p < PL.length) : ∀ i, tkn (entG nms PL G m i) (PL.getD p "") = colS i G p
  | 0 => rfl
  | i + 1 => by
    rw [entG_succ, tkn_append, entG_tkn hn h hm hp i, entR_tkn _ hn (h i) hp m (by omega), if_pos (by omega)]
    unfold colS
    rw [sumR_succ]
    rfl
end
/-! the network of a world -/
structure World1 (al : Option (List Str)) (D : List Dem) (pr : List (Str × Int)) (PL : List Str) : Prop where
  pl : PLok D PL
  nd : (D.map (·.1)).Nodup
  am : ∀ d ∈ D, 0 ≤ d.2.1
  pn : ∀ e ∈ pr, 0 ≤ e.2
section
variable {al : Option (List Str)} {D : List Dem} {pr : List (Str × Int)} {PL : List Str}
theorem World1.end_ (W : World1 al D pr PL) : Flow D.length PL.length (lotsIx PL D) (gi (amts D)) (gi (PL.map (lkP (prF al pr)))) (endD al D PL pr) ∧ Done D.length (lotsIx PL D) (endD al D PL pr) (List.range D.length) := by
  have hcl : ∀ c ∈ PL.map (lkP (prF al pr)), 0 ≤ c := fun c hc => by
    obtain ⟨z, _, rfl⟩ := List.mem_map.mp hc
    exact lkP_nn (fun e he => W.pn e (prF_sub e he)) z
  have hal0 : ∀ c ∈ amts D, 0 ≤ c := fun c hc => by
    obtain ⟨d, hd, rfl⟩ := List.mem_map.mp hc
    exact W.am d hd
  have hnl : (amts D).length = D.length := List.length_map _
  have hml : (PL.map (lkP (prF al pr))).length = PL.length := List.length_map _
  have EO := end_ok (lots := lotsIx PL D) hal0 hcl (by rw [hnl, hml]; exact lotsIx_lt W.pl)
  rw [hnl, hml] at EO
  exact EO
theorem amt_at {k : Nat} (hk : k < D.length) : gi (amts D) k = (D[k]).2.1 := by
  unfold gi amts
  rw [List.getD_eq_getElem?_getD, List.getElem?_map, List.getElem?_eq_getElem hk]
  rfl
theorem name_at {k : Nat} (hk : k < D.length) : (D.map (·.1) : List Str).getD k ("" : Str) = (D[k]).1 := by
  rw [List.getD_eq_getElem?_getD, List.getElem?_map, List.getElem?_eq_getElem hk]
  rfl
theorem cap_at {f : Str → Int} {p : Nat} (hp : p < PL.length) : gi (PL.map f) p = f (PL.getD p "") := by
  unfold gi
  rw [List.getD_eq_getElem?_getD, List.getElem?_map, List.getD_eq_getElem?_getD, List.getElem?_eq_getElem hp]
  rfl
theorem lots_at {k : Nat} (hk : k < D.length) : (lotsIx PL D).getD k [] = (D[k]).2.2.map (ixOf PL) := by
  unfold lotsIx
  rw [List.getD_eq_getElem?_getD, List.getElem?_map, List.getElem?_eq_getElem hk]
  rfl
theorem lot_place (W : PLok D PL) {k : Nat} (hk : k < D.length) {p : Nat} (hp : p < PL.length) : p ∈ (lotsIx PL D).getD k [] ↔ PL.getD p "" ∈ (D[k]).2.2 := by
  rw [lots_at hk, List.mem_map]
  constructor
  · rintro ⟨z, hz, rfl⟩
    rw [(ixOf_ok ((W.mem z).mpr ⟨_, List.getElem_mem hk, hz⟩)).2]
    exact hz
  · intro h
    refine ⟨_, h, ?_⟩
    obtain ⟨h1, h2⟩ := ixOf_ok ((W.mem _).mpr ⟨_, List.getElem_mem hk, h⟩)
    exact getD_inj W.nd h1 hp h2
end
end Dr

set_option maxHeartbeats 4000000
/-! The plan told is a greatest plan, no shorter way is left, and it is one alone. -/
namespace Dr
open PySem PySem.Spec PyProof.Rows L2
theorem sumR_list (f : Nat → Int) : ∀ (n : Nat), sumR n f = ((List.range n).map f).sum := fun _ => rfl
/-- a sum over the places of a list -/
theorem sumR_getD {PL : List Str} (f : Str → Int) : sumR PL.length (fun p => f (PL.getD p "")) = (PL.map f).sum := by
  unfold sumR
  congr 1
  refine List.ext_getElem? fun i => ?_
  rw [List.getElem?_map, List.getElem?_map]
  by_cases h : i < PL.length
  · rw [List.getElem?_range h, List.getElem?_eq_getElem h]
    show some (f (PL.getD i "")) = some (f PL[i])
    rw [List.getD_eq_getElem?_getD, List.getElem?_eq_getElem h]
    rfl
  · rw [List.getElem?_eq_none (by rw [List.length_range]; omega), List.getElem?_eq_none (by omega)]
    rfl
theorem sum_if_filter (p : Str → Bool) (f : Str → Int) : ∀ l : List Str, (l.map fun z => if p z = true then f z else 0).sum = ((l.filter p).map f).sum
  | [] => rfl
  | a :: r => by
    rw [List.map_cons, List.sum_cons, sum_if_filter p f r]
    cases c : p a with
    | true =>
      rw [List.filter_cons_of_pos c]
      simp
    | false =>
      rw [List.filter_cons_of_neg (by rw [c]; decide)]
      simp
theorem asc_ndS {l : List Str} (h : l.Pairwise (fun a b => slt a b = true)) : l.Nodup := h.imp fun {a b} x e => by
  rw [e, slt_irrefl] at x
  cases x
theorem perm_of_mem {l l' : List Str} (h : l.Nodup) (h' : l'.Nodup) (m : ∀ z, z ∈ l ↔ z ∈ l') : l.Perm l' := (List.perm_ext_iff_of_nodup h h').mpr m
theorem PLok.uniq {D : List Dem} {PL PL' : List Str} (h : PLok D PL) (h' : PLok D PL') : PL = PL' := by
  refine List.Perm.eq_of_pairwise (le := fun a b => slt a b = true) (fun a b _ _ h1 h2 => ?_) h.asc h'.asc (perm_of_mem h.nd h'.nd fun z => by rw [h.mem, h'.mem])
  rw [slt_asymm h1] at h2
  cases h2
theorem amtOf_at {D : List Dem} {k : Nat} (hk : k < D.length) : amtOf D k = (D[k]).2.1 := by
  unfold amtOf
  rw [List.getElem?_eq_getElem hk]
  rfl
theorem lotOf_at {D : List Dem} {k : Nat} (hk : k < D.length) : lotOf D k = (D[k]).2.2 := by
  unfold lotOf
  rw [List.getElem?_eq_getElem hk]
  rfl
theorem row_in (T : Nat → Bool) : ∀ n, (List.range n).filter T ∈ cutsM n
  | 0 => by simp [cutsM]
  | n + 1 => by
    have ih := row_in T n
    show _ ∈ cutsM n ++ (cutsM n).map (· ++ [n])
    rw [List.range_succ, List.filter_append]
    cases c : T n with
    | true =>
      refine List.mem_append_right _ (List.mem_map.mpr ⟨_, ih, ?_⟩)
      simp [c]
    | false =>
      refine List.mem_append_left _ ?_
      simp [c]
      exact ih
section
variable {al : Option (List Str)} {D : List Dem} {pr : List (Str × Int)} {PL : List Str} {E : List Ent}
theorem worth_cut (W : World1 al D pr PL) {row : List Nat} {v : Int} {T : Nat → Prop} (h : Worth D pr row al v) (hT : ∀ d, d < D.length → (d ∈ row ↔ T d)) : v = cutW D.length PL.length (fun d => (lotsIx PL D).getD d []) (gi (amts D)) (gi (PL.map (lkP (prF al pr)))) T := by
  obtain ⟨ys, hasc, hym, rfl⟩ := h
  unfold cutW
  congr 1
  · refine sumR_congr fun d hd => ?_
    by_cases c : T d
    · rw [if_pos c, if_pos ((hT d hd).mpr c)]
    · rw [if_neg c, if_neg fun q => c ((hT d hd).mp q), amtOf_at hd, amt_at hd]
  · have hys : ∀ p, p < PL.length → ((∃ d, d < D.length ∧ T d ∧ p ∈ (lotsIx PL D).getD d []) ↔ PL.getD p "" ∈ ys) := fun p hp => by
      rw [hym]
      constructor
      · rintro ⟨d, h1, h2, h3⟩
        exact ⟨d, h1, (hT d h1).mpr h2, by rw [lotOf_at h1]; exact (lot_place W.pl h1 hp).mp h3⟩
      · rintro ⟨d, h1, h2, h3⟩
        rw [lotOf_at h1] at h3
        exact ⟨d, h1, (hT d h1).mp h2, (lot_place W.pl h1 hp).mpr h3⟩
    have hpe : (PL.filter fun z => decide (z ∈ ys)).Perm ys := perm_of_mem (W.pl.nd.filter _) (asc_ndS hasc) fun z => by
      rw [List.mem_filter]
      constructor
      · rintro ⟨_, h⟩
        exact of_decide_eq_true h
      · intro h
        obtain ⟨k, h1, _, h3⟩ := (hym z).mp h
        rw [lotOf_at h1] at h3
        exact ⟨(W.pl.mem z).mpr ⟨_, List.getElem_mem h1, h3⟩, decide_eq_true h⟩
    refine Eq.symm ?_
    refine (sumR_congr (g := fun p => (fun z : Str => if decide (z ∈ ys) = true then lkP (prF al pr) z else 0) (PL.getD p "")) fun p hp => ?_).trans ?_
    · by_cases c : PL.getD p "" ∈ ys
      · rw [if_pos ((hys p hp).mpr c), cap_at hp]
        show _ = if decide (PL.getD p "" ∈ ys) = true then _ else _
        rw [if_pos (decide_eq_true c)]
      · rw [if_neg fun q => c ((hys p hp).mp q)]
        show _ = if decide (PL.getD p "" ∈ ys) = true then _ else _
        rw [if_neg fun q => c (of_decide_eq_true q)]
    · rw [sumR_getD (fun z : Str => if decide (z ∈ ys) = true then lkP (prF al pr) z else 0), sum_if_filter, perm_sum (hpe.map _), ← sum_if_filter]
      congr 1
      exact List.map_congr_left fun z _ => lkP_F al z pr
/-- an entry of the plan -/
theorem ent_of (W : World1 al D pr PL) (hp : E.Perm (entG (D.map (·.1)) PL (endD al D PL pr).G PL.length D.length)) {e : Ent} (he : e ∈ E) : ∃ d p, ∃ hd : d < D.length, p < PL.length ∧ 0 < at2 (endD al D PL pr).G d p ∧ e = (((D[d]).1, PL.getD p ""), at2 (endD al D PL pr).G d p) := by
  obtain ⟨d, p, h1, h2, h3, h4⟩ := mem_entG.mp (hp.mem_iff.mp he)
  rw [name_at h1] at h4
  exact ⟨d, p, h1, h2, h3, h4⟩
theorem gvn_of (W : World1 al D pr PL) (hp : E.Perm (entG (D.map (·.1)) PL (endD al D PL pr).G PL.length D.length)) {d : Nat} (hd : d < D.length) : gvn E (D[d]).1 = rowS PL.length (endD al D PL pr).G d := by
  have hl : (D.map (·.1)).length = D.length := List.length_map _
  rw [gvn_perm hp, ← name_at hd, entG_gvn W.nd W.end_.1.nn (by rw [hl]; exact hd) D.length (by rw [hl]; exact Nat.le_refl _), if_pos hd]
theorem tkn_of (W : World1 al D pr PL) (hp : E.Perm (entG (D.map (·.1)) PL (endD al D PL pr).G PL.length D.length)) {p : Nat} (hq : p < PL.length) : tkn E (PL.getD p "") = colS D.length (endD al D PL pr).G p := by
  rw [tkn_perm hp, entG_tkn W.pl.nd W.end_.1.nn rfl hq]
theorem cap_pos (W : World1 al D pr PL) {d p : Nat} (hd : d < D.length) (hp : p < PL.length) (h : 0 < at2 (endD al D PL pr).G d p) : 0 < lkP (prF al pr) (PL.getD p "") := by
  obtain ⟨FL, _⟩ := W.end_
  obtain ⟨h1, h2⟩ := FL.rs p hp
  have h3 : at2 (endD al D PL pr).G d p ≤ colS D.length (endD al D PL pr).G p := by
    have : sumR D.length (fun i => if i = d then at2 (endD al D PL pr).G d p else 0) ≤ colS D.length (endD al D PL pr).G p := sumR_le fun i _ => by
      have := FL.nn i p
      by_cases c : i = d
      · rw [if_pos c, c]
        exact Int.le_refl _
      · rw [if_neg c]
        exact this
    rw [sumR_pt, if_pos hd] at this
    exact this
  rw [cap_at hp] at h1
  omega
theorem great_of (hg : GreatE al D pr E) (hn : (D.map (·.1)).Nodup) (h24 : D.length ≤ 24) (ha : ∀ d ∈ D, 0 ≤ d.2.1) (hpn : ∀ e ∈ pr, 0 ≤ e.2) : Great D pr al E := by
  obtain ⟨PL, plk, pll, hp, hasc⟩ := hg
  have W : World1 al D pr PL := ⟨plk, hn, ha, hpn⟩
  obtain ⟨FL, DN⟩ := W.end_
  have hsum : (E.map (·.2)).sum = tot D.length PL.length (endD al D PL pr).G := by
    rw [perm_sum (hp.map _), entG_sum FL.nn]
    rfl
  refine ⟨⟨asc_nd hasc, ?_, fun e he => ?_⟩, hasc, fun e he => ?_, fun row v hv => ?_, ?_⟩
  · have h1 := entG_len (D.map (·.1)) PL (endD al D PL pr).G PL.length D.length
    have h2 := hp.length_eq
    have h3 : D.length * PL.length ≤ 24 * 60 := Nat.mul_le_mul h24 pll
    omega
  · obtain ⟨d, p, hd, hq, h0, rfl⟩ := ent_of W hp he
    refine ⟨h0, D[d], List.getElem_mem hd, rfl, (lot_place plk hd hq).mp (FL.su d p h0), ?_, ?_⟩
    · show gvn E (D[d]).1 ≤ _
      obtain ⟨h1, h2⟩ := FL.ow d hd
      rw [gvn_of W hp hd]
      rw [amt_at hd] at h1
      omega
    · show tkn E (PL.getD p "") ≤ lkP pr (PL.getD p "")
      obtain ⟨h1, h2⟩ := FL.rs p hq
      rw [tkn_of W hp hq]
      rw [cap_at hq, lkP_F] at h1
      have := lkP_nn hpn (PL.getD p "")
      split at h1 <;> omega
  · obtain ⟨d, p, hd, hq, h0, rfl⟩ := ent_of W hp he
    have h1 := cap_pos W hd hq h0
    rw [lkP_F] at h1
    show alOk al (PL.getD p "") = true
    by_cases c : alOk al (PL.getD p "") = true
    · exact c
    · rw [if_neg c] at h1
      omega
  · rw [hsum, worth_cut W hv fun d _ => Iff.rfl]
    exact cut_ge FL _
  · obtain ⟨T, _, _, h3⟩ := cut_eq FL DN
    have i1 : DecidablePred T := fun d => Classical.propDecidable _
    refine ⟨_, row_in (fun d => decide (T d)) D.length, fun v hv => ?_⟩
    rw [hsum, h3, worth_cut W hv (T := T) fun d hd => ?_]
    · exact Int.le_refl _
    · rw [List.mem_filter]
      exact ⟨fun h => of_decide_eq_true h.2, fun h => ⟨List.mem_range.mpr hd, decide_eq_true h⟩⟩
theorem lookup_E (hasc : (E.map (·.1)).Nodup) {k : Str × Str} (h : 0 < (E.lookup k).getD 0) : (k, (E.lookup k).getD 0) ∈ E := by
  cases q : E.lookup k with
  | none =>
    rw [q] at h
    exact absurd h (by decide)
  | some v =>
    obtain ⟨l1, l2, e, _⟩ := List.lookup_eq_some_iff.mp q
    show (k, v) ∈ E
    rw [e]
    simp
theorem short_of (hg : GreatE none D pr E) (hn : (D.map (·.1)).Nodup) (ha : ∀ d ∈ D, 0 ≤ d.2.1) (hpn : ∀ e ∈ pr, 0 ≤ e.2) : ∃ T : Dem → Prop, Short D pr E T := by
  obtain ⟨PL, plk, pll, hp, hasc⟩ := hg
  have W : World1 none D pr PL := ⟨plk, hn, ha, hpn⟩
  obtain ⟨FL, DN⟩ := W.end_
  obtain ⟨T, hC, hO, _⟩ := cut_eq FL DN
  have hnd := asc_nd hasc
  have uniq : ∀ {i j : Nat} (hi : i < D.length) (hj : j < D.length), (D[i]).1 = (D[j]).1 → i = j := fun {i j} hi hj e => by
    rw [← name_at hi, ← name_at hj] at e
    have hl : (D.map (·.1)).length = D.length := List.length_map _
    exact getD_inj hn (by omega) (by omega) e
  refine ⟨fun d => ∃ k, D[k]? = some d ∧ T k, fun d hd hlt => ?_, fun d hd hT z hz => ?_, fun d hd hT z hz d' hd' hpos => ?_⟩
  · obtain ⟨k, hk⟩ := List.mem_iff_getElem?.mp hd
    obtain ⟨hk1, rfl⟩ := List.getElem?_eq_some_iff.mp hk
    refine ⟨k, hk, ?_⟩
    by_cases c : T k
    · exact c
    · have h1 := hO k hk1 c
      obtain ⟨h2, _⟩ := FL.ow k hk1
      rw [gvn_of W hp hk1] at hlt
      rw [amt_at hk1] at h2
      omega
  · obtain ⟨k, hk, ht⟩ := hT
    obtain ⟨hk1, rfl⟩ := List.getElem?_eq_some_iff.mp hk
    obtain ⟨h1, h2⟩ := ixOf_ok ((plk.mem z).mpr ⟨_, hd, hz⟩)
    have h3 := (hC k hk1 ht (ixOf PL z) ((lot_place plk hk1 h1).mpr (by rw [h2]; exact hz))).1
    obtain ⟨h4, _⟩ := FL.rs _ h1
    have h5 := tkn_of W hp h1
    rw [h2] at h5
    rw [cap_at h1, h2, lkP_F] at h4
    rw [if_pos (show alOk none z = true from rfl)] at h4
    rw [h5]
    omega
  · obtain ⟨k, hk, ht⟩ := hT
    obtain ⟨hk1, rfl⟩ := List.getElem?_eq_some_iff.mp hk
    obtain ⟨h1, h2⟩ := ixOf_ok ((plk.mem z).mpr ⟨_, hd, hz⟩)
    obtain ⟨k', hk'⟩ := List.mem_iff_getElem?.mp hd'
    obtain ⟨hk1', rfl⟩ := List.getElem?_eq_some_iff.mp hk'
    refine ⟨k', hk', ?_⟩
    obtain ⟨d2, p2, hd2, hp2, h0, he⟩ := ent_of W hp (lookup_E hnd hpos)
    have e1 := congrArg (fun e : Ent => e.1.1) he
    have e2 := congrArg (fun e : Ent => e.1.2) he
    have e3 := uniq hk1' hd2 e1
    have e4 : ixOf PL z = p2 := getD_inj plk.nd h1 hp2 (h2.trans e2)
    subst e3
    subst e4
    exact (hC k hk1 ht _ ((lot_place plk hk1 h1).mpr (by rw [h2]; exact hz))).2 k' hk1' h0
/-- one plan alone -/
theorem great_one {al' : Option (List Str)} {pr' : List (Str × Int)} {E' : List Ent} (h : GreatE al D pr E) (h' : GreatE al' D pr' E') (e : ∀ z, lkP (prF al pr) z = lkP (prF al' pr') z) : E = E' := by
  obtain ⟨PL, plk, _, hp, hasc⟩ := h
  obtain ⟨PL', plk', _, hp', hasc'⟩ := h'
  obtain rfl := plk.uniq plk'
  have e2 : endD al D PL pr = endD al' D PL pr' := by
    unfold endD
    rw [show PL.map (lkP (prF al pr)) = PL.map (lkP (prF al' pr')) from List.map_congr_left fun z _ => e z]
  rw [← e2] at hp'
  refine List.Perm.eq_of_pairwise (le := fun a b : Ent => plt a.1 b.1 = true) (fun a b _ _ h1 h2 => ?_) (List.pairwise_map.mp hasc) (List.pairwise_map.mp hasc') (hp.trans hp'.symm)
  have := plt_asymm h1
  rw [h2] at this
  cases this
/-- nothing to give -/
theorem great_nil (h : GreatE al D pr E) (hn : (D.map (·.1)).Nodup) (ha : ∀ d ∈ D, 0 ≤ d.2.1) (hpn : ∀ e ∈ pr, 0 ≤ e.2) (h0 : D = [] ∨ al = some [] ∨ pr = []) : E = [] := by
  obtain ⟨PL, plk, pll, hp, hasc⟩ := h
  have W : World1 al D pr PL := ⟨plk, hn, ha, hpn⟩
  cases E with
  | nil => rfl
  | cons e r =>
    obtain ⟨d, p, hd, hq, hpos, _⟩ := ent_of W hp (List.mem_cons_self (a := e))
    have h1 := cap_pos W hd hq hpos
    rw [lkP_F] at h1
    rcases h0 with rfl | rfl | rfl
    · exact absurd hd (Nat.not_lt_zero _)
    · rw [if_neg (by show ¬ decide (PL.getD p "" ∈ ([] : List Str)) = true; simp)] at h1
      exact absurd h1 (by decide)
    · have e0 : lkP [] (PL.getD p "") = 0 := rfl
      rw [e0] at h1
      split at h1 <;> exact absurd h1 (by decide)
end
end Dr

set_option maxHeartbeats 4000000
/-! d[text] = v, d a dict whose keys are tuples. -/
namespace Dr
open PySem PySem.Spec PyProof.Rows L2
section
variable {prog : Program} {w : World} {A : Around} {E : Value → Shared → Prop} {s : Shared}
theorem tells_str {x : Str} {t : Tok} {stored : List Value} {Q : Bool → Shared → Prop} (hst : ∀ v ∈ stored, ∃ k' b, v = .ref b ∧ (tupleKind (mixKind prog w)).is s.heap k' b) (h : Q false s) : wpAny (model prog w) A (tableMayTell (.str x t) stored) Q E s := by
  unfold tableMayTell
  split
  · exact wpAny_pure h
  · rw [eqIsQuiet_byValue _ (by rfl)]
    refine wpAny_bind (wpAny_pure ?_)
    simp only [Bool.not_true, Bool.false_eq_true, if_false]
    refine wpAny_bind ?_
    refine wpAny_forIn_list _ (fun rest r s' => s' = s ∧ r = (none, ()) ∧ ∀ v ∈ rest, ∃ k' b, v = .ref b ∧ (tupleKind (mixKind prog w)).is s.heap k' b) _ ?_ ?_ _ _ ⟨rfl, rfl, hst⟩
    · rintro x rest r s' ⟨rfl, rfl, hr⟩
      obtain ⟨k', b, rfl, hb⟩ := hr x List.mem_cons_self
      refine wpAny_bind ((tupleKind (mixKind prog w)).quiet hb ?_)
      simp only [Bool.not_true, Bool.false_eq_true, if_false]
      exact wpAny_pure ⟨rfl, rfl, fun v hv => hr v (List.mem_cons_of_mem _ hv)⟩
    · rintro r s' ⟨rfl, rfl, _⟩
      exact wpAny_pure h
theorem find_str {d : Addr} {o : Obj} {es : Array DictEntry} {ep : Nat} {xs : List (List Key × Addr × Value)} {x : Str} {t : Tok} {h : Int} {Q : Option Nat → Shared → Prop} (hu : A.units < cLine) (ho : s.heap.get? d = some o) (hd : o.data = .dict es ep)
    (he : es.toList = xs.map (entryOfKey (tupleKind (mixKind prog w)))) (his : ∀ x ∈ xs, (tupleKind (mixKind prog w)).is s.heap x.1 x.2.1) (q : Q none s) : wpAny (model prog w) A (dictFind d (.str x t) h) Q E s := by
  have hmem : ∀ e ∈ es, ∃ x ∈ xs, e = entryOfKey (tupleKind (mixKind prog w)) x := by
    intro e hin
    have : e ∈ xs.map (entryOfKey (tupleKind (mixKind prog w))) := he ▸ Array.mem_toList_iff.mpr hin
    obtain ⟨x, hx, rfl⟩ := List.mem_map.mp this
    exact ⟨x, hx, rfl⟩
  have hst : ∀ v ∈ (placesWithHash es.size (fun i => es[i]?.map (·.hash)) h).filterMap (fun i => es[i]?.map (·.key)), ∃ k' b, v = .ref b ∧ (tupleKind (mixKind prog w)).is s.heap k' b := by
    intro v hv
    obtain ⟨i, _, hi⟩ := List.mem_filterMap.mp hv
    cases hei : es[i]? with
    | none => rw [hei] at hi; cases hi
    | some e =>
      rw [hei] at hi
      obtain rfl : e.key = v := by simpa using hi
      obtain ⟨x, hx, rfl⟩ := hmem e (Array.mem_of_getElem? hei)
      exact ⟨x.1, x.2.1, rfl, his x hx⟩
  unfold dictFind
  try with_reducible refine wpAny_holding ?_
  refine wpAny_bind (wpAny_dictEntries ho hd ?_)
  dsimp only
  by_cases h0 : (es.all fun e => isExactStrKey e.key) = true
  · rw [if_pos h0]
    have hx0 : es = #[] := by
      cases hx : xs with
      | nil =>
        rw [hx] at he
        exact Array.toList_eq_nil_iff.mp he
      | cons a r =>
        rw [hx] at he
        have hm : entryOfKey (tupleKind (mixKind prog w)) a ∈ es := Array.mem_toList_iff.mp (by rw [he]; exact List.mem_cons_self)
        rw [Array.all_eq_true_iff_forall_mem] at h0
        exact absurd (h0 _ hm) (by simp [entryOfKey, isExactStrKey])
    subst hx0
    unfold foundByValue
    refine wpAny_bind (wpAny_pure ?_)
    rw [Array.findIdx?_empty]
    exact wpAny_pure q
  · rw [if_neg h0]
    by_cases h1 : (((Value.str x t) :: (placesWithHash es.size (fun i => es[i]?.map (·.hash)) h).filterMap (fun i => es[i]?.map (·.key))).all carriedByValue) = true
    · rw [if_pos h1]
      have hp : ∀ i ∈ placesWithHash es.size (fun i => es[i]?.map (·.hash)) h, False := fun i hi => by
        have hh : (es[i]?.map (·.hash) == some h) = true := (List.mem_filter.mp hi).2
        cases hei : es[i]? with
        | none =>
          rw [hei] at hh
          exact absurd hh (by simp)
        | some e =>
          have hm : e.key ∈ (placesWithHash es.size (fun i => es[i]?.map (·.hash)) h).filterMap (fun i => es[i]?.map (·.key)) := List.mem_filterMap.mpr ⟨i, hi, by rw [hei]; rfl⟩
          obtain ⟨k', b, e1, _⟩ := hst _ hm
          rw [List.all_cons, Bool.and_eq_true, List.all_eq_true] at h1
          have := h1.2 _ hm
          rw [e1] at this
          exact absurd this (by simp [carriedByValue])
      have hp0 : placesWithHash es.size (fun i => es[i]?.map (·.hash)) h = [] := by
        cases hx : placesWithHash es.size (fun i => es[i]?.map (·.hash)) h with
        | nil => rfl
        | cons a r => exact (hp a (by rw [hx]; exact List.mem_cons_self)).elim
      rw [hp0]
      refine wpAny_bind ?_
      rw [List.forIn_nil]
      exact wpAny_pure (wpAny_pure q)
    · rw [if_neg h1]
      have hne : ¬ ((placesWithHash es.size (fun i => es[i]?.map (·.hash)) h).filterMap (fun i => es[i]?.map (·.key)) == [Value.str x t]) = true := fun hh => by
        have e1 := eq_of_beq hh
        obtain ⟨k', b, e2, _⟩ := hst (.str x t) (by rw [e1]; simp)
        cases e2
      rw [if_neg hne]
      refine wpAny_bind (tells_str hst ?_)
      rw [if_neg (by simp)]
      refine wpAny_bind ?_
      refine wpAny_forIn_list _ (fun rest b s' => s' = s ∧ b = (none, none)) _ ?_ ?_ _ _ ⟨rfl, rfl⟩
      · rintro i rest b s' ⟨rfl, rfl⟩
        cases hei : es[i]? with
        | none => exact wpAny_pure ⟨rfl, rfl⟩
        | some e =>
          obtain ⟨y, hy, rfl⟩ := hmem e (Array.mem_of_getElem? hei)
          obtain ⟨o2, items, n, ho2, hc2, hd2, _⟩ := (show IsTupleKey (mixKind prog w) s'.heap y.1 y.2.1 from his y hy)
          dsimp only
          by_cases hh : ((entryOfKey (tupleKind (mixKind prog w)) y).hash == h) = true
          · rw [if_pos hh]
            refine wpAny_bind (wpAny_dictEpoch ho hd (wpAny_bind (SeqAt.EqAt.tuple_str (items := items) x t ⟨o2, ho2, hc2, n, hd2⟩ hu _ _ _ _ (wpAny_bind (wpAny_dictEpoch ho hd ?_)))))
            rw [if_neg (by simp)]
            simp only [Bool.false_eq_true, if_false]
            refine wpAny_bind (wpAny_rule ?_)
            first
              | exact wpAny_pure ⟨rfl, rfl⟩
              | exact wpAny_bind (wpAny_pure (wpAny_pure ⟨rfl, rfl⟩))
              | (rw [if_neg (by simp)]; exact wpAny_pure ⟨rfl, rfl⟩)
          · rw [if_neg hh]
            exact wpAny_pure ⟨rfl, rfl⟩
      · rintro b s' ⟨rfl, rfl⟩
        exact wpAny_pure q
theorem dictSet_str {d : Addr} {xs : List (List Key × Addr × Value)} {x : Str} {t : Tok} {v : Value} {Q : Unit → Shared → Prop} (hu : A.units < cLine) (hm : s.heap.DictOfH (tupleKind (mixKind prog w)) d xs)
    (hQ : ∀ h' t', (∃ o, h'.get? d = some o) → Heap.SameBut d s.heap h' → Q () { s with heap := h', toks := t' }) (hsz : xs.length ≤ sizeLine) :
    wpAny (model prog w) A (dictSet d (.str x t) v) Q E s := by
  obtain ⟨o, es, ep, ho, hc, hd, he, his, hn⟩ := hm
  unfold dictSet
  try with_reducible refine wpAny_holding ?_
  refine wpAny_bind (wpAny_pyHash_str ?_)
  unfold dictSetHashed
  try with_reducible refine wpAny_holding ?_
  refine wpAny_bind (find_str (s := { s with toks := s.toks + 1 }) hu ho hd he his ?_)
  exact wpAny_bind (wpAny_rule (wpAny_updateDictKeys (hz := by have e := size_of_entries he; omega) (s := { s with toks := s.toks + 1 }) ho hd (hQ _ _ ⟨_, Heap.get?_update_self _ ho (Obj.isFreed_of_dict (Obj.data_mapDictKeys hd _))⟩ (Heap.SameBut.update ..))))
theorem setItem_str {d : Addr} {xs : List (List Key × Addr × Value)} {x : Str} {t : Tok} {v : Value} {Q : Unit → Shared → Prop} (hu : A.units + 1 < cLine) (hm : s.heap.DictOfH (tupleKind (mixKind prog w)) d xs)
    (hQ : ∀ h' t', (∃ o, h'.get? d = some o) → Heap.SameBut d s.heap h' → Q () { s with heap := h', toks := t' }) (hsz : xs.length ≤ sizeLine) :
    wpAny (model prog w) A (setItem (.ref d) (.str x t) v) Q E s := by
  unfold setItem
  try with_reducible refine wpAny_holding ?_
  refine wpAny_bind (wpAny_sequenceKey hm.typeIs (by decide) ?_)
  refine wpAny_bind (wpAny_callSpecial?_slot (name := Str.ofString "__setitem__") hm.typeIs PySem.F.slot_dict_setitem
    (wpAny_call_entry PySem.F.slot_dict_setitem hm.typeIs PySem.F.entry_dict_setitem ?_ (PySem.args_dict_setitem _ _ _)))
  show wpAny _ _ (Builtin.Dict.notOrdered "__setitem__" ⟨[.ref d, .str x t, v], []⟩ >>= _) _ _ s
  refine wpAny_bind (wpAny_notOrdered_dict hm.typeIs ?_)
  show wpAny _ _ (dictSet d (.str x t) v >>= _) _ _ s
  exact wpAny_bind (dictSet_str hu hm (fun h' t' ho' hs' => wpAny_pure ⟨.none, rfl, wpAny_pure (hQ h' t' ho' hs')⟩) hsz)
end
section
variable {X : Cx}
def tSetTx : TSet := fun o i v H Q => ∃ (a : Addr) (kvs : List (List Key × V)) (z : Str), o = .ref a ∧ i = .str z ∧ H a = some (.dT kvs) ∧ Q (upd H a (.ext fun _ => True))
theorem set_strT (hu : X.A.units + 1 < cLine) : PSet X tSetTx := by
  intro pins s σ H o i v ov iv u Q I ro ri rv h
  obtain ⟨a, kvs, z, rfl, rfl, ha, q⟩ := h
  cases ro
  obtain ⟨t, rfl⟩ := ri
  obtain ⟨zl, hd, xs, rel, dd⟩ := dt_of I.hok ha
  refine setItem_str hu dd (fun h' t' ho hs => ⟨_, d_write (ob := .ext fun _ => True) I (by rw [ha]; exact True.intro) hs ho ⟨True.intro, ho, fun _ _ _ _ => True.intro⟩, q⟩) ?_
  rw [← Paired.length rel]
  exact zl
end
end Dr

set_option maxHeartbeats 4000000
/-! What the law's walk leans on. -/
namespace Dr
open PySem PySem.Spec PyProof.Rows L2
/-- all but the dicts with tuple keys is as it was -/
structure Kp (H H' : Hp) : Prop where
  keep : ∀ x o, H x = some o → (∀ kvs, o ≠ .dT kvs) → H' x = some o
  dom : ∀ x, H' x = none → H x = none
theorem Kp.of_same {H H' : Hp} (s : Same H H') : Kp H H' := ⟨fun x o h _ => s x o h, fun x h => s.free h⟩
theorem Kp.trans {H H1 H2 : Hp} (a : Kp H H1) (b : Kp H1 H2) : Kp H H2 := ⟨fun x o h n => b.keep x o (a.keep x o h n) n, fun x h => a.dom x (b.dom x h)⟩
theorem Kp.put {H : Hp} {R : Addr} {kvs : List (List Key × V)} {o : HO} (h : H R = some (.dT kvs)) : Kp H (upd H R o) := ⟨fun x u e n => by
    have ne : x ≠ R := fun q => by
      rw [q, h] at e
      exact n kvs (Option.some.inj e).symm
    rw [upd_ne ne]
    exact e, fun x e => by
    by_cases q : x = R
    · rw [q, upd_same] at e
      cases e
    · rw [upd_ne q] at e
      exact e⟩
theorem nt_lst (xs : List V) : ∀ kvs, HO.lst xs ≠ .dT kvs := fun _ h => by cases h
theorem nt_tup (xs : List V) : ∀ kvs, HO.tup xs ≠ .dT kvs := fun _ h => by cases h
theorem nt_dK (xs : List (Key × V)) : ∀ kvs, HO.dK xs ≠ .dT kvs := fun _ h => by cases h
theorem Kp.lst {H H' : Hp} (k : Kp H H') {a : Addr} {xs : List V} (h : H a = some (.lst xs)) : H' a = some (.lst xs) := k.keep _ _ h (nt_lst _)
theorem Kp.tup {H H' : Hp} (k : Kp H H') {a : Addr} {xs : List V} (h : H a = some (.tup xs)) : H' a = some (.tup xs) := k.keep _ _ h (nt_tup _)
theorem Kp.dK {H H' : Hp} (k : Kp H H') {a : Addr} {xs : List (Key × V)} (h : H a = some (.dK xs)) : H' a = some (.dK xs) := k.keep _ _ h (nt_dK _)
theorem Kp.dems {H H' : Hp} (k : Kp H H') {us : List Addr} {D : List Dem} (h : DemsAt H us D) : DemsAt H' us D := Paired.mapP h fun _ _ ⟨q, h1, h2⟩ => ⟨q, k.tup h1, k.tup h2⟩
theorem Kp.bag {H H' : Hp} (k : Kp H H') {b c : Addr} (h : BagAt H b c) : BagAt H' b c := by
  obtain ⟨cells, i, r, m, q, B⟩ := h
  exact ⟨cells, i, r, m, q, k.lst B.at_, k.lst B.cs, B.i0, B.r0, B.m0, B.m1⟩
/-- the world of a turn -/
structure WAt (H : Hp) (b c da pa q : Addr) (us : List Addr) (D : List Dem) (pr : List (Str × Int)) (ys : List Str) : Prop where
  bg : BagAt H b c
  da : H da = some (.lst (us.map V.ref))
  dm : DemsAt H us D
  pa : H pa = some (.dK (prK pr))
  sm : H q = some (.lst (ys.map V.str))
theorem WAt.kp {H H' : Hp} {b c da pa q : Addr} {us : List Addr} {D : List Dem} {pr : List (Str × Int)} {ys : List Str} (w : WAt H b c da pa q us D pr ys) (k : Kp H H') : WAt H' b c da pa q us D pr ys :=
  ⟨k.bag w.bg, k.lst w.da, k.dems w.dm, k.dK w.pa, k.lst w.sm⟩
theorem WAt.same {H H' : Hp} {b c da pa q : Addr} {us : List Addr} {D : List Dem} {pr : List (Str × Int)} {ys : List Str} (w : WAt H b c da pa q us D pr ys) (s : Same H H') : WAt H' b c da pa q us D pr ys := w.kp (.of_same s)
theorem WAt.fr {H H' : Hp} {b c da pa q : Addr} {us : List Addr} {D : List Dem} {pr : List (Str × Int)} {ys : List Str} (w : WAt H b c da pa q us D pr ys) (f : Fr H H') (B : BagAt H' b c) : WAt H' b c da pa q us D pr ys :=
  ⟨B, f.keep _ _ w.da (nb_ref _), f.dems w.dm, f.keep _ _ w.pa (nb_dK _), f.keep _ _ w.sm (nb_str _)⟩
structure WOk (D : List Dem) (pr : List (Str × Int)) : Prop where
  ok : ∀ d ∈ D, DemOk d
  nd : (D.map (·.1)).Nodup
  n24 : D.length ≤ 24
  l60 : lotsLen D ≤ 60
  prn : (pr.map (·.1)).Nodup
  prok : ∀ e ∈ pr, NameOk e.1 ∧ 0 ≤ e.2
  prl : pr.length ≤ 1000
theorem WOk.am {D : List Dem} {pr : List (Str × Int)} (W : WOk D pr) : ∀ d ∈ D, 0 ≤ d.2.1 := fun d hd => Int.le_trans (by decide) (W.ok d hd).am
theorem WOk.pn {D : List Dem} {pr : List (Str × Int)} (W : WOk D pr) : ∀ e ∈ pr, 0 ≤ e.2 := fun e he => (W.prok e he).2
theorem lots5 {D : List Dem} (h : ∀ d ∈ D, DemOk d) : lotsLen D ≤ 12 * D.length := by
  induction D with
  | nil => exact Nat.le_refl _
  | cons d r ih =>
    have h1 := ih fun x hx => h x (List.mem_cons_of_mem _ hx)
    have h2 := (h d List.mem_cons_self).lt.hi
    unfold lotsLen at *
    rw [List.map_cons, List.sum_cons, List.length_cons]
    omega
theorem WOk.rev {D : List Dem} {pr : List (Str × Int)} (W : WOk D pr) : WOk D pr.reverse :=
  ⟨W.ok, W.nd, W.n24, W.l60, by rw [List.map_reverse]; exact nd_rev W.prn, fun e he => W.prok e (List.mem_reverse.mp he), by rw [List.length_reverse]; exact W.prl⟩
theorem lkP_rev {pr : List (Str × Int)} (h : (pr.map (·.1)).Nodup) (z : Str) : lkP pr.reverse z = lkP pr z := by
  unfold lkP
  rw [lookup_rev h]
theorem one_rev {al : Option (List Str)} {D : List Dem} {pr : List (Str × Int)} {E E' : List Ent} (W : WOk D pr) (h : GreatE al D pr E) (h' : GreatE al D pr.reverse E') : E' = E :=
  great_one h' h fun z => by rw [lkP_F, lkP_F, lkP_rev W.prn]
theorem WOk.great {al : Option (List Str)} {D : List Dem} {pr : List (Str × Int)} {E : List Ent} (W : WOk D pr) (h : GreatE al D pr E) : Great D pr al E := great_of h W.nd W.n24 W.am W.pn
/-! demands in another order -/
theorem paired_perm {α β : Type} {F : α → β → Prop} {xs ys : List α} (h : ys.Perm xs) : ∀ {D : List β}, Paired F xs D → ∃ D', Paired F ys D' ∧ D'.Perm D := by
  induction h with
  | nil => exact fun p => ⟨_, p, .refl _⟩
  | cons x _ ih =>
    intro D p
    cases p with
    | cons a t =>
      obtain ⟨D', h1, h2⟩ := ih t
      exact ⟨_, .cons a h1, h2.cons _⟩
  | swap x y l =>
    intro D p
    cases p with
    | cons a t =>
      cases t with
      | cons b t => exact ⟨_, .cons b (.cons a t), .swap _ _ _⟩
  | trans _ _ h1 h2 =>
    intro D p
    obtain ⟨D1, p1, q1⟩ := h2 p
    obtain ⟨D2, p2, q2⟩ := h1 p1
    exact ⟨D2, p2, q2.trans q1⟩
theorem paired_ref {F : Addr → Dem → Prop} : ∀ {us : List Addr} {D : List Dem}, Paired F us D → Paired (fun v d => ∃ t, v = V.ref t ∧ F t d) (us.map V.ref) D
  | _, _, .nil => .nil
  | _, _, .cons a t => .cons ⟨_, rfl, a⟩ (paired_ref t)
theorem ref_paired {F : Addr → Dem → Prop} : ∀ {xs : List V} {D : List Dem}, Paired (fun v d => ∃ t, v = V.ref t ∧ F t d) xs D → ∃ us, xs = us.map V.ref ∧ Paired F us D
  | _, _, .nil => ⟨[], rfl, .nil⟩
  | _, _, .cons ⟨t, e, a⟩ r => by
    obtain ⟨us, h1, h2⟩ := ref_paired r
    subst e
    subst h1
    exact ⟨t :: us, rfl, .cons a h2⟩
theorem dems_perm {H : Hp} {us : List Addr} {D : List Dem} {xs : List V} (h : DemsAt H us D) (p : xs.Perm (us.map V.ref)) : ∃ us' D', xs = us'.map V.ref ∧ DemsAt H us' D' ∧ D'.Perm D := by
  obtain ⟨D', h1, h2⟩ := paired_perm p (paired_ref h)
  obtain ⟨us', h3, h4⟩ := ref_paired h1
  exact ⟨us', D', h3, h4, h2⟩
theorem WOk.perm {D D' : List Dem} {pr : List (Str × Int)} (W : WOk D pr) (p : D'.Perm D) : WOk D' pr := by
  refine ⟨fun d hd => W.ok d (p.mem_iff.mp hd), (p.map _).nodup_iff.mpr W.nd, by rw [p.length_eq]; exact W.n24, ?_, W.prn, W.prok, W.prl⟩
  have : lotsLen D' = lotsLen D := by
    unfold lotsLen
    exact (p.map _).sum_nat
  rw [this]
  exact W.l60
/-! data -/
def dDem (d : Dem) : PyData := .tuple [.str d.1, .int d.2.1, .tuple (d.2.2.map .str)]
def dPr (e : Str × Int) : PyData := .tuple [.str e.1, .int e.2]
def dKept (D : List Dem) (pr : List (Str × Int)) (ys : List Str) : PyData := .list [.list (D.map dDem), .list (pr.map dPr), .list (ys.map .str)]
theorem dp_dem {K : PySem.W.Frag} {H : Hp} {t : Addr} {d : Dem} (h : DemAt H t d) : Dp K H (.ref t) (dDem d) := by
  obtain ⟨q, h1, h2⟩ := h
  exact .tup (SqT.of h1) (.cons (.str _) (.cons (.int _) (.cons (.tup (SqT.of h2) (dp_strs _)) .nil)))
theorem dp_pr {K : PySem.W.Frag} {H : Hp} {t : Addr} {e : Key × V} {p : Str × Int} (he : e = (Sum.inr p.1, V.int p.2)) (h : H t = some (.tup [kV e.1, e.2])) : Dp K H (.ref t) (dPr p) := by
  subst he
  exact .tup (SqT.of h) (.cons (.str _) (.cons (.int _) .nil))
theorem dp_pr2 {K : PySem.W.Frag} {H : Hp} {t : Addr} {e : Str × Int} (h : H t = some (.tup [.str e.1, .int e.2])) : Dp K H (.ref t) (dPr e) := .tup (SqT.of h) (.cons (.str _) (.cons (.int _) .nil))
theorem prs_of {H : Hp} : ∀ {ts : List Addr} {pr : List (Str × Int)}, Paired (fun t (e : Key × V) => H t = some (.tup [kV e.1, e.2])) ts (prK pr) → Paired (fun t (e : Str × Int) => H t = some (.tup [.str e.1, .int e.2])) ts pr
  | _, [], .nil => .nil
  | _, _ :: _, .cons a r => .cons a (prs_of r)
structure KeptAt (H : Hp) (l l1 l2 l3 : Addr) (us ts : List Addr) (D : List Dem) (pr : List (Str × Int)) (ys : List Str) : Prop where
  l0 : H l = some (.lst [.ref l1, .ref l2, .ref l3])
  l1 : H l1 = some (.lst (us.map V.ref))
  dm : DemsAt H us D
  l2 : H l2 = some (.lst (ts.map V.ref))
  pr : Paired (fun t (e : Str × Int) => H t = some (.tup [.str e.1, .int e.2])) ts pr
  l3 : H l3 = some (.lst (ys.map V.str))
theorem KeptAt.kp {H H' : Hp} {l l1 l2 l3 : Addr} {us ts : List Addr} {D : List Dem} {pr : List (Str × Int)} {ys : List Str} (x : KeptAt H l l1 l2 l3 us ts D pr ys) (k : Kp H H') : KeptAt H' l l1 l2 l3 us ts D pr ys :=
  ⟨k.lst x.l0, k.lst x.l1, k.dems x.dm, k.lst x.l2, Paired.mapP x.pr fun _ _ h => k.tup h, k.lst x.l3⟩
theorem KeptAt.dp {K : PySem.W.Frag} {H : Hp} {l l1 l2 l3 : Addr} {us ts : List Addr} {D : List Dem} {pr : List (Str × Int)} {ys : List Str} (x : KeptAt H l l1 l2 l3 us ts D pr ys) : Dp K H (.ref l) (dKept D pr ys) :=
  .lst (SqL.of x.l0) (.cons (.lst (SqL.of x.l1) (dp_refs (fun _ _ h => dp_dem h) x.dm)) (.cons (.lst (SqL.of x.l2) (dp_refs (d := dPr) (fun _ _ h => dp_pr2 h) x.pr)) (.cons (.lst (SqL.of x.l3) (dp_strs _)) .nil)))
theorem sd_kept {D : List Dem} {pr : List (Str × Int)} {ys : List Str} (W : WOk D pr) (hy : ∀ z ∈ ys, NameOk z) : Sd 4 (dKept D pr ys) := by
  refine Sd.list fun d hd => ?_
  rcases List.mem_cons.mp hd with e | hd
  · rw [e]
    refine Sd.list fun x hx => ?_
    obtain ⟨d, hd, rfl⟩ := List.mem_map.mp hx
    refine Sd.tup fun y hy => ?_
    have o := W.ok d hd
    rcases List.mem_cons.mp hy with e | hy
    · rw [e]
      exact o.nm.sd 1
    · rcases List.mem_cons.mp hy with e | hy
      · rw [e]
        exact Sd.int _ 1
      · have e : y = .tuple (d.2.2.map .str) := by simpa using hy
        rw [e]
        exact Sd.tup (sd_strs o.lt.nm 0)
  · rcases List.mem_cons.mp hd with e | hd
    · rw [e]
      refine Sd.list fun x hx => ?_
      obtain ⟨p, hp, rfl⟩ := List.mem_map.mp hx
      refine Sd.tup fun y hy => ?_
      rcases List.mem_cons.mp hy with e | hy
      · rw [e]
        exact (W.prok p hp).1.sd 1
      · have e : y = .int p.2 := by simpa using hy
        rw [e]
        exact Sd.int _ 1
    · have e : d = .list (ys.map .str) := by simpa using hd
      rw [e]
      exact Sd.list (sd_strs hy 2)
/-! the same items -/
theorem sm_pair {H : Hp} {t t' : Addr} {e : Ent} (h : PairAt H t (keyT e.1, V.int e.2)) (h' : PairAt H t' (keyT e.1, V.int e.2)) : Sm H 2 (.ref t) (.ref t') := by
  obtain ⟨b, h1, h2⟩ := h
  obtain ⟨b', h3, h4⟩ := h'
  refine .inr (.inl ⟨t, t', _, _, true, rfl, rfl, h1, h3, .cons (.inr (.inl ⟨b, b', _, _, true, rfl, rfl, h2, h4, .cons (.inr ⟨_, rfl, rfl⟩) (.cons (.inr ⟨_, rfl, rfl⟩) .nil), by show 2 ≤ 10000; decide⟩)) (.cons (.inl (.inl ⟨_, rfl, rfl⟩)) .nil), by show 2 ≤ 10000; decide⟩)
theorem sm_pairs {H : Hp} : ∀ {E : List Ent} {ts ts' : List Addr}, Paired (PairAt H) ts (plT E) → Paired (PairAt H) ts' (plT E) → Paired (Sm H 2) (ts.map V.ref) (ts'.map V.ref)
  | [], _, _, .nil, .nil => .nil
  | _ :: _, _, _, .cons a r, .cons a' r' => .cons (sm_pair a a') (sm_pairs r r')
theorem sm_items {H : Hp} {E : List Ent} {l l' : Addr} {ts ts' : List Addr} (hl : H l = some (.lst (ts.map V.ref))) (hl' : H l' = some (.lst (ts'.map V.ref))) (h : Paired (PairAt H) ts (plT E)) (h' : Paired (PairAt H) ts' (plT E)) (hE : E.length ≤ 10000) : Sm H 3 (.ref l) (.ref l') := by
  refine .inr (.inl ⟨l, l', _, _, false, rfl, rfl, hl, hl', sm_pairs h h', ?_⟩)
  have h1 := Paired.length h
  have h2 : (plT E).length = E.length := List.length_map _
  rw [List.length_map]
  omega
theorem Kp.pairs {H H' : Hp} (k : Kp H H') {ts : List Addr} {kvs : List (List Key × V)} (h : Paired (PairAt H) ts kvs) : Paired (PairAt H') ts kvs := Paired.mapP h fun _ _ ⟨b, h1, h2⟩ => ⟨b, k.tup h1, k.tup h2⟩
theorem pairs_upd {H : Hp} {L : Addr} {xs : List V} {o : HO} (h : H L = some (.lst xs)) {ts : List Addr} {kvs : List (List Key × V)} (p : Paired (PairAt H) ts kvs) : Paired (PairAt (upd H L o)) ts kvs := Paired.mapP p fun t e ⟨b, h1, h2⟩ => by
  refine ⟨b, ?_, ?_⟩
  · rw [upd_ne fun q => ?_]
    · exact h1
    · rw [q, h] at h1
      cases h1
  · rw [upd_ne fun q => ?_]
    · exact h2
    · rw [q, h] at h2
      cases h2
theorem paired_two {α β : Type} {F : α → β → Prop} {l : List α} {x y : β} (h : Paired F l [x, y]) : ∃ a b, l = [a, b] ∧ F a x ∧ F b y := by
  cases h with
  | cons h1 t =>
    cases t with
    | cons h2 t =>
      cases t
      exact ⟨_, _, rfl, h1, h2⟩
end Dr

set_option maxHeartbeats 4000000
/-! The great world at the law's end. -/
namespace Dr
open PySem PySem.Spec PyProof.Rows L2
def P12 : List Str := ["pa", "pb", "pc", "pd", "pe", "pf", "pg", "ph", "pi", "pj", "pk", "pl"]
theorem p12_len : P12.length = 12 := rfl
theorem p12_size : ("abcdefghijkl" : Str).cps.size = 12 := by decide +kernel
theorem p12_all : (List.range 12).all (fun i => decide (P12[i]? = (("abcdefghijkl" : Str).cps[i]?).map fun c => (("p" : Str) ++ (⟨#[c]⟩ : Str)))) = true := by decide +kernel
theorem p12_at {i : Nat} {c : Nat} (h : ("abcdefghijkl" : Str).cps[i]? = some c) : P12[i]? = some (("p" : Str) ++ (⟨#[c]⟩ : Str)) := by
  have hi : i < 12 := by
    have := (Array.getElem?_eq_some_iff.mp h).1
    rw [p12_size] at this
    exact this
  have := of_decide_eq_true (List.all_eq_true.mp p12_all i (List.mem_range.mpr hi))
  rw [h] at this
  exact this
def nameChk (z : Str) : Bool := decide (1 ≤ z.length) && decide (z.length ≤ 6) && z.cps.toList.all fun c => decide (c ∈ abc.cps.toList)
theorem nameChk_ok {z : Str} (h : nameChk z = true) : NameOk z := by
  unfold nameChk at h
  rw [Bool.and_eq_true, Bool.and_eq_true] at h
  exact ⟨of_decide_eq_true h.1.1, of_decide_eq_true h.1.2, fun c hc => of_decide_eq_true (List.all_eq_true.mp h.2 c hc)⟩
theorem p12_names : P12.all nameChk = true := by decide +kernel
theorem p12_ok : ∀ z ∈ P12, NameOk z := fun z hz => nameChk_ok (List.all_eq_true.mp p12_names z hz)
theorem p12_nd : P12.Nodup := by decide +kernel
def lotK (k : Nat) : List Str := cutA P12 (some (k : Int)) (some ((k : Int) + 2))
def lotChk (l : List Str) : Bool := decide (l.length = 2) && l.all nameChk && slt (l.getD 0 "") (l.getD 1 "")
theorem lots_all : (List.range 11).all (fun k => lotChk (lotK k)) = true := by decide +kernel
theorem lotK_ok {k : Nat} (h : k < 11) : LotOk (lotK k) ∧ (lotK k).length = 2 := by
  have q := List.all_eq_true.mp lots_all k (List.mem_range.mpr h)
  unfold lotChk at q
  rw [Bool.and_eq_true, Bool.and_eq_true] at q
  have l2 := of_decide_eq_true q.1.1
  refine ⟨⟨by omega, by omega, fun z hz => nameChk_ok (List.all_eq_true.mp q.1.2 z hz), fun i hi => ?_⟩, l2⟩
  have : i = 0 := by omega
  subst this
  exact q.2
theorem merge_pr {pr : List (Str × Int)} (hnd : (pr.map (·.1)).Nodup) : mergeK [] (prK pr) = prK pr := by
  rw [merge_nd _ [] ?_ fun _ _ => rfl]
  · rfl
  · unfold prK
    rw [List.map_map]
    show (pr.map fun e => (Sum.inr e.1 : Key)).Nodup
    have e3 : (pr.map fun e => (Sum.inr e.1 : Key)) = (pr.map (·.1)).map Sum.inr := by
      rw [List.map_map]
      rfl
    rw [e3]
    unfold List.Nodup at hnd ⊢
    rw [List.pairwise_map]
    exact hnd.imp fun h q => h (Sum.inr.inj q)
/-- the great world -/
theorem WOk.big {D : List Dem} {pr : List (Str × Int)} {zs : List Str} (hl : zs.length = 24) (hn : zs.Nodup) (ho : ∀ z ∈ zs, NameOk z) (hD : D.map (·.1) = zs) (hd : ∀ d ∈ D, 1 ≤ d.2.1 ∧ LotOk d.2.2 ∧ d.2.2.length = 2) (hp : pr.map (·.1) = P12) (hp0 : ∀ e ∈ pr, 0 ≤ e.2) : WOk D pr := by
  have hDl : D.length = 24 := by rw [← hl, ← hD, List.length_map]
  refine ⟨fun d h => ⟨ho _ (by rw [← hD]; exact List.mem_map.mpr ⟨d, h, rfl⟩), (hd d h).1, (hd d h).2.1⟩, by rw [hD]; exact hn, by omega, ?_, by rw [hp]; exact p12_nd, fun e he => ⟨p12_ok _ (by rw [← hp]; exact List.mem_map.mpr ⟨e, he, rfl⟩), hp0 e he⟩, ?_⟩
  · have : lotsLen D = 2 * D.length := by
      clear hDl hD
      induction D with
      | nil => rfl
      | cons d r ih =>
        have h1 := ih fun x hx => hd x (List.mem_cons_of_mem _ hx)
        have h2 := (hd d List.mem_cons_self).2.2
        unfold lotsLen at *
        rw [List.map_cons, List.sum_cons, List.length_cons]
        omega
    omega
  · have : (pr.map (·.1)).length = 12 := by rw [hp]; rfl
    rw [List.length_map] at this
    omega
theorem dem_upd {H : Hp} {L : Addr} {xs : List V} {o : HO} (h : H L = some (.lst xs)) {t : Addr} {d : Dem} (p : DemAt H t d) : DemAt (upd H L o) t d := by
  obtain ⟨q, h1, h2⟩ := p
  refine ⟨q, ?_, ?_⟩
  · rw [upd_ne fun e => ?_]
    · exact h1
    · rw [e, h] at h1
      cases h1
  · rw [upd_ne fun e => ?_]
    · exact h2
    · rw [e, h] at h2
      cases h2
theorem tup_upd {H : Hp} {L : Addr} {xs ys : List V} {o : HO} (h : H L = some (.lst xs)) {t : Addr} (p : H t = some (.tup ys)) : upd H L o t = some (.tup ys) := by
  rw [upd_ne fun e => ?_]
  · exact p
  · rw [e, h] at p
    cases p
theorem prs_to {K : PySem.W.Frag} {H : Hp} : ∀ {ts : List Addr} {pr : List (Str × Int)}, Paired (fun t (e : Str × Int) => H t = some (.tup [.str e.1, .int e.2])) ts pr → Paired (fun t (e : Key × V) => SqT K H t [kV e.1, e.2]) ts (prK pr)
  | _, _, .nil => .nil
  | _, _, .cons a r => .cons (SqT.of a) (prs_to r)
end Dr

set_option maxHeartbeats 16000000
/-! The law. -/
namespace Dr
open PySem PySem.Spec PyProof.Rows L2
section
variable {P : Program} {w : World} {K : PySem.W.Frag} {mg : Str → Option Value} {base : Heap}
abbrev s_law : Stmt := topS 47
theorem sc_law : FnScope ["_law_script", "_law_bag_here", "_law_turn", "_law_places", "_law_claims", "_law_prices_here", "_law_demands_here", "_law_some", "_law_kept", "_law_whole", "_law_part", "_law_first", "_law_late", "_law_mixed_here", "_law_many", "_law_found", "_law_letter", "_law_k", "_law_name", "_law_place", "_law_one"] ["_law_script"] (defScope s_law) := ⟨rfl, rfl, rfl, by decide +kernel, rfl, by decide +kernel, by decide +kernel⟩
def gpK2 {α : Type} : List α → List α → List α := fun _ ws => match ws with
  | [p, d, x] => [d, p, x]
  | _ => ws
def spLaw (K : PySem.W.Frag) : Sp := fun vs H Q _ => ∃ (a : Addr) (ns : List Int), vs = [.ref a] ∧ SqL K H a (ns.map V.int) ∧ ns.length ≤ 63 ∧ ∀ H', Q (.bl true) H'
theorem ok_law {f : Addr} {fd : FuncData} (F : Fun K "law" "law" s_law f fd) (T : Tx K mg) (A__law_bag : Fn P w K mg base 1 "_law_bag" ["_law_script"] (sp_bag K)) (A__law_world : Fn P w K mg base 4 "_law_world" ["_law_bag_here", "_law_most", "_law_held"] sp_world) (A__law_demands : Fn P w K mg base 1 "_law_demands" ["_law_claims"] sp_ldem)
    (A__law_some_places : Fn P w K mg base 3 "_law_some_places" ["_law_bag_here", "_law_places"] sp_some) (A_greatest_plan : FnD P w K mg base 6 "greatest_plan" ["demands", "prices", "parcels"] [.non] sp_greatest) (hk1 : KBn K A_greatest_plan.fd ["demands", "prices", "parcels"] 2 ["parcels"] (fun us ws => us ++ ws) (fun vs zs => vs ++ zs))
    (hk2 : KBn K A_greatest_plan.fd ["demands", "prices", "parcels"] 0 ["prices", "demands", "parcels"] gpK2 gpK2) (A__law_greatest_so : Fn P w K mg base 3 "_law_greatest_so" ["_law_demands_here", "_law_prices_here", "_law_some", "_law_found"] sp_greatSo) (A__law_turned : Fn P w K mg base 1 "_law_turned" ["_law_prices_here"] sp_turned)
    (A__law_same : Fn P w K mg base 5 "_law_same" ["_law_found", "_law_due"] (sp_same 4)) (A__law_mixed : Fn P w K mg base 2 "_law_mixed" ["_law_bag_here", "_law_some"] sp_mixed) (A__law_names : Fn P w K mg base 3 "_law_names" ["_law_bag_here", "_law_many"] sp_names) (A__law_draw : Fn P w K mg base 1 "_law_draw" ["_law_bag_here", "_law_many"] sp_draw)
    (A__law_plan_so : Fn P w K mg base 2 "_law_plan_so" ["_law_demands_here", "_law_prices_here", "_law_value"] sp_planSo) (A__law_shortest : Fn P w K mg base 2 "_law_shortest" ["_law_demands_here", "_law_prices_here", "_law_plan"] sp_short) : FnOk P w K mg base CX0 7 f fd ["_law_script"] (spLaw K) := by
  refine F.ok sc_law (fun vs H Q E h => ?_) (fun cdv A outer s H vs Q E hr h => ?_)
  · obtain ⟨a, ns, rfl, _⟩ := h
    rfl
  · obtain ⟨a, ns, rfl, hS, hl, k⟩ := h
    have hu := hu_of hr
    -- slots 0:_law_script 1:_law_bag_here 2:_law_turn 3:_law_places 4:_law_claims 5:_law_prices_here 6:_law_demands_here 7:_law_some 8:_law_kept 9:_law_whole 10:_law_part 11:_law_first 12:_law_late 13:_law_mixed_here 14:_law_many 15:_law_found 16:_law_letter 17:_law_k 18:_law_name 19:_law_place 20:_law_one
    refine ⟨_, (pss_cons (ps_set (i := 1) sc_law.nd rfl (Or.inr rfl) (pe_call A__law_bag.G (hr.mono (by decide)) (by rfl) A__law_bag.m A__law_bag.kp A__law_bag.b A__law_bag.v pass0 (pa_cons (pv 0) pa_nil)))
    (pss_cons (ps_for PassesOwn.never rfl (pi_range1 (by rfl) T.range_ (pa_cons (pe_int) pa_nil)) (pg_name (i := 2) sc_law.nd rfl (Or.inl rfl))
      (pss_cons (ps_asg (pe_call A__law_world.G (hr.mono (by decide)) (by rfl) A__law_world.m A__law_world.kp A__law_world.b A__law_world.v pass0 (pa_cons (pv 1) (pa_cons (pe_int) (pa_cons (pe_bl) pa_nil)))) (pg_tup (by rfl) (pgs_cons (pg_name (i := 3) sc_law.nd rfl (Or.inr rfl)) (pgs_cons (pg_name (i := 4) sc_law.nd rfl (Or.inl rfl)) (pgs_cons (pg_name (i := 5) sc_law.nd rfl (Or.inl rfl)) pgs_nil))) : PG _ _ (gTup K 3 _)))
      (pss_cons (ps_par (i := 6) (j := 7) (by rfl) sc_law.nd rfl rfl (by decide) rfl rfl (pa_cons (pe_call A__law_demands.G (hr.mono (by decide)) (by rfl) A__law_demands.m A__law_demands.kp A__law_demands.b A__law_demands.v pass0 (pa_cons (pv 4) pa_nil)) (pa_cons (pe_call A__law_some_places.G (hr.mono (by decide)) (by rfl) A__law_some_places.m A__law_some_places.kp A__law_some_places.b A__law_some_places.v pass0 (pa_cons (pv 1) (pa_cons (pv 3) pa_nil))) pa_nil)) (by rfl))
      (pss_cons (ps_set (i := 8) sc_law.nd rfl (Or.inl rfl) (pe_lst (pa_cons (pe_callTy (call_list_of : CallR _ _ (rListOf K)) (by rfl) T.list_ (by decide +kernel) (pa_cons (pv 6) pa_nil)) (pa_cons (LiI.pe_listItems rfl (pv 5) (by rfl) T.list_ (by decide +kernel)) (pa_cons (pe_callTy (call_list_of : CallR _ _ (rListOf K)) (by rfl) T.list_ (by decide +kernel) (pa_cons (pv 7) pa_nil)) pa_nil)))))
      (pss_cons (ps_par (i := 9) (j := 10) (by rfl) sc_law.nd rfl rfl (by decide) rfl rfl (pa_cons (pe_call A_greatest_plan.G (hr.mono (by decide)) (by rfl) A_greatest_plan.m A_greatest_plan.kp A_greatest_plan.b A_greatest_plan.v pass0 (pa_cons (pv 6) (pa_cons (pv 5) pa_nil))) (pa_cons (pe_callN A_greatest_plan.G (hr.mono (by decide)) (by rfl) A_greatest_plan.m A_greatest_plan.kp hk1 pass0 (pa_cons (pv 6) (pa_cons (pv 5) pa_nil)) (pk_cons (pv 7) pk_nil)) pa_nil)) (by rfl))
      (pss_cons (ps_if (PW.pt (pw_or (pt_not (pt_val (pe_call A__law_greatest_so.G (hr.mono (by decide)) (by rfl) A__law_greatest_so.m A__law_greatest_so.kp A__law_greatest_so.b A__law_greatest_so.v pass0 (pa_cons (pv 6) (pa_cons (pv 5) (pa_cons (pe_non) (pa_cons (pv 9) pa_nil))))))) (pw_or1 (pt_not (pt_val (pe_call A__law_greatest_so.G (hr.mono (by decide)) (by rfl) A__law_greatest_so.m A__law_greatest_so.kp A__law_greatest_so.b A__law_greatest_so.v pass0 (pa_cons (pv 6) (pa_cons (pv 5) (pa_cons (pv 7) (pa_cons (pv 10) pa_nil))))))))))
        (pss_one (ps_ret (pe_bl))) pss_nil)
      (pss_cons (ps_set (i := 11) sc_law.nd rfl (Or.inl rfl) (pe_lst (pa_cons (pe_callTy (cr_itT rfl) (by rfl) T.list_ (by decide +kernel) (pa_cons (pe_bm0 PySem.F.plainAttrs_dict PySem.F.slot_dict_items PySem.F.type_dict_items L2.DX.mt_itemsT (pv 9)) pa_nil)) (pa_cons (pe_callTy (cr_itT rfl) (by rfl) T.list_ (by decide +kernel) (pa_cons (pe_bm0 PySem.F.plainAttrs_dict PySem.F.slot_dict_items PySem.F.type_dict_items L2.DX.mt_itemsT (pv 10)) pa_nil)) pa_nil))))
      (pss_cons (ps_asg (pe_int) (pg_sub (pv 9) (pe_str) (set_strT hu)))
      (pss_cons (ps_expr (pe_bm0 PySem.F.plainAttrs_dict PySem.F.slot_dict_clear PySem.F.type_dict_clear mt_clrT (pv 10)))
      (pss_cons (ps_set (i := 12) sc_law.nd rfl (Or.inl rfl) (pe_lst (pa_cons (pe_callN0 A_greatest_plan.G (hr.mono (by decide)) (by rfl) A_greatest_plan.m A_greatest_plan.kp hk2 pass0 (pk_cons (pe_call A__law_turned.G (hr.mono (by decide)) (by rfl) A__law_turned.m A__law_turned.kp A__law_turned.b A__law_turned.v pass0 (pa_cons (pv 5) pa_nil)) (pk_cons (pe_callTy (call_list_of : CallR _ _ (rListOf K)) (by rfl) T.list_ (by decide +kernel) (pa_cons (pv 6) pa_nil)) (pk_cons (pe_non) pk_nil)))) (pa_cons (pe_callN A_greatest_plan.G (hr.mono (by decide)) (by rfl) A_greatest_plan.m A_greatest_plan.kp hk1 pass0 (pa_cons (pv 6) (pa_cons (pe_call A__law_turned.G (hr.mono (by decide)) (by rfl) A__law_turned.m A__law_turned.kp A__law_turned.b A__law_turned.v pass0 (pa_cons (pv 5) pa_nil)) pa_nil)) (pk_cons (pe_callTy (call_list_of : CallR _ _ (rListOf K)) (by rfl) T.list_ (by decide +kernel) (pa_cons (pv 7) pa_nil)) pk_nil)) pa_nil))))
      (pss_cons (ps_if (PW.pt (pw_or (pt_not (pt_val (pe_call A__law_same.G (hr.mono (by decide)) (by rfl) A__law_same.m A__law_same.kp A__law_same.b A__law_same.v pass0 (pa_cons (pe_lc (own := [("_law_one", 20)]) rfl sc_law.nd (pi_list (pv 12) : PI _ _ _ (iList K _)) (blkOk_by (N := ["_law_script", "_law_bag_here", "_law_turn", "_law_places", "_law_claims", "_law_prices_here", "_law_demands_here", "_law_some", "_law_kept", "_law_whole", "_law_part", "_law_first", "_law_late", "_law_mixed_here", "_law_many", "_law_found", "_law_letter", "_law_k", "_law_name", "_law_place", "_law_one"]) (sc := defScope s_law) (by decide +kernel)) (fun _ _ _ _ _ => (pg_name (i := 20) sc_law.nd rfl (Or.inl rfl))) (fun _ _ _ _ _ => pts_nil) (fun _ _ _ _ _ => pe_callTy (cr_itT rfl) (by rfl) T.list_ (by decide +kernel) (pa_cons (pe_bm0 PySem.F.plainAttrs_dict PySem.F.slot_dict_items PySem.F.type_dict_items L2.DX.mt_itemsT (pv 20) : PE _ _ (tBM0 K _ _ _)) pa_nil))) (pa_cons (pv 11) pa_nil))))) (pw_or1 (pt_cmpR (op_neD hr.units : OpR _ _ (rNeD K)) (pv 8) (pe_lst (pa_cons (pe_callTy (call_list_of : CallR _ _ (rListOf K)) (by rfl) T.list_ (by decide +kernel) (pa_cons (pv 6) pa_nil)) (pa_cons (LiI.pe_listItems rfl (pv 5) (by rfl) T.list_ (by decide +kernel)) (pa_cons (pe_callTy (call_list_of : CallR _ _ (rListOf K)) (by rfl) T.list_ (by decide +kernel) (pa_cons (pv 7) pa_nil)) pa_nil)))) (nomark _)))))
        (pss_one (ps_ret (pe_bl))) pss_nil)
      (pss_cons (ps_set (i := 13) sc_law.nd rfl (Or.inl rfl) (pe_call A__law_mixed.G (hr.mono (by decide)) (by rfl) A__law_mixed.m A__law_mixed.kp A__law_mixed.b A__law_mixed.v pass0 (pa_cons (pv 1) (pa_cons (pv 6) pa_nil))))
      (pss_cons (ps_if (pt_not (pt_val (pe_call A__law_greatest_so.G (hr.mono (by decide)) (by rfl) A__law_greatest_so.m A__law_greatest_so.kp A__law_greatest_so.b A__law_greatest_so.v pass0 (pa_cons (pv 13) (pa_cons (pv 5) (pa_cons (pv 7) (pa_cons (pe_callN A_greatest_plan.G (hr.mono (by decide)) (by rfl) A_greatest_plan.m A_greatest_plan.kp hk1 pass0 (pa_cons (pe_callTy (call_tuple_of : CallR _ _ (rTupOf K)) (by rfl) T.tuple_ (by decide +kernel) (pa_cons (pv 13) pa_nil)) (pa_cons (pv 5) pa_nil)) (pk_cons (pe_callTy (call_tuple_of : CallR _ _ (rTupOf K)) (by rfl) T.tuple_ (by decide +kernel) (pa_cons (pv 7) pa_nil)) pk_nil)) pa_nil)))))))
        (pss_one (ps_ret (pe_bl))) pss_nil)
      (pss_one (ps_if (pt_not (pt_val (pe_call A__law_same.G (hr.mono (by decide)) (by rfl) A__law_same.m A__law_same.kp A__law_same.b A__law_same.v pass0 (pa_cons (pe_lst (pa_cons (pe_callN A_greatest_plan.G (hr.mono (by decide)) (by rfl) A_greatest_plan.m A_greatest_plan.kp hk1 pass0 (pa_cons (pv 6) (pa_cons (pv 5) pa_nil)) (pk_cons (pe_lst pa_nil) pk_nil)) (pa_cons (pe_call A_greatest_plan.G (hr.mono (by decide)) (by rfl) A_greatest_plan.m A_greatest_plan.kp A_greatest_plan.b A_greatest_plan.v pass0 (pa_cons (pe_lst pa_nil) (pa_cons (pv 5) pa_nil))) (pa_cons (pe_call A_greatest_plan.G (hr.mono (by decide)) (by rfl) A_greatest_plan.m A_greatest_plan.kp A_greatest_plan.b A_greatest_plan.v pass0 (pa_cons (pv 6) (pa_cons (pe_dnewK) pa_nil))) pa_nil)))) (pa_cons (pe_lst (pa_cons (pe_dnewK) (pa_cons (pe_dnewK) (pa_cons (pe_dnewK) pa_nil)))) pa_nil)))))
        (pss_one (ps_ret (pe_bl))) pss_nil)))))))))))))))
    (pss_cons (ps_set (i := 3) sc_law.nd rfl (Or.inr rfl) (pe_lc (own := [("_law_letter", 16)]) rfl sc_law.nd (pi_str (pe_str)) (blkOk_by (N := ["_law_script", "_law_bag_here", "_law_turn", "_law_places", "_law_claims", "_law_prices_here", "_law_demands_here", "_law_some", "_law_kept", "_law_whole", "_law_part", "_law_first", "_law_late", "_law_mixed_here", "_law_many", "_law_found", "_law_letter", "_law_k", "_law_name", "_law_place", "_law_one"]) (sc := defScope s_law) (by decide +kernel)) (fun _ _ _ _ _ => (pg_name (i := 16) sc_law.nd rfl (Or.inl rfl))) (fun _ _ _ _ _ => pts_nil) (fun _ _ _ _ _ => pe_op op_add_str (pe_str) (pv 16))))
    (pss_cons (ps_setLc (i := 14) (own := [("_law_k", 17), ("_law_name", 18)]) rfl sc_law.nd rfl rfl (sw_true rfl rfl rfl (by decide +kernel)) (pi_enum (by rfl) T.enumerate_ (pa_cons (pe_call A__law_names.G (hr.mono (by decide)) (by rfl) A__law_names.m A__law_names.kp A__law_names.b A__law_names.v pass0 (pa_cons (pv 1) (pa_cons (pe_int) pa_nil))) pa_nil) : PI _ _ _ (iEnum K _)) (blkOk_by (N := ["_law_script", "_law_bag_here", "_law_turn", "_law_places", "_law_claims", "_law_prices_here", "_law_demands_here", "_law_some", "_law_kept", "_law_whole", "_law_part", "_law_first", "_law_late", "_law_mixed_here", "_law_many", "_law_found", "_law_letter", "_law_k", "_law_name", "_law_place", "_law_one"]) (sc := defScope s_law) (by decide +kernel)) (fun _ _ _ _ _ => (pg_tup (by rfl) (pgs_cons (pg_name (i := 17) sc_law.nd rfl (Or.inl rfl)) (pgs_cons (pg_name (i := 18) sc_law.nd rfl (Or.inl rfl)) pgs_nil)) : PG _ _ (gTup K 2 _))) (fun _ _ _ _ _ => pts_nil) (fun _ _ _ _ _ => pe_tup (pa_cons (pv 18) (pa_cons (pe_op op_add (pe_int) (pe_call A__law_draw.G (hr.mono (by decide)) (by rfl) A__law_draw.m A__law_draw.kp A__law_draw.b A__law_draw.v pass0 (pa_cons (pv 1) (pa_cons (pe_int) pa_nil)))) (pa_cons (pe_callTy (call_tuple_of : CallR _ _ (rTupOf K)) (by rfl) T.tuple_ (by decide +kernel) (pa_cons (pe_slice (sl_list : SlR _ (rSlL K)) (pv 3) (po_some (pe_op op_mod (pe_callTy call_int1 (by rfl) T.int_ (by decide +kernel) (pa_cons (pv 17) pa_nil)) (pe_int))) (po_some (pe_op op_add (pe_op op_mod (pe_callTy call_int1 (by rfl) T.int_ (by decide +kernel) (pa_cons (pv 17) pa_nil)) (pe_int)) (pe_int)))) pa_nil)) pa_nil)))))
    (pss_cons (ps_set (i := 5) sc_law.nd rfl (Or.inl rfl) (pe_callTy (call_dictP rfl : CallR _ _ (rDictP K)) (by rfl) T.dict_ (by decide +kernel) (pa_cons (pe_lc (own := [("_law_place", 19)]) rfl sc_law.nd (pi_list (pv 3) : PI _ _ _ (iList K _)) (blkOk_by (N := ["_law_script", "_law_bag_here", "_law_turn", "_law_places", "_law_claims", "_law_prices_here", "_law_demands_here", "_law_some", "_law_kept", "_law_whole", "_law_part", "_law_first", "_law_late", "_law_mixed_here", "_law_many", "_law_found", "_law_letter", "_law_k", "_law_name", "_law_place", "_law_one"]) (sc := defScope s_law) (by decide +kernel)) (fun _ _ _ _ _ => (pg_name (i := 19) sc_law.nd rfl (Or.inl rfl))) (fun _ _ _ _ _ => pts_nil) (fun _ _ _ _ _ => pe_tup (pa_cons (pv 19) (pa_cons (pe_call A__law_draw.G (hr.mono (by decide)) (by rfl) A__law_draw.m A__law_draw.kp A__law_draw.b A__law_draw.v pass0 (pa_cons (pv 1) (pa_cons (pe_int) pa_nil))) pa_nil)))) pa_nil)))
    (pss_cons (ps_set (i := 15) sc_law.nd rfl (Or.inl rfl) (pe_call A_greatest_plan.G (hr.mono (by decide)) (by rfl) A_greatest_plan.m A_greatest_plan.kp A_greatest_plan.b A_greatest_plan.v pass0 (pa_cons (pv 14) (pa_cons (pv 5) pa_nil))))
    (pss_one (ps_ret (pe_and (pe_call A__law_plan_so.G (hr.mono (by decide)) (by rfl) A__law_plan_so.m A__law_plan_so.kp A__law_plan_so.b A__law_plan_so.v pass0 (pa_cons (pv 14) (pa_cons (pv 5) (pa_cons (pv 15) pa_nil)))) (pe_one (pe_cmp (pc_isN (pe_call A__law_shortest.G (hr.mono (by decide)) (by rfl) A__law_shortest.m A__law_shortest.kp A__law_shortest.b A__law_shortest.v pass0 (pa_cons (pv 14) (pa_cons (pv 5) (pa_cons (pv 15) pa_nil))))) rfl))))))))))), ?_⟩
    refine ⟨_, rfl, a, ns, rfl, hS, fun b c H1 S1 B1 => ?_⟩
    refine ⟨3, rfl, by decide, by decide, ?_⟩
    refine for_range (n := 3) (fun i σ H' => ∃ v2 v3 v4 v5 v6 v7 v8 v9 v10 v11 v12 v13 : Option V, σ = [some (.ref a), some (.ref b), v2, v3, v4, v5, v6, v7, v8, v9, v10, v11, v12, v13, none, none, none, none, none, none, none] ∧ BagAt H' b c)
      ⟨none, none, none, none, none, none, none, none, none, none, none, none, rfl, B1⟩ ?_ ?_
    · rintro i σ HA hi ⟨v2, v3, v4, v5, v6, v7, v8, v9, v10, v11, v12, v13, rfl, BA⟩
      refine ⟨_, rfl, b, c, rfl, BA, fun tw pp pc pd zs ts D pr HB FB BB htw hpp hpc hC hpd hDok hDn hD5 hprn hprok hpr101 hzok hz4 => ?_⟩
      have l60 : lotsLen D ≤ 60 := Nat.le_trans (lots5 hDok) (by omega)
      have W : WOk D pr := ⟨hDok, hDn, by omega, l60, hprn, hprok, by omega⟩
      refine ⟨_, _, rfl, SqT.of htw, rfl, _, _, rfl, _, _, rfl, _, _, rfl, rfl, ?_⟩
      refine ⟨_, rfl, pc, ts, D, rfl, hpc, hC, by omega, fun da us HC SC hda0 hda hDA => ?_⟩
      refine ⟨_, rfl, _, rfl, b, c, pp, zs, rfl, BB.same SC, SC _ _ hpp, by omega, hzok, fun q ys HD FD BD hq0 hq hys4 hysok => ?_⟩
      have wD : WAt HD b c da pd q us D pr ys := ⟨BD, FD.keep _ _ hda (nb_ref _), FD.dems hDA, FD.keep _ _ (SC _ _ hpd) (nb_dK _), hq⟩
      refine ⟨_, _, rfl, ?_⟩
      -- kept
      refine ⟨_, rfl, _, _, rfl, .inl (SqL.of wD.da), fun l1 hl1 => ?_⟩
      have Sa := same_upd (o := .lst (us.map V.ref)) hl1
      refine ⟨_, rfl, pd, prK pr, rfl, Sa _ _ wD.pa, fun HE l2 ps Sb hl20 hps0 hl2ps hl2 hps => ?_⟩
      have Sab := Same.trans Sa Sb
      refine ⟨_, rfl, _, _, rfl, .inl (SqL.of (Sab _ _ wD.sm)), fun l3 hl3 => ?_⟩
      have Sc := same_upd (o := .lst (ys.map V.str)) hl3
      refine ⟨by show 3 ≤ sizeLine; decide, fun l0 hl0 => ?_⟩
      have Sd0 := same_upd (o := .lst [.ref l1, .ref l2, .ref l3]) hl0
      have Scd := Same.trans Sc Sd0
      have Sall := Same.trans Sab Scd
      have wE := wD.same Sall
      have kE : KeptAt (upd (upd HE l3 (.lst (ys.map V.str))) l0 (.lst [.ref l1, .ref l2, .ref l3])) l0 l1 l2 l3 us ps D pr ys :=
        ⟨upd_same, Scd _ _ (Sb _ _ upd_same), wE.dm, Scd _ _ hl2, Paired.mapP (prs_of hps) fun _ _ h => Scd _ _ h, Sd0 _ _ upd_same⟩
      clear Sa Sb Sab Sc Sd0 Scd Sall
      generalize upd (upd HE l3 (.lst (ys.map V.str))) l0 (.lst [.ref l1, .ref l2, .ref l3]) = HF at wE kE ⊢
      -- the plans
      refine ⟨_, rfl, _, rfl, da, pd, .non, false, us, D, pr, none, rfl, wE.da, wE.dm, hDok, hDn, W.n24, l60, wE.pa, hprn, W.prl, hprok, .inl ⟨rfl, rfl⟩, fun R1 E1 HG SG hR10 hR1 G1 => ?_⟩
      have wG := wE.same SG
      refine ⟨_, rfl, _, rfl, _, rfl, rfl, rfl, da, pd, .ref q, false, us, D, pr, some ys, rfl, wG.da, wG.dm, hDok, hDn, W.n24, l60, wG.pa, hprn, W.prl, hprok, .inr ⟨q, false, ys, rfl, rfl, wG.sm⟩, fun R2 E2 HI SI hR20 hR2 G2 => ?_⟩
      have wI := wG.same SI
      have kI := (kE.kp (.of_same SG)).kp (.of_same SI)
      have hR1I := SI _ _ hR1
      have gr1 := W.great G1
      have gr2 := W.great G2
      refine ⟨_, _, rfl, ?_⟩
      refine ⟨_, rfl, _, rfl, _, rfl, da, pd, R1, .non, us, D, pr, none, E1, rfl, wI.da, wI.dm, hD5, by omega, hDn, hDok, wI.pa, .inl ⟨rfl, rfl⟩, hR1I, gr1, fun HJ SJ => ⟨_, rfl, iteF ?_⟩⟩
      have wJ := wI.same SJ
      refine ⟨_, rfl, _, rfl, _, rfl, _, rfl, da, pd, R2, .ref q, us, D, pr, some ys, E2, rfl, wJ.da, wJ.dm, hD5, by omega, hDn, hDok, wJ.pa, .inr ⟨q, false, ys, rfl, rfl, wJ.sm⟩, SJ _ _ hR2, gr2, fun HK SK => ⟨_, rfl, iteF ?_⟩⟩
      have wK := wJ.same SK
      have kK := (kI.kp (.of_same SJ)).kp (.of_same SK)
      have hR1K := SK _ _ (SJ _ _ hR1I)
      have hR2K := SK _ _ (SJ _ _ hR2)
      -- first
      refine ⟨_, rfl, tyT hR1K, _, _, rfl, rfl, hR1K, fun p1 hp1 => ?_⟩
      refine ⟨p1, R1, _, rfl, upd_same, same_upd hp1 _ _ hR1K, fun HL f1 ts1 Sd hf10 hf1 ht1 => ?_⟩
      have Se := Same.trans (same_upd (o := L2.DX.itemsO p1 R1) hp1) Sd
      refine ⟨_, rfl, tyT (Se _ _ hR2K), _, _, rfl, rfl, Se _ _ hR2K, fun p2 hp2 => ?_⟩
      refine ⟨p2, R2, _, rfl, upd_same, same_upd hp2 _ _ (Se _ _ hR2K), fun HM f2 ts2 Sf hf20 hf2 ht2 => ?_⟩
      have Sg := Same.trans (same_upd (o := L2.DX.itemsO p2 R2) hp2) Sf
      refine ⟨by show 2 ≤ sizeLine; decide, fun f0 hf0 => ?_⟩
      have Sh0 := same_upd (o := .lst [.ref f1, .ref f2]) hf0
      have Sgh := Same.trans Sg Sh0
      have Sall := Same.trans Se Sgh
      have wN := wK.same Sall
      have kN := kK.kp (.of_same Sall)
      have hR1N := Sall _ _ hR1K
      have hR2N := Sall _ _ hR2K
      have hf1N := Sgh _ _ hf1
      have hf2N := Sh0 _ _ hf2
      have ht1N := (Kp.of_same Sgh).pairs ht1
      have ht2N := (Kp.of_same Sh0).pairs ht2
      have hf0N : upd HM f0 (.lst [.ref f1, .ref f2]) f0 = some (.lst [.ref f1, .ref f2]) := upd_same
      clear Se Sg Sh0 Sgh Sall
      generalize upd HM f0 (.lst [.ref f1, .ref f2]) = HN at wN kN hR1N hR2N hf1N hf2N ht1N ht2N hf0N ⊢
      -- the plans spoilt
      have ne12 : R2 ≠ R1 := (ne_of_none hR1 hR20).symm
      refine ⟨_, rfl, R1, plT E1, "A", rfl, rfl, hR1N, ?_⟩
      have q1 := Kp.put (o := .ext fun _ => True) hR1N
      have hR2O : upd HN R1 (.ext fun _ => True) R2 = some (.dT (plT E2)) := by
        rw [upd_ne ne12]
        exact hR2N
      refine ⟨_, rfl, tyT hR2O, R2, plT E2, rfl, rfl, hR2O, ?_⟩
      have q2 := q1.trans (Kp.put (o := .dT []) hR2O)
      have wP := wN.kp q2
      have kP := kN.kp q2
      have hf1P := q2.lst hf1N
      have hf2P := q2.lst hf2N
      have hf0P := q2.lst hf0N
      have ht1P := q2.pairs ht1N
      have ht2P := q2.pairs ht2N
      generalize upd (upd HN R1 (.ext fun _ => True)) R2 (.dT []) = HP at wP kP hf1P hf2P hf0P ht1P ht2P ⊢
      -- told again
      refine ⟨_, rfl, pd, pr, rfl, wP.pa, hprn, fun p3 HQ SQ hp3 => ?_⟩
      have wQ := wP.same SQ
      refine ⟨_, rfl, _, _, rfl, .inl (SqL.of wQ.da), fun l4 hl4 => ?_⟩
      have Sl := same_upd (o := .lst (us.map V.ref)) hl4
      have wR := wQ.same Sl
      have Wr := W.rev
      refine ⟨rfl, rfl, l4, p3, .non, false, us, D, pr.reverse, none, rfl, upd_same, wR.dm, hDok, hDn, W.n24, l60, Sl _ _ hp3, Wr.prn, Wr.prl, Wr.prok, .inl ⟨rfl, rfl⟩, fun R3 E3 HS SS hR30 hR3 G3 => ?_⟩
      have e3 := one_rev W G1 G3
      subst E3
      have wS := wR.same SS
      refine ⟨_, rfl, _, rfl, pd, pr, rfl, wS.pa, hprn, fun p4 HT ST hp4 => ?_⟩
      have wT := wS.same ST
      refine ⟨_, rfl, _, _, rfl, .inl (SqL.of wT.sm), fun l5 hl5 => ?_⟩
      have Sm5 := same_upd (o := .lst (ys.map V.str)) hl5
      have wU := wT.same Sm5
      refine ⟨rfl, rfl, da, p4, .ref l5, false, us, D, pr.reverse, some ys, rfl, wU.da, wU.dm, hDok, hDn, W.n24, l60, Sm5 _ _ hp4, Wr.prn, Wr.prl, Wr.prok, .inr ⟨l5, false, ys, rfl, rfl, upd_same⟩, fun R4 E4 HV SV hR40 hR4 G4 => ?_⟩
      have e4 := one_rev W G2 G4
      subst E4
      refine ⟨by show 2 ≤ sizeLine; decide, fun l6 hl6 => ?_⟩
      have Sn := same_upd (o := .lst [.ref R3, .ref R4]) hl6
      have hR3V := ((ST.trans Sm5).trans (SV.trans Sn)) _ _ hR3
      have hR4V := Sn _ _ hR4
      have wW := (wU.same SV).same Sn
      have Sall := ((SQ.trans Sl).trans (SS.trans ST)).trans (Sm5.trans (SV.trans Sn))
      have kW := kP.kp (.of_same Sall)
      have hf1W := Sall _ _ hf1P
      have hf2W := Sall _ _ hf2P
      have hf0W := Sall _ _ hf0P
      have ht1W := (Kp.of_same Sall).pairs ht1P
      have ht2W := (Kp.of_same Sall).pairs ht2P
      have hl6W : upd HV l6 (.lst [.ref R3, .ref R4]) l6 = some (.lst [.ref R3, .ref R4]) := upd_same
      clear Sall Sn
      generalize upd HV l6 (.lst [.ref R3, .ref R4]) = HW at hR3V hR4V wW kW hf1W hf2W hf0W ht1W ht2W hl6W ⊢
      refine ⟨_, rfl, _, rfl, ⟨_, SqL.of hl6W⟩, fun L hL => ?_⟩
      refine lc_list (xs := [.ref R3, .ref R4]) (fun i H' => Same HW H' ∧ ∃ gl : List Addr, H' L = some (.lst (gl.map V.ref)) ∧ Paired (fun g E => g ≠ L ∧ ∃ gs : List Addr, H' g = some (.lst (gs.map V.ref)) ∧ Paired (PairAt H') gs (plT E)) gl ([E1, E2].take i))
        ⟨same_upd hL, [], upd_same, .nil⟩ (fun i H' _ ⟨S, _⟩ => SqL.of (S _ _ hl6W)) ?_ ?_
      · rintro j y Ha hj ⟨Sa, gl, hgL, hgl⟩
        obtain ⟨Rj, Ej, rfl, hEj, hRj, hj2⟩ : ∃ Rj Ej, y = V.ref Rj ∧ [E1, E2][j]? = some Ej ∧ HW Rj = some (.dT (plT Ej)) ∧ j < 2 := by
          match j, hj with
          | 0, hj => exact ⟨R3, E1, (Option.some.inj hj).symm, rfl, hR3V, by omega⟩
          | 1, hj => exact ⟨R4, E2, (Option.some.inj hj).symm, rfl, hR4V, by omega⟩
          | n + 2, hj => cases hj
        have hRa := Sa _ _ hRj
        refine ⟨rfl, _, rfl, tyT hRa, _, _, rfl, rfl, hRa, fun p5 hp5 => ?_⟩
        have Sp5 := same_upd (o := L2.DX.itemsO p5 Rj) hp5
        refine ⟨p5, Rj, _, rfl, upd_same, Sp5 _ _ hRa, fun Hb g gs Sb hg0 hg hgs => ?_⟩
        have Spb := Same.trans Sp5 Sb
        have hgLb := Spb _ _ hgL
        have ngL : g ≠ L := fun e => by
          rw [e, Sp5 _ _ hgL] at hg0
          cases hg0
        have hglen := Paired.length hgl
        rw [List.length_take] at hglen
        refine ⟨_, hgLb, ?_, same_new (Sa.trans Spb) hL, gl ++ [g], ?_, ?_⟩
        · rw [List.length_map]
          exact Nat.lt_of_le_of_lt (show gl.length ≤ 2 by omega) (by decide)
        · rw [upd_same, List.map_append]
          rfl
        · rw [take_snoc hEj]
          refine Paired.snoc (Paired.mapP hgl fun g' E' ⟨n1, gs', h1, h2⟩ => ⟨n1, gs', ?_, pairs_upd hgLb ((Kp.of_same Spb).pairs h2)⟩) ⟨ngL, gs, ?_, pairs_upd hgLb hgs⟩
          · rw [upd_ne n1]
            exact Spb _ _ h1
          · rw [upd_ne ngL]
            exact hg
      · rintro HX ⟨SX, gl, hgL, hgl⟩
        have hgl : Paired (fun g E => g ≠ L ∧ ∃ gs : List Addr, HX g = some (.lst (gs.map V.ref)) ∧ Paired (PairAt HX) gs (plT E)) gl [E1, E2] := hgl
        obtain ⟨g1, g2, rfl, ⟨_, gs1, hg1, hgs1⟩, ⟨_, gs2, hg2, hgs2⟩⟩ := paired_two hgl
        have wX := wW.same SX
        have kX := kW.kp (.of_same SX)
        refine ⟨_, rfl, _, _, rfl, ?_, fun HY SY => ⟨_, rfl, iteF ?_⟩⟩
        · refine .inr (.inl ⟨L, f0, _, _, false, rfl, rfl, hgL, SX _ _ hf0W, .cons (sm_items hg1 (SX _ _ hf1W) hgs1 ((Kp.of_same SX).pairs ht1W) gr1.fit.len) (.cons (sm_items hg2 (SX _ _ hf2W) hgs2 ((Kp.of_same SX).pairs ht2W) gr2.fit.len) .nil), by show 2 ≤ 10000; decide⟩)
        have wY := wX.same SY
        have kY := kX.kp (.of_same SY)
        clear hgs1 hgs2 hg1 hg2 hgL hgl
        -- nothing changed
        refine ⟨_, rfl, _, rfl, _, _, rfl, .inl (SqL.of wY.da), fun m1 hm1 => ?_⟩
        have Ta := same_upd (o := .lst (us.map V.ref)) hm1
        refine ⟨_, rfl, pd, prK pr, rfl, Ta _ _ wY.pa, fun HZ m2 mps Tb hm20 hmps0 hm2ps hm2 hmps => ?_⟩
        have Tab := Same.trans Ta Tb
        refine ⟨_, rfl, _, _, rfl, .inl (SqL.of (Tab _ _ wY.sm)), fun m3 hm3 => ?_⟩
        have Tc := same_upd (o := .lst (ys.map V.str)) hm3
        refine ⟨by show 3 ≤ sizeLine; decide, fun m0 hm0 => ?_⟩
        have Td0 := same_upd (o := .lst [.ref m1, .ref m2, .ref m3]) hm0
        have Tcd := Same.trans Tc Td0
        have Tall := Same.trans Tab Tcd
        have wZ := wY.same Tall
        have kZ := kY.kp (.of_same Tall)
        have kZ' : KeptAt (upd (upd HZ m3 (.lst (ys.map V.str))) m0 (.lst [.ref m1, .ref m2, .ref m3])) m0 m1 m2 m3 us mps D pr ys :=
          ⟨upd_same, Tcd _ _ (Tb _ _ upd_same), wZ.dm, Tcd _ _ hm2, Paired.mapP (prs_of hmps) fun _ _ h => Tcd _ _ h, Td0 _ _ upd_same⟩
        clear Ta Tb Tab Tc Td0 Tcd Tall
        generalize upd (upd HZ m3 (.lst (ys.map V.str))) m0 (.lst [.ref m1, .ref m2, .ref m3]) = H01 at wZ kZ kZ' ⊢
        have sd := sd_kept W hysok
        refine ⟨_, _, kZ.dp, kZ'.dp, sd.shaped (by decide), sd.shaped (by decide), _, rfl, ?_⟩
        rw [sd.refl]
        refine iteF ?_
        -- mixed
        refine ⟨_, rfl, _, rfl, b, c, da, us.map V.ref, rfl, wZ.bg, wZ.da, (fun v hv i e => ?_), ?_, fun q2 xs2 H02 F02 B02 hq20 hq2 hperm => ?_⟩
        · obtain ⟨u, _, hu2⟩ := List.mem_map.mp hv
          rw [← hu2] at e
          cases e
        · rw [List.length_map, Paired.length wZ.dm]
          omega
        have w02 := wZ.fr F02 B02
        obtain ⟨us2, D2, rfl, hD2, hp2⟩ := dems_perm w02.dm hperm
        have W2 := W.perm hp2
        have hD25 : D2.length ≤ 5 := by rw [hp2.length_eq]; exact hD5
        refine ⟨_, rfl, _, rfl, _, rfl, _, rfl, _, _, rfl, .inl ⟨SqL.of hq2, fun t1 ht1 => ?_⟩⟩
        have Ua := same_upd (o := .tup (us2.map V.ref)) ht1
        have w03 := w02.same Ua
        refine ⟨_, rfl, _, rfl, _, _, rfl, .inl ⟨SqL.of w03.sm, fun t2 ht2 => ?_⟩⟩
        have Ub := same_upd (o := .tup (ys.map V.str)) ht2
        have w04 := w03.same Ub
        have Uab := Same.trans Ua Ub
        refine ⟨rfl, rfl, t1, pd, .ref t2, true, us2, D2, pr, some ys, rfl, Ub _ _ upd_same, hD2.same Uab, W2.ok, W2.nd, W2.n24, W2.l60, w04.pa, hprn, W2.prl, hprok, .inr ⟨t2, true, ys, rfl, rfl, upd_same⟩, fun R5 E5 H05 S05 hR50 hR5 G5 => ?_⟩
        have w05 := w04.same S05
        refine ⟨q2, pd, R5, .ref q, us2, D2, pr, some ys, E5, rfl, (Uab.trans S05) _ _ hq2, hD2.same (Uab.trans S05), hD25, Nat.le_trans W2.l60 (by decide), W2.nd, W2.ok, w05.pa, .inr ⟨q, false, ys, rfl, rfl, w05.sm⟩, hR5, W2.great G5, fun H06 S06 => ⟨_, rfl, iteF ?_⟩⟩
        have w06 := w05.same S06
        -- nothing to give
        refine ⟨_, rfl, _, rfl, Nat.zero_le _, fun e1 he1 => ?_⟩
        have w07 := w06.same (same_upd (o := .lst []) he1)
        refine ⟨rfl, rfl, da, pd, .ref e1, false, us, D, pr, some [], rfl, w07.da, w07.dm, hDok, hDn, W.n24, l60, w07.pa, hprn, W.prl, hprok, .inr ⟨e1, false, [], rfl, rfl, upd_same⟩, fun R6 E6 H08 S08 hR60 hR6 G6 => ?_⟩
        have w08 := w07.same S08
        obtain rfl := great_nil G6 hDn W.am W.pn (.inr (.inl rfl))
        refine ⟨Nat.zero_le _, fun e2 he2 => ?_⟩
        have V2 := same_upd (o := .lst []) he2
        have w09 := w08.same V2
        refine ⟨_, rfl, e2, pd, .non, false, [], [], pr, none, rfl, upd_same, .nil, (fun d hd => by cases hd), List.nodup_nil, by decide, by decide, w09.pa, hprn, W.prl, hprok, .inl ⟨rfl, rfl⟩, fun R7 E7 H10 S10 hR70 hR7 G7 => ?_⟩
        have w10 := w09.same S10
        obtain rfl := great_nil G7 List.nodup_nil (fun d hd => by cases hd) W.pn (.inl rfl)
        refine ⟨_, rfl, fun e3 he3 => ?_⟩
        have V3 := same_upd (o := .dK []) he3
        have w11 := w10.same V3
        refine ⟨da, e3, .non, false, us, D, [], none, rfl, w11.da, w11.dm, hDok, hDn, W.n24, l60, upd_same, List.nodup_nil, by decide, (fun e he => by cases he), .inl ⟨rfl, rfl⟩, fun R8 E8 H12 S12 hR80 hR8 G8 => ?_⟩
        have w12 := w11.same S12
        obtain rfl := great_nil G8 hDn W.am (fun e he => by cases he) (.inr (.inr rfl))
        refine ⟨by show 3 ≤ sizeLine; decide, fun g0 hg0 => ?_⟩
        have V4 := same_upd (o := .lst [.ref R6, .ref R7, .ref R8]) hg0
        have hR6' := (((V2.trans S10).trans V3).trans (S12.trans V4)) _ _ hR6
        have hR7' := ((V3.trans S12).trans V4) _ _ hR7
        have hR8' := V4 _ _ hR8
        have w13 := w12.same V4
        have hg0' : upd H12 g0 (.lst [.ref R6, .ref R7, .ref R8]) g0 = some (.lst [.ref R6, .ref R7, .ref R8]) := upd_same
        generalize upd H12 g0 (.lst [.ref R6, .ref R7, .ref R8]) = H13 at hR6' hR7' hR8' w13 hg0' ⊢
        refine fun k1 hk1 => fun k2 hk2 => fun k3 hk3 => ⟨by show 3 ≤ sizeLine; decide, fun k0 hk0 => ?_⟩
        have X1 := same_upd (o := .dK []) hk1
        have X2 := same_upd (o := .dK []) hk2
        have X3 := same_upd (o := .dK []) hk3
        have X4 := same_upd (o := .lst [.ref k1, .ref k2, .ref k3]) hk0
        have X := X1.trans (X2.trans (X3.trans X4))
        refine ⟨_, _, rfl, ?_, fun H14 S14 => ⟨_, rfl, iteF ?_⟩⟩
        · exact .inr (.inl ⟨g0, k0, _, _, false, rfl, rfl, X _ _ hg0', upd_same, .cons (.inr (.inr ⟨R6, k1, by decide, rfl, rfl, X _ _ hR6', (X2.trans (X3.trans X4)) _ _ upd_same⟩)) (.cons (.inr (.inr ⟨R7, k2, by decide, rfl, rfl, X _ _ hR7', (X3.trans X4) _ _ upd_same⟩)) (.cons (.inr (.inr ⟨R8, k3, by decide, rfl, rfl, X _ _ hR8', X4 _ _ upd_same⟩)) .nil)), by show 3 ≤ 10000; decide⟩)
        · exact ⟨_, _, _, _, _, _, _, _, _, _, _, _, rfl, ((w13.same X).same S14).bg⟩
    · --LAST
      rintro σ H1 ⟨v2, v3, v4, v5, v6, v7, v8, v9, v10, v11, v12, v13, rfl, B⟩
      refine ⟨_, rfl, fun L hL => ?_⟩
      refine lc_it walk_str (fun i H' => Same H1 H' ∧ H' L = some (.lst ((P12.take i).map V.str))) ⟨same_upd hL, upd_same⟩ (fun _ _ _ _ => True.intro) ?_ ?_
      · rintro i x Ha Hb hi ⟨Sa, hLL⟩ ⟨hEq, ch, hch, rfl⟩
        subst Hb
        have hP := p12_at hch
        refine ⟨rfl, _, rfl, _, _, rfl, rfl, ?_, _, hLL, ?_, same_new Sa hL, ?_⟩
        · show _ + 1 ≤ sizeLine
          decide +kernel
        · rw [List.length_map, List.length_take, p12_len]
          exact Nat.lt_of_le_of_lt (Nat.min_le_right _ _) (by decide)
        · rw [upd_same, take_snoc hP, List.map_append]
          rfl
      · rintro H2 ⟨S2, hL2⟩
        rw [p12_size, show P12.take 12 = P12 from rfl] at hL2
        have B2 := B.same S2
        refine ⟨_, rfl, b, c, 24, rfl, B2, by decide, fun p zs H3 F3 B3 hp0 hp hzl hzn hzo => ?_⟩
        have hL3 := F3.keep _ _ hL2 (nb_str _)
        refine ⟨p, _, rfl, SqL.of hp, fun L2 hL20 => ?_⟩
        refine lc_it (walk_enum (xs := zs.map V.str)) (fun i H' => Fr H3 H' ∧ BagAt H' b c ∧ ∃ (us : List Addr) (Dn : List Dem), H' L2 = some (.lst (us.map V.ref)) ∧ DemsAt H' us Dn ∧ Dn.map (·.1) = zs.take i ∧ ∀ d ∈ Dn, 1 ≤ d.2.1 ∧ LotOk d.2.2 ∧ d.2.2.length = 2)
          ⟨(Fr.refl _).new hL20, B3.new hL20, [], [], upd_same, .nil, rfl, by intro d hd; cases hd⟩ (fun i H' _ ⟨F, _⟩ => SqL.of (F.keep _ _ hp (nb_str _))) ?_ ?_
        · rintro i x Ha Hb hi ⟨Fa, Ba, us, Dn, hLa, hus, hDn, hDo⟩ ⟨T0, x0, y0, rfl, hT0, rfl, ex, ey⟩
          cases (Option.some.inj ex)
          obtain ⟨z, hz, rfl⟩ := get_map ey
          rw [List.length_map] at hi
          have ST := same_upd (o := .tup [.int (i : Nat), .str z]) hT0
          refine ⟨_, _, rfl, SqT.of upd_same, rfl, _, _, rfl, _, _, rfl, rfl, rfl, ?_⟩
          refine ⟨_, rfl, _, rfl, b, c, 9, rfl, Ba.same ST, by decide, by decide, fun v Hc Fc Bc hv0 hv9 => ?_⟩
          have hLc := Fc.keep _ _ (ST _ _ (Fa.keep _ _ hL3 (nb_str _))) (nb_str _)
          refine ⟨_, _, rfl, rfl, ?_⟩
          refine ⟨_, rfl, _, rfl, .inl ⟨_, rfl, _, _, rfl, rfl, by show (0 : Int) < 11; decide, _, rfl, ?_⟩⟩
          refine ⟨_, rfl, .inl ⟨_, rfl, _, _, rfl, rfl, by show (0 : Int) < 11; decide, _, _, rfl, rfl, _, rfl, ?_⟩⟩
          refine ⟨_, _, rfl, SqL.of hLc, fun p5 hp5 => ?_⟩
          have em : ((i : Nat) : Int) % 11 = ((i % 11 : Nat) : Int) := by omega
          rw [cutV_map, em]
          have ek : cutA P12 (some ((i % 11 : Nat) : Int)) (some (((i % 11 : Nat) : Int) + 2)) = lotK (i % 11) := rfl
          rw [ek]
          obtain ⟨lok, l2k⟩ := lotK_ok (Nat.mod_lt i (by decide : 0 < 11))
          generalize lotK (i % 11) = lk at lok l2k ⊢
          have Xa := same_upd (o := .lst (lk.map V.str)) hp5
          refine ⟨_, _, rfl, .inl ⟨SqL.of upd_same, fun t1 ht1 => ?_⟩⟩
          have Xb := same_upd (o := .tup (lk.map V.str)) ht1
          refine ⟨by show 3 ≤ sizeLine; decide, fun t2 ht2 => ?_⟩
          have Xc := same_upd (o := .tup [.str z, .int (1 + v), .ref t1]) ht2
          have X := Xa.trans (Xb.trans Xc)
          have hdem : DemAt (upd (upd (upd Hc p5 (.lst (lk.map V.str))) t1 (.tup (lk.map V.str))) t2 (.tup [.str z, .int (1 + v), .ref t1])) t2 (z, 1 + v, lk) := ⟨t1, upd_same, Xc _ _ upd_same⟩
          generalize upd (upd (upd Hc p5 (.lst (lk.map V.str))) t1 (.tup (lk.map V.str))) t2 (.tup [.str z, .int (1 + v), .ref t1]) = Hd at X hdem ⊢
          have FX := (Fr.of_same ST).trans (Fc.trans (Fr.of_same X))
          have hLd := FX.keep _ _ hLa (nb_ref _)
          have husd := FX.dems hus
          have hul := Paired.length hus
          have hdl : Dn.length ≤ i := by
            have : (Dn.map (·.1)).length = (zs.take i).length := by rw [hDn]
            rw [List.length_map, List.length_take] at this
            omega
          refine ⟨_, hLd, ?_, (Fa.trans FX).new hL20, (Bc.same X).upd (fun e => ?_) (fun e => ?_), us ++ [t2], Dn ++ [(z, 1 + v, lk)], ?_, ?_, ?_, ?_⟩
          · rw [List.length_map]
            exact Nat.lt_of_le_of_lt (show us.length ≤ 24 by omega) (by decide)
          · have := (B3.ne hL20).1
            exact this e
          · have := (B3.ne hL20).2
            exact this e
          · rw [upd_same, List.map_append]
            rfl
          · exact Paired.snoc (Paired.mapP husd fun _ _ h => dem_upd hLd h) (dem_upd hLd hdem)
          · rw [List.map_append, hDn, take_snoc hz]
            rfl
          · intro d hd
            rcases List.mem_append.mp hd with h | h
            · exact hDo d h
            · have e : d = (z, 1 + v, lk) := by simpa using h
              rw [e]
              exact ⟨by show 1 ≤ 1 + v; omega, lok, l2k⟩
        · rintro H4 ⟨F4, B4, us, D, hL24, hus, hDn, hDo⟩
          rw [List.length_map, List.take_length] at hDn
          have hL4 := F4.keep _ _ hL3 (nb_str _)
          refine ⟨_, rfl, _, rfl, ⟨_, SqL.of hL4⟩, fun L5 hL50 => ?_⟩
          refine lc_list (xs := P12.map V.str) (fun i H' => Fr H4 H' ∧ BagAt H' b c ∧ ∃ (ps : List Addr) (pr : List (Str × Int)), H' L5 = some (.lst (ps.map V.ref)) ∧ Paired (fun t (e : Str × Int) => H' t = some (.tup [.str e.1, .int e.2])) ps pr ∧ pr.map (·.1) = P12.take i ∧ ∀ e ∈ pr, 0 ≤ e.2)
            ⟨(Fr.refl _).new hL50, B4.new hL50, [], [], upd_same, .nil, rfl, by intro d hd; cases hd⟩ (fun i H' _ ⟨F, _⟩ => SqL.of (F.keep _ _ hL4 (nb_str _))) ?_ ?_
          · rintro i x Ha hi ⟨Fa, Ba, ps, pr, hLa, hps, hprn, hpr0⟩
            obtain ⟨z, hz, rfl⟩ := get_map hi
            have hi12 : i < 12 := by
              have := (List.getElem?_eq_some_iff.mp hz).1
              exact this
            refine ⟨rfl, _, rfl, _, rfl, b, c, 30, rfl, Ba, by decide, by decide, fun v Hc Fc Bc hv0 hv30 => ?_⟩
            refine ⟨by show 2 ≤ sizeLine; decide, fun t ht => ?_⟩
            have Xa := same_upd (o := .tup [.str z, .int v]) ht
            have FX := Fc.trans (Fr.of_same Xa)
            have hLd := FX.keep _ _ hLa (nb_ref _)
            have hpsd : Paired (fun t (e : Str × Int) => upd Hc t (.tup [.str z, .int v]) t = upd Hc t (.tup [.str z, .int v]) t ∧ True) ([] : List Addr) ([] : List (Str × Int)) := .nil
            have hpsc : Paired (fun t' (e : Str × Int) => upd Hc t (.tup [.str z, .int v]) t' = some (.tup [.str e.1, .int e.2])) ps pr := Paired.mapP hps fun _ _ h => FX.keep _ _ h (nb_tup _)
            have htt : upd Hc t (.tup [.str z, .int v]) t = some (.tup [.str z, .int v]) := upd_same
            have Bd := Bc.same Xa
            clear hpsd
            generalize upd Hc t (.tup [.str z, .int v]) = Hd at Xa FX hLd hpsc htt Bd ⊢
            have hpl : pr.length ≤ i := by
              have : (pr.map (·.1)).length = (P12.take i).length := by rw [hprn]
              rw [List.length_map, List.length_take] at this
              omega
            have hul := Paired.length hps
            have hsn := (B4.ne hL50)
            refine ⟨_, hLd, ?_, (Fa.trans FX).new hL50, Bd.upd (fun e => hsn.1 e) (fun e => hsn.2 e), ps ++ [t], pr ++ [(z, v)], ?_, ?_, ?_, ?_⟩
            · rw [List.length_map]
              exact Nat.lt_of_le_of_lt (show ps.length ≤ 12 by omega) (by decide)
            · rw [upd_same, List.map_append]
              rfl
            · exact Paired.snoc (Paired.mapP hpsc fun _ _ h => tup_upd hLd h) (tup_upd hLd htt)
            · rw [List.map_append, hprn, take_snoc hz]
              rfl
            · intro e he
              rcases List.mem_append.mp he with h | h
              · exact hpr0 e h
              · have e : e = (z, v) := by simpa using h
                rw [e]
                exact hv0
          · rintro H5 ⟨F5, B5, ps, pr, hL5, hps, hprn, hpr0⟩
            have hprn : pr.map (·.1) = P12 := hprn
            have W := WOk.big hzl hzn hzo hDn hDo hprn hpr0
            refine ⟨L5, ps, prK pr, rfl, SqL.of hL5, prs_to hps, fun p6 hp6 => ?_⟩
            rw [merge_pr W.prn]
            have S6 := same_upd (o := .dK (prK pr)) hp6
            have hL26 := S6 _ _ (F5.keep _ _ hL24 (nb_ref _))
            have hus6 := (F5.dems hus).same S6
            have hp66 : upd H5 p6 (.dK (prK pr)) p6 = some (.dK (prK pr)) := upd_same
            generalize upd H5 p6 (.dK (prK pr)) = H6 at S6 hL26 hus6 hp66 ⊢
            refine ⟨_, rfl, _, rfl, L2, p6, .non, false, us, D, pr, none, rfl, hL26, hus6, W.ok, W.nd, W.n24, W.l60, hp66, W.prn, W.prl, W.prok, .inl ⟨rfl, rfl⟩, fun R E H7 S7 hR0 hR G => ?_⟩
            have gr := W.great G
            obtain ⟨Tp, sh⟩ := short_of G W.nd W.am W.pn
            refine ⟨_, rfl, _, rfl, _, rfl, L2, p6, R, us, D, pr, E, rfl, S7 _ _ hL26, hus6.same S7, W.nd, W.n24, S7 _ _ hp66, hR, gr.fit, fun H8 S8 => ?_⟩
            have S78 := S7.trans S8
            refine ⟨true, rfl, iteT ?_⟩
            refine ⟨_, rfl, _, rfl, _, rfl, L2, p6, R, us, D, pr, E, Tp, rfl, S78 _ _ hL26, hus6.same S78, W.n24, Nat.le_trans W.l60 (by decide), W.ok, S78 _ _ hp66, S8 _ _ hR, gr.fit.nd, gr.fit.len, sh, fun H9 S9 => ?_⟩
            exact k _
end
end Dr

set_option maxHeartbeats 16000000
/-! What the top has written. -/
namespace Dr
open PySem PySem.Spec PyProof.Rows L2
theorem gpK2_rel {vs zs : List V} {us ws : List Value} (h : Vals zs ws) : Vals (gpK2 vs zs) (gpK2 us ws) :=
  match zs, ws, h with
  | _, _, .nil => .nil
  | _, _, .cons a .nil => .cons a .nil
  | _, _, .cons a (.cons b .nil) => .cons a (.cons b .nil)
  | _, _, .cons a (.cons b (.cons c .nil)) => .cons b (.cons a (.cons c .nil))
  | _, _, .cons a (.cons b (.cons c (.cons d r))) => .cons a (.cons b (.cons c (.cons d r)))

theorem all_mk {l : PySem.W.OpenLaw} {w : World} {K : PySem.W.Frag} {h : Heap} {mg : Str → Option Value} {fa C T0 ba D0 : Addr} {tk1 tk2 tk3 tk4 : Tok} {odT odB : Option Addr} {nT nB : Nat} {ocT : Value} {slT slB : Array (Option Value)} {f1 f2 f3 f4 f5 f6 f7 f8 f9 f10 f11 f12 f13 f14 f15 f16 f17 f18 f19 f20 f21 f22 f23 f24 f25 f26 f27 f28 f29 f30 f31 f32 f33 f34 f35 f36 f37 f38 f39 f40 : Addr} {od1 an1 od2 an2 od3 an3 od4 an4 od5 an5 od6 an6 od7 an7 od8 an8 od9 an9 od10 an10 od11 an11 od12 an12 od13 an13 od14 an14 od15 an15 od16 an16 od17 an17 od18 an18 od19 an19 od20 an20 od21 an21 od22 an22 od23 an23 od24 an24 od25 an25 od26 an26 od27 an27 od28 an28 od29 an29 od30 an30 od31 an31 od32 an32 od33 an33 od34 an34 od35 an35 od36 an36 od37 an37 od38 an38 od39 an39 od40 an40 : Option Addr} {sl1 sl2 sl3 sl4 sl5 sl6 sl7 sl8 sl9 sl10 sl11 sl12 sl13 sl14 sl15 sl16 sl17 sl18 sl19 sl20 sl21 sl22 sl23 sl24 sl25 sl26 sl27 sl28 sl29 sl30 sl31 sl32 sl33 sl34 sl35 sl36 sl37 sl38 sl39 sl40 : Array (Option Value)} {oc1 dc1 pm1 cd1 ct1 kV1 oc2 dc2 pm2 cd2 ct2 kV2 oc3 dc3 pm3 cd3 ct3 kV3 oc4 dc4 pm4 cd4 ct4 kV4 oc5 dc5 pm5 cd5 ct5 kV5 oc6 dc6 pm6 cd6 ct6 kV6 oc7 dc7 pm7 cd7 ct7 kV7 oc8 dc8 pm8 cd8 ct8 kV8 oc9 dc9 pm9 cd9 ct9 kV9 oc10 dc10 pm10 cd10 ct10 kV10 oc11 dc11 pm11 cd11 ct11 kV11 oc12 dc12 pm12 cd12 ct12 kV12 oc13 dc13 pm13 cd13 ct13 kV13 oc14 dc14 pm14 cd14 ct14 kV14 oc15 dc15 pm15 cd15 ct15 kV15 oc16 dc16 pm16 cd16 ct16 kV16 oc17 dc17 pm17 cd17 ct17 kV17 oc18 dc18 pm18 cd18 ct18 oc19 dc19 pm19 cd19 ct19 kV19 oc20 dc20 pm20 cd20 ct20 kV20 oc21 dc21 pm21 cd21 ct21 kV21 oc22 dc22 pm22 cd22 ct22 kV22 oc23 dc23 pm23 cd23 ct23 kV23 oc24 dc24 pm24 cd24 ct24 kV24 oc25 dc25 pm25 cd25 ct25 kV25 oc26 dc26 pm26 cd26 ct26 kV26 oc27 dc27 pm27 cd27 ct27 kV27 oc28 dc28 pm28 cd28 ct28 kV28 oc29 dc29 pm29 cd29 ct29 kV29 oc30 dc30 pm30 cd30 ct30 kV30 oc31 dc31 pm31 cd31 ct31 kV31 oc32 dc32 pm32 cd32 ct32 kV32 oc33 dc33 pm33 cd33 ct33 kV33 oc34 dc34 pm34 cd34 ct34 kV34 oc35 dc35 pm35 cd35 ct35 kV35 oc36 dc36 pm36 cd36 ct36 kV36 oc37 dc37 pm37 cd37 ct37 kV37 oc38 dc38 pm38 cd38 ct38 kV38 oc39 dc39 pm39 cd39 ct39 kV39 oc40 dc40 pm40 cd40 ct40 kV40 : Value} (X : K.In h) (G : h.Ns mainGlobals mg) (hfa : mg "law" = some (.ref fa))
    (aC : PySem.W.nsIn K mainGlobals "Network" = some (some (.ref C)))
    (a1 : PySem.W.nsIn K mainGlobals "is_whole" = some (some (.ref f1)))
    (l1 : K.lookup f1 = some ⟨oc1, od1, .func (PySem.W.fnOf "is_whole" "is_whole" (defArgs s_is_whole) (defBody s_is_whole) (defScope s_is_whole) .none kV1 dc1 pm1 an1 cd1 ct1), sl1⟩)
    (c1 : PySem.W.codeIn K cd1 "is_whole" = true)
    (k1 : PySem.W.keepIn K (.ref f1) = true)
    (a2 : PySem.W.nsIn K mainGlobals "is_name" = some (some (.ref f2)))
    (l2 : K.lookup f2 = some ⟨oc2, od2, .func (PySem.W.fnOf "is_name" "is_name" (defArgs s_is_name) (defBody s_is_name) (defScope s_is_name) .none kV2 dc2 pm2 an2 cd2 ct2), sl2⟩)
    (c2 : PySem.W.codeIn K cd2 "is_name" = true)
    (k2 : PySem.W.keepIn K (.ref f2) = true)
    (a3 : PySem.W.nsIn K mainGlobals "is_lot" = some (some (.ref f3)))
    (l3 : K.lookup f3 = some ⟨oc3, od3, .func (PySem.W.fnOf "is_lot" "is_lot" (defArgs s_is_lot) (defBody s_is_lot) (defScope s_is_lot) .none kV3 dc3 pm3 an3 cd3 ct3), sl3⟩)
    (c3 : PySem.W.codeIn K cd3 "is_lot" = true)
    (k3 : PySem.W.keepIn K (.ref f3) = true)
    (a4 : PySem.W.nsIn K mainGlobals "is_amount" = some (some (.ref f4)))
    (l4 : K.lookup f4 = some ⟨oc4, od4, .func (PySem.W.fnOf "is_amount" "is_amount" (defArgs s_is_amount) (defBody s_is_amount) (defScope s_is_amount) .none kV4 dc4 pm4 an4 cd4 ct4), sl4⟩)
    (c4 : PySem.W.codeIn K cd4 "is_amount" = true)
    (k4 : PySem.W.keepIn K (.ref f4) = true)
    (a5 : PySem.W.nsIn K mainGlobals "is_price" = some (some (.ref f5)))
    (l5 : K.lookup f5 = some ⟨oc5, od5, .func (PySem.W.fnOf "is_price" "is_price" (defArgs s_is_price) (defBody s_is_price) (defScope s_is_price) .none kV5 dc5 pm5 an5 cd5 ct5), sl5⟩)
    (c5 : PySem.W.codeIn K cd5 "is_price" = true)
    (k5 : PySem.W.keepIn K (.ref f5) = true)
    (a6 : PySem.W.nsIn K mainGlobals "is_demand" = some (some (.ref f6)))
    (l6 : K.lookup f6 = some ⟨oc6, od6, .func (PySem.W.fnOf "is_demand" "is_demand" (defArgs s_is_demand) (defBody s_is_demand) (defScope s_is_demand) .none kV6 dc6 pm6 an6 cd6 ct6), sl6⟩)
    (c6 : PySem.W.codeIn K cd6 "is_demand" = true)
    (k6 : PySem.W.keepIn K (.ref f6) = true)
    (a7 : PySem.W.nsIn K mainGlobals "check_demands" = some (some (.ref f7)))
    (l7 : K.lookup f7 = some ⟨oc7, od7, .func (PySem.W.fnOf "check_demands" "check_demands" (defArgs s_check_demands) (defBody s_check_demands) (defScope s_check_demands) .none kV7 dc7 pm7 an7 cd7 ct7), sl7⟩)
    (c7 : PySem.W.codeIn K cd7 "check_demands" = true)
    (k7 : PySem.W.keepIn K (.ref f7) = true)
    (a8 : PySem.W.nsIn K mainGlobals "check_prices" = some (some (.ref f8)))
    (l8 : K.lookup f8 = some ⟨oc8, od8, .func (PySem.W.fnOf "check_prices" "check_prices" (defArgs s_check_prices) (defBody s_check_prices) (defScope s_check_prices) .none kV8 dc8 pm8 an8 cd8 ct8), sl8⟩)
    (c8 : PySem.W.codeIn K cd8 "check_prices" = true)
    (k8 : PySem.W.keepIn K (.ref f8) = true)
    (a9 : PySem.W.findIn K (.ref C) "__init__" = some (some (.ref f9)))
    (i9 : PySem.W.isFn K (.ref f9) = true)
    (l9 : K.lookup f9 = some ⟨oc9, od9, .func (PySem.W.fnOf "__init__" "Network.__init__" (defArgs s_init) (defBody s_init) (defScope s_init) .none kV9 dc9 pm9 an9 cd9 ct9), sl9⟩)
    (c9 : PySem.W.codeIn K cd9 "Network.__init__" = true)
    (k9 : PySem.W.keepIn K (.ref f9) = true)
    (a10 : PySem.W.findIn K (.ref C) "walked" = some (some (.ref f10)))
    (i10 : PySem.W.isFn K (.ref f10) = true)
    (l10 : K.lookup f10 = some ⟨oc10, od10, .func (PySem.W.fnOf "walked" "Network.walked" (defArgs s_walked) (defBody s_walked) (defScope s_walked) .none kV10 dc10 pm10 an10 cd10 ct10), sl10⟩)
    (c10 : PySem.W.codeIn K cd10 "Network.walked" = true)
    (k10 : PySem.W.keepIn K (.ref f10) = true)
    (a11 : PySem.W.findIn K (.ref C) "path" = some (some (.ref f11)))
    (i11 : PySem.W.isFn K (.ref f11) = true)
    (l11 : K.lookup f11 = some ⟨oc11, od11, .func (PySem.W.fnOf "path" "Network.path" (defArgs s_path) (defBody s_path) (defScope s_path) (.ref T0) kV11 dc11 pm11 an11 cd11 ct11), sl11⟩)
    (lT : K.lookup T0 = some ⟨ocT, odT, .seq #[.ref ba] nT, slT⟩)
    (lB : K.lookup ba = some ⟨.type "tuple", odB, .seq #[] nB, slB⟩)
    (c11 : PySem.W.codeIn K cd11 "Network.path" = true)
    (k11 : PySem.W.keepIn K (.ref f11) = true)
    (a12 : PySem.W.findIn K (.ref C) "room" = some (some (.ref f12)))
    (i12 : PySem.W.isFn K (.ref f12) = true)
    (l12 : K.lookup f12 = some ⟨oc12, od12, .func (PySem.W.fnOf "room" "Network.room" (defArgs s_room) (defBody s_room) (defScope s_room) .none kV12 dc12 pm12 an12 cd12 ct12), sl12⟩)
    (c12 : PySem.W.codeIn K cd12 "Network.room" = true)
    (k12 : PySem.W.keepIn K (.ref f12) = true)
    (a13 : PySem.W.findIn K (.ref C) "move" = some (some (.ref f13)))
    (i13 : PySem.W.isFn K (.ref f13) = true)
    (l13 : K.lookup f13 = some ⟨oc13, od13, .func (PySem.W.fnOf "move" "Network.move" (defArgs s_move) (defBody s_move) (defScope s_move) .none kV13 dc13 pm13 an13 cd13 ct13), sl13⟩)
    (c13 : PySem.W.codeIn K cd13 "Network.move" = true)
    (k13 : PySem.W.keepIn K (.ref f13) = true)
    (a14 : PySem.W.findIn K (.ref C) "fill" = some (some (.ref f14)))
    (i14 : PySem.W.isFn K (.ref f14) = true)
    (l14 : K.lookup f14 = some ⟨oc14, od14, .func (PySem.W.fnOf "fill" "Network.fill" (defArgs s_fill) (defBody s_fill) (defScope s_fill) .none kV14 dc14 pm14 an14 cd14 ct14), sl14⟩)
    (c14 : PySem.W.codeIn K cd14 "Network.fill" = true)
    (k14 : PySem.W.keepIn K (.ref f14) = true)
    (a15 : PySem.W.findIn K (.ref C) "fill_all" = some (some (.ref f15)))
    (i15 : PySem.W.isFn K (.ref f15) = true)
    (l15 : K.lookup f15 = some ⟨oc15, od15, .func (PySem.W.fnOf "fill_all" "Network.fill_all" (defArgs s_fill_all) (defBody s_fill_all) (defScope s_fill_all) .none kV15 dc15 pm15 an15 cd15 ct15), sl15⟩)
    (c15 : PySem.W.codeIn K cd15 "Network.fill_all" = true)
    (k15 : PySem.W.keepIn K (.ref f15) = true)
    (a16 : PySem.W.findIn K (.ref C) "plan" = some (some (.ref f16)))
    (i16 : PySem.W.isFn K (.ref f16) = true)
    (l16 : K.lookup f16 = some ⟨oc16, od16, .func (PySem.W.fnOf "plan" "Network.plan" (defArgs s_plan) (defBody s_plan) (defScope s_plan) .none kV16 dc16 pm16 an16 cd16 ct16), sl16⟩)
    (c16 : PySem.W.codeIn K cd16 "Network.plan" = true)
    (k16 : PySem.W.keepIn K (.ref f16) = true)
    (a17 : PySem.W.nsIn K mainGlobals "filled" = some (some (.ref f17)))
    (l17 : K.lookup f17 = some ⟨oc17, od17, .func (PySem.W.fnOf "filled" "filled" (defArgs s_filled) (defBody s_filled) (defScope s_filled) .none kV17 dc17 pm17 an17 cd17 ct17), sl17⟩)
    (c17 : PySem.W.codeIn K cd17 "filled" = true)
    (k17 : PySem.W.keepIn K (.ref f17) = true)
    (a18 : PySem.W.nsIn K mainGlobals "greatest_plan" = some (some (.ref f18)))
    (l18 : K.lookup f18 = some ⟨oc18, od18, .func (PySem.W.fnOf "greatest_plan" "greatest_plan" (defArgs s_greatest_plan) (defBody s_greatest_plan) (defScope s_greatest_plan) .none (.ref D0) dc18 pm18 an18 cd18 ct18), sl18⟩)
    (nD : PySem.W.nsIn K D0 "parcels" = some (some .none))
    (c18 : PySem.W.codeIn K cd18 "greatest_plan" = true)
    (k18 : PySem.W.keepIn K (.ref f18) = true)
    (a19 : PySem.W.nsIn K mainGlobals "_law_bag" = some (some (.ref f19)))
    (l19 : K.lookup f19 = some ⟨oc19, od19, .func (PySem.W.fnOf "_law_bag" "_law_bag" (defArgs s_l_bag) (defBody s_l_bag) (defScope s_l_bag) .none kV19 dc19 pm19 an19 cd19 ct19), sl19⟩)
    (c19 : PySem.W.codeIn K cd19 "_law_bag" = true)
    (k19 : PySem.W.keepIn K (.ref f19) = true)
    (a20 : PySem.W.nsIn K mainGlobals "_law_draw" = some (some (.ref f20)))
    (l20 : K.lookup f20 = some ⟨oc20, od20, .func (PySem.W.fnOf "_law_draw" "_law_draw" (defArgs s_l_draw) (defBody s_l_draw) (defScope s_l_draw) .none kV20 dc20 pm20 an20 cd20 ct20), sl20⟩)
    (c20 : PySem.W.codeIn K cd20 "_law_draw" = true)
    (k20 : PySem.W.keepIn K (.ref f20) = true)
    (a21 : PySem.W.nsIn K mainGlobals "_law_of" = some (some (.ref f21)))
    (l21 : K.lookup f21 = some ⟨oc21, od21, .func (PySem.W.fnOf "_law_of" "_law_of" (defArgs s_l_of) (defBody s_l_of) (defScope s_l_of) .none kV21 dc21 pm21 an21 cd21 ct21), sl21⟩)
    (c21 : PySem.W.codeIn K cd21 "_law_of" = true)
    (k21 : PySem.W.keepIn K (.ref f21) = true)
    (a22 : PySem.W.nsIn K mainGlobals "_law_names" = some (some (.ref f22)))
    (l22 : K.lookup f22 = some ⟨oc22, od22, .func (PySem.W.fnOf "_law_names" "_law_names" (defArgs s_l_names) (defBody s_l_names) (defScope s_l_names) .none kV22 dc22 pm22 an22 cd22 ct22), sl22⟩)
    (c22 : PySem.W.codeIn K cd22 "_law_names" = true)
    (k22 : PySem.W.keepIn K (.ref f22) = true)
    (a23 : PySem.W.nsIn K mainGlobals "_law_lot" = some (some (.ref f23)))
    (l23 : K.lookup f23 = some ⟨oc23, od23, .func (PySem.W.fnOf "_law_lot" "_law_lot" (defArgs s_l_lot) (defBody s_l_lot) (defScope s_l_lot) .none kV23 dc23 pm23 an23 cd23 ct23), sl23⟩)
    (c23 : PySem.W.codeIn K cd23 "_law_lot" = true)
    (k23 : PySem.W.keepIn K (.ref f23) = true)
    (a24 : PySem.W.nsIn K mainGlobals "_law_mixed" = some (some (.ref f24)))
    (l24 : K.lookup f24 = some ⟨oc24, od24, .func (PySem.W.fnOf "_law_mixed" "_law_mixed" (defArgs s_l_mixed) (defBody s_l_mixed) (defScope s_l_mixed) .none kV24 dc24 pm24 an24 cd24 ct24), sl24⟩)
    (c24 : PySem.W.codeIn K cd24 "_law_mixed" = true)
    (k24 : PySem.W.keepIn K (.ref f24) = true)
    (a25 : PySem.W.nsIn K mainGlobals "_law_prices" = some (some (.ref f25)))
    (l25 : K.lookup f25 = some ⟨oc25, od25, .func (PySem.W.fnOf "_law_prices" "_law_prices" (defArgs s_l_prices) (defBody s_l_prices) (defScope s_l_prices) .none kV25 dc25 pm25 an25 cd25 ct25), sl25⟩)
    (c25 : PySem.W.codeIn K cd25 "_law_prices" = true)
    (k25 : PySem.W.keepIn K (.ref f25) = true)
    (a26 : PySem.W.nsIn K mainGlobals "_law_world" = some (some (.ref f26)))
    (l26 : K.lookup f26 = some ⟨oc26, od26, .func (PySem.W.fnOf "_law_world" "_law_world" (defArgs s_l_world) (defBody s_l_world) (defScope s_l_world) .none kV26 dc26 pm26 an26 cd26 ct26), sl26⟩)
    (c26 : PySem.W.codeIn K cd26 "_law_world" = true)
    (k26 : PySem.W.keepIn K (.ref f26) = true)
    (a27 : PySem.W.nsIn K mainGlobals "_law_demands" = some (some (.ref f27)))
    (l27 : K.lookup f27 = some ⟨oc27, od27, .func (PySem.W.fnOf "_law_demands" "_law_demands" (defArgs s_l_demands) (defBody s_l_demands) (defScope s_l_demands) .none kV27 dc27 pm27 an27 cd27 ct27), sl27⟩)
    (c27 : PySem.W.codeIn K cd27 "_law_demands" = true)
    (k27 : PySem.W.keepIn K (.ref f27) = true)
    (a28 : PySem.W.nsIn K mainGlobals "_law_some_places" = some (some (.ref f28)))
    (l28 : K.lookup f28 = some ⟨oc28, od28, .func (PySem.W.fnOf "_law_some_places" "_law_some_places" (defArgs s_l_some_places) (defBody s_l_some_places) (defScope s_l_some_places) .none kV28 dc28 pm28 an28 cd28 ct28), sl28⟩)
    (c28 : PySem.W.codeIn K cd28 "_law_some_places" = true)
    (k28 : PySem.W.keepIn K (.ref f28) = true)
    (a29 : PySem.W.nsIn K mainGlobals "_law_given" = some (some (.ref f29)))
    (l29 : K.lookup f29 = some ⟨oc29, od29, .func (PySem.W.fnOf "_law_given" "_law_given" (defArgs s_l_given) (defBody s_l_given) (defScope s_l_given) .none kV29 dc29 pm29 an29 cd29 ct29), sl29⟩)
    (c29 : PySem.W.codeIn K cd29 "_law_given" = true)
    (k29 : PySem.W.keepIn K (.ref f29) = true)
    (a30 : PySem.W.nsIn K mainGlobals "_law_taken" = some (some (.ref f30)))
    (l30 : K.lookup f30 = some ⟨oc30, od30, .func (PySem.W.fnOf "_law_taken" "_law_taken" (defArgs s_l_taken) (defBody s_l_taken) (defScope s_l_taken) .none kV30 dc30 pm30 an30 cd30 ct30), sl30⟩)
    (c30 : PySem.W.codeIn K cd30 "_law_taken" = true)
    (k30 : PySem.W.keepIn K (.ref f30) = true)
    (a31 : PySem.W.nsIn K mainGlobals "_law_plan_so" = some (some (.ref f31)))
    (l31 : K.lookup f31 = some ⟨oc31, od31, .func (PySem.W.fnOf "_law_plan_so" "_law_plan_so" (defArgs s_l_plan_so) (defBody s_l_plan_so) (defScope s_l_plan_so) .none kV31 dc31 pm31 an31 cd31 ct31), sl31⟩)
    (c31 : PySem.W.codeIn K cd31 "_law_plan_so" = true)
    (k31 : PySem.W.keepIn K (.ref f31) = true)
    (a32 : PySem.W.nsIn K mainGlobals "_law_worth" = some (some (.ref f32)))
    (l32 : K.lookup f32 = some ⟨oc32, od32, .func (PySem.W.fnOf "_law_worth" "_law_worth" (defArgs s_l_worth) (defBody s_l_worth) (defScope s_l_worth) .none kV32 dc32 pm32 an32 cd32 ct32), sl32⟩)
    (c32 : PySem.W.codeIn K cd32 "_law_worth" = true)
    (k32 : PySem.W.keepIn K (.ref f32) = true)
    (a33 : PySem.W.nsIn K mainGlobals "_law_cuts" = some (some (.ref f33)))
    (l33 : K.lookup f33 = some ⟨oc33, od33, .func (PySem.W.fnOf "_law_cuts" "_law_cuts" (defArgs s_l_cuts) (defBody s_l_cuts) (defScope s_l_cuts) .none kV33 dc33 pm33 an33 cd33 ct33), sl33⟩)
    (c33 : PySem.W.codeIn K cd33 "_law_cuts" = true)
    (k33 : PySem.W.keepIn K (.ref f33) = true)
    (a34 : PySem.W.nsIn K mainGlobals "_law_least" = some (some (.ref f34)))
    (l34 : K.lookup f34 = some ⟨oc34, od34, .func (PySem.W.fnOf "_law_least" "_law_least" (defArgs s_l_least) (defBody s_l_least) (defScope s_l_least) .none kV34 dc34 pm34 an34 cd34 ct34), sl34⟩)
    (c34 : PySem.W.codeIn K cd34 "_law_least" = true)
    (k34 : PySem.W.keepIn K (.ref f34) = true)
    (a35 : PySem.W.nsIn K mainGlobals "_law_greatest_so" = some (some (.ref f35)))
    (l35 : K.lookup f35 = some ⟨oc35, od35, .func (PySem.W.fnOf "_law_greatest_so" "_law_greatest_so" (defArgs s_l_greatest_so) (defBody s_l_greatest_so) (defScope s_l_greatest_so) .none kV35 dc35 pm35 an35 cd35 ct35), sl35⟩)
    (c35 : PySem.W.codeIn K cd35 "_law_greatest_so" = true)
    (k35 : PySem.W.keepIn K (.ref f35) = true)
    (a36 : PySem.W.nsIn K mainGlobals "_law_turned" = some (some (.ref f36)))
    (l36 : K.lookup f36 = some ⟨oc36, od36, .func (PySem.W.fnOf "_law_turned" "_law_turned" (defArgs s_l_turned) (defBody s_l_turned) (defScope s_l_turned) .none kV36 dc36 pm36 an36 cd36 ct36), sl36⟩)
    (c36 : PySem.W.codeIn K cd36 "_law_turned" = true)
    (k36 : PySem.W.keepIn K (.ref f36) = true)
    (a37 : PySem.W.nsIn K mainGlobals "_law_same" = some (some (.ref f37)))
    (l37 : K.lookup f37 = some ⟨oc37, od37, .func (PySem.W.fnOf "_law_same" "_law_same" (defArgs s_l_same) (defBody s_l_same) (defScope s_l_same) .none kV37 dc37 pm37 an37 cd37 ct37), sl37⟩)
    (c37 : PySem.W.codeIn K cd37 "_law_same" = true)
    (k37 : PySem.W.keepIn K (.ref f37) = true)
    (a38 : PySem.W.nsIn K mainGlobals "_law_reach" = some (some (.ref f38)))
    (l38 : K.lookup f38 = some ⟨oc38, od38, .func (PySem.W.fnOf "_law_reach" "_law_reach" (defArgs s_l_reach) (defBody s_l_reach) (defScope s_l_reach) .none kV38 dc38 pm38 an38 cd38 ct38), sl38⟩)
    (c38 : PySem.W.codeIn K cd38 "_law_reach" = true)
    (k38 : PySem.W.keepIn K (.ref f38) = true)
    (a39 : PySem.W.nsIn K mainGlobals "_law_shortest" = some (some (.ref f39)))
    (l39 : K.lookup f39 = some ⟨oc39, od39, .func (PySem.W.fnOf "_law_shortest" "_law_shortest" (defArgs s_l_shortest) (defBody s_l_shortest) (defScope s_l_shortest) .none kV39 dc39 pm39 an39 cd39 ct39), sl39⟩)
    (c39 : PySem.W.codeIn K cd39 "_law_shortest" = true)
    (k39 : PySem.W.keepIn K (.ref f39) = true)
    (a40 : PySem.W.nsIn K mainGlobals "law" = some (some (.ref f40)))
    (l40 : K.lookup f40 = some ⟨oc40, od40, .func (PySem.W.fnOf "law" "law" (defArgs s_law) (defBody s_law) (defScope s_law) .none kV40 dc40 pm40 an40 cd40 ct40), sl40⟩)
    (c40 : PySem.W.codeIn K cd40 "law" = true)
    (k40 : PySem.W.keepIn K (.ref f40) = true)
    (pg : PySem.W.plainGet K C Str.empty = true)
    (hd : PySem.W.hasDictIn K C = true)
    (po : PySem.W.plainOver K C = true)
    (sa : PySem.W.findIn K (.ref C) "__setattr__" = some (some (.builtin "object.__setattr__")))
    (mk : PySem.W.makesIn K C = true)
    (kc : PySem.W.keepIn K (.ref C) = true)
    (nN : PySem.W.findIn K (.ref C) "own_names" = some none)
    (nP : PySem.W.findIn K (.ref C) "own_parcels" = some none)
    (nPl : PySem.W.findIn K (.ref C) "own_places" = some none)
    (nL : PySem.W.findIn K (.ref C) "own_lots" = some none)
    (nO : PySem.W.findIn K (.ref C) "own_owed" = some none)
    (nR : PySem.W.findIn K (.ref C) "own_rests" = some none)
    (nG : PySem.W.findIn K (.ref C) "own_given" = some none)
    (z_isinstance : PySem.W.nsIn K mainGlobals "isinstance" = some none)
    (z_int : PySem.W.nsIn K mainGlobals "int" = some none)
    (z_bool : PySem.W.nsIn K mainGlobals "bool" = some none)
    (z_str : PySem.W.nsIn K mainGlobals "str" = some none)
    (z_list : PySem.W.nsIn K mainGlobals "list" = some none)
    (z_tuple : PySem.W.nsIn K mainGlobals "tuple" = some none)
    (z_dict : PySem.W.nsIn K mainGlobals "dict" = some none)
    (z_set : PySem.W.nsIn K mainGlobals "set" = some none)
    (z_len : PySem.W.nsIn K mainGlobals "len" = some none)
    (z_all : PySem.W.nsIn K mainGlobals "all" = some none)
    (z_sum : PySem.W.nsIn K mainGlobals "sum" = some none)
    (z_min : PySem.W.nsIn K mainGlobals "min" = some none)
    (z_abs : PySem.W.nsIn K mainGlobals "abs" = some none)
    (z_range : PySem.W.nsIn K mainGlobals "range" = some none)
    (z_enumerate : PySem.W.nsIn K mainGlobals "enumerate" = some none)
    (z_zip : PySem.W.nsIn K mainGlobals "zip" = some none)
    (z_sorted : PySem.W.nsIn K mainGlobals "sorted" = some none)
    (z_LETTERS : PySem.W.nsIn K mainGlobals "LETTERS" = some (some (.str "abcdefghijklmnopqrstuvwxyz" tk1)))
    (z_MOST_LETTERS : PySem.W.nsIn K mainGlobals "MOST_LETTERS" = some (some (.int 6 tk2)))
    (z_MOST_PARCELS : PySem.W.nsIn K mainGlobals "MOST_PARCELS" = some (some (.int 12 tk3)))
    (z_MOST_DEMANDS : PySem.W.nsIn K mainGlobals "MOST_DEMANDS" = some (some (.int 24 tk4))) :
    ∃ fd : FuncData, (∀ (s : Shared) (v : Value), BindsTo s fd ⟨[v], []⟩ [("_law_script", v)]) ∧ ∀ base : Heap, K.In base → base.Ns mainGlobals mg → FnOk l.prog w K mg base CX0 7 fa fd ["_law_script"] (spLaw K) := by
  have e := hfa.symm.trans (PySem.W.mg_of X G a40)
  cases e
  have T : Tx K mg := ⟨PySem.W.mg_none_of X G z_isinstance, PySem.W.mg_none_of X G z_int, PySem.W.mg_none_of X G z_bool, PySem.W.mg_none_of X G z_str, PySem.W.mg_none_of X G z_list, PySem.W.mg_none_of X G z_tuple, PySem.W.mg_none_of X G z_dict, PySem.W.mg_none_of X G z_set, PySem.W.mg_none_of X G z_len, PySem.W.mg_none_of X G z_all, PySem.W.mg_none_of X G z_sum, PySem.W.mg_none_of X G z_min, PySem.W.mg_none_of X G z_abs, PySem.W.mg_none_of X G z_range, PySem.W.mg_none_of X G z_enumerate, PySem.W.mg_none_of X G z_zip, PySem.W.mg_none_of X G z_sorted, ⟨_, PySem.W.mg_of X G z_LETTERS⟩, ⟨_, PySem.W.mg_of X G z_MOST_LETTERS⟩, ⟨_, PySem.W.mg_of X G z_MOST_PARCELS⟩, ⟨_, PySem.W.mg_of X G z_MOST_DEMANDS⟩⟩
  have TN : TxN K C := ⟨⟨pg, hd, po, sa⟩, nN, nP, nPl, nL, nO, nR, nG⟩
  have hba : ∀ H' : Hp, SqT K H' ba [] := fun H' => .inr ⟨_, #[], nB, lB, rfl, rfl, Nat.zero_le _, .nil⟩
  have F1 := fun_mk (x := "is_whole") (qual := "is_whole") (st := s_is_whole) l1 c1 k1
  have b1 := F1.binds (ps := ["value"]) fun _ _ _ _ _ _ us hl => match us, hl with | [_], _ => rfl
  have F2 := fun_mk (x := "is_name") (qual := "is_name") (st := s_is_name) l2 c2 k2
  have b2 := F2.binds (ps := ["value"]) fun _ _ _ _ _ _ us hl => match us, hl with | [_], _ => rfl
  have F3 := fun_mk (x := "is_lot") (qual := "is_lot") (st := s_is_lot) l3 c3 k3
  have b3 := F3.binds (ps := ["value"]) fun _ _ _ _ _ _ us hl => match us, hl with | [_], _ => rfl
  have F4 := fun_mk (x := "is_amount") (qual := "is_amount") (st := s_is_amount) l4 c4 k4
  have b4 := F4.binds (ps := ["value"]) fun _ _ _ _ _ _ us hl => match us, hl with | [_], _ => rfl
  have F5 := fun_mk (x := "is_price") (qual := "is_price") (st := s_is_price) l5 c5 k5
  have b5 := F5.binds (ps := ["value"]) fun _ _ _ _ _ _ us hl => match us, hl with | [_], _ => rfl
  have F6 := fun_mk (x := "is_demand") (qual := "is_demand") (st := s_is_demand) l6 c6 k6
  have b6 := F6.binds (ps := ["value"]) fun _ _ _ _ _ _ us hl => match us, hl with | [_], _ => rfl
  have F7 := fun_mk (x := "check_demands") (qual := "check_demands") (st := s_check_demands) l7 c7 k7
  have b7 := F7.binds (ps := ["value"]) fun _ _ _ _ _ _ us hl => match us, hl with | [_], _ => rfl
  have F8 := fun_mk (x := "check_prices") (qual := "check_prices") (st := s_check_prices) l8 c8 k8
  have b8 := F8.binds (ps := ["value"]) fun _ _ _ _ _ _ us hl => match us, hl with | [_], _ => rfl
  have F9 := fun_mk (x := "__init__") (qual := "Network.__init__") (st := s_init) l9 c9 k9
  have b9 := F9.binds (ps := ["self", "demands", "prices"]) fun _ _ _ _ _ _ us hl => match us, hl with | [_, _, _], _ => rfl
  have F10 := fun_mk (x := "walked") (qual := "Network.walked") (st := s_walked) l10 c10 k10
  have b10 := F10.binds (ps := ["self", "starts", "barred"]) fun _ _ _ _ _ _ us hl => match us, hl with | [_, _, _], _ => rfl
  have F11 : FunK K "path" "Network.path" s_path [.ref ba] [] f11 _ := ⟨⟨oc11, od11, .ref T0, kV11, dc11, pm11, an11, cd11, ct11, sl11, rfl, l11, c11, .inr ⟨by simp, T0, _, [.ref ba], nT, rfl, lT, rfl, .cons rfl .nil⟩, .inl rfl⟩, k11⟩
  obtain ⟨ds11, v11, b11⟩ := FunD.binds1 (ps := ["self", "starts", "barred"]) F11 2 0 (by simp) rfl fun _ _ _ _ _ _ _ us its hl hi => match us, hl, its, hi with | [_, _], _, [_], _ => ⟨_, rfl, rfl⟩
  have F12 := fun_mk (x := "room") (qual := "Network.room") (st := s_room) l12 c12 k12
  have b12 := F12.binds (ps := ["self", "path"]) fun _ _ _ _ _ _ us hl => match us, hl with | [_, _], _ => rfl
  have F13 := fun_mk (x := "move") (qual := "Network.move") (st := s_move) l13 c13 k13
  have b13 := F13.binds (ps := ["self", "path", "many"]) fun _ _ _ _ _ _ us hl => match us, hl with | [_, _, _], _ => rfl
  have F14 := fun_mk (x := "fill") (qual := "Network.fill") (st := s_fill) l14 c14 k14
  have b14 := F14.binds (ps := ["self", "at"]) fun _ _ _ _ _ _ us hl => match us, hl with | [_, _], _ => rfl
  have F15 := fun_mk (x := "fill_all") (qual := "Network.fill_all") (st := s_fill_all) l15 c15 k15
  have b15 := F15.binds (ps := ["self"]) fun _ _ _ _ _ _ us hl => match us, hl with | [_], _ => rfl
  have F16 := fun_mk (x := "plan") (qual := "Network.plan") (st := s_plan) l16 c16 k16
  have b16 := F16.binds (ps := ["self"]) fun _ _ _ _ _ _ us hl => match us, hl with | [_], _ => rfl
  have F17 := fun_mk (x := "filled") (qual := "filled") (st := s_filled) l17 c17 k17
  have b17 := F17.binds (ps := ["demands", "prices", "parcels"]) fun _ _ _ _ _ _ us hl => match us, hl with | [_, _, _], _ => rfl
  have F18 : FunK K "greatest_plan" "greatest_plan" s_greatest_plan [] [("parcels", .non)] f18 _ := ⟨⟨oc18, od18, .none, .ref D0, dc18, pm18, an18, cd18, ct18, sl18, rfl, l18, c18, .inl ⟨rfl, rfl⟩, .inr ⟨D0, rfl, fun q hq => by
      have e := List.mem_singleton.mp hq
      rw [e]
      exact ⟨.none, nD, rfl⟩⟩⟩, k18⟩
  obtain ⟨ds18, v18, b18⟩ := FunD.binds0 (ps := ["demands", "prices", "parcels"]) F18 2 (by simp) rfl fun _ _ _ _ _ _ us ks hl hk => match us, hl, ks, hk with | [_, _], _, [_], _ => ⟨_, _, _, _, _, _, rfl, rfl, rfl⟩
  obtain ⟨_, hk1⟩ := FunD.kbinds0 (ps := ["demands", "prices", "parcels"]) F18 2 ["parcels"] [] (fun us _ ws => us ++ ws) (by simp) (by intro q hq; cases hq) (fun r1 _ r3 => r1.append r3) fun _ _ _ _ _ _ us mv ws hl hm hw => match us, hl, mv, hm, ws, hw with | [_, _], _, [], _, [_], _ => rfl
  obtain ⟨_, hk2⟩ := FunD.kbinds0 (ps := ["demands", "prices", "parcels"]) F18 0 ["prices", "demands", "parcels"] [] (fun us _ ws => gpK2 us ws) (by simp) (by intro q hq; cases hq) (fun _ _ r3 => gpK2_rel r3) fun _ _ _ _ _ _ us mv ws hl hm hw => match us, hl, mv, hm, ws, hw with | [], _, [], _, [_, _, _], _ => rfl
  have F19 := fun_mk (x := "_law_bag") (qual := "_law_bag") (st := s_l_bag) l19 c19 k19
  have b19 := F19.binds (ps := ["_law_script"]) fun _ _ _ _ _ _ us hl => match us, hl with | [_], _ => rfl
  have F20 := fun_mk (x := "_law_draw") (qual := "_law_draw") (st := s_l_draw) l20 c20 k20
  have b20 := F20.binds (ps := ["_law_bag_here", "_law_many"]) fun _ _ _ _ _ _ us hl => match us, hl with | [_, _], _ => rfl
  have F21 := fun_mk (x := "_law_of") (qual := "_law_of") (st := s_l_of) l21 c21 k21
  have b21 := F21.binds (ps := ["_law_bag_here", "_law_some"]) fun _ _ _ _ _ _ us hl => match us, hl with | [_, _], _ => rfl
  have F22 := fun_mk (x := "_law_names") (qual := "_law_names") (st := s_l_names) l22 c22 k22
  have b22 := F22.binds (ps := ["_law_bag_here", "_law_many"]) fun _ _ _ _ _ _ us hl => match us, hl with | [_, _], _ => rfl
  have F23 := fun_mk (x := "_law_lot") (qual := "_law_lot") (st := s_l_lot) l23 c23 k23
  have b23 := F23.binds (ps := ["_law_bag_here", "_law_places"]) fun _ _ _ _ _ _ us hl => match us, hl with | [_, _], _ => rfl
  have F24 := fun_mk (x := "_law_mixed") (qual := "_law_mixed") (st := s_l_mixed) l24 c24 k24
  have b24 := F24.binds (ps := ["_law_bag_here", "_law_some"]) fun _ _ _ _ _ _ us hl => match us, hl with | [_, _], _ => rfl
  have F25 := fun_mk (x := "_law_prices") (qual := "_law_prices") (st := s_l_prices) l25 c25 k25
  have b25 := F25.binds (ps := ["_law_bag_here", "_law_places", "_law_top"]) fun _ _ _ _ _ _ us hl => match us, hl with | [_, _, _], _ => rfl
  have F26 := fun_mk (x := "_law_world") (qual := "_law_world") (st := s_l_world) l26 c26 k26
  have b26 := F26.binds (ps := ["_law_bag_here", "_law_most", "_law_held"]) fun _ _ _ _ _ _ us hl => match us, hl with | [_, _, _], _ => rfl
  have F27 := fun_mk (x := "_law_demands") (qual := "_law_demands") (st := s_l_demands) l27 c27 k27
  have b27 := F27.binds (ps := ["_law_claims"]) fun _ _ _ _ _ _ us hl => match us, hl with | [_], _ => rfl
  have F28 := fun_mk (x := "_law_some_places") (qual := "_law_some_places") (st := s_l_some_places) l28 c28 k28
  have b28 := F28.binds (ps := ["_law_bag_here", "_law_places"]) fun _ _ _ _ _ _ us hl => match us, hl with | [_, _], _ => rfl
  have F29 := fun_mk (x := "_law_given") (qual := "_law_given") (st := s_l_given) l29 c29 k29
  have b29 := F29.binds (ps := ["_law_plan", "_law_name"]) fun _ _ _ _ _ _ us hl => match us, hl with | [_, _], _ => rfl
  have F30 := fun_mk (x := "_law_taken") (qual := "_law_taken") (st := s_l_taken) l30 c30 k30
  have b30 := F30.binds (ps := ["_law_plan", "_law_place"]) fun _ _ _ _ _ _ us hl => match us, hl with | [_, _], _ => rfl
  have F31 := fun_mk (x := "_law_plan_so") (qual := "_law_plan_so") (st := s_l_plan_so) l31 c31 k31
  have b31 := F31.binds (ps := ["_law_demands_here", "_law_prices_here", "_law_value"]) fun _ _ _ _ _ _ us hl => match us, hl with | [_, _, _], _ => rfl
  have F32 := fun_mk (x := "_law_worth") (qual := "_law_worth") (st := s_l_worth) l32 c32 k32
  have b32 := F32.binds (ps := ["_law_demands_here", "_law_prices_here", "_law_chosen", "_law_allowed"]) fun _ _ _ _ _ _ us hl => match us, hl with | [_, _, _, _], _ => rfl
  have F33 := fun_mk (x := "_law_cuts") (qual := "_law_cuts") (st := s_l_cuts) l33 c33 k33
  have b33 := F33.binds (ps := ["_law_many"]) fun _ _ _ _ _ _ us hl => match us, hl with | [_], _ => rfl
  have F34 := fun_mk (x := "_law_least") (qual := "_law_least") (st := s_l_least) l34 c34 k34
  have b34 := F34.binds (ps := ["_law_demands_here", "_law_prices_here", "_law_allowed"]) fun _ _ _ _ _ _ us hl => match us, hl with | [_, _, _], _ => rfl
  have F35 := fun_mk (x := "_law_greatest_so") (qual := "_law_greatest_so") (st := s_l_greatest_so) l35 c35 k35
  have b35 := F35.binds (ps := ["_law_demands_here", "_law_prices_here", "_law_some", "_law_found"]) fun _ _ _ _ _ _ us hl => match us, hl with | [_, _, _, _], _ => rfl
  have F36 := fun_mk (x := "_law_turned") (qual := "_law_turned") (st := s_l_turned) l36 c36 k36
  have b36 := F36.binds (ps := ["_law_prices_here"]) fun _ _ _ _ _ _ us hl => match us, hl with | [_], _ => rfl
  have F37 := fun_mk (x := "_law_same") (qual := "_law_same") (st := s_l_same) l37 c37 k37
  have b37 := F37.binds (ps := ["_law_found", "_law_due"]) fun _ _ _ _ _ _ us hl => match us, hl with | [_, _], _ => rfl
  have F38 := fun_mk (x := "_law_reach") (qual := "_law_reach") (st := s_l_reach) l38 c38 k38
  have b38 := F38.binds (ps := ["_law_rows"]) fun _ _ _ _ _ _ us hl => match us, hl with | [_], _ => rfl
  have F39 := fun_mk (x := "_law_shortest") (qual := "_law_shortest") (st := s_l_shortest) l39 c39 k39
  have b39 := F39.binds (ps := ["_law_demands_here", "_law_prices_here", "_law_plan"]) fun _ _ _ _ _ _ us hl => match us, hl with | [_, _, _], _ => rfl
  have F40 := fun_mk (x := "law") (qual := "law") (st := s_law) l40 c40 k40
  refine ⟨PySem.W.fnOf "law" "law" (defArgs s_law) (defBody s_law) (defScope s_law) .none kV40 dc40 pm40 an40 cd40 ct40, fun s v => .of_eq rfl, fun base _ _ => ?_⟩
  let A1 : Fn l.prog w K mg base 1 "is_whole" ["value"] sp_whole := ⟨f1, _, [], PySem.W.mg_of X G a1, k1, b1, .nil, ok_whole F1 T ⟩
  let A2 : Fn l.prog w K mg base 1 "is_name" ["value"] sp_name := ⟨f2, _, [], PySem.W.mg_of X G a2, k2, b2, .nil, ok_name F2 T ⟩
  let A3 : Fn l.prog w K mg base 2 "is_lot" ["value"] sp_lot := ⟨f3, _, [], PySem.W.mg_of X G a3, k3, b3, .nil, ok_lot F3 T A2⟩
  let A4 : Fn l.prog w K mg base 2 "is_amount" ["value"] sp_amount := ⟨f4, _, [], PySem.W.mg_of X G a4, k4, b4, .nil, ok_amount F4 T A1⟩
  let A5 : Fn l.prog w K mg base 2 "is_price" ["value"] sp_price := ⟨f5, _, [], PySem.W.mg_of X G a5, k5, b5, .nil, ok_price F5 T A1⟩
  let A6 : Fn l.prog w K mg base 3 "is_demand" ["value"] sp_demand := ⟨f6, _, [], PySem.W.mg_of X G a6, k6, b6, .nil, ok_demand F6 T A2 A4 A3⟩
  let A7 : Fn l.prog w K mg base 4 "check_demands" ["value"] sp_chkD := ⟨f7, _, [], PySem.W.mg_of X G a7, k7, b7, .nil, ok_chkD F7 T A6⟩
  let A8 : Fn l.prog w K mg base 3 "check_prices" ["value"] sp_chkP := ⟨f8, _, [], PySem.W.mg_of X G a8, k8, b8, .nil, ok_chkP F8 T A2 A5⟩
  have G9 : FnOk l.prog w K mg base CX0 1 f9 _ ["self", "demands", "prices"] (sp_init C) := ok_init F9 T TN
  let A10 : Mth l.prog w K mg base C 1 "walked" ["self", "starts", "barred"] [] (sp_walked K C) := ⟨f10, _, [], ⟨a10, i10, k10⟩, b10, .nil, ok_walked F10 T TN ⟩
  let A11 : Mth l.prog w K mg base C 2 "path" ["self", "starts", "barred"] [.ref ba] (sp_path K C) := ⟨f11, _, ds11, ⟨a11, i11, k11⟩, b11, v11, ok_path F11 T TN A10⟩
  let A12 : Mth l.prog w K mg base C 1 "room" ["self", "path"] [] (sp_room C) := ⟨f12, _, [], ⟨a12, i12, k12⟩, b12, .nil, ok_room F12 T TN ⟩
  let A13 : Mth l.prog w K mg base C 1 "move" ["self", "path", "many"] [] (sp_move C) := ⟨f13, _, [], ⟨a13, i13, k13⟩, b13, .nil, ok_move F13 T TN ⟩
  let A14 : Mth l.prog w K mg base C 3 "fill" ["self", "at"] [] (sp_fill C) := ⟨f14, _, [], ⟨a14, i14, k14⟩, b14, .nil, ok_fill F14 T TN hba A11 A12 A13⟩
  let A15 : Mth l.prog w K mg base C 4 "fill_all" ["self"] [] (sp_fillAll C) := ⟨f15, _, [], ⟨a15, i15, k15⟩, b15, .nil, ok_fillAll F15 T TN A14⟩
  let A16 : Mth l.prog w K mg base C 1 "plan" ["self"] [] (sp_plan C) := ⟨f16, _, [], ⟨a16, i16, k16⟩, b16, .nil, ok_plan F16 T TN ⟩
  let A17 : Fn l.prog w K mg base 5 "filled" ["demands", "prices", "parcels"] (sp_filled C) := ⟨f17, _, [], PySem.W.mg_of X G a17, k17, b17, .nil, ok_filled F17 T TN (PySem.W.mg_of X G aC) ⟨mk, a9, i9, kc⟩ b9 G9 A15⟩
  let A18 : FnD l.prog w K mg base 6 "greatest_plan" ["demands", "prices", "parcels"] [.non] sp_greatest := ⟨f18, _, ds18, PySem.W.mg_of X G a18, k18, b18, v18, ok_greatest F18 T TN A7 A8 A17 A16⟩
  let A19 : Fn l.prog w K mg base 1 "_law_bag" ["_law_script"] (sp_bag K) := ⟨f19, _, [], PySem.W.mg_of X G a19, k19, b19, .nil, ok_bag F19 T ⟩
  let A20 : Fn l.prog w K mg base 1 "_law_draw" ["_law_bag_here", "_law_many"] sp_draw := ⟨f20, _, [], PySem.W.mg_of X G a20, k20, b20, .nil, ok_draw F20 T ⟩
  let A21 : Fn l.prog w K mg base 2 "_law_of" ["_law_bag_here", "_law_some"] sp_of := ⟨f21, _, [], PySem.W.mg_of X G a21, k21, b21, .nil, ok_of F21 T A20⟩
  let A22 : Fn l.prog w K mg base 3 "_law_names" ["_law_bag_here", "_law_many"] sp_names := ⟨f22, _, [], PySem.W.mg_of X G a22, k22, b22, .nil, ok_names F22 T A20 A21⟩
  let A23 : Fn l.prog w K mg base 3 "_law_lot" ["_law_bag_here", "_law_places"] sp_llot := ⟨f23, _, [], PySem.W.mg_of X G a23, k23, b23, .nil, ok_llot F23 T A20 A21⟩
  let A24 : Fn l.prog w K mg base 2 "_law_mixed" ["_law_bag_here", "_law_some"] sp_mixed := ⟨f24, _, [], PySem.W.mg_of X G a24, k24, b24, .nil, ok_mixed F24 T A20⟩
  let A25 : Fn l.prog w K mg base 3 "_law_prices" ["_law_bag_here", "_law_places", "_law_top"] sp_lprices := ⟨f25, _, [], PySem.W.mg_of X G a25, k25, b25, .nil, ok_lprices F25 T A20 A21 A24⟩
  let A26 : Fn l.prog w K mg base 4 "_law_world" ["_law_bag_here", "_law_most", "_law_held"] sp_world := ⟨f26, _, [], PySem.W.mg_of X G a26, k26, b26, .nil, ok_world F26 T A20 A21 A22 A23 A25⟩
  let A27 : Fn l.prog w K mg base 1 "_law_demands" ["_law_claims"] sp_ldem := ⟨f27, _, [], PySem.W.mg_of X G a27, k27, b27, .nil, ok_ldem F27 T ⟩
  let A28 : Fn l.prog w K mg base 3 "_law_some_places" ["_law_bag_here", "_law_places"] sp_some := ⟨f28, _, [], PySem.W.mg_of X G a28, k28, b28, .nil, ok_some F28 T A20 A21⟩
  let A29 : Fn l.prog w K mg base 1 "_law_given" ["_law_plan", "_law_name"] sp_given := ⟨f29, _, [], PySem.W.mg_of X G a29, k29, b29, .nil, ok_given F29 T ⟩
  let A30 : Fn l.prog w K mg base 1 "_law_taken" ["_law_plan", "_law_place"] sp_taken := ⟨f30, _, [], PySem.W.mg_of X G a30, k30, b30, .nil, ok_taken F30 T ⟩
  let A31 : Fn l.prog w K mg base 2 "_law_plan_so" ["_law_demands_here", "_law_prices_here", "_law_value"] sp_planSo := ⟨f31, _, [], PySem.W.mg_of X G a31, k31, b31, .nil, ok_planSo F31 T A29 A30⟩
  let A32 : Fn l.prog w K mg base 1 "_law_worth" ["_law_demands_here", "_law_prices_here", "_law_chosen", "_law_allowed"] sp_worth := ⟨f32, _, [], PySem.W.mg_of X G a32, k32, b32, .nil, ok_worth F32 T ⟩
  let A33 : Fn l.prog w K mg base 1 "_law_cuts" ["_law_many"] sp_cuts := ⟨f33, _, [], PySem.W.mg_of X G a33, k33, b33, .nil, ok_cuts F33 T ⟩
  let A34 : Fn l.prog w K mg base 2 "_law_least" ["_law_demands_here", "_law_prices_here", "_law_allowed"] sp_least := ⟨f34, _, [], PySem.W.mg_of X G a34, k34, b34, .nil, ok_least F34 T A32 A33⟩
  let A35 : Fn l.prog w K mg base 3 "_law_greatest_so" ["_law_demands_here", "_law_prices_here", "_law_some", "_law_found"] sp_greatSo := ⟨f35, _, [], PySem.W.mg_of X G a35, k35, b35, .nil, ok_greatSo F35 T A31 A34⟩
  let A36 : Fn l.prog w K mg base 1 "_law_turned" ["_law_prices_here"] sp_turned := ⟨f36, _, [], PySem.W.mg_of X G a36, k36, b36, .nil, ok_turned F36 T ⟩
  let A37 : Fn l.prog w K mg base 5 "_law_same" ["_law_found", "_law_due"] (sp_same 4) := ⟨f37, _, [], PySem.W.mg_of X G a37, k37, b37, .nil, ok_sameR F37 T (PySem.W.mg_of X G a37) b37 5⟩
  let A38 : Fn l.prog w K mg base 1 "_law_reach" ["_law_rows"] sp_reach := ⟨f38, _, [], PySem.W.mg_of X G a38, k38, b38, .nil, ok_reach F38 T ⟩
  let A39 : Fn l.prog w K mg base 2 "_law_shortest" ["_law_demands_here", "_law_prices_here", "_law_plan"] sp_short := ⟨f39, _, [], PySem.W.mg_of X G a39, k39, b39, .nil, ok_short F39 T A29 A30 A38⟩
  exact ok_law F40 T A19 A26 A27 A28 A18 hk1 hk2 A35 A36 A37 A24 A22 A20 A31 A39
theorem walk {l : PySem.W.OpenLaw} {q : Program} {loose : List Str} {XP : (Str → Option Value) → Heap → Prop} {YP : World → Heap → Prop} {d : DefRec} {K : Params → PySem.W.Frag} (hn : l.most = some 63) (hdf : d.params.defaults = [])
    (hY : ∀ (w : World) (h : Heap), YP w h → (K w.params).In h)
    (F : ∀ (w : World) (mg : Str → Option Value) (fa : Addr) (h : Heap), (K w.params).In h → h.Ns mainGlobals mg → mg d.name = some (.ref fa) →
      ∃ fd : FuncData, (∀ (s : Shared) (u : Value), BindsTo s fd ⟨[u], []⟩ [("_law_script", u)]) ∧ ∀ base : Heap, (K w.params).In base → base.Ns mainGlobals mg → FnOk l.prog w (K w.params) mg base CX0 7 fa fd ["_law_script"] (spLaw (K w.params))) :
    PySem.W.WalkO q loose XP YP l.row.toRowW d [] (fun f vs => PySem.call f vs) :=
  L2.walk_of (n := 63) (k := 7) (x := "_law_script") (CX := fun _ => CX0) (sp := fun w => spLaw (K w.params)) hn (by decide) hdf ⟨rfl, by decide, by decide⟩ hY F (fun _ _ a ns hl _ hS => ⟨a, ns, rfl, hS, hl, fun _ => rfl⟩) fun _ _ _ _ _ z => z
end Dr


open PySem PySem.W PyProof.Rows in
set_option maxRecDepth 100000 in
set_option maxHeartbeats 0 in
theorem PySem.Challenge.cw_deedranks_k43_whole_greatest_plans_holds : PySem.Challenge.rw_deedranks_k43_whole_greatest_plans.Holds := by
  w_on; o_law; k_head; (case hw => w_witness2)
  k_fill
  refine Dr.walk (l := PySem.Challenge.rw_deedranks_k43_whole_greatest_plans) rfl rfl (fun w h Y => PySem.W.kIn_of Y) ?F
  case F =>
    intro w mg fa h KX G hmg
    refine' Dr.all_mk KX G hmg ?aC ?a1 ?l1 ?c1 ?k1 ?a2 ?l2 ?c2 ?k2 ?a3 ?l3 ?c3 ?k3 ?a4 ?l4 ?c4 ?k4 ?a5 ?l5 ?c5 ?k5 ?a6 ?l6 ?c6 ?k6 ?a7 ?l7 ?c7 ?k7 ?a8 ?l8 ?c8 ?k8 ?a9 ?i9 ?l9 ?c9 ?k9 ?a10 ?i10 ?l10 ?c10 ?k10 ?a11 ?i11 ?l11 ?lT ?lB ?c11 ?k11 ?a12 ?i12 ?l12 ?c12 ?k12 ?a13 ?i13 ?l13 ?c13 ?k13 ?a14 ?i14 ?l14 ?c14 ?k14 ?a15 ?i15 ?l15 ?c15 ?k15 ?a16 ?i16 ?l16 ?c16 ?k16 ?a17 ?l17 ?c17 ?k17 ?a18 ?l18 ?nD ?c18 ?k18 ?a19 ?l19 ?c19 ?k19 ?a20 ?l20 ?c20 ?k20 ?a21 ?l21 ?c21 ?k21 ?a22 ?l22 ?c22 ?k22 ?a23 ?l23 ?c23 ?k23 ?a24 ?l24 ?c24 ?k24 ?a25 ?l25 ?c25 ?k25 ?a26 ?l26 ?c26 ?k26 ?a27 ?l27 ?c27 ?k27 ?a28 ?l28 ?c28 ?k28 ?a29 ?l29 ?c29 ?k29 ?a30 ?l30 ?c30 ?k30 ?a31 ?l31 ?c31 ?k31 ?a32 ?l32 ?c32 ?k32 ?a33 ?l33 ?c33 ?k33 ?a34 ?l34 ?c34 ?k34 ?a35 ?l35 ?c35 ?k35 ?a36 ?l36 ?c36 ?k36 ?a37 ?l37 ?c37 ?k37 ?a38 ?l38 ?c38 ?k38 ?a39 ?l39 ?c39 ?k39 ?a40 ?l40 ?c40 ?k40 ?pg ?hd ?po ?sa ?mk ?kc ?nN ?nP ?nPl ?nL ?nO ?nR ?nG ?z_isinstance ?z_int ?z_bool ?z_str ?z_list ?z_tuple ?z_dict ?z_set ?z_len ?z_all ?z_sum ?z_min ?z_abs ?z_range ?z_enumerate ?z_zip ?z_sorted ?z_LETTERS ?z_MOST_LETTERS ?z_MOST_PARCELS ?z_MOST_DEMANDS
    (case aC => k_is)
    (case a1 => k_is)
    (case l1 => k_is)
    (case c1 => k_is)
    (case k1 => k_is)
    (case a2 => k_is)
    (case l2 => k_is)
    (case c2 => k_is)
    (case k2 => k_is)
    (case a3 => k_is)
    (case l3 => k_is)
    (case c3 => k_is)
    (case k3 => k_is)
    (case a4 => k_is)
    (case l4 => k_is)
    (case c4 => k_is)
    (case k4 => k_is)
    (case a5 => k_is)
    (case l5 => k_is)
    (case c5 => k_is)
    (case k5 => k_is)
    (case a6 => k_is)
    (case l6 => k_is)
    (case c6 => k_is)
    (case k6 => k_is)
    (case a7 => k_is)
    (case l7 => k_is)
    (case c7 => k_is)
    (case k7 => k_is)
    (case a8 => k_is)
    (case l8 => k_is)
    (case c8 => k_is)
    (case k8 => k_is)
    (case a9 => k_is)
    (case i9 => k_is)
    (case l9 => k_is)
    (case c9 => k_is)
    (case k9 => k_is)
    (case a10 => k_is)
    (case i10 => k_is)
    (case l10 => k_is)
    (case c10 => k_is)
    (case k10 => k_is)
    (case a11 => k_is)
    (case i11 => k_is)
    (case l11 => k_is)
    (case lT => k_is)
    (case lB => k_is)
    (case c11 => k_is)
    (case k11 => k_is)
    (case a12 => k_is)
    (case i12 => k_is)
    (case l12 => k_is)
    (case c12 => k_is)
    (case k12 => k_is)
    (case a13 => k_is)
    (case i13 => k_is)
    (case l13 => k_is)
    (case c13 => k_is)
    (case k13 => k_is)
    (case a14 => k_is)
    (case i14 => k_is)
    (case l14 => k_is)
    (case c14 => k_is)
    (case k14 => k_is)
    (case a15 => k_is)
    (case i15 => k_is)
    (case l15 => k_is)
    (case c15 => k_is)
    (case k15 => k_is)
    (case a16 => k_is)
    (case i16 => k_is)
    (case l16 => k_is)
    (case c16 => k_is)
    (case k16 => k_is)
    (case a17 => k_is)
    (case l17 => k_is)
    (case c17 => k_is)
    (case k17 => k_is)
    (case a18 => k_is)
    (case l18 => k_is)
    (case nD => k_is)
    (case c18 => k_is)
    (case k18 => k_is)
    (case a19 => k_is)
    (case l19 => k_is)
    (case c19 => k_is)
    (case k19 => k_is)
    (case a20 => k_is)
    (case l20 => k_is)
    (case c20 => k_is)
    (case k20 => k_is)
    (case a21 => k_is)
    (case l21 => k_is)
    (case c21 => k_is)
    (case k21 => k_is)
    (case a22 => k_is)
    (case l22 => k_is)
    (case c22 => k_is)
    (case k22 => k_is)
    (case a23 => k_is)
    (case l23 => k_is)
    (case c23 => k_is)
    (case k23 => k_is)
    (case a24 => k_is)
    (case l24 => k_is)
    (case c24 => k_is)
    (case k24 => k_is)
    (case a25 => k_is)
    (case l25 => k_is)
    (case c25 => k_is)
    (case k25 => k_is)
    (case a26 => k_is)
    (case l26 => k_is)
    (case c26 => k_is)
    (case k26 => k_is)
    (case a27 => k_is)
    (case l27 => k_is)
    (case c27 => k_is)
    (case k27 => k_is)
    (case a28 => k_is)
    (case l28 => k_is)
    (case c28 => k_is)
    (case k28 => k_is)
    (case a29 => k_is)
    (case l29 => k_is)
    (case c29 => k_is)
    (case k29 => k_is)
    (case a30 => k_is)
    (case l30 => k_is)
    (case c30 => k_is)
    (case k30 => k_is)
    (case a31 => k_is)
    (case l31 => k_is)
    (case c31 => k_is)
    (case k31 => k_is)
    (case a32 => k_is)
    (case l32 => k_is)
    (case c32 => k_is)
    (case k32 => k_is)
    (case a33 => k_is)
    (case l33 => k_is)
    (case c33 => k_is)
    (case k33 => k_is)
    (case a34 => k_is)
    (case l34 => k_is)
    (case c34 => k_is)
    (case k34 => k_is)
    (case a35 => k_is)
    (case l35 => k_is)
    (case c35 => k_is)
    (case k35 => k_is)
    (case a36 => k_is)
    (case l36 => k_is)
    (case c36 => k_is)
    (case k36 => k_is)
    (case a37 => k_is)
    (case l37 => k_is)
    (case c37 => k_is)
    (case k37 => k_is)
    (case a38 => k_is)
    (case l38 => k_is)
    (case c38 => k_is)
    (case k38 => k_is)
    (case a39 => k_is)
    (case l39 => k_is)
    (case c39 => k_is)
    (case k39 => k_is)
    (case a40 => k_is)
    (case l40 => k_is)
    (case c40 => k_is)
    (case k40 => k_is)
    (case pg => k_is)
    (case hd => k_is)
    (case po => k_is)
    (case sa => k_is)
    (case mk => k_is)
    (case kc => k_is)
    (case nN => k_is)
    (case nP => k_is)
    (case nPl => k_is)
    (case nL => k_is)
    (case nO => k_is)
    (case nR => k_is)
    (case nG => k_is)
    (case z_isinstance => k_is)
    (case z_int => k_is)
    (case z_bool => k_is)
    (case z_str => k_is)
    (case z_list => k_is)
    (case z_tuple => k_is)
    (case z_dict => k_is)
    (case z_set => k_is)
    (case z_len => k_is)
    (case z_all => k_is)
    (case z_sum => k_is)
    (case z_min => k_is)
    (case z_abs => k_is)
    (case z_range => k_is)
    (case z_enumerate => k_is)
    (case z_zip => k_is)
    (case z_sorted => k_is)
    (case z_LETTERS => k_is)
    (case z_MOST_LETTERS => k_is)
    (case z_MOST_PARCELS => k_is)
    (case z_MOST_DEMANDS => k_is)

