import PyProof.Rows.All
import PySem.Challenge.RW_twicesaid_k44_whole_all_of_three_words
import HandS.ForMost
import HandS.NamedTupSort
import KE.LtSeq
import KE.KSortAsk
import HandS.Set
import HandS.SetTxt0
import HandS.Strs
import PyProof.Rows.SortShellAny
import PyProof.Rows.All
import Wide.All
import OpenK.AllK
import Wide.FinOn
import KE.KExcIs
import HandS.Base
import HandS.Call
import HandS.Exc
import HandS.ExcInit
import HandS.ExcField
import HandS.ExcIs
import HandS.ExcOwn
import HandS.TryOnly
import HandS.ClsMeth
import HandS.IsInst
import HandS.Words
import HandS.HeadWalk
import PyProof.ReprRoads
import HandS.List
import HandS.Dict
import KE.KDictDisplayH
import HandS.ForExc
import HandS.Flow
import HandS.Wide
import HandS.Deep
import HandS.More
import HandS.Style
import PyProof.ListStr
import HandS.WideBits
import PyProof.Rows.StrMeet
import HandS.Text
import HandS.Conv
import HandS.NoneIn
import KE.KUnpackStar
set_option Elab.async false
set_option linter.all false
set_option maxRecDepth 100000
set_option maxHeartbeats 0
/-! EngS: sorted(xs), xs a list of lists of texts -/
namespace Eng
open PySem PySem.Spec PyProof.Rows L2 PySem.SeqAt Srt SrtO
def ltS (x y : Str) : Bool := decide (x.cps.toList < y.cps.toList)
theorem ltS_irr (x : Str) : ltS x x = false := decide_eq_false (List.lt_irrefl _)
theorem ltS_asym {x y : Str} (h : ltS x y = true) : ltS y x = false := decide_eq_false (List.lt_asymm (of_decide_eq_true h))
theorem ltS_anti {x y : Str} (h : ltS x y = false) (k : ltS y x = false) : x = y := by
  have h1 : y.cps.toList ≤ x.cps.toList := List.not_lt.mp (of_decide_eq_false h)
  have h2 : x.cps.toList ≤ y.cps.toList := List.not_lt.mp (of_decide_eq_false k)
  have e := List.le_antisymm h2 h1
  cases x; cases y
  simp only [Str.mk.injEq]
  exact Array.toList_inj.mp e
theorem ltS_tr {x y z : Str} (h1 : ltS y x = false) (h2 : ltS z y = false) : ltS z x = false :=
  decide_eq_false (List.not_lt.mpr (List.le_trans (List.not_lt.mp (of_decide_eq_false h1)) (List.not_lt.mp (of_decide_eq_false h2))))
def lexS : List Str → List Str → Bool
  | [], [] => false
  | [], _ :: _ => true
  | _ :: _, [] => false
  | x :: xs, y :: ys => if x = y then lexS xs ys else ltS x y
theorem lexS_asym : ∀ {xs ys : List Str}, lexS xs ys = true → lexS ys xs = false
  | [], [], h => by cases h
  | [], _ :: _, _ => rfl
  | _ :: _, [], h => by cases h
  | x :: xs, y :: ys, h => by
    unfold lexS at h ⊢
    by_cases e : x = y
    · rw [if_pos e] at h
      rw [if_pos e.symm]
      exact lexS_asym h
    · rw [if_neg e] at h
      rw [if_neg (Ne.symm e)]
      exact ltS_asym h
theorem lexS_tr : ∀ {xs ys zs : List Str}, lexS ys xs = false → lexS zs ys = false → lexS zs xs = false
  | [], _, [], _, _ => rfl
  | [], _, _ :: _, _, _ => rfl
  | _ :: _, [], _, h, _ => by cases h
  | _ :: _, _ :: _, [], _, h => by cases h
  | a :: xs, b :: ys, c :: zs, h1, h2 => by
    unfold lexS at h1 h2 ⊢
    by_cases e1 : b = a
    · subst e1
      rw [if_pos rfl] at h1
      by_cases e2 : c = b
      · rw [if_pos e2] at h2 ⊢
        exact lexS_tr h1 h2
      · rw [if_neg e2] at h2 ⊢
        exact h2
    · rw [if_neg e1] at h1
      by_cases e2 : c = b
      · subst e2
        rw [if_neg e1]
        exact h1
      · rw [if_neg e2] at h2
        by_cases e3 : c = a
        · subst e3
          exact absurd (ltS_anti h1 h2) e1
        · rw [if_neg e3]
          exact ltS_tr h1 h2
theorem lexS_anti : ∀ {xs ys : List Str}, lexS xs ys = false → lexS ys xs = false → xs = ys
  | [], [], _, _ => rfl
  | [], _ :: _, h, _ => by cases h
  | _ :: _, [], _, h => by cases h
  | x :: xs, y :: ys, h, k => by
    unfold lexS at h k
    by_cases e : x = y
    · rw [if_pos e] at h
      rw [if_pos e.symm] at k
      rw [e, lexS_anti h k]
    · rw [if_neg e] at h
      rw [if_neg (Ne.symm e)] at k
      exact absurd (ltS_anti h k) e
theorem swo_lexS {α : Type} (k : α → List Str) : Swo (fun v u : α => lexS (k v) (k u)) := ⟨fun x y h => lexS_asym h, fun x y z h1 h2 => lexS_tr h1 h2⟩
def ltO : Option Str → Option Str → Bool
  | some a, some b => ltS a b
  | _, _ => false
theorem firstLt_map {e r : Nat → Bool} {fin : Bool} {f : Nat → Nat} : ∀ {l : List Nat}, firstLt e r fin (l.map f) = firstLt (fun j => e (f j)) (fun j => r (f j)) fin l
  | [] => rfl
  | j :: l => by
    show (if e (f j) = true then firstLt e r fin (l.map f) else r (f j)) = if e (f j) = true then firstLt (fun j => e (f j)) (fun j => r (f j)) fin l else r (f j)
    rw [firstLt_map]
theorem firstLt_lex : ∀ {xs ys : List Str}, firstLt (fun j => decide (xs[j]? = ys[j]?)) (fun j => ltO xs[j]? ys[j]?) (decide (xs.length < ys.length)) (List.range (min xs.length ys.length)) = lexS xs ys
  | [], [] => rfl
  | [], y :: ys => by
    rw [List.length_nil, Nat.zero_min]
    show decide (0 < ys.length + 1) = true
    exact decide_eq_true (by omega)
  | x :: xs, [] => by
    rw [List.length_nil, Nat.min_zero]
    show decide (xs.length + 1 < 0) = false
    exact decide_eq_false (by omega)
  | x :: xs, y :: ys => by
    have em : min (x :: xs).length (y :: ys).length = min xs.length ys.length + 1 := by simp only [List.length_cons]; omega
    rw [em, List.range_succ_eq_map]
    show (if decide (some x = some y) = true then firstLt _ _ _ (List.map Nat.succ _) else ltS x y) = if x = y then lexS xs ys else ltS x y
    by_cases e : x = y
    · rw [if_pos e, if_pos (decide_eq_true (by rw [e])), firstLt_map, ← firstLt_lex]
      have : decide ((x :: xs).length < (y :: ys).length) = decide (xs.length < ys.length) := decide_eq_decide.mpr (by simp only [List.length_cons]; omega)
      rw [this]; rfl
    · rw [if_neg e, if_neg (by rw [decide_eq_true_iff]; simpa using e)]
def IsLl (h : Heap) (v : Value) (xs : List Str) : Prop := ∃ a its, v = .ref a ∧ h.IsList a its ∧ StrsAre its.toList xs
theorem IsLl.keeps {h h' : Heap} {v : Value} {xs : List Str} (x : IsLl h v xs) (k : ∀ b o, v = .ref b → h.get? b = some o → h'.get? b = some o) : IsLl h' v xs := by
  obtain ⟨a, its, e, ⟨o, g, r⟩, i⟩ := x
  exact ⟨a, its, e, ⟨o, k _ _ e g, r⟩, i⟩
theorem IsLl.type {M : Model} {h : Heap} {v : Value} {xs : List Str} (x : IsLl h v xs) : PySem.W.Looks M h (typeOf v) (.type "list") := by
  obtain ⟨a, its, rfl, ⟨o, g, hc, r⟩, i⟩ := x
  exact (PySem.W.Looks.ld g).andThen (by rw [hc]; exact .now)
section
variable {prog : Program} {w : World} {A : Around} {E : Value → Shared → Prop} {s : Shared}
theorem strs_opt {its : Array Value} {xs : List Str} (h : StrsAre its.toList xs) (j : Nat) (hj : j < its.size) : ∃ x t, its[j] = .str x t ∧ xs[j]? = some x := by
  obtain ⟨y, t, e, g⟩ := h.item j its[j] (by rw [Array.getElem?_toList, Array.getElem?_eq_getElem hj])
  exact ⟨y, t, e, g⟩
theorem lt_ll {v u : Value} {xs ys : List Str} {Q : Bool → Shared → Prop} (hu : A.units < cLine) (hv : IsLl s.heap v xs) (hw : IsLl s.heap u ys) (h : Q (lexS xs ys) s) : wpAny (model prog w) A (keyLt' oneType' v u) Q E s := by
  have sp : PySem.W.Looks (model prog w) s.heap (specialOf v "__lt__") (some (.builtin "list.__lt__")) := hv.type.andThen (PySem.W.Looks.of_pure PySem.F.slot_list_lt.lookup)
  obtain ⟨a, its, rfl, ga, ia⟩ := hv
  obtain ⟨b, its2, rfl, gb, ib⟩ := hw
  rw [keyLt'_oneType, oneLt'_eq]
  simp only [if_true]
  refine wpAny_bind (wpAny_cRoomFor hu ?_)
  refine wpAny_bind (NtL.csib (E := E) sp (PySem.F.slot_list_lt.bind _) (call_list_lt (e := fun j => decide (xs[j]? = ys[j]?)) (r := fun j => ltO xs[j]? ys[j]?) ga gb (fun j h1 h2 => ?_) (fun j h1 h2 _ => ?_) ?_))
  · obtain ⟨x, t, e1, g1⟩ := strs_opt ia j h1
    obtain ⟨y, t2, e2, g2⟩ := strs_opt ib j h2
    rw [e1, e2, g1, g2]
    have : decide (some x = some y) = (x == y) := by rw [Bool.eq_iff_iff, decide_eq_true_iff]; simp
    rw [this]
    exact EqAt.str_str x t y t2
  · obtain ⟨x, t, e1, g1⟩ := strs_opt ia j h1
    obtain ⟨y, t2, e2, g2⟩ := strs_opt ib j h2
    rw [e1, e2, g1, g2]
    exact fun prog w E Q hq => PyProof.Rows.lt_str hq
  · have l1 : its.size = xs.length := by rw [← Array.length_toList]; exact ia.len_eq
    have l2 : its2.size = ys.length := by rw [← Array.length_toList]; exact ib.len_eq
    rw [l1, l2, firstLt_lex]
    exact wpAny_truthy_bool h
theorem ll_sortable {a : Addr} {vs : List Value} {k : Value → List Str} (h2 : 2 ≤ vs.length) (hu : A.units < cLine) (hv : ∀ v ∈ vs, IsLl s.heap v (k v)) (ha : ∀ v ∈ vs, v ≠ .ref a) :
    SortableO prog w A s a vs fun v u => lexS (k v) (k u) := by
  intro h' keep
  have hv' : ∀ v ∈ vs, IsLl h' v (k v) := fun v hm => (hv v hm).keeps fun b o e g => keep b o (fun z => ha v hm (by rw [e, z])) g
  refine ⟨oneType', fun Q E hq => ?_, fun p q hp hq => ?_⟩
  · exact PySem.W.kas_kind (s := { s with heap := h' }) (T := .type "list") h2 (fun v hm => (hv' v hm).type) (by rfl) (by simp) hq
  · exact lt_ll (s := { s with heap := h' }) (Q := fun r s' => s' = { s with heap := h' } ∧ r = lexS (k p.1) (k q.1)) (E := fun _ _ => False) hu (hv' _ hp) (hv' _ hq) ⟨rfl, rfl⟩
end
/-- sorted(xs), xs a list of lists of texts -/
def rSortedLL (K : PySem.W.Frag) : List V → Hp → VK → Prop := fun vs H Q => ∃ (a : Addr) (ys : List V) (k : V → List Str), vs = [V.ref a] ∧ SqL K H a ys ∧ (∀ y ∈ ys, ∃ t, y = V.ref t ∧ SqL K H t ((k y).map V.str)) ∧
  ∀ (zs : List V) (p : Addr), zs.Perm ys → zs.Pairwise (fun p q => lexS (k q) (k p) = false) → H p = none → Q (.ref p) (upd H p (.lst zs))
theorem cr_sortedLL {X : Cx} (hu : X.A.units + 64 < cLine) : CallR X (.builtin "sorted") (rSortedLL X.K) := by
  intro pins s σ H vs us Q I r h
  obtain ⟨a, ys, k, rfl, hs, hx, q⟩ := h
  obtain ⟨its, rv, hl, hz⟩ := I.list hs
  rw [Vals.ref1 r]
  obtain ⟨e1, e2⟩ := refs_back rv fun x m => by
    obtain ⟨t, e, _⟩ := hx x m
    exact ⟨t, e⟩
  have hp : ∀ v ∈ its, IsLl s.heap v (k (backV v)) := fun v hv => by
    obtain ⟨t, rfl⟩ := e2 v hv
    have hm : V.ref t ∈ ys := by rw [e1]; exact List.mem_map.mpr ⟨_, hv, rfl⟩
    obtain ⟨t', e, ht⟩ := hx _ hm
    cases e
    obtain ⟨its2, r2, hl2, _⟩ := I.list ht
    have r3 : StrsAre its2 (k (V.ref t)) := by simpa using r2.strs
    exact ⟨t, _, rfl, hl2.isList, r3⟩
  refine SrtO.sorted_ord (swo_lexS fun u => k (backV u)) hl.isList (by rw [← rv.length]; exact hz) (fun h2 h₁ a' _ keep => ll_sortable h2 (by show X.A.units + 1 + 1 < cLine; omega) (fun v hv => (hp v hv).keeps fun b o _ g => (keep b o g).2) fun v hv z => ?_) fun out h1 h2 => ?_
  · obtain ⟨b, its2, e, ⟨o, g, _⟩, _⟩ := hp v hv
    rw [z] at e
    cases e
    exact (keep _ o g).1 rfl
  · have h3 : ∀ u ∈ out, ∃ a, u = Value.ref a := fun u hu => e2 u (h2.perm.mem_iff.mp hu)
    obtain ⟨ep, he'⟩ := PyProof.Rows.sortedAll_at s.heap its out.toArray
    have hpm : (out.map backV).Perm ys := by
      rw [e1]
      exact h2.perm.map backV
    have hlen : (out.map backV).length ≤ sizeLine := by
      rw [hpm.length_eq]
      exact hz
    have hsd : (out.map backV).Pairwise (fun p q => lexS (k q) (k p) = false) := List.pairwise_map.mpr (h1.imp fun {x y} z => z)
    exact ⟨.ref _, upd H (s.heap.objs.size + 1) (.lst (out.map backV)), I.laid (t' := s.toks) (fun _ _ => PyProof.Rows.sortedAll_old) (Nat.le_succ _) ⟨hlen, out, ep, vals_back h3, he'⟩, rfl, q _ _ hpm hsd (I.hok.fresh (Nat.le_succ _))⟩
/-- xs < ys, lists of texts -/
theorem cmp_lt_lists {prog : Program} {w : World} {A : Around} {E : Value → Shared → Prop} {s : Shared} {l b : Addr} {items items2 : Array Value} {xs ys : List Str} {Q : Value → Shared → Prop} (hl : s.heap.IsList l items) (hb : s.heap.IsList b items2)
    (hi : StrsAre items.toList xs) (hj : StrsAre items2.toList ys) (hu : A.units < cLine) (h : Q (.bool (lexS xs ys)) s) : wpAny (model prog w) A (compareOp .Lt (.ref l) (.ref b)) Q E s := by
  obtain ⟨⟨cls, dd, data, sl⟩, ho, hc, n, hd⟩ := id hl
  obtain ⟨⟨cls2, dd2, data2, sl2⟩, ho2, hc2, n2, hd2⟩ := id hb
  simp only at hc hd hc2 hd2
  subst hc hd hc2 hd2
  refine richCompare_meets_room (op := .Lt) ⟨_, ho, rfl⟩ ⟨_, ho2, rfl⟩ PySem.F.slot_list_lt PySem.F.entry_list_lt (PySem.F.args_list_lt_2 _ _) (list_ltAt l b items items2 n n2 dd dd2 sl sl2 (fun j => decide (xs[j]? = ys[j]?)) (fun j => ltO xs[j]? ys[j]?)) ⟨ho, ho2, fun j h1 h2 => ?_, fun j h1 h2 _ => ?_, ?_⟩ hu
  · obtain ⟨x, t, e1, g1⟩ := strs_opt hi j h1
    obtain ⟨y, t2, e2, g2⟩ := strs_opt hj j h2
    rw [e1, e2, g1, g2]
    have : decide (some x = some y) = (x == y) := by rw [Bool.eq_iff_iff, decide_eq_true_iff]; simp
    rw [this]
    exact EqAt.str_str x t y t2
  · obtain ⟨x, t, e1, g1⟩ := strs_opt hi j h1
    obtain ⟨y, t2, e2, g2⟩ := strs_opt hj j h2
    rw [e1, e2, g1, g2]
    exact fun prog w E Q hq => PyProof.Rows.lt_str hq
  · have l1 : items.size = xs.length := by rw [← Array.length_toList]; exact hi.len_eq
    have l2 : items2.size = ys.length := by rw [← Array.length_toList]; exact hj.len_eq
    rw [l1, l2, firstLt_lex]
    exact ⟨(fun x => nomatch x), h⟩
theorem op_ltLL {X : Cx} (hu : X.A.units < cLine) : OpR X (compareOp .Lt) fun x y H Q => ∃ a b xs ys, x = .ref a ∧ y = .ref b ∧ SqL X.K H a (xs.map V.str) ∧ SqL X.K H b (ys.map V.str) ∧ Q (.bl (lexS xs ys)) H := by
  intro pins s σ H x y v u Q I rx ry h
  obtain ⟨a, b, xs, ys, rfl, rfl, ha, hb, q⟩ := h
  cases rx
  cases ry
  obtain ⟨its, r1, p1, _⟩ := I.list ha
  obtain ⟨its2, r2, p2, _⟩ := I.list hb
  have i1 : StrsAre its xs := by simpa using r1.strs
  have i2 : StrsAre its2 ys := by simpa using r2.strs
  exact cmp_lt_lists p1.isList p2.isList (by simpa using i1) (by simpa using i2) hu ⟨.bl (lexS xs ys), H, I, rfl, q⟩
end Eng

/-! Eng0: sets of texts: set(list), len, sorted -/
namespace Eng
open PySem PySem.Spec PyProof.Rows L2 PySem.Froz
section
variable {P : Program} {w : World}
theorem tail_ris {ep : Nat} {es1 : Array (Int × Value)} {t2 : SetTable} {wd : Bool} (r : Ris t2.place.toList) : Ris (tailTx ep es1 t2 wd).2.2.place.toList := by
  unfold tailTx
  by_cases h : (!wd && t2.tooFull) = true
  · rw [if_pos h]; exact relayAll_ris _ _ _
  · rw [if_neg h]; exact r
theorem tail_led {ep : Nat} {es1 : Array (Int × Value)} {t2 : SetTable} {wd : Bool} : (tailTx ep es1 t2 wd).2.2.led = t2.led := by
  unfold tailTx
  by_cases h : (!wd && t2.tooFull) = true
  · rw [if_pos h]; exact relayAll_led _ _ _
  · rw [if_neg h]
theorem addTx_ris {hv : Int} {v : Value} {D : SD} (r : Ris D.2.2.place.toList) : Ris (addTx hv v D).2.2.place.toList := by
  obtain ⟨es, ep, t⟩ := D
  have r1 := layNew_ris t es hv v r
  refine tail_ris ?_
  split
  · exact r1
  · exact r1
theorem addTx_led {hv : Int} {v : Value} {D : SD} : (addTx hv v D).2.2.led = D.2.2.led := by
  obtain ⟨es, ep, t⟩ := D
  have r1 := layNew_led t es hv v
  refine tail_led.trans ?_
  split
  · exact r1
  · exact r1
/-- the payload of a set that can be walked -/
structure TxS (P : Program) (w : World) (D : SD) (l : List Str) : Prop where
  ok : TxOk P w D l
  ris : Ris D.2.2.place.toList
  led : w.params.followText "set-order" = true ∨ D.2.2.led = true
theorem TxS.add {D : SD} {l : List Str} {k : Str} (u : Tok) (F : TxS P w D l) : TxS P w (addTx (hashStr w k) (.str k u) D) (k :: l) :=
  ⟨add_ok u F.ok, addTx_ris F.ris, F.led.imp id fun z => by rw [addTx_led]; exact z⟩
variable {A : Around} {E : Value → Shared → Prop} {st : Shared}
/-- a text that is there stays, nothing changes -/
theorem old_x {b : Addr} {T : String} {D : SD} {l : List Str} {k : Str} {u : Tok} {Q : Bool → Shared → Prop} (hget : st.heap.get? b = some (sObj T D)) (F : TxOk P w D l) (hk : k ∈ l) (hfew : l.length < scanBound) (hQ : Q false st) :
    wpAny (model P w) A (setAddHashed b (.str k u) (hashStr w k)) Q E st := by
  obtain ⟨es, ep, t⟩ := D
  have hdat : (sObj T (es, ep, t)).data = .set es ep t := rfl
  have hfit : t.fits es.size = true := F.fit
  have hels : ElemsOf (strKind P w) es.toList := F.el
  have hsize : es.size = l.length := F.sz
  have hlow : es.size < scanBound := by omega
  have hself : (strKind P w).is k (.str k u) = true := is_str k u
  have hfound : ∃ j, List.findIdx? (fun e => (strKind P w).is k e.2) es.toList = some j := by
    cases hr : List.findIdx? (fun e => (strKind P w).is k e.2) es.toList with
    | some j => exact ⟨j, rfl⟩
    | none =>
      obtain ⟨e, he, q⟩ := (F.mem k).mp hk
      have := List.findIdx?_eq_none_iff.mp hr e he
      rw [q] at this; cases this
  obtain ⟨j, hj⟩ := hfound
  unfold setAddHashed setAddHashedIn
  refine wpAny_holding (wpAny_bind (wpAny_setState_of hget hdat hfit ?_))
  dsimp only
  rw [byScan_of (x := .str k u) rfl hlow hels]
  simp only [↓reduceIte]
  unfold setAddByScan
  refine wpAny_bind (wpAny_bind (wpAny_rule (wpAny_bind (wpAny_setScan_of (knd := strKind P w) (k := k) hself hget hdat hfit hels ?_))))
  rw [hj]
  dsimp only
  exact wpAny_pure (wpAny_pure hQ)
/-- the set at b holds just the texts of xs -/
def HasTx (P : Program) (w : World) (h : Heap) (b : Addr) (xs : List Str) : Prop := ∃ D l, h.get? b = some (sObj "set" D) ∧ TxS P w D l ∧ l.Nodup ∧ (∀ k, k ∈ l ↔ k ∈ xs) ∧ l.length ≤ xs.length
theorem HasTx.at' {h h' : Heap} {b : Addr} {xs : List Str} (F : HasTx P w h b xs) (k : ∀ o, h.get? b = some o → h'.get? b = some o) : HasTx P w h' b xs := by
  obtain ⟨D, l, e, r⟩ := F
  exact ⟨D, l, k _ e, r⟩
end
/-- each text once -/
def nubW : List Str → List Str
  | [] => []
  | x :: r => if x ∈ r then nubW r else x :: nubW r
theorem nubW_mem {y : Str} : ∀ {xs : List Str}, y ∈ nubW xs ↔ y ∈ xs
  | [] => Iff.rfl
  | x :: r => by
    unfold nubW
    by_cases h : x ∈ r
    · rw [if_pos h, nubW_mem, List.mem_cons]
      exact ⟨.inr, fun q => q.elim (fun e => e ▸ h) id⟩
    · rw [if_neg h, List.mem_cons, List.mem_cons, nubW_mem]
theorem nubW_nodup : ∀ xs : List Str, (nubW xs).Nodup
  | [] => List.nodup_nil
  | x :: r => by
    unfold nubW
    by_cases h : x ∈ r
    · rw [if_pos h]; exact nubW_nodup r
    · rw [if_neg h]; exact List.nodup_cons.mpr ⟨fun q => h (nubW_mem.mp q), nubW_nodup r⟩
theorem nubW_of {xs : List Str} (h : xs.Nodup) : nubW xs = xs := by
  induction xs with
  | nil => rfl
  | cons x r ih =>
    obtain ⟨h1, h2⟩ := List.nodup_cons.mp h
    unfold nubW
    rw [if_neg h1, ih h2]
theorem nubW_le : ∀ xs : List Str, (nubW xs).length ≤ xs.length
  | [] => Nat.le_refl _
  | x :: r => by
    unfold nubW
    by_cases h : x ∈ r
    · rw [if_pos h]; exact Nat.le_succ_of_le (nubW_le r)
    · rw [if_neg h]; exact Nat.succ_le_succ (nubW_le r)
theorem nub_bound {l xs : List Str} (hn : l.Nodup) (h : ∀ x ∈ l, x ∈ xs) : l.length ≤ (nubW xs).length := by
  have go : ∀ (l m : List Str), l.Nodup → (∀ x ∈ l, x ∈ m) → l.length ≤ m.length := fun l => by
    induction l with
    | nil => exact fun _ _ _ => Nat.zero_le _
    | cons x l ih =>
      intro m hn hs
      obtain ⟨h1, h2⟩ := List.nodup_cons.mp hn
      have hp := (List.perm_cons_erase (hs x List.mem_cons_self)).length_eq
      have := ih (m.erase x) h2 fun y hy => (List.mem_erase_of_ne (fun e : y = x => h1 (by rw [← e]; exact hy))).mpr (hs y (List.mem_cons_of_mem _ hy))
      rw [List.length_cons] at hp ⊢
      omega
  exact go l _ hn fun x hx => nubW_mem.mpr (h x hx)
section
variable {P : Program} {w : World} {A : Around} {R : Result → Shared → Prop} {it : Addr} {fp wr : List Addr} {G : Array GenState → Array GenState → Prop} {n : Nat} {Pv : Nat → Value → Prop} {St : Nat → Shared → Prop}
theorem fill_tx (W : WalksS P w A.in1 it fp wr G n Pv St) (b : Addr) (hb : b ∉ fp) (xs : List Str) (hn : xs.length = n) (hfew : (nubW xs).length + 1 < scanBound) (hv : ∀ i v, Pv i v → ∃ t, v = .str (xs.getD i Str.empty) t) :
    ∀ (j i : Nat) (st : Shared), n - i = j → i ≤ n → St i st → HasTx P w st.heap b (xs.take i) →
      (∀ st', Moved (b :: wr) G st st' → HasTx P w st'.heap b xs → R (.ok (.ret .none)) st') → codeAny (model P w) A (.builtin "set.update.loop" ⟨[.ref b, .ref it], []⟩) R st := by
  have hbw : b ∉ wr := fun h => hb (W.sub _ h)
  have mono : ∀ c ∈ wr, c ∈ b :: wr := fun c hc => List.mem_cons_of_mem _ hc
  intro j
  induction j with
  | zero =>
    intro i st hj hi hst hF hR
    obtain rfl : i = n := by omega
    refine codeAny_builtin PyProof.Rows.F.entry_set_update_loop ?_
    rw [Around.under_plainId PyProof.Rows.F.plain_set_update_loop _]
    show wpAny _ A.in1 (pyNext (.ref it) >>= _) _ _ st
    refine wpAny_bind (W.done st _ _ hst fun st' hm => ?_)
    show wpAny _ A.in1 (ret Value.none) _ _ st'
    refine wpAny_pure (hR st' (hm.mono mono) ?_)
    rw [← hn, List.take_length] at hF
    exact hF.at' fun o e => hm.heap b o hbw e
  | succ j ih =>
    intro i st hj hi hst hF hR
    have hlt : i < n := by omega
    refine codeAny_builtin PyProof.Rows.F.entry_set_update_loop ?_
    rw [Around.under_plainId PyProof.Rows.F.plain_set_update_loop _]
    show wpAny _ A.in1 (pyNext (.ref it) >>= _) _ _ st
    refine wpAny_bind (W.item i st _ _ hlt hst fun v st' hP hst' hm => ?_)
    obtain ⟨t, rfl⟩ := hv i v hP
    obtain ⟨D, l, hget, F, hnd, hmem, hlen⟩ := hF.at' (h' := st'.heap) fun o e => hm.heap b o hbw e
    have hx : xs[i]? = some (xs.getD i Str.empty) := by
      rw [List.getD_eq_getElem?_getD, List.getElem?_eq_getElem (by omega)]; rfl
    have htake : xs.take (i + 1) = xs.take i ++ [xs.getD i Str.empty] := by rw [List.take_add_one, hx]; rfl
    generalize xs.getD i Str.empty = x at htake ⊢
    rw [List.length_take] at hlen
    have hnb := nub_bound hnd fun k hk => List.mem_of_mem_take ((hmem k).mp hk)
    show wpAny _ A.in1 (holding [Value.str x t] (setAdd b (.str x t)) >>= _) _ _ st'
    refine wpAny_bind (wpAny_holding ?_)
    unfold setAdd
    refine wpAny_holding ?_
    refine wpAny_bind ((strKind P w).pyHash (k := x) (is_str x t) ?_)
    by_cases hk : x ∈ l
    · refine old_x (st := { st' with toks := st'.toks + 1 }) hget F.ok hk (by omega) ?_
      refine wpAny_pure ⟨plainId_quiet PyProof.Rows.F.plain_set_update_loop _, ih (i + 1) _ (by omega) hlt (W.frame _ st' _ _ hst' (Nat.le_succ _) fun c hc o e => e) ⟨D, l, hget, F, hnd, fun k => ?_, by rw [List.length_take]; omega⟩ fun s2 hm2 hF2 => hR s2 (Moved.trans W.gtrans ((hm.mono mono).then_heap (Nat.le_succ _) fun c o hc e => e) hm2) hF2⟩
      rw [htake, List.mem_append, List.mem_singleton, hmem k]
      exact ⟨fun q => .inl q, fun q => q.elim id fun e => by rw [e]; exact (hmem x).mp hk⟩
    · have hxn : x ∉ xs.take i := fun q => hk ((hmem x).mpr q)
      refine add_x (s := { st' with toks := st'.toks + 1 }) hget F.ok hk (by omega) ?_
      have hnew : (st'.heap.update b (fun _ => sObj "set" (addTx (hashStr w x) (.str x t) D))).get? b = some (sObj "set" (addTx (hashStr w x) (.str x t) D)) := get_upd _ hget rfl
      have hoth : ∀ c o, c ≠ b → st'.heap.get? c = some o → (st'.heap.update b (fun _ => sObj "set" (addTx (hashStr w x) (.str x t) D))).get? c = some o := fun c o hc e => PySem.Heap.get?_update_of_ne _ (Ne.symm hc) e
      refine wpAny_pure ⟨plainId_quiet PyProof.Rows.F.plain_set_update_loop _, ih (i + 1) _ (by omega) hlt (W.frame _ st' _ _ hst' (Nat.le_succ _) fun c hc o e => hoth c o (fun z => hb (z ▸ hc)) e)
        ⟨_, x :: l, hnew, F.add t, List.nodup_cons.mpr ⟨hk, hnd⟩, fun k => ?_, by rw [List.length_cons, List.length_take]; omega⟩ fun s2 hm2 hF2 => hR s2 (Moved.trans W.gtrans ((hm.mono mono).then_heap (Nat.le_succ _) fun c o hc e => hoth c o (fun z => hc (z ▸ List.mem_cons_self)) e) hm2) hF2⟩
      rw [htake, List.mem_append, List.mem_singleton, List.mem_cons, hmem k]
      exact or_comm
end
section
variable {P : Program} {w : World} {A : Around} {E : Value → Shared → Prop} {st : Shared}
theorem fresh_tx (w : World) (D : SD) (h0 : D = (#[], 0, .fresh 0 0 (!w.params.followText "set-order"))) : TxS P w D [] := by
  subst h0
  refine ⟨TxOk.nil (by rfl), List.Pairwise.nil, ?_⟩
  show _ ∨ (!w.params.followText "set-order") = true
  cases w.params.followText "set-order"
  · exact .inr rfl
  · exact .inl rfl
/-- set.__new__(set, a): an empty set, its order as the setting says -/
theorem new_tx (a : Value) {Q : Value → Shared → Prop} (hQ : Q (.ref st.heap.objs.size) { st with heap := st.heap.push (sObj "set" (#[], 0, .fresh 0 0 (!w.params.followText "set-order"))) }) :
    codeAny (model P w) A (.call (.builtin "set.__new__") ⟨[.type "set", a], []⟩) (wants Q E) st := by
  refine codeAny_of_tree ?_
  show wpAny _ A.in1 (do checkBuiltinCall "set.__new__" ⟨[.type "set", a], []⟩; again (.builtin "set.__new__" ⟨[.type "set", a], []⟩)) _ _ st
  refine wpAny_bind (wpAny_of_eq (PySem.F.newCall_set_1 a) (wpAny_pure ⟨plainId_quiet F.plain_set_new _, codeAny_builtin F.entry_set_new ?_⟩))
  rw [Around.under_plainId F.plain_set_new _]
  unfold Builtin.«set.__new__» Builtin.Frozenset.newClass
  have hself := sub_set_self
  obtain ⟨hp, gn, dr, tk, os⟩ := st
  dsimp only
  wp_walk
  refine wpAny_askSetting (wpAny_pure ?_)
  dsimp only
  simp only [newObj]
  refine wpAny_bind (wpAny_alloc (wpAny_pure ?_))
  exact wpAny_pure hQ
set_option maxHeartbeats 3200000 in
/-- set(l), l a list of texts -/
theorem set_of_texts {l : Addr} {its : Array Value} {xs : List Str} {Q : Value → Shared → Prop} (hh : A.handled = none) (hl : st.heap.IsList l its) (hi : PyProof.Rows.StrsAre its.toList xs) (hfew : (nubW xs).length + 1 < scanBound)
    (hQ : ∀ (h' : Heap) (tk : Nat), HasTx P w h' st.heap.objs.size xs → (∀ c o, c < st.heap.objs.size → st.heap.get? c = some o → h'.get? c = some o) → Q (.ref st.heap.objs.size) { st with heap := h', toks := tk }) :
    wpAny (model P w) A (call (.type "set") [.ref l]) Q E st := by
  obtain ⟨mc, mt, mro0⟩ := PySem.F.called_set.mro
  have made0 := PySem.F.called_set.made
  have sub0 := PySem.F.called_set.sub
  refine wpAny_call (codeAny_of_tree ?_)
  show wpAny _ _ (callAny (.type "set") _) _ _ _
  refine wpAny_pure ⟨Code.quiet_builtin _ (by decide +kernel), codeAny_builtin PySem.F.entry_type_call ?_⟩
  rw [Around.under_plain (weight_type_call_type "set" [.ref l] []) rfl]
  have nt0 := PySem.F.called_set.notType
  have cc0 := PySem.F.called_set.canCreate
  have tc0 := PySem.F.typeCall_set_1 (.ref l)
  repeat (any_goals (first | assumption | wp_step))
  refine codeAny_mono (new_tx (.ref l) (E := E) (Q := fun ob s1 => ob = .ref st.heap.objs.size ∧ s1 = { st with heap := st.heap.push (sObj "set" (#[], 0, .fresh 0 0 (!w.params.followText "set-order"))) }) ⟨rfl, rfl⟩) fun r s1 hr => ?_
  cases r with
  | error e => exact hr
  | ok fl =>
    cases fl with
    | ret ob =>
      obtain ⟨rfl, rfl⟩ := hr
      generalize hD : ((#[], 0, .fresh 0 0 (!w.params.followText "set-order")) : SD) = D
      have F0 : TxS P w D [] := fresh_tx w D hD.symm
      have hfill : (D.2.2.fill != 0) = false := by subst hD; rfl
      have hc : (D.2.2.place.size != D.1.size || decide (D.2.2.fill > D.2.2.mask)) = false := by
        have hf : D.2.2.fits D.1.size = true := by
          obtain ⟨es, ep, t⟩ := D
          exact F0.ok.fit
        simp only [SetTable.fits, Bool.and_eq_true, beq_iff_eq, decide_eq_true_eq] at hf
        simp [hf.1, Nat.not_lt.mpr hf.2]
      have hset : (st.heap.push (sObj "set" D)).get? st.heap.objs.size = some (sObj "set" D) := Heap.get?_push_size _ rfl
      have hty : Shared.TypeIs { st with heap := st.heap.push (sObj "set" D) } (.ref st.heap.objs.size) "set" := ⟨_, hset, rfl⟩
      have li0 := PySem.F.called_set.init.lookup
      have bi0 := PySem.F.called_set.init.bind (.ref st.heap.objs.size)
      repeat (any_goals (first | assumption | wp_step))
      refine codeAny_mono (codeAny_call_builtin (R := wants (fun r s2 => r = .none ∧ ∃ h' tk, s2 = { st with heap := h', toks := tk } ∧ HasTx P w h' st.heap.objs.size xs ∧
          (∀ c o, c < st.heap.objs.size → st.heap.get? c = some o → h'.get? c = some o)) E) PySem.F.called_set.init.plain PySem.F.entry_set_init (check_set_init_1 hty ?_)) fun r2 s2 hr2 => ?_
      · obtain ⟨lo, hlo, hlc, ln, hld⟩ := hl
        obtain ⟨oc, od, odt, osl⟩ := lo
        simp only at hlc hld
        subst hlc; subst hld
        have hlo' : (st.heap.push (sObj "set" D)).get? l = some { cls := .type "list", dict := od, data := .seq its ln, slots := osl } := Heap.get?_push_of_some _ hlo
        have sl0 := PySem.F.sub_list_set
        have slf0 := PySem.F.sub_list_frozenset
        have hneq : (Value.type "list" == Value.type "dict") = false := by decide
        have hl2 : (st.heap.push (sObj "set" D)).IsList l its := ⟨_, hlo', rfl, ln, rfl⟩
        unfold Builtin.«set.__init__» noKeywords Builtin.Frozenset.updateFrom
        generalize hPI : pyIter = PI
        wp_walk
        subst hPI
        refine wpAny_pyIter_list (s := { st with heap := st.heap.push (sObj "set" D) }) hl2 ?_
        refine wpAny_bind (wpAny_runValue ?_)
        have hlt : l < st.heap.objs.size := Heap.lt_size hlo
        have hh3 : A.in1.in1.in1.handled = none := by simp [hh]
        have hneI : l ≠ (st.heap.push (sObj "set" D)).objs.size := by
          rw [Heap.size_push]; exact Nat.ne_of_lt (Nat.lt_succ_of_lt hlt)
        have hout : st.heap.objs.size ∉ [(st.heap.push (sObj "set" D)).objs.size, l] := by
          rw [Heap.size_push]
          simp only [List.mem_cons, List.not_mem_nil, or_false, not_or]
          exact ⟨Nat.ne_of_lt (Nat.lt_succ_self _), Nat.ne_of_gt hlt⟩
        have hxl : xs.length = its.size := by rw [← StrsAre.len_eq hi, Array.length_toList]
        have hval : ∀ (i : Nat) (v : Value), its[i]? = some v → ∃ t, v = .str (xs.getD i Str.empty) t := fun i v hv => by
          obtain ⟨y, t, e1, e2⟩ := StrsAre.item hi i v (by rw [Array.getElem?_toList]; exact hv)
          exact ⟨t, by rw [e1, List.getD_eq_getElem?_getD, e2]; rfl⟩
        refine fill_tx ((Walks.list hh3 _ l hneI its).toS) st.heap.objs.size hout xs hxl (by omega) hval (its.size - 0) 0 _ (by omega) (Nat.zero_le _)
          ⟨⟨_, Heap.get?_push_size _ rfl, rfl, rfl⟩, (hl2.push _)⟩ ⟨D, [], Heap.get?_push_of_some _ hset, F0, List.nodup_nil, fun k => by simp, Nat.zero_le _⟩ fun s3 hm hF => ?_
        obtain ⟨h3, g3, d3, t3, o3⟩ := s3
        obtain rfl : g3 = st.gens := hm.gens
        obtain rfl : d3 = st.drawn := hm.drawn
        obtain rfl : o3 = st.os := hm.os
        show wpAny _ _ _ _ _ _
        refine wpAny_pure ?_
        show wpAny _ _ (ret Value.none) _ _ _
        refine wpAny_pure ⟨rfl, h3, t3, rfl, hF, fun c o hc e => ?_⟩
        have n1 : c ≠ st.heap.objs.size := Nat.ne_of_lt hc
        have n2 : c ≠ (st.heap.push (sObj "set" D)).objs.size := by
          rw [Heap.size_push]; exact Nat.ne_of_lt (Nat.lt_succ_of_lt hc)
        exact hm.heap c o (by simp only [List.mem_cons, List.not_mem_nil, or_false, not_or]; exact ⟨n1, n2⟩) (Heap.get?_push_of_some _ (Heap.get?_push_of_some _ e))
      · cases r2 with
        | error e => exact hr2
        | ok fl2 =>
          cases fl2 with
          | ret r =>
            obtain ⟨rfl, h3, t3, rfl, hF, hkeep⟩ := hr2
            repeat (any_goals (first | assumption | wp_step))
            exact hQ _ _ hF hkeep
          | _ => exact hr2.elim
    | _ => exact hr.elim
end
theorem perm_few {α : Type} [DecidableEq α] : ∀ (l m : List α), l.Nodup → (∀ x ∈ l, x ∈ m) → m.length ≤ l.length → l.Perm m
  | [], m, _, _, hl => by cases m with
    | nil => exact .nil
    | cons _ _ => cases hl
  | x :: l, m, hn, hs, hl => by
    obtain ⟨h1, h2⟩ := List.nodup_cons.mp hn
    have hx : x ∈ m := hs x List.mem_cons_self
    have hp := List.perm_cons_erase hx
    refine (List.Perm.cons x (perm_few l (m.erase x) h2 (fun y hy => ?_) ?_)).trans hp.symm
    · have hne : y ≠ x := fun e => h1 (e ▸ hy)
      exact (List.mem_erase_of_ne hne).mpr (hs y (List.mem_cons_of_mem _ hy))
    · have := hp.length_eq
      rw [List.length_cons] at this hl
      omega
section
variable {P : Program} {w : World} {A : Around} {E : Value → Shared → Prop} {s : Shared}
theorem HasTx.perm {h : Heap} {b : Addr} {xs : List Str} (F : HasTx P w h b xs) : ∃ D l, h.get? b = some (sObj "set" D) ∧ TxS P w D l ∧ l.Perm (nubW xs) ∧ l.Nodup := by
  obtain ⟨D, l, e, T, hn, hm, _⟩ := F
  exact ⟨D, l, e, T, (List.perm_ext_iff_of_nodup hn (nubW_nodup xs)).mpr fun k => (hm k).trans nubW_mem.symm, hn⟩
theorem len_txset {b : Addr} {xs : List Str} {Q : Value → Shared → Prop} (F : HasTx P w s.heap b xs) (hb : (nubW xs).length < scanBound)
    (hQ : ∀ t, Q (.int (nubW xs).length t) { s with toks := s.toks + 1 + 1 }) : wpAny (model P w) A (call (.builtin "len") [.ref b]) Q E s := by
  obtain ⟨D, l, e, T, hp, _⟩ := F.perm
  obtain ⟨es, ep, t⟩ := D
  have hn : es.size = (nubW xs).length := T.ok.sz.trans hp.length_eq
  have hlt : (es.size : Int) < 2 ^ 63 := by unfold scanBound at hb; omega
  refine call_len_set e ⟨rfl, rfl, rfl⟩ rfl T.ok.fit hlt ?_
  rw [hn]
  exact hQ _
theorem tx_vals {D : SD} {l : List Str} (T : TxS P w D l) (hn : l.Nodup) : ∃ ws, StrsAre (D.1.toList.map (·.2)) ws ∧ ws.Perm l := by
  have hv : ∀ v ∈ D.1.toList.map (·.2), ∃ x u, v = Value.str x u := fun v hv => by
    obtain ⟨e, he, rfl⟩ := List.mem_map.mp hv
    obtain ⟨⟨k, hk, _⟩, _⟩ := T.ok.el e he
    obtain ⟨u, q⟩ := Value.isStrOf_shape hk
    exact ⟨k, u, q⟩
  have hS := strsAre_map (D.1.toList.map (·.2)) hv
  refine ⟨_, hS, (perm_few l _ hn (fun x hx => ?_) ?_).symm⟩
  · obtain ⟨e, he, q⟩ := (T.ok.mem x).mp hx
    obtain ⟨u, q⟩ := Value.isStrOf_shape q
    exact List.mem_map.mpr ⟨e.2, List.mem_map_of_mem he, by rw [q]; rfl⟩
  · rw [List.length_map, List.length_map, Array.length_toList, T.ok.sz]
    exact Nat.le_refl _
theorem sorted_txset {b : Addr} {xs : List Str} {Q : Value → Shared → Prop} (F : HasTx P w s.heap b xs) (hh : A.handled = none) (h64 : (nubW xs).length < 64)
    (hQ : ∀ s' p (out : Array Value) (c : Nat) (ys : List Str), (∀ b o, s.heap.get? b = some o → s'.heap.get? b = some o) → s'.gens = s.gens → s'.os = s.os → s.heap.objs.size ≤ p →
      s'.heap.get? p = some (seqObj "list" out c) → StrsAre out.toList ys → ys.Perm (nubW xs) → sortedS ys = true → Q (.ref p) s') :
    wpAny (model P w) A (call (.builtin "sorted") [.ref b]) Q E s := by
  obtain ⟨D, l, e, T, hp, hnd⟩ := F.perm
  obtain ⟨ws, hws, hwp⟩ := tx_vals T hnd
  obtain ⟨es, ep, t⟩ := D
  have hle := nubW_le xs
  have hn : es.size = (nubW xs).length := T.ok.sz.trans hp.length_eq
  have hsz : es.size < scanBound := by unfold scanBound; omega
  refine Calls.call_function_entry kind_sorted plain_sorted entry_sorted (args_sorted1 _) ?_
  unfold Builtin.«sorted»
  refine wpAny_bind (m := checkCount "sorted" 1 1 _) (wpAny_pure ?_)
  refine wpAny_bind (collect_set (A := A.in1) hh ⟨_, e, rfl, rfl⟩ T.ok.fit hsz T.ris T.led fun s1 vs k1 hz g1 o1 pm => ?_)
  have hvl : vs.length = (nubW xs).length := by rw [pm.length_eq, List.length_map, Array.length_toList]; exact hn
  have hS := strsAre_map vs fun v hv => hws.all v (pm.mem_iff.mp hv)
  have pv : (vs.map strOf).Perm (nubW xs) := by
    have q := pm.map strOf
    rw [hws.strs] at q
    exact q.trans (hwp.trans hp)
  have hv64 : vs.length < 64 := by omega
  refine wpAny_bind (wpAny_newList ?_ (by rw [sizeLine_eq]; omega))
  have hoL : (s1.heap.push (seqObj "list" vs.toArray 0)).get? s1.heap.objs.size = some (seqObj "list" vs.toArray 0) := Heap.get?_push_size _ rfl
  refine wpAny_bind (wpAny_holding (wpAny_call_entry slot_list_sort ⟨_, hoL, rfl⟩ entry_list_sort
    (list_sort_treeK strKind_oneLt hoL hS.keysOf (fun v₁ v₂ rest e => keyKind_strs (by rw [← e]; exact hS)) hv64 fun st' hp hs => ⟨_, rfl, ?_⟩) (args_list_sort _)))
  obtain ⟨ys, g1', g2, g3⟩ := sorted_out_str hS hp hs
  obtain ⟨c, hc⟩ := sortedHeap_at (vs := vs) (out := (arrOf st').map (·.2)) hoL
  refine wpAny_pure ⟨_, rfl, hQ _ s1.heap.objs.size _ c ys (fun b u e => ?_) g1 o1 hz hc g1' (g2.trans pv) g3⟩
  have q := k1 b u e
  have hlt := Heap.lt_size q
  show (sortedHeap (s1.heap.push (seqObj "list" vs.toArray 0)) s1.heap.objs.size vs _).get? b = some u
  rw [sortedHeap_old (Nat.ne_of_lt hlt) (by rw [size_push']; exact Nat.lt_succ_of_lt hlt)]
  exact Heap.get?_push_of_some _ q
end
/-! f(set(a)) -/
section
variable {X : Cx}
/-- set(..), then a builtin function of it -/
def CallS (X : Cx) (id : String) (r : List V → Hp → VK → Prop) : Prop :=
  ∀ (pins : List (Addr × Obj)) (s : Shared) (σ : L2.St) (H : Hp) (xs : List V) (us : List Value) (Q : VK), Inv X pins σ H s → Vals xs us → r xs H Q →
    wpAny (model X.prog X.w) X.A (call (.type "set") us) (fun v s' => wpAny (model X.prog X.w) X.A (call (.builtin id) [v]) (EP X pins σ Q) X.xe s') X.xe s
def rSortSet (K : PySem.W.Frag) : List V → Hp → VK → Prop := fun vs H Q => ∃ (a : Addr) (xs : List Str), vs = [V.ref a] ∧ SqL K H a (xs.map V.str) ∧ (xs.length < 4000 ∧ (nubW xs).length < 64) ∧
  ∀ (ys : List Str) (p : Addr), ys.Perm (nubW xs) → sortedS ys = true → H p = none → Q (.ref p) (upd H p (.lst (ys.map V.str)))
def rLenSet (K : PySem.W.Frag) : List V → Hp → VK → Prop := fun vs H Q => ∃ (a : Addr) (xs : List Str), vs = [V.ref a] ∧ SqL K H a (xs.map V.str) ∧ (xs.length < 4000 ∨ (nubW xs).length < 64) ∧ Q (.int (nubW xs).length) H
theorem cs_len (hc : X.calm = true) : CallS X "len" (rLenSet X.K) := by
  intro pins s σ H vs us Q I r h
  obtain ⟨a, xs, rfl, hs, h64, q⟩ := h
  have hle := nubW_le xs
  obtain ⟨its, rv, hl, _⟩ := I.list hs
  rw [Vals.ref1 r]
  refine set_of_texts (I.ok.hd hc) hl.isList (by simpa using rv.strs) (by unfold scanBound; omega) fun h' tk F hk => ?_
  refine len_txset F (by unfold scanBound; omega) fun t => ⟨.int _, H, ?_, ⟨_, rfl⟩, q⟩
  exact I.kept (t' := tk + 1 + 1) fun b o e => hk b o (Heap.lt_size e) e
theorem cs_sorted (hc : X.calm = true) : CallS X "sorted" (rSortSet X.K) := by
  intro pins s σ H vs us Q I r h
  obtain ⟨a, xs, rfl, hs, ⟨h4, h64⟩, q⟩ := h
  have hle := nubW_le xs
  obtain ⟨its, rv, hl, _⟩ := I.list hs
  rw [Vals.ref1 r]
  refine set_of_texts (I.ok.hd hc) hl.isList (by simpa using rv.strs) (by unfold scanBound; omega) fun h' tk F hk => ?_
  have I1 : Inv X pins σ H { s with heap := h', toks := tk } := I.kept fun b o e => hk b o (Heap.lt_size e) e
  have F1 : HasTx X.prog X.w ({ s with heap := h', toks := tk } : Shared).heap s.heap.objs.size xs := F
  generalize ({ s with heap := h', toks := tk } : Shared) = s1 at I1 F1 ⊢
  refine sorted_txset F1 (I.ok.hd hc) h64 fun s' p out c ys k g o hp hg hi hpm hsd => ?_
  have hlen : (ys.map V.str).length ≤ sizeLine := by
    have := nubW_le xs
    rw [List.length_map, hpm.length_eq, sizeLine_eq]; omega
  have hn : H p = none := I1.hok.fresh hp
  have J : Inv X pins σ (upd H p (.lst (ys.map V.str))) { s1 with heap := s'.heap, gens := s'.gens, drawn := s'.drawn, toks := s'.toks } :=
    I1.call (ch := []) (Un.laid k hp hn) (I1.hok.laid k hp ⟨hlen, out.toList, c, vals_of_strs hi, hg⟩) (by rw [g]; exact I1.bare) (fun _ z => nomatch z)
  have e : s' = { s1 with heap := s'.heap, gens := s'.gens, drawn := s'.drawn, toks := s'.toks } := by
    cases s'
    cases s1
    cases o
    rfl
  rw [e]
  exact ⟨.ref p, _, J, rfl, q ys p hpm hsd hn⟩
theorem pe_ofset {x : Str} {id : String} {r : List V → Hp → VK → Prop} {a : Expr} {ta : TE} {p p2 q pos : Pos} (hc : CallS X id r) (hg : Gl X x) (hm : X.mg x = none) (hv : bootBuiltins x = some (.builtin id)) (hg2 : Gl X "set") (hm2 : X.mg "set" = none) (ha : PE X a ta)
    (hn : x ≠ "__name__") (hdb : (x == ("__debug__" : Str)) = false)
    (na : starEach [a] X.env = (false, eval a X.env) :: starEach [] X.env) : PE X (.Call (.Name x p) [.Call (.Name "set" p2) [a] [] q] [] pos) (fun σ H Q => ta σ H fun v H1 => r [v] H1 Q) := by
  refine ⟨fun pins s σ H Q I h => ?_⟩
  refine wpAny_Call_Name_kw (ld_blt I hg hm hv ?_ hn hdb)
  refine PyProof.Rows.callWith_builtin1 (PyProof.Rows.args_cons ?_ rfl) rfl rfl
  refine wpAny_Call_Name_kw (ld_blt I hg2 hm2 PyProof.Rows.boot_set ?_)
  refine PyProof.Rows.callWith_type1 (PyProof.Rows.args_cons (thn (ha.run pins s σ H _ I h) fun v s1 ⟨x, H1, I1, r1, q1⟩ => PyProof.Rows.args_nil ?_) na) na rfl
  exact wpAny_mono (hc pins s1 σ H1 [x] [v] _ I1 (.cons r1 .nil) q1) (fun b s2 h => PyProof.Rows.args_nil h) fun _ _ e => e
end
end Eng

/-! EngX: refusal classes of the program, over one that stands over ValueError -/
namespace EngX
open PySem PySem.Spec PyProof.Rows L2
/-- what the written part says of a refusal's class -/
structure XcC (K : PySem.W.Frag) (C : Addr) : Prop where
  o : OexC K C
  x : XfC K C
  ha : PySem.W.findIn K (.ref C) "__class__" = some (some (.builtin "object.__class__"))
  hn : PySem.W.specialIn K (.builtin "object.__class__") "__get__" = some (some (.builtin "getset_descriptor.__get__"))
  ht : PySem.W.takesIn K (.builtin "object.__class__") = some true
  hm : PySem.W.mroIn K C (.type "object") = some true
  hcl : (PySem.W.clsIn K C).isSome = true
/-- the class over it: S; its __init__ is that of ValueError -/
structure XcS (K : PySem.W.Frag) (gv : Str → Value → Prop) (S : Addr) : Prop where
  gS : gv "SaidError" (.ref S)
  rd : ∃ mc, PySem.W.readsIn K S mc = true ∧ PySem.W.findCls K (.ref S) mc "__init__" = some (.val (.builtin "ValueError.__init__"))
  ga : PySem.W.specialIn K (.ref S) "__getattribute__" = some (some (.builtin "type.__getattribute__"))
section
variable {X : Cx} {e : Expr} {es : List Expr} {ta : TA} {p1 p2 pos : Pos} {S : Addr}
/-- SaidError.__init__(self, ..) -/
theorem mc_eq (hf : methodCallForm ((e :: es).length + 0) (backTo pos (starEach (e :: es) X.env)) (backToKw pos (keywordEach [] X.env)) = true) (hl : (p2.endLine == pos.line) = true) :
    eval (.Call (.Attribute (.Name "SaidError" p1) "__init__" p2) (e :: es) [] pos) X.env = (do
      let ov ← eval (.Name "SaidError" p1) X.env
      standAt p2.atName
      let (f, first) ← holding [ov] (getMethod ov "__init__" (plainOf (.Name "SaidError" p1) X.env))
      callWith pos f first (backTo pos (starEach (e :: es) X.env)) (backToKw pos (keywordEach [] X.env))) := by
  have q : eval (.Call (.Attribute (.Name "SaidError" p1) "__init__" p2) (e :: es) [] pos) X.env = (do
      let ov ← eval (.Name "SaidError" p1) X.env
      standAt p2.atName
      methodCall (.Name "SaidError" p1) "__init__" p2 pos X.env ov ((e :: es).length + 0) (backTo pos (starEach (e :: es) X.env)) (backToKw pos (keywordEach [] X.env))) := by rfl
  rw [q]
  simp only [mcall_line hf hl]
theorem pe_sinit (T : XcS X.K (fun x v => X.mg x = some v) S) (hg : Gl X "SaidError") (ha : PA X (e :: es) ta)
    (hf : methodCallForm ((e :: es).length + 0) (backTo pos (starEach (e :: es) X.env)) (backToKw pos (keywordEach [] X.env)) = true) (hl : (p2.endLine == pos.line) = true)
    (he : starEach (e :: es) X.env = (false, eval e X.env) :: starEach es X.env := by rfl) (hpl : (backTo pos (starEach es X.env)).any (·.1) = false := by rfl) :
    PE X (.Call (.Attribute (.Name "SaidError" p1) "__init__" p2) (e :: es) [] pos) (tVeI X.K ta) := by
  refine ⟨fun pins s σ H Q I h => ?_⟩
  refine PySem.W.methodCall_KW (ld_glob I hg T.gS ?_ (by decide)) (mc_eq hf hl)
  obtain ⟨mc, hr, hf⟩ := T.rd
  refine PySem.W.method_cls I.kIn T.ga (PySem.W.cls_value I.kIn hr hf rfl ?_)
  show wpAny _ _ (callWith pos (Value.builtin "ValueError.__init__") [] (backTo pos (starEach (e :: es) X.env)) []) _ _ _
  refine PyProof.Rows.callWith_method1 (thn (ha.run pos pins _ σ H _ (I.tok _) h) fun us s1 ⟨vs, H1, I1, r1, a, C, ws, ev, hl, T, ea, q⟩ => ?_) he hpl
  subst ev
  cases r1 with
  | @cons _ u0 _ ur ra rw' =>
    obtain rfl : u0 = Value.ref a := ra
    have hlen : ur.length ≤ sizeLine := by
      rw [← Paired.length rw', sizeLine_eq]
      omega
    exact oinit_ok T I1 ea hlen fun s' J => ⟨.non, H1, J, rfl, q⟩
end
/-- the text of an __init__ with no field, with one -/
def initB (f : Option Str) : List Stmt → Bool
  | [.Expr (.Call (.Attribute (.Name s1 _) m ap) [.Name v1 _, .Constant (.str _) _ _] [] cp) _] => f.isNone && decide (s1 = "SaidError") && decide (m = "__init__") && decide (v1 = "self") && (ap.endLine == cp.line)
  | [.Expr (.Call (.Attribute (.Name s1 _) m ap) [.Name v1 _, .Constant (.str _) _ _] [] cp) _, .Assign [.Attribute (.Name v2 _) g _] (.Name v3 _) _] =>
    decide (f = some g) && decide (s1 = "SaidError") && decide (m = "__init__") && decide (v1 = "self") && decide (v2 = "self") && decide (v3 = g) && !(g == ("__debug__" : Str)) && !(g == ("__classdict__" : Str)) && (ap.endLine == cp.line)
  | _ => false
def iPs (f : Option Str) : List Str := match f with
  | some g => ["self", g]
  | none => ["self"]
/-- what an __init__ does -/
def spI (C : Addr) (f : Option Str) : Sp := fun zs H Q _ => ∃ (a : Addr) (vs : List V), zs = .ref a :: vs ∧ H a = some (exo a C none) ∧ match f with
  | some g => ∃ v, vs = [v] ∧ ∀ dx, H dx = none → dx ≠ a → Q .non (upd (upd H dx (exd dx [(g, v)])) a (exo a C (some dx)))
  | none => vs = [] ∧ Q .non H
structure InitOk (f : Option Str) (st : Stmt) : Prop where
  scp : FnScope (iPs f) (iPs f) (defScope st)
  chk : initB f (defBody st) = true
  gl : (defScope st).names.lookup ("SaidError" : Str) = some .globalImplicit
  bnd : ∀ (q : Str) (kV doc pm : Value) (an : Option Addr) (cdv ct : Value) (us : List Value), us.length = (iPs f).length → bindArgs (PySem.W.fnOf "__init__" q (defArgs st) (defBody st) (defScope st) .none kV doc pm an cdv ct) ⟨us, []⟩ = pure ((iPs f).zip us)
section
variable {P : Program} {w : World} {K : PySem.W.Frag} {mg : Str → Option Value} {base : Heap} {C S fI : Addr} {f : Option Str} {st : Stmt}
theorem init_fn {q : Str} {oc : Value} {od an : Option Addr} {osl : Array (Option Value)} {kV doc pm cdv ct : Value} (T : XcS K (fun x v => mg x = some v) S) (O : OexC K C) (hno : ∀ g, f = some g → PySem.W.findIn K (.ref C) g = some none)
    (lk : K.lookup fI = some ⟨oc, od, .func (PySem.W.fnOf "__init__" q (defArgs st) (defBody st) (defScope st) .none kV doc pm an cdv ct), osl⟩) (hcd : PySem.W.codeIn K cdv q = true) (ok : InitOk f st) :
    FnOk P w K mg base (L2.CX P w) 0 fI (PySem.W.fnOf "__init__" q (defArgs st) (defBody st) (defScope st) .none kV doc pm an cdv ct) (iPs f) (spI C f) := by
  have hsc := ok.scp
  have hnum : ∀ vs H Q E, spI C f vs H Q E → vs.length = (iPs f).length := fun vs H Q E ⟨a, ws, e, _, h⟩ => by
    cases f with
    | none => obtain ⟨rfl, _⟩ := h; rw [e]; rfl
    | some g => obtain ⟨v, rfl, _⟩ := h; rw [e]; rfl
  refine ⟨hnum, fun A outer s H args us vs Q E room e0 bd rv pr => ?_⟩
  have nV := hnum _ _ _ _ pr
  have inS : K.In s.heap := e0.mod.kin.keeps fun a o e => (e0.bs a o e).1
  have noL : s.heap.NoLimit := e0.mod.nolimit.keeps fun a o e => (e0.bs a o e).1
  have pk : ∀ z ∈ (iPs f).zip us, (defScope st).names.lookup z.1 = some .local ∨ ((defScope st).names.lookup z.1 = some .cell ∧ ((cellsFrom (s.heap.objs.size + 1) (defScope st).names []).lookup z.1).isSome = true) := by
    rintro ⟨x, u⟩ hz
    cases hsc.par x (List.of_mem_zip hz).1 with
    | inl h => exact .inl h
    | inr h => exact .inr ⟨h, PySem.W.cellsFrom_some _ _ _ (.inl h)⟩
  refine codeAny_call_function room.depth (inS _ _ lk) rfl hsc.co hsc.gen rfl (PySem.W.codeRec_of inS hcd) (bd _ _ _ _ ?_)
  refine wpAny_newFunctionEnv_cells hsc.kind pk ?_
  rintro env rfl s1 inC
  refine ⟨noL.keeps inC.toInCall.keep, codeAny_func ?_⟩
  have X0 := inv_start (CX := L2.CX P w) (E := E) (qual := q) (f := fI) (cd := cdv) hsc room.hd e0 nV rv inC
  have gl : Gl (cxOf (L2.CX P w) P w K mg base (iPs f) q (defScope st) fI cdv A outer s H E) "SaidError" := ok.gl
  have vis : ∀ x ∈ iPs f, Vis (cxOf (L2.CX P w) P w K mg base (iPs f) q (defScope st) fI cdv A outer s H E).env.scope x := fun x hx => by
    cases hsc.par x hx with
    | inl h => exact .inl h
    | inr h => exact .inr (.inl h)
  have fin : ∀ {σ' : L2.St} {H' : Hp} {s' : Shared} {v : V} {u : Value}, Inv (cxOf (L2.CX P w) P w K mg base (iPs f) q (defScope st) fI cdv A outer s H E) [] σ' H' s' → RelV v u → Q v H' → CE outer P w H s Q u s' := by
    intro σ' H' s' v u J rvu q
    exact ⟨v, H', J.os, J.bare, J.base, J.hok, rvu, q⟩
  have go : ∃ t : TS, PSs (cxOf (L2.CX P w) P w K mg base (iPs f) q (defScope st) fI cdv A outer s H E) (defBody st) t ∧ t { nx := fun _ H' => Q .non H', rt := Q } (L2.start (iPs f) vs) H := by
    obtain ⟨a, ws, rfl, ha, h⟩ := pr
    have chk := ok.chk
    unfold initB at chk
    split at chk
    · rename_i s1 _ m _ v1 _ _ _ _ _ _ hb
      simp only [Bool.and_eq_true, decide_eq_true_eq] at chk
      obtain ⟨⟨⟨⟨hf, rfl⟩, rfl⟩, rfl⟩, hln⟩ := chk
      cases f with
      | some g => simp at hf
      | none =>
        obtain ⟨rfl, q⟩ := h
        rw [hb]
        refine ⟨_, pss_cons (ps_expr (pe_sinit T gl (pa_cons (pe_var (i := 0) rfl (vis _ (by simp [iPs]))) (pa_cons pe_str pa_nil)) rfl hln)) pss_nil, ?_⟩
        exact ⟨.ref a, rfl, a, C, [.str _], rfl, by simp, O, ha, q⟩
    · rename_i s1 _ m _ v1 _ _ _ _ _ _ v2 _ g _ v3 _ _ hb
      simp only [Bool.and_eq_true, decide_eq_true_eq, Bool.not_eq_true'] at chk
      obtain ⟨⟨⟨⟨⟨⟨⟨⟨rfl, rfl⟩, rfl⟩, rfl⟩, rfl⟩, rfl⟩, d1⟩, d2⟩, hln⟩ := chk
      obtain ⟨v, rfl, q⟩ := h
      rw [hb]
      refine ⟨_, pss_cons (ps_expr (pe_sinit T gl (pa_cons (pe_var (i := 0) rfl (vis _ (by simp [iPs]))) (pa_cons pe_str pa_nil)) rfl hln)) (pss_cons (ps_ost (f := v3) (pe_var (i := 0) rfl (vis _ (by simp [iPs]))) (pe_var (i := 1) rfl (vis _ (by simp [iPs])) d1 d2)) pss_nil), ?_⟩
      refine ⟨.ref a, rfl, a, C, [.str _], rfl, by simp, O, ha, ?_⟩
      exact ⟨v, rfl, .ref a, rfl, a, C, rfl, O, hno _ rfl, .inl ⟨ha, fun dx n1 n2 => q dx n1 n2⟩⟩
    · cases chk
  obtain ⟨t, body, rd⟩ := go
  refine wpAny_mono (body.run [] s1 (L2.start (iPs f) vs) H _ X0 rd) (fun fl s' hs => ?_) fun e s' hs => hs
  match fl, hs with
  | .ret u, ⟨v, _, _, J, rvu, q⟩ => exact fin J rvu q
  | .next, ⟨_, _, J, q⟩ => exact fin (v := V.non) (u := Value.none) J rfl q
  | .brk, ⟨_, _, _, q⟩ => exact q.elim
  | .cont, ⟨_, _, _, q⟩ => exact q.elim
end

section
variable {X : Cx} {pins : List (Addr × Obj)} {σ : L2.St} {H1 H2 : Hp} {Q : XK} {C a fI : Addr}
theorem mk_end1 {hp hp2 h2 : Heap} {g1 g2 : Array GenState} {d1 d2 : Drawn} {t1 t2 : Nat} {os1 os2 : OsState} (T : Raises X (.ref C)) (I1 : Inv X pins σ H1 ⟨hp, g1, d1, t1, os1⟩)
    (ha : hp.objs.size ≤ a) (k : ∀ b o, hp.get? b = some o → hp2.get? b = some o) (un : Un (frs X.stack) [] (upd H1 a (exo a C none)) H2 hp2 h2) (hok : HOk X.prog X.w H2 h2) (ho : os2 = os1) (hb : AllBare g2)
    (e2 : H2 = upd H1 a (exo a C none)) (q : Q (.ref C) none H1) : MkP X pins σ Q (.ref a) ⟨h2, g2, d2, t2, os2⟩ := by
  have ea : H2 a = some (exo a C none) := by rw [e2, upd_same]
  obtain ⟨t0, hoe⟩ := exo_at hok ea
  have hn : H1 a = none := I1.hok.fresh ha
  have e12 : ∀ {b : Addr}, b ≠ a → H2 b = H1 b := fun {b} hb => by rw [e2, upd_ne hb]
  obtain ⟨G, g1', g2'⟩ := restrict h2 fun b => decide (b ≠ a)
  have gk : ∀ b, b ≠ a → G.get? b = h2.get? b := fun b hb => g1' b (decide_eq_true hb)
  have ge : G.get? a = none := g2' a (by simp)
  have nha : ∀ {b : Addr} {o : Obj}, hp.get? b = some o → b ≠ a := fun {b o} z => Nat.ne_of_lt (Nat.lt_of_lt_of_le (Heap.lt_size z) ha)
  have up : ∀ {b : Addr}, b ≠ a → H1 b = none → upd H1 a (exo a C none) b = none := fun {b} hb n => by rw [upd_ne hb]; exact n
  have U : Un (frs X.stack) [] H1 H1 hp G := {
    keep := fun b o z n hf hx => by
      rw [gk b (nha z)]
      exact un.keep b o (k b o z) (up (nha z) n) hf hx
    slot := fun b o z n hf hx => by
      rw [gk b (nha z)]
      exact un.slot b o (k b o z) (up (nha z) n) hf hx
    free := fun b o z n hx => n
    there := fun b o z hx => by
      rw [gk b (nha z)]
      exact un.there b o (k b o z) hx
    tups := fun b xs z => z
    frzs := fun b o v z => z
    tbls := fun b ps z => ⟨#[], by rw [z]; simp⟩ }
  have hok3 : HOk X.prog X.w H1 G := fun b o z => by
    have hba : b ≠ a := fun e => by rw [e, hn] at z; cases z
    have noa : ∀ {c : Addr}, H2 c = some (.own b) → c ≠ a := fun {c} hc => at_ne ea hc exo_own
    refine (hok b o ((e12 hba).trans z)).stay (fun c v hc y => ?_) (fun c hc => ?_) (fun c xs hc => ?_)
    · have hca : c ≠ a := by
        rcases hc with hc | hc
        · rw [hc]; exact hba
        · exact noa hc
      rw [gk c hca]
      exact y
    · exact (e12 (noa hc)).symm.trans hc
    · exact (e12 (at_ne ea hc exo_tup)).symm.trans hc
  have J : Inv X pins σ H1 ⟨G, g2, d2, t2, os2⟩ := I1.call' (ch := []) ho U hok3 hb (fun b z => absurd z (by simp))
  refine ⟨a, _, _, ⟨G, g2, d2, t2, os2⟩, _, .ref C, none, rfl, J, fun b o z => ?_, ge, hoe, ⟨rfl, rfl⟩, rfl, rfl, hn, rfl, hb, T, q⟩
  by_cases hba : b = a
  · have z' : G.get? b = some o := z
    rw [hba, ge] at z'
    cases z'
  · exact (gk b hba).symm.trans z
/-- what C(..) leaves -/
def mkQ (C : Addr) (f : Option Str) (vs : List V) (H1 : Hp) (Q : XK) : Prop := match f with
  | some g => ∃ v, vs = [v] ∧ ∀ d, H1 d = none → Q (.ref C) (some d) (upd H1 d (.xd [(g, v)]))
  | none => vs = [] ∧ Q (.ref C) none H1
theorem run_mk {f : Option Str} {fd : FuncData} {s1 : Shared} {us : List Value} {vs : List V} (T : OexC X.K C) (iC : PySem.W.findIn X.K (.ref C) "__init__" = some (some (.ref fI))) (tI : PySem.W.typeIn X.K (.ref fI) = some (.type "function"))
    (F1 : FnOk X.prog X.w X.K X.mg X.base (L2.CX X.prog X.w) 0 fI fd (iPs f) (spI C f)) (hr : Room 1 X.A) (hb : Binds X.K fd (iPs f) []) (hx : Passes (L2.CX X.prog X.w) X (fun _ _ _ => False))
    (I1 : Inv X pins σ H1 s1) (r1 : Vals vs us) (q : mkQ C f vs H1 Q) : wpAny (model X.prog X.w) X.A (call (.ref C) us) (MkP X pins σ Q) X.xe s1 := by
  obtain ⟨nm, qn, N, bs, bm, sn, sub, ab, col, dd, k0, k1, k2, k3, k5, hC, hbm⟩ := T.cls
  obtain ⟨hp, g, dr, tk, os⟩ := s1
  have hsz : hp.objs.size ≤ hp.objs.size + 1 := Nat.le_succ _
  have hn : H1 (hp.objs.size + 1) = none := I1.hok.fresh hsz
  have kk : ∀ b o, hp.get? b = some o → ((hp.push (PySem.W.kdv_tup us)).push (PySem.HandSPX.excO C hp.objs.size)).get? b = some o := fun b o e => Heap.get?_push_of_some _ (Heap.get?_push_of_some _ e)
  have hget : ((hp.push (PySem.W.kdv_tup us)).push (PySem.HandSPX.excO C hp.objs.size)).get? (hp.objs.size + 1) = some (PySem.HandSPX.excO C hp.objs.size) := by heap_get
  have I2 : Inv X pins σ (upd H1 (hp.objs.size + 1) (exo (hp.objs.size + 1) C none)) ⟨(hp.push (PySem.W.kdv_tup us)).push (PySem.HandSPX.excO C hp.objs.size), g, dr, tk, os⟩ :=
    I1.laid (t' := tk) (a := hp.objs.size + 1) (o := exo (hp.objs.size + 1) C none) (h' := (hp.push (PySem.W.kdv_tup us)).push (PySem.HandSPX.excO C hp.objs.size)) kk hsz (exo_ok hget)
  have r2 : Vals (V.ref (hp.objs.size + 1) :: vs) (Value.ref (hp.objs.size + 1) :: us) := .cons rfl r1
  have hq : spI C f (V.ref (hp.objs.size + 1) :: vs) (upd H1 (hp.objs.size + 1) (exo (hp.objs.size + 1) C none))
      (fun v H2 => v = .non ∧ ((∃ g v d, f = some g ∧ vs = [v] ∧ H1 d = none ∧ d ≠ hp.objs.size + 1 ∧ H2 = upd (upd (upd H1 (hp.objs.size + 1) (exo (hp.objs.size + 1) C none)) d (exd d [(g, v)])) (hp.objs.size + 1) (exo (hp.objs.size + 1) C (some d))) ∨
        (f = none ∧ H2 = upd H1 (hp.objs.size + 1) (exo (hp.objs.size + 1) C none)))) (fun _ _ _ => False) := by
    refine ⟨_, _, rfl, upd_same, ?_⟩
    cases f with
    | none => exact ⟨q.1, rfl, .inr ⟨rfl, rfl⟩⟩
    | some g =>
      obtain ⟨v, ev, _⟩ := q
      exact ⟨v, ev, fun dx n1 n2 => ⟨rfl, .inl ⟨g, v, dx, rfl, ev, by rw [upd_ne n2] at n1; exact n1, n2, rfl⟩⟩⟩
  have hl : (Value.ref (hp.objs.size + 1) :: us).length = (iPs f).length := by
    have e := r2.length
    rw [F1.len _ _ _ _ hq] at e
    exact e.symm
  have hus : us.length ≤ sizeLine := by
    have : (iPs f).length ≤ 2 := by cases f <;> simp [iPs]
    rw [sizeLine_eq]
    simp only [List.length_cons] at hl
    omega
  have b2 := hb ⟨(hp.push (PySem.W.kdv_tup us)).push (PySem.HandSPX.excO C hp.objs.size), g, dr, tk, os⟩ (Value.ref (hp.objs.size + 1) :: us) I2.kIn (by rw [List.append_nil]; exact hl)
  rw [List.append_nil] at b2
  refine wpAny_call (PySem.HandSPX.call_own F.excBase_ValueError (fun Y => PySem.HandSPX.refsVE_contains Y bm hbm) (I1.kIn _ _ hC) (PySem.W.looks_findIn I1.kIn iC) (fun self => PySem.W.bind_fn I1.kIn self tI) hus
    (codeAny_mono (F1.run _ X.stack _ _ ⟨Value.ref (hp.objs.size + 1) :: us, []⟩ (Value.ref (hp.objs.size + 1) :: us) _ _ (fun _ _ _ => False) (hr.make C us []) (I2.env0.make C us []) b2 r2 hq) fun r s' hq' => ?_))
  cases r with
  | error er => exact hx pins σ _ _ er s' I2 hq'
  | ok fl =>
    cases fl with
    | ret u =>
      obtain ⟨v, H2, os2, bare2, un2, hok2, rv, ev, q2⟩ := hq'
      subst ev
      obtain ⟨h2, g2, d2, t2, os'⟩ := s'
      rcases q2 with ⟨gg, y, d, rfl, evs, hd, hda, eH⟩ | ⟨rfl, eH⟩
      · obtain ⟨y', ey, qq⟩ := q
        rw [evs] at ey
        cases ey
        have ea : H2 (hp.objs.size + 1) = some (exo (hp.objs.size + 1) C (some d)) := by rw [eH, upd_same]
        have ed : H2 d = some (exd d [(gg, y)]) := by rw [eH, upd_ne hda, upd_same]
        have eF : upd (del H2 (hp.objs.size + 1)) d (.xd [(gg, y)]) = upd H1 d (.xd [(gg, y)]) := by
          funext b
          by_cases hbd : b = d
          · rw [hbd, upd_same, upd_same]
          · rw [upd_ne hbd, upd_ne hbd]
            by_cases hba : b = hp.objs.size + 1
            · rw [hba, del_same, hn]
            · rw [del_ne hba, eH, upd_ne hba, upd_ne hbd, upd_ne hba]
        exact ⟨rv, mk_end (raises_own T.exC T.tyC) I1 hsz kk un2 hok2 os2 bare2 ea ed hd (by rw [eF]; exact qq d hd)⟩
      · exact ⟨rv, mk_end1 (raises_own T.exC T.tyC) I1 hsz kk un2 hok2 os2 bare2 eH q.2⟩
    | next => exact False.elim hq'
    | brk => exact False.elim hq'
    | cont => exact False.elim hq'
/-- what the written part says of making one -/
structure XcI (K : PySem.W.Frag) (gv : Str → Value → Prop) (S C : Addr) (x : Str) (f : Option Str) : Prop where
  s : XcS K gv S
  o : OexC K C
  no : ∀ g, f = some g → PySem.W.findIn K (.ref C) g = some none
  gC : gv x (.ref C)
  ix : ∃ (fI : Addr) (st : Stmt) (q : Str) (oc : Value) (od an : Option Addr) (osl : Array (Option Value)) (kV doc pm cdv ct : Value), PySem.W.findIn K (.ref C) "__init__" = some (some (.ref fI)) ∧ PySem.W.typeIn K (.ref fI) = some (.type "function") ∧
    K.lookup fI = some ⟨oc, od, .func (PySem.W.fnOf "__init__" q (defArgs st) (defBody st) (defScope st) .none kV doc pm an cdv ct), osl⟩ ∧ PySem.W.codeIn K cdv q = true ∧ InitOk f st
def tMkX (C : Addr) (f : Option Str) (ta : TA) : L2.St → Hp → XK → Prop := fun σ H Q => ta σ H fun vs H1 => mkQ C f vs H1 Q
theorem passes_never {CX : CXT} (h : ∀ pins σ H s e s', Inv X pins σ H s → CX X.stack H s (fun _ _ _ => False) e s' → False) : Passes CX X (fun _ _ _ => False) := fun pins σ H s e s' I c => (h pins σ H s e s' I c).elim
theorem cx_never {pins : List (Addr × Obj)} {σ : L2.St} {H : Hp} {s s' : Shared} {e : Value} (c : L2.CX X.prog X.w X.stack H s (fun _ _ _ => False) e s') : False := by
  obtain ⟨_, _, _, _, _, _, _, _, _, _, _, _, z⟩ := c
  exact z
theorem pmk_x {S : Addr} {x : Str} {f : Option Str} {e : Expr} {es : List Expr} {ta : TA} {p pos : Pos} (T : XcI X.K (fun x v => X.mg x = some v) S C x f) (hr : Room 1 X.A) (hg : Gl X x) (hdb : (x == ("__debug__" : Str)) = false) (ha : PA X (e :: es) ta)
    (he : starEach (e :: es) X.env = (false, eval e X.env) :: starEach es X.env) (hpl : (backTo pos (starEach es X.env)).any (·.1) = false) :
    PMk X (.Call (.Name x p) (e :: es) [] pos) (tMkX C f ta) := by
  intro pins s σ H Q I h
  obtain ⟨fI, st, q, oc, od, an, osl, kV, doc, pm, cdv, ct, iC, tI, lk, hcd, ok⟩ := T.ix
  have F1 := init_fn (P := X.prog) (w := X.w) (mg := X.mg) (base := X.base) T.s T.o T.no lk hcd ok
  have hb := Binds.all (K := X.K) (ok.bnd q kV doc pm an cdv ct)
  have hx : Passes (L2.CX X.prog X.w) X (fun _ _ _ => False) := passes_never fun pins σ H s e s' _ c => cx_never (pins := pins) (σ := σ) c
  refine wpAny_Call_Name_kw (ld_glob I hg T.gC ?_ hdb)
  exact PySem.W.callWith_K (h₀ := X.base) I.ok.mod.kin T.o.kC (thn (ha.run pos pins s σ H _ I h) fun us s1 ⟨vs, H1, I1, r1, q1⟩ => ⟨I1.kIn, run_mk T.o iC tI F1 hr hb hx I1 r1 q1⟩) he hpl
theorem pmk_x0 {S : Addr} {x : Str} {f : Option Str} {p pos : Pos} (T : XcI X.K (fun x v => X.mg x = some v) S C x f) (hr : Room 1 X.A) (hg : Gl X x) (hdb : (x == ("__debug__" : Str)) = false) :
    PMk X (.Call (.Name x p) [] [] pos) (tMkX C f tNil) := by
  intro pins s σ H Q I h
  obtain ⟨fI, st, q, oc, od, an, osl, kV, doc, pm, cdv, ct, iC, tI, lk, hcd, ok⟩ := T.ix
  have F1 := init_fn (P := X.prog) (w := X.w) (mg := X.mg) (base := X.base) T.s T.o T.no lk hcd ok
  have hb := Binds.all (K := X.K) (ok.bnd q kV doc pm an cdv ct)
  have hx : Passes (L2.CX X.prog X.w) X (fun _ _ _ => False) := passes_never fun pins σ H s e s' _ c => cx_never (pins := pins) (σ := σ) c
  refine wpAny_Call_Name_kw (ld_glob I hg T.gC ?_ hdb)
  exact PySem.W.callWith_K0 I.kIn T.o.kC (run_mk (us := []) T.o iC tI F1 hr hb hx I .nil h)
/-! ### isinstance of what a suite holds -/
/-- isinstance(e, c) -/
def rIsX (K : PySem.W.Frag) (C a : Addr) : List V → Hp → VK → Prop := fun xs H Q => ∃ (c : V) (cv : Value) (b : Bool), xs = [.ref a, c] ∧ ClsV c cv ∧ PySem.W.kitOne K (.ref C) cv = some b ∧ Q (.bl b) H
/-- isinstance(e, (c, d, ..)) -/
def rIsXT (K : PySem.W.Frag) (C a : Addr) : List V → Hp → VK → Prop := fun xs H Q => ∃ (tp : Addr) (cs : List V) (us : List Value) (b : Bool), xs = [.ref a, .ref tp] ∧ H tp = some (.tup cs) ∧ Paired ClsV cs us ∧ PySem.W.kitAny K (.ref C) us = some b ∧ Q (.bl b) H
section
variable {oe : Obj} {pn : List (Addr × Obj)} {d : Option Addr}
/-- its dict stands where it has one -/
def DxOk (H : Hp) (d : Option Addr) : Prop := match d with
  | some dd => ∃ fs, H dd = some (.xd fs)
  | none => True
theorem inst_x {pins : List (Addr × Obj)} {σ : L2.St} {H : Hp} {s : Shared} (hz : Zc (.ref C) d oe) (hf : ∃ vs, oe.data = .fields vs) (I : Inv (X.suite a ((a, oe) :: pn)) pins σ H s) (hd : DxOk H d) : ∃ od, PySem.W.InstAt s.heap a oe C od := by
  obtain ⟨hget, _⟩ := I.pin (a, oe) (List.mem_append.mpr (.inl List.mem_cons_self))
  obtain ⟨vs, hv⟩ := hf
  cases d with
  | none => exact ⟨none, hget, hz.1, by unfold PySem.W.notCls; rw [hv] <;> rfl, by rw [hz.2]; exact True.intro⟩
  | some dd =>
    obtain ⟨fs, ea⟩ := hd
    have hx : ObjOk (X.suite a ((a, oe) :: pn)).prog (X.suite a ((a, oe) :: pn)).w H s.heap dd (.xd fs) := I.hok dd _ ea
    obtain ⟨mA, hns, hr⟩ := hx
    obtain ⟨od, ho, hl⟩ := lookIn_ns hns
    exact ⟨some od, hget, hz.1, by unfold PySem.W.notCls; rw [hv] <;> rfl, by rw [hz.2]; exact ho⟩
theorem call_isX (T : XcC X.K C) (hz : Zc (.ref C) d oe) (hf : ∃ vs, oe.data = .fields vs) : CallR (X.suite a ((a, oe) :: pn)) (.builtin "isinstance") (fun xs H Q => DxOk H d ∧ rIsX X.K C a xs H Q) := by
  intro pins s σ H xs us Q I r h
  obtain ⟨hd, c, cv, b, rfl, hcv, e, q⟩ := h
  obtain ⟨u1, u2, rfl, r1, r2⟩ := vals2 r
  have e2 := hcv.eq r2
  subst e2
  obtain rfl : u1 = Value.ref a := r1
  obtain ⟨od, J⟩ := inst_x hz hf I hd
  exact PySem.W.kia_one (PySem.W.kitx_exc (od := od) T.hcl T.x.ga T.x.gg T.x.exC T.ha T.hn T.ht T.hm) I.kIn J e (fun z => nomatch z) fun tk => ⟨.bl b, H, I.tok tk, rfl, q⟩
theorem call_isXT (T : XcC X.K C) (hz : Zc (.ref C) d oe) (hf : ∃ vs, oe.data = .fields vs) : CallR (X.suite a ((a, oe) :: pn)) (.builtin "isinstance") (fun xs H Q => DxOk H d ∧ rIsXT X.K C a xs H Q) := by
  intro pins s σ H xs us Q I r h
  obtain ⟨hd, tp, cs, ws, b, rfl, hT, k, e, q⟩ := h
  obtain ⟨u1, u2, rfl, r1, r2⟩ := vals2 r
  obtain rfl : u1 = Value.ref a := r1
  obtain rfl : u2 = Value.ref tp := r2
  obtain ⟨od, J⟩ := inst_x hz hf I hd
  obtain ⟨_, its, rv, o, h1, h2, n, h3⟩ := (show ObjOk X.prog X.w H s.heap tp (.tup cs) from I.hok tp _ hT)
  have e3 := ClsV.all k rv
  subst e3
  obtain ⟨oc, od', dt, sl⟩ := o
  simp only at h2 h3
  subst h2 h3
  exact PySem.W.kia_tup (PySem.W.kitx_exc (od := od) T.hcl T.x.ga T.x.gg T.x.exC T.ha T.hn T.ht T.hm) I.kIn J h1 e (fun z => nomatch z) fun tk => ⟨.bl b, H, I.tok tk, rfl, q⟩
end
end
end EngX

/-! EngQ: plain data with dicts of ints and texts: how they are shown -/
namespace Eng
open PySem PySem.Spec PyProof.Rows L2
def keyP : Key → PyData
  | .inl i => .int i
  | .inr x => .str x
mutual
inductive Dq (K : PySem.W.Frag) (H : Hp) : V → PyData → Prop
  | non : Dq K H .non .none
  | bl (b : Bool) : Dq K H (.bl b) (.bool b)
  | int (i : Int) : Dq K H (.int i) (.int i)
  | str (x : Str) : Dq K H (.str x) (.str x)
  | lst {a : Addr} {xs : List V} {ds : List PyData} : SqL K H a xs → DqAll K H xs ds → Dq K H (.ref a) (.list ds)
  | tup {a : Addr} {xs : List V} {ds : List PyData} : SqT K H a xs → DqAll K H xs ds → Dq K H (.ref a) (.tuple ds)
  | dct {a : Addr} {kvs : List (Key × V)} {ds : List PyData} : H a = some (.dK kvs) → DqAll K H (kvs.map (·.2)) ds → Dq K H (.ref a) (.dict ((kvs.map fun p => keyP p.1).zip ds))
inductive DqAll (K : PySem.W.Frag) (H : Hp) : List V → List PyData → Prop
  | nil : DqAll K H [] []
  | cons {v : V} {vs : List V} {d : PyData} {ds : List PyData} : Dq K H v d → DqAll K H vs ds → DqAll K H (v :: vs) (d :: ds)
end
theorem DqAll.len {K : PySem.W.Frag} {H : Hp} : ∀ {vs : List V} {ds : List PyData}, DqAll K H vs ds → vs.length = ds.length
  | _, _, .nil => rfl
  | _, _, .cons _ h => congrArg (· + 1) h.len
theorem kv_vals {kvs : List (Key × V)} {vs : List (Key × Value)} (r : KV kvs vs) : Vals (kvs.map (·.2)) (vs.map (·.2)) := by
  induction r with
  | nil => exact .nil
  | cons h _ ih => exact .cons h.2 ih
section
variable {h : Heap}
theorem keys_read {P : Program} {w : World} : ∀ {es : List DictEntry} {kvs : List (Key × V)} {vs : List (Key × Value)}, Pairs (mixKind P w) es vs → KV kvs vs → ReadsAll h (es.map (·.key)) (kvs.map fun p => keyP p.1) []
  | _, _, _, .nil, .nil => .nil
  | _, _, _, .cons (e := e) h1 _ t, .cons (a := p) hp r => by
    have ih := keys_read t r
    obtain ⟨e1, _⟩ := hp
    have h1 : keyIs p.1 e.key = true := by rw [e1]; exact h1
    obtain ⟨i, t, e2, e3⟩ | ⟨i, t, e2, e3⟩ := keyIs_shape h1
    · show ReadsAll h (e.key :: _) (keyP p.1 :: _) []
      rw [e2, e3]
      exact .cons (.int i t) ih
    · show ReadsAll h (e.key :: _) (keyP p.1 :: _) []
      rw [e2, e3]
      exact .cons (.str i t) ih
theorem vals_read {P : Program} {w : World} : ∀ {es : List DictEntry} {vs : List (Key × Value)}, Pairs (mixKind P w) es vs → es.map (·.val) = vs.map (·.2)
  | _, _, .nil => rfl
  | _, _, .cons _ h2 t => by rw [List.map_cons, List.map_cons, h2, vals_read t]
theorem keys_shown {P : Program} {w : World} {bs : List Addr} {n : Nat} : ∀ {es : List DictEntry} {kvs : List (Key × V)} {vs : List (Key × Value)}, Pairs (mixKind P w) es vs → KV kvs vs → PyData.showableAll (kvs.map fun p => keyP p.1) = true → (∀ t ∈ PyData.shownAll (kvs.map fun p => keyP p.1), t.length ≤ sizeLine) →
    ReprAllK P w bs h n (es.map (·.key)) (PyData.shownAll (kvs.map fun p => keyP p.1))
  | _, _, _, .nil, .nil, _, _ => .nil
  | _, _, _, .cons (e := e) h1 _ t, .cons (a := p) (l₁ := l) hp r, hs, hz => by
    have hs' : (keyP p.1).showable = true ∧ PyData.showableAll (l.map fun p => keyP p.1) = true := by
      have hs : ((keyP p.1).showable && PyData.showableAll (l.map fun p => keyP p.1)) = true := hs
      simpa using hs
    have hz1 : (keyP p.1).shown.length ≤ sizeLine := hz _ (show (keyP p.1).shown ∈ (keyP p.1).shown :: PyData.shownAll (l.map fun p => keyP p.1) from List.mem_cons_self)
    have ih := keys_shown (bs := bs) (n := n) t r hs'.2 fun x hx => hz x (show x ∈ (keyP p.1).shown :: PyData.shownAll (l.map fun p => keyP p.1) from List.mem_cons_of_mem _ hx)
    obtain ⟨e1, _⟩ := hp
    have h1 : keyIs p.1 e.key = true := by rw [e1]; exact h1
    have hs1 := hs'.1
    show ReprAllK P w bs h n (e.key :: _) ((keyP p.1).shown :: _)
    obtain ⟨i, t, e2, e3⟩ | ⟨i, t, e2, e3⟩ := keyIs_shape h1
    · rw [e2] at hs1 ⊢
      rw [e3]
      exact .cons (.of_is (ReprIs.int t (by simpa [keyP, PyData.showable] using hs1)) _ _ _) ih
    · rw [e2] at hz1 ⊢
      rw [e3]
      exact .cons (.of_is (ReprIs.str i t hz1) _ _ _) ih
end
section
variable {X : Cx} {pins : List (Addr × Obj)} {σ : L2.St} {H : Hp} {s : Shared}
mutual
theorem Dq.reads (I : Inv X pins σ H s) : ∀ {v : V} {d : PyData}, Dq X.K H v d → ∀ {u : Value}, RelV v u → ∃ as, Reads s.heap u d as
  | _, _, .non, _, r => by cases r; exact ⟨_, .none⟩
  | _, _, .bl b, _, r => by cases r; exact ⟨_, .bool b⟩
  | _, _, .int i, _, r => by obtain ⟨t, rfl⟩ := r; exact ⟨_, .int i t⟩
  | _, _, .str x, _, r => by obtain ⟨t, rfl⟩ := r; exact ⟨_, .str x t⟩
  | _, _, .lst hs ha, _, r => by
    cases r
    obtain ⟨its, rv, ⟨o, n, ho, hc, _, hd⟩, _⟩ := I.list hs
    obtain ⟨as, hr⟩ := DqAll.reads I ha rv
    exact ⟨_, .list ho hc hd hr⟩
  | _, _, .tup hs ha, _, r => by
    cases r
    obtain ⟨its, rv, ⟨o, ho, hc, n, hd⟩, _⟩ := I.tuple hs
    obtain ⟨as, hr⟩ := DqAll.reads I ha rv
    exact ⟨_, .tuple ho hc hd hr⟩
  | _, _, .dct (kvs := kvs) (ds := ds) e ha, _, r => by
    cases r
    obtain ⟨_, _, vs, rel, o, es, ep, ho, hc, hd, _, hp, _⟩ := dk_of I.hok e
    obtain ⟨as, hr⟩ := DqAll.reads I ha (kv_vals rel)
    have hl : kvs.length = ds.length := by rw [← ha.len, List.length_map]
    refine ⟨_, .dict ho hc.1 hd (as := []) (bs := as) ?_ ?_⟩
    · rw [List.map_fst_zip (by rw [List.length_map]; omega)]
      exact keys_read hp rel
    · rw [List.map_snd_zip (by rw [List.length_map]; omega), vals_read hp]
      exact hr
theorem DqAll.reads (I : Inv X pins σ H s) : ∀ {vs : List V} {ds : List PyData}, DqAll X.K H vs ds → ∀ {us : List Value}, Vals vs us → ∃ as, ReadsAll s.heap us ds as
  | _, _, .nil, _, r => by cases r; exact ⟨_, .nil⟩
  | _, _, .cons h1 h2, _, r => by
    cases r with
    | cons r1 r2 =>
      obtain ⟨as, q1⟩ := Dq.reads I h1 r1
      obtain ⟨bs, q2⟩ := DqAll.reads I h2 r2
      exact ⟨_, .cons q1 q2⟩
end
/-- what is shown of the parts of a dict -/
theorem dict_parts {kvs : List (Key × V)} {ds : List PyData} (hl : kvs.length = ds.length) : ((kvs.map fun p => keyP p.1).zip ds).map (·.1) = kvs.map (fun p => keyP p.1) ∧ ((kvs.map fun p => keyP p.1).zip ds).map (·.2) = ds :=
  ⟨List.map_fst_zip (by rw [List.length_map]; omega), List.map_snd_zip (by rw [List.length_map]; omega)⟩
mutual
theorem Dq.rk (I : Inv X pins σ H s) : ∀ {v : V} {d : PyData}, Dq X.K H v d → ∀ {u : Value}, RelV v u → d.showable = true → d.shown.length ≤ sizeLine → ∃ bs, ReadAtMost s.heap d.depth bs ∧ ReprK X.prog X.w bs s.heap d.depth u d.shown
  | _, _, .non, _, r, _, _ => by cases r; exact ⟨[], fun _ h => (nomatch h), .of_is ReprIs.none _ _ _⟩
  | _, _, .bl b, _, r, _, _ => by
    cases r
    refine ⟨[], fun _ h => (nomatch h), ?_⟩
    simp only [PyData.shown]
    exact .of_is (ReprIs.bool b) _ _ _
  | _, _, .int i, _, r, hs, _ => by
    obtain ⟨t, rfl⟩ := r
    exact ⟨[], fun _ h => (nomatch h), .of_is (ReprIs.int t (by simpa [PyData.showable] using hs)) _ _ _⟩
  | _, _, .str x, _, r, _, hz => by
    obtain ⟨t, rfl⟩ := r
    exact ⟨[], fun _ h => (nomatch h), .of_is (ReprIs.str x t hz) _ _ _⟩
  | _, _, .lst (a := a) (ds := ds) hs ha, _, r, hw, hz => by
    cases r
    obtain ⟨its, rv, ⟨o, n, ho, hc, _, hd⟩, _⟩ := I.list hs
    obtain ⟨as, hr⟩ := DqAll.reads I ha rv
    have hz' : (listText (PyData.shownAll ds)).length ≤ sizeLine := hz
    obtain ⟨bs, hb, hk⟩ := DqAll.rk I ha rv (by simpa [PyData.showable] using hw) fun t ht => Nat.le_trans (listText_mem_le ht) hz'
    have rd : Reads s.heap (.ref a) (.list ds) _ := .list ho hc hd hr
    have dp : (PyData.list ds).depth = PyData.depthAll ds + 1 := by simp only [PyData.depth]
    have far : a ∉ bs := not_mem_of_deeper rd (by rw [dp]; omega) hb
    refine ⟨a :: bs, ReadAtMost.cons rd (Nat.le_refl _) (hb.mono (by rw [dp]; omega)), ?_⟩
    rw [dp]
    show ReprK _ _ _ _ _ _ (listText (PyData.shownAll ds))
    cases its with
    | nil =>
      cases hr
      exact ReprK.listEmpty ho hc hd
    | cons x l => exact ReprK.list ho hc hd far (by simpa using hk.length_eq) fun i y e => hk.item i y (by simpa using e)
  | _, _, .tup (a := a) (ds := ds) hs ha, _, r, hw, hz => by
    cases r
    obtain ⟨its, rv, ⟨o, ho, hc, n, hd⟩, _⟩ := I.tuple hs
    obtain ⟨as, hr⟩ := DqAll.reads I ha rv
    have hz' : (tupleText (PyData.shownAll ds)).length ≤ sizeLine := hz
    obtain ⟨bs, hb, hk⟩ := DqAll.rk I ha rv (by simpa [PyData.showable] using hw) fun t ht => Nat.le_trans (tupleText_mem_le ht) hz'
    have rd : Reads s.heap (.ref a) (.tuple ds) _ := .tuple ho hc hd hr
    have dp : (PyData.tuple ds).depth = PyData.depthAll ds + 1 := by simp only [PyData.depth]
    have far : a ∉ bs := not_mem_of_deeper rd (by rw [dp]; omega) hb
    refine ⟨a :: bs, ReadAtMost.cons rd (Nat.le_refl _) (hb.mono (by rw [dp]; omega)), ?_⟩
    rw [dp]
    exact ReprK.tuple ho hc hd far hk
  | _, _, .dct (a := a) (kvs := kvs) (ds := ds) e ha, _, r, hw, hz => by
    cases r
    have hl : kvs.length = ds.length := by rw [← ha.len, List.length_map]
    obtain ⟨p1, p2⟩ := dict_parts hl
    obtain ⟨_, sy, vs, rel, o, es, ep, ho, hc, hd, _, hp, _⟩ := dk_of I.hok e
    obtain ⟨as, rd⟩ := Dq.reads I (Dq.dct e ha) (u := .ref a) rfl
    generalize hq : (kvs.map fun p => keyP p.1).zip ds = ps at p1 p2 hw hz rd ⊢
    have hz' : (dictText (PyData.shownKv ps)).length ≤ sizeLine := hz
    obtain ⟨w1, w2⟩ := PyData.showableKv_split ps (by simpa [PyData.showable] using hw)
    obtain ⟨bs, hb, hk⟩ := DqAll.rk I ha (kv_vals rel) (by rw [← p2]; exact w2) fun t ht => by
      rw [← p2] at ht
      obtain ⟨q, h1, h2⟩ := PyData.shownKv_val_le ps t ht
      exact Nat.le_trans h2 (Nat.le_trans (dictText_mem_le h1) hz')
    have kk := keys_shown (h := s.heap) (bs := bs) (n := PyData.depthKv ps) hp rel (by rw [← p1]; exact w1) fun t ht => by
      rw [← p1] at ht
      obtain ⟨q, h1, h2⟩ := PyData.shownKv_key_le ps t ht
      exact Nat.le_trans h2 (Nat.le_trans (dictText_mem_le h1) hz')
    have dl : PyData.depthAll ds ≤ PyData.depthKv ps := by
      have := PyData.depthAll_vals_le ps
      rwa [p2] at this
    have dp : (PyData.dict ps).depth = PyData.depthKv ps + 1 := by simp only [PyData.depth]
    have hb2 := hb.mono dl
    have far : a ∉ bs := not_mem_of_deeper rd (by rw [dp]; omega) hb2
    refine ⟨a :: bs, ReadAtMost.cons rd (Nat.le_refl _) (hb2.mono (by rw [dp]; omega)), ?_⟩
    rw [dp, show (PyData.dict ps).shown = dictText (PyData.shownKv ps) from by simp only [PyData.shown], PyData.shownKv_eq, p1, p2]
    rw [← vals_read hp] at hk
    exact ReprK.dict ho hc.1 hd sy far (ReprEntriesK.of_two es.toList _ _ kk (hk.more_le (fun _ z => z) dl))
theorem DqAll.rk (I : Inv X pins σ H s) : ∀ {vs : List V} {ds : List PyData}, DqAll X.K H vs ds → ∀ {us : List Value}, Vals vs us → PyData.showableAll ds = true → (∀ t ∈ PyData.shownAll ds, t.length ≤ sizeLine) → ∃ bs, ReadAtMost s.heap (PyData.depthAll ds) bs ∧ ReprAllK X.prog X.w bs s.heap (PyData.depthAll ds) us (PyData.shownAll ds)
  | _, _, .nil, _, r, _, _ => by cases r; exact ⟨[], fun _ h => (nomatch h), .nil⟩
  | _, _, .cons (d := d) (ds := ds) h1 h2, _, r, hw, hz => by
    cases r with
    | cons r1 r2 =>
      have hw : d.showable = true ∧ PyData.showableAll ds = true := by simpa [PyData.showableAll] using hw
      have hz : ∀ t ∈ d.shown :: PyData.shownAll ds, t.length ≤ sizeLine := hz
      obtain ⟨b1, q1, k1⟩ := Dq.rk I h1 r1 hw.1 (hz _ List.mem_cons_self)
      obtain ⟨b2, q2, k2⟩ := DqAll.rk I h2 r2 hw.2 fun t ht => hz t (List.mem_cons_of_mem _ ht)
      have l1 : d.depth ≤ PyData.depthAll (d :: ds) := by simp only [PyData.depthAll]; exact Nat.le_max_left _ _
      have l2 : PyData.depthAll ds ≤ PyData.depthAll (d :: ds) := by simp only [PyData.depthAll]; exact Nat.le_max_right _ _
      refine ⟨b1 ++ b2, (q1.mono l1).append (q2.mono l2), ?_⟩
      exact .cons ((k1.more fun b hb => List.mem_append_left _ hb).level_le l1) (k2.more_le (fun b hb => List.mem_append_right _ hb) l2)
end
theorem Dq.repr (I : Inv X pins σ H s) {A : Around} {E : Value → Shared → Prop} {Q : Value → Shared → Prop} : ∀ {a : Addr} {d : PyData}, Dq X.K H (.ref a) d → d.showable = true → d.shown.length ≤ sizeLine → A.guards = some [] → A.units + (d.depth + 1) < cLine →
    (∀ h' u tk, (∀ b o, s.heap.get? b = some o → h'.get? b = some o) → Q (.str d.shown u) { s with heap := h', toks := tk }) → wpAny (model X.prog X.w) A (call (.builtin "repr") [.ref a]) Q E s
  | a, _, .lst (ds := ds) hs ha, hw, hz, hg, hu, hQ => by
    obtain ⟨its, rv, ⟨o, n, ho, hc, _, hd⟩, _⟩ := I.list hs
    obtain ⟨as, hr⟩ := DqAll.reads I ha rv
    have hz' : (listText (PyData.shownAll ds)).length ≤ sizeLine := hz
    obtain ⟨bs, hb, hk⟩ := DqAll.rk I ha rv (by simpa [PyData.showable] using hw) fun t ht => Nat.le_trans (listText_mem_le ht) hz'
    have rd : Reads s.heap (.ref a) (.list ds) _ := .list ho hc hd hr
    have dp : (PyData.list ds).depth = PyData.depthAll ds + 1 := by simp only [PyData.depth]
    have far : a ∉ bs := not_mem_of_deeper rd (by rw [dp]; omega) hb
    rw [dp] at hu
    refine call_repr_slot (by omega) ⟨o, ho, hc⟩ F.slot_list_repr.toG ?_
    cases its with
    | nil =>
      cases hr
      exact call_list_repr_empty ⟨o, ho, hc⟩ ho hd ⟨_, _, rfl, hQ s.heap _ _ fun _ _ e => e⟩
    | cons x l => exact call_list_reprK ho hc hd far (by simpa using hk.length_eq) (fun i y e => hk.item i y (by simpa using e)) (A := A.in1) hg (fun b _ => Clear.nil b) (by show A.units + 1 + _ < cLine; omega) (fun _ _ e => e) (fun h' u tk hk => ⟨_, _, rfl, hQ h' u tk hk⟩) hz'
  | a, _, .tup (ds := ds) hs ha, hw, hz, hg, hu, hQ => by
    obtain ⟨its, rv, ⟨o, ho, hc, n, hd⟩, _⟩ := I.tuple hs
    obtain ⟨as, hr⟩ := DqAll.reads I ha rv
    have hz' : (tupleText (PyData.shownAll ds)).length ≤ sizeLine := hz
    obtain ⟨bs, hb, hk⟩ := DqAll.rk I ha rv (by simpa [PyData.showable] using hw) fun t ht => Nat.le_trans (tupleText_mem_le ht) hz'
    have rd : Reads s.heap (.ref a) (.tuple ds) _ := .tuple ho hc hd hr
    have dp : (PyData.tuple ds).depth = PyData.depthAll ds + 1 := by simp only [PyData.depth]
    have far : a ∉ bs := not_mem_of_deeper rd (by rw [dp]; omega) hb
    rw [dp] at hu
    exact call_repr_slot (by omega) ⟨o, ho, hc⟩ F.slot_tuple_repr (call_tuple_reprK ho hc hd far hk (A := A.in1) hg (fun b _ => Clear.nil b) (by show A.units + 1 + _ < cLine; omega) (fun _ _ e => e) (fun h' u tk hk => ⟨_, _, rfl, hQ h' u tk hk⟩) hz')
  | a, _, .dct (kvs := kvs) (ds := ds) e ha, hw, hz, hg, hu, hQ => by
    have hl : kvs.length = ds.length := by rw [← ha.len, List.length_map]
    obtain ⟨p1, p2⟩ := dict_parts hl
    obtain ⟨_, sy, vs, rel, o, es, ep, ho, hc, hd, _, hp, _⟩ := dk_of I.hok e
    obtain ⟨as, rd⟩ := Dq.reads I (Dq.dct e ha) (u := .ref a) rfl
    generalize hq : (kvs.map fun p => keyP p.1).zip ds = ps at p1 p2 hw hz rd hu hQ ⊢
    have hz' : (dictText (PyData.shownKv ps)).length ≤ sizeLine := hz
    obtain ⟨w1, w2⟩ := PyData.showableKv_split ps (by simpa [PyData.showable] using hw)
    obtain ⟨bs, hb, hk⟩ := DqAll.rk I ha (kv_vals rel) (by rw [← p2]; exact w2) fun t ht => by
      rw [← p2] at ht
      obtain ⟨q, h1, h2⟩ := PyData.shownKv_val_le ps t ht
      exact Nat.le_trans h2 (Nat.le_trans (dictText_mem_le h1) hz')
    have kk := keys_shown (h := s.heap) (bs := bs) (n := PyData.depthKv ps) hp rel (by rw [← p1]; exact w1) fun t ht => by
      rw [← p1] at ht
      obtain ⟨q, h1, h2⟩ := PyData.shownKv_key_le ps t ht
      exact Nat.le_trans h2 (Nat.le_trans (dictText_mem_le h1) hz')
    have dl : PyData.depthAll ds ≤ PyData.depthKv ps := by
      have := PyData.depthAll_vals_le ps
      rwa [p2] at this
    have dp : (PyData.dict ps).depth = PyData.depthKv ps + 1 := by simp only [PyData.depth]
    have far : a ∉ bs := not_mem_of_deeper rd (by rw [dp]; omega) (hb.mono dl)
    have st : (PyData.dict ps).shown = dictText (List.zipWith (fun k v : Str => k ++ ": " ++ v) (PyData.shownAll (kvs.map fun p => keyP p.1)) (PyData.shownAll ds)) := by
      rw [show (PyData.dict ps).shown = dictText (PyData.shownKv ps) from by simp only [PyData.shown], PyData.shownKv_eq, p1, p2]
    rw [dp] at hu
    rw [st] at hQ hz
    rw [← vals_read hp] at hk
    exact call_repr_slot (by omega) ⟨o, ho, hc.1⟩ F.slot_dict_repr (call_dict_reprK ho hc.1 hd sy far (ReprEntriesK.of_two es.toList _ _ kk (hk.more_le (fun _ z => z) dl)) (A := A.in1) hg (fun b _ => Clear.nil b) (by show A.units + 1 + _ < cLine; omega) (fun _ _ e => e) (fun h' u tk hk => ⟨_, _, rfl, hQ h' u tk hk⟩) hz)
end
end Eng

set_option maxHeartbeats 4000000
/-! EngD: a display of one pair, its key a tuple -/
namespace EngD
open PySem PySem.Spec PyProof.Rows L2
def tDisp1 (tk tv : TE) : TE := fun σ H Q => ∀ p, H p = none → tk σ (upd H p (.dT [])) fun x H1 => tv σ H1 fun y H2 => H2 p = some (.dT []) ∧ ∃ (b : Addr) (k : List Key), x = .ref b ∧ H2 b = some (.tup (k.map kV)) ∧ Q (.ref p) (upd H2 p (.dT [(k, y)]))
theorem pe_disp1 {X : Cx} {pos : Pos} {k v : Expr} {tk tv : TE} (hu : X.A.units + 1 < cLine) (hk : PE X k tk) (hv : PE X v tv) : PE X (.Dict [some k] [v] pos) (tDisp1 tk tv) := by
  refine ⟨fun pins s σ H Q I q => ?_⟩
  have hn := I.hok.fresh (Nat.le_refl s.heap.objs.size)
  have I1 := I.laid (a := s.heap.objs.size) (o := .dT []) (h' := s.heap.push { cls := .type "dict", data := .dict #[] }) (t' := s.toks) (fun _ _ q => Heap.get?_push_of_some _ q) (Nat.le_refl _) (dt_empty s.heap I.big)
  have hp := pps_cons (pos := pos) hk hv (pps_nil (X := X) (pos := pos))
  have h15 : (pairTrees [some k] [v] X.env pos).length ≤ 15 := by
    rw [pairTrees_length [some k] [v] X.env pos rfl rfl]; show 1 ≤ 15; decide
  have hne : pairTrees [some k] [v] X.env pos ≠ [] := fun e => by
    have := pairTrees_length [some k] [v] X.env pos rfl rfl
    rw [e] at this; cases this
  rw [arm_eval_Dict, zip_pairTrees [some k] [v] X.env pos rfl rfl, dictDisplay_pairs _ hne (by omega)]
  refine wpAny_bind (wpAny_standAt (wpAny_bind (wpAny_subDictH (knd := tupleKind (mixKind X.prog X.w)) (by show X.A.units < cLine; omega) h15 ?_)))
  have hq : tPairs [(tk, tv)] σ (upd H s.heap.objs.size (.dT [])) (fun ps H2 => match ps with
    | [(x, y)] => H2 s.heap.objs.size = some (.dT []) ∧ ∃ (b : Addr) (k : List Key), x = .ref b ∧ H2 b = some (.tup (k.map kV)) ∧ Q (.ref s.heap.objs.size) (upd H2 s.heap.objs.size (.dT [(k, y)]))
    | _ => False) := q _ hn
  refine thn (hp.run pins _ σ _ _ I1 hq) fun ws s2 ⟨ps, H2, I2, rel, hq⟩ => ?_
  match ps, rel, hq with
  | [(x, y)], rel, ⟨e, b, kk, ex, eb, q2⟩ =>
    subst ex
    cases rel with
    | @cons p r ps rs h t =>
    cases t
    obtain ⟨h1, h2⟩ := h
    obtain ⟨r1, r2⟩ := r
    obtain rfl : r1 = Value.ref b := h1
    obtain ⟨z, hd, xs, r0, dd⟩ := dt_of I2.hok e
    cases r0
    refine ⟨[(kk, b, r2)], ⟨rfl, rfl, key_of I2.hok eb, trivial⟩, dd, fun h' tk dd' hs => wpAny_pure ⟨.ref s.heap.objs.size, _, ?_, rfl, q2⟩⟩
    obtain ⟨q, es, ep, hq1, hq2, hq3, hq4, hq5, hq6⟩ := dd'
    refine d_write I2 (by rw [e]; exact True.intro) hs ⟨q, hq1⟩ ⟨by show 1 ≤ sizeLine; decide, hd, _, .cons ⟨rfl, ?_, h2⟩ .nil, q, es, ep, hq1, hq2, hq3, hq4, hq6⟩
    rw [upd_ne (ne_of eb e (fun z => nomatch z))]
    exact eb
end EngD

/-! Eng1: the small machine: data, cells, slots; how they lie in the abstract heap -/
namespace Eng
open PySem PySem.Spec PyProof.Rows L2

/-- data: trees that are never changed, and names of what may be changed (a slot's own object, a cell) -/
inductive D where
  | non | bl (b : Bool) | int (i : Int) | str (x : Str)
  | tup (xs : List D) | lst (xs : List D) | scr (ns : List Int) | gt (xs : List D)
  | dK (ks : List Key) (vs : List D) | dT (ks : List (List Key)) (vs : List D)
  | ins (c : Nat) (nm : List Str) (vs : List D)
  | slot (i : Nat) | cell (n : Nat)
abbrev Cells := List (Option D)
inductive Sl where
  | non | val (d : D) | own (d : D) | exc (d : D)
abbrev Rho := List Sl
/-- where the classes stand; what a suite holds: its address, its class, its dict -/
structure CA where
  f : Nat → Addr
  xa : Addr
  xc : Value
  xd : Option Addr
instance : Coe CA (Nat → Addr) := ⟨CA.f⟩
abbrev CA.of (f : Nat → Addr) : CA := ⟨f, 0, .none, none⟩

structure Wd where
  S : Hp
  al : Nat → Addr
  n : Nat

section
variable (K : PySem.W.Frag) (ca : Nat → Addr)
mutual
/-- the value v stands for the tree -/
def Rp (w : Wd) : D → V → Prop
  | .non, v => v = .non
  | .bl b, v => v = .bl b
  | .int i, v => v = .int i
  | .str x, v => v = .str x
  | .tup ds, v => ∃ a vs, v = .ref a ∧ w.S a = some (.tup vs) ∧ RpL w ds vs
  | .gt ds, v => ∃ a vs, v = .ref a ∧ SqT K w.S a vs ∧ RpL w ds vs
  | .lst ds, v => ∃ a vs, v = .ref a ∧ w.S a = some (.lst vs) ∧ RpL w ds vs
  | .scr ns, v => ∃ a, v = .ref a ∧ SqL K w.S a (ns.map V.int)
  | .dK ks ds, v => ∃ a kvs, v = .ref a ∧ w.S a = some (.dK kvs) ∧ kvs.map (·.1) = ks ∧ RpL w ds (kvs.map (·.2))
  | .dT ks ds, v => ∃ a kvs, v = .ref a ∧ w.S a = some (.dT kvs) ∧ kvs.map (·.1) = ks ∧ RpL w ds (kvs.map (·.2))
  | .ins c nm ds, v => ∃ a dx fs, v = .ref a ∧ w.S a = some (.ins (ca c) dx fs) ∧ fs.map (·.1) = nm ∧ RpL w ds (fs.map (·.2))
  | .slot _, _ => False
  | .cell n, v => v = .ref (w.al n) ∧ n < w.n
def RpL (w : Wd) : List D → List V → Prop
  | [], vs => vs = []
  | d :: ds, vs => ∃ v r, vs = v :: r ∧ Rp w d v ∧ RpL w ds r
end
/-- the object at an address has that content -/
def RpO (w : Wd) : D → HO → Prop
  | .lst ds, o => ∃ vs, o = .lst vs ∧ RpL K ca w ds vs
  | .dK ks ds, o => ∃ kvs, o = .dK kvs ∧ kvs.map (·.1) = ks ∧ RpL K ca w ds (kvs.map (·.2))
  | .dT ks ds, o => ∃ kvs, o = .dT kvs ∧ kvs.map (·.1) = ks ∧ RpL K ca w ds (kvs.map (·.2))
  | .ins c nm ds, o => ∃ dx fs, o = .ins (ca c) dx fs ∧ fs.map (·.1) = nm ∧ RpL K ca w ds (fs.map (·.2))
  | .tup ds, o => ∃ vs, o = .tup vs ∧ RpL K ca w ds vs
  | _, _ => False
/-- the value v has that content now -/
def At (w : Wd) (H : Hp) : D → V → Prop
  | .tup ds, v => ∃ a vs, v = .ref a ∧ H a = some (.tup vs) ∧ RpL K ca w ds vs
  | .gt ds, v => ∃ a vs, v = .ref a ∧ SqT K H a vs ∧ RpL K ca w ds vs
  | .scr ns, v => ∃ a, v = .ref a ∧ SqL K H a (ns.map V.int)
  | .lst ds, v => ∃ a vs, v = .ref a ∧ H a = some (.lst vs) ∧ RpL K ca w ds vs
  | .dK ks ds, v => ∃ a kvs, v = .ref a ∧ H a = some (.dK kvs) ∧ kvs.map (·.1) = ks ∧ RpL K ca w ds (kvs.map (·.2))
  | .dT ks ds, v => ∃ a kvs, v = .ref a ∧ H a = some (.dT kvs) ∧ kvs.map (·.1) = ks ∧ RpL K ca w ds (kvs.map (·.2))
  | .ins c nm ds, v => ∃ a dx fs, v = .ref a ∧ H a = some (.ins (ca c) dx fs) ∧ fs.map (·.1) = nm ∧ RpL K ca w ds (fs.map (·.2))
  | .slot _, _ => False
  | .cell _, _ => False
  | .non, v => v = .non
  | .bl b, v => v = .bl b
  | .int i, v => v = .int i
  | .str x, v => v = .str x
def AtL (w : Wd) (H : Hp) : List D → List V → Prop
  | [], vs => vs = []
  | d :: ds, vs => ∃ v r, vs = v :: r ∧ At K ca w H d v ∧ AtL w H ds r
end

def Live (c : Cells) (n : Nat) : Prop := ∃ d, c[n]? = some (some d)
structure Rel (K : PySem.W.Frag) (ca : Nat → Addr) (w : Wd) (c : Cells) (H : Hp) : Prop where
  same : Same w.S H
  num : w.n = c.length
  cell : ∀ n d, c[n]? = some (some d) → (∃ o, H (w.al n) = some o ∧ RpO K ca w d o) ∧ w.S (w.al n) = none
  inj : ∀ n m, Live c n → Live c m → w.al n = w.al m → n = m
structure Ext (T : Hp) (w : Wd) (c : Cells) (H : Hp) (w' : Wd) (c' : Cells) (H' : Hp) : Prop where
  S : Same w.S w'.S
  al : ∀ n, n < w.n → w'.al n = w.al n
  num : w.n ≤ w'.n
  frame : ∀ a o, T a ≠ none → H a = some o → (∀ n, Live c n → w.al n ≠ a) → H' a = some o
  trk : ∀ a, H a ≠ none → H' a ≠ none
  new : ∀ n, Live c' n → Live c n ∨ (w.n ≤ n ∧ T (w'.al n) = none)
  liv : ∀ n, Live c n → n < w.n
  liv' : ∀ n, Live c' n → n < w'.n
  tH : ∀ a, T a ≠ none → H a ≠ none
  newS : ∀ a, w'.S a ≠ none → w.S a ≠ none ∨ T a = none ∨ ∃ n, Live c n ∧ w.al n = a

section
variable {K : PySem.W.Frag} {ca : Nat → Addr} {w w1 w2 w' : Wd} {c c1 c2 c' : Cells} {H H1 H2 H' : Hp}
theorem Live.lt {n : Nat} (h : Live c n) : n < c.length := by
  obtain ⟨d, e⟩ := h
  exact (List.getElem?_eq_some_iff.mp e).1
theorem Rel.liv (r : Rel K ca w c H) {n : Nat} (h : Live c n) : n < w.n := by rw [r.num]; exact h.lt
theorem Ext.refl (r : Rel K ca w c H) {T : Hp} (tH : ∀ a, T a ≠ none → H a ≠ none) : Ext T w c H w c H := ⟨Same.refl _, fun _ _ => rfl, Nat.le_refl _, fun _ _ _ h _ => h, fun _ h => h, fun _ h => .inl h, fun _ h => r.liv h, fun _ h => r.liv h, tH, fun _ h => .inl h⟩
theorem Ext.trans {T T1 : Hp} (a : Ext T w c H w1 c1 H1) (b : Ext T1 w1 c1 H1 w2 c2 H2) (hT : ∀ x, T x ≠ none → T1 x ≠ none) : Ext T w c H w2 c2 H2 where
  S := a.S.trans b.S
  al := fun n h => (b.al n (Nat.lt_of_lt_of_le h a.num)).trans (a.al n h)
  num := Nat.le_trans a.num b.num
  frame := fun x o t h hn => b.frame x o (hT x t) (a.frame x o t h hn) fun n hl e => by
    rcases a.new n hl with q | ⟨q1, q2⟩
    · exact hn n q ((a.al n (a.liv n q)).symm.trans e)
    · rw [e] at q2; exact t q2
  trk := fun x h => b.trk x (a.trk x h)
  new := fun n h => by
    rcases b.new n h with q | ⟨q1, q2⟩
    · rcases a.new n q with q | ⟨q1, q2⟩
      · exact .inl q
      · refine .inr ⟨q1, ?_⟩
        rw [b.al n (b.liv n ‹Live c1 n›)]; exact q2
    · refine .inr ⟨Nat.le_trans a.num q1, ?_⟩
      cases e : T (w2.al n) with
      | none => rfl
      | some o => exact absurd q2 (hT _ (by rw [e]; simp))
  liv := a.liv
  liv' := b.liv'
  tH := a.tH
  newS := fun x h => by
    rcases b.newS x h with q | q | ⟨n, q1, q2⟩
    · exact a.newS x q
    · cases e : T x with
      | none => exact .inr (.inl rfl)
      | some o => exact absurd q (hT x (by rw [e]; simp))
    · rcases a.new n q1 with z | ⟨z1, z2⟩
      · exact .inr (.inr ⟨n, z, (a.al n (a.liv n z)).symm.trans q2⟩)
      · rw [q2] at z2
        exact .inr (.inl z2)
/-- from a farther look back -/
theorem Ext.wk {T T' : Hp} (a : Ext T w c H w1 c1 H1) (h : ∀ x, T' x ≠ none → T x ≠ none) : Ext T' w c H w1 c1 H1 :=
  ⟨a.S, a.al, a.num, fun x o t => a.frame x o (h x t), a.trk, fun n hn => by
    rcases a.new n hn with z | ⟨z1, z2⟩
    · exact .inl z
    · cases e : T' (w1.al n) with
      | none => exact .inr ⟨z1, rfl⟩
      | some o => exact absurd z2 (h _ (by rw [e]; simp)), a.liv, a.liv', fun x q => a.tH x (h x q), fun x q => by
    rcases a.newS x q with z | z | z
    · exact .inl z
    · cases e : T' x with
      | none => exact .inr (.inl rfl)
      | some o => exact absurd z (h x (by rw [e]; simp))
    · exact .inr (.inr z)⟩
/-- two steps of an expression -/
theorem Ext.tr (a : Ext H w c H w1 c1 H1) (b : Ext H1 w1 c1 H1 w2 c2 H2) : Ext H w c H w2 c2 H2 := a.trans b a.trk
theorem sqt_mono {S S' : Hp} {a : Addr} {vs : List V} (s : Same S S') (h : SqT K S a vs) : SqT K S' a vs := by
  rcases h with (h | ⟨o, h⟩) | h
  · exact .inl (.inl (s _ _ h))
  · exact .inl (.inr ⟨o, s _ _ h⟩)
  · exact .inr h
theorem sql_mono {S S' : Hp} {a : Addr} {vs : List V} (s : Same S S') (h : SqL K S a vs) : SqL K S' a vs := s.seq h
mutual
theorem Rp.mono (hS : Same w.S w'.S) (hal : ∀ n, n < w.n → w'.al n = w.al n) (hn : w.n ≤ w'.n) : ∀ (d : D) (v : V), Rp K ca w d v → Rp K ca w' d v
  | .non, _, h => h
  | .bl _, _, h => h
  | .int _, _, h => h
  | .str _, _, h => h
  | .tup ds, v, h => by
    obtain ⟨a, vs, e, s, r⟩ := h
    exact ⟨a, vs, e, hS _ _ s, RpL.mono hS hal hn ds vs r⟩
  | .gt ds, v, h => by
    obtain ⟨a, vs, e, s, r⟩ := h
    exact ⟨a, vs, e, sqt_mono hS s, RpL.mono hS hal hn ds vs r⟩
  | .lst ds, v, h => by
    obtain ⟨a, vs, e, s, r⟩ := h
    exact ⟨a, vs, e, hS _ _ s, RpL.mono hS hal hn ds vs r⟩
  | .scr ns, v, h => by
    obtain ⟨a, e, s⟩ := h
    exact ⟨a, e, sql_mono hS s⟩
  | .dK ks ds, v, h => by
    obtain ⟨a, kvs, e, s, k, r⟩ := h
    exact ⟨a, kvs, e, hS _ _ s, k, RpL.mono hS hal hn ds _ r⟩
  | .dT ks ds, v, h => by
    obtain ⟨a, kvs, e, s, k, r⟩ := h
    exact ⟨a, kvs, e, hS _ _ s, k, RpL.mono hS hal hn ds _ r⟩
  | .ins c nm ds, v, h => by
    obtain ⟨a, dx, fs, e, s, k, r⟩ := h
    exact ⟨a, dx, fs, e, hS _ _ s, k, RpL.mono hS hal hn ds _ r⟩
  | .slot _, _, h => h
  | .cell n, v, h => by
    obtain ⟨e, hb⟩ := h
    exact ⟨by rw [hal n hb]; exact e, Nat.lt_of_lt_of_le hb hn⟩
theorem RpL.mono (hS : Same w.S w'.S) (hal : ∀ n, n < w.n → w'.al n = w.al n) (hn : w.n ≤ w'.n) : ∀ (ds : List D) (vs : List V), RpL K ca w ds vs → RpL K ca w' ds vs
  | [], _, h => h
  | d :: ds, vs, h => by
    obtain ⟨v, r, e, h1, h2⟩ := h
    exact ⟨v, r, e, Rp.mono hS hal hn d v h1, RpL.mono hS hal hn ds r h2⟩
end
theorem Ext.rp {T : Hp} (x : Ext T w c H w' c' H') {d : D} {v : V} (h : Rp K ca w d v) : Rp K ca w' d v := h.mono x.S x.al x.num
theorem Ext.rpl {T : Hp} (x : Ext T w c H w' c' H') {d : List D} {v : List V} (h : RpL K ca w d v) : RpL K ca w' d v := h.mono x.S x.al x.num
theorem RpO.mono (hS : Same w.S w'.S) (hal : ∀ n, n < w.n → w'.al n = w.al n) (hn : w.n ≤ w'.n) {d : D} {o : HO} (h : RpO K ca w d o) : RpO K ca w' d o := by
  cases d with
  | lst ds => obtain ⟨vs, e, r⟩ := h; exact ⟨vs, e, r.mono hS hal hn⟩
  | tup ds => obtain ⟨vs, e, r⟩ := h; exact ⟨vs, e, r.mono hS hal hn⟩
  | dK ks ds => obtain ⟨vs, e, k, r⟩ := h; exact ⟨vs, e, k, r.mono hS hal hn⟩
  | dT ks ds => obtain ⟨vs, e, k, r⟩ := h; exact ⟨vs, e, k, r.mono hS hal hn⟩
  | ins cc nm ds => obtain ⟨dx, fs, e, k, r⟩ := h; exact ⟨dx, fs, e, k, r.mono hS hal hn⟩
  | _ => exact h.elim
theorem Ext.rpo {T : Hp} (x : Ext T w c H w' c' H') {d : D} {o : HO} (h : RpO K ca w d o) : RpO K ca w' d o := h.mono x.S x.al x.num
theorem RpL.length : ∀ {ds : List D} {vs : List V}, RpL K ca w ds vs → ds.length = vs.length
  | [], _, h => by cases h; rfl
  | d :: ds, vs, h => by
    obtain ⟨v, r, e, h1, h2⟩ := h
    subst e
    rw [List.length_cons, List.length_cons, RpL.length h2]
theorem RpL.get : ∀ {ds : List D} {vs : List V} {i : Nat} {d : D}, RpL K ca w ds vs → ds[i]? = some d → ∃ v, vs[i]? = some v ∧ Rp K ca w d v
  | [], _, _, _, _, e => by simp at e
  | d :: ds, vs, 0, d', h, e => by
    obtain ⟨v, r, e1, h1, h2⟩ := h
    subst e1
    have e' : d = d' := by simpa using e
    subst e'
    exact ⟨v, rfl, h1⟩
  | d :: ds, vs, i + 1, d', h, e => by
    obtain ⟨v, r, e1, h1, h2⟩ := h
    subst e1
    obtain ⟨u, q1, q2⟩ := RpL.get (i := i) h2 (by simpa using e)
    exact ⟨u, by simpa using q1, q2⟩
theorem RpL.append : ∀ {ds es : List D} {vs us : List V}, RpL K ca w ds vs → RpL K ca w es us → RpL K ca w (ds ++ es) (vs ++ us)
  | [], _, _, _, h, h' => by cases h; exact h'
  | d :: ds, es, vs, us, h, h' => by
    obtain ⟨v, r, e1, h1, h2⟩ := h
    subst e1
    exact ⟨v, r ++ us, rfl, h1, RpL.append h2 h'⟩
theorem RpL.one {d : D} {v : V} (h : Rp K ca w d v) : RpL K ca w [d] [v] := ⟨v, [], rfl, h, rfl⟩
theorem RpL.take : ∀ {ds : List D} {vs : List V} (n : Nat), RpL K ca w ds vs → RpL K ca w (ds.take n) (vs.take n)
  | [], _, n, h => by cases h; rw [List.take_nil, List.take_nil]; rfl
  | d :: ds, vs, 0, h => rfl
  | d :: ds, vs, n + 1, h => by
    obtain ⟨v, r, e1, h1, h2⟩ := h
    subst e1
    exact ⟨v, r.take n, rfl, h1, RpL.take n h2⟩
theorem RpL.drop : ∀ {ds : List D} {vs : List V} (n : Nat), RpL K ca w ds vs → RpL K ca w (ds.drop n) (vs.drop n)
  | [], _, n, h => by cases h; rw [List.drop_nil, List.drop_nil]; rfl
  | d :: ds, vs, 0, h => h
  | d :: ds, vs, n + 1, h => by
    obtain ⟨v, r, e1, h1, h2⟩ := h
    subst e1
    exact RpL.drop n h2
theorem RpL.reverse : ∀ {ds : List D} {vs : List V}, RpL K ca w ds vs → RpL K ca w ds.reverse vs.reverse
  | [], _, h => by cases h; rfl
  | d :: ds, vs, h => by
    obtain ⟨v, r, e1, h1, h2⟩ := h
    subst e1
    rw [List.reverse_cons, List.reverse_cons]
    exact (RpL.reverse h2).append (RpL.one h1)
/-- what may be said of a value, of what stands there now -/
theorem Rp.at (r : Rel K ca w c H) {d : D} {v : V} (h : Rp K ca w d v) (hc : ∀ n, d ≠ .cell n) : At K ca w H d v := by
  cases d with
  | tup ds => obtain ⟨a, vs, e, s, q⟩ := h; exact ⟨a, vs, e, r.same _ _ s, q⟩
  | gt ds => obtain ⟨a, vs, e, s, q⟩ := h; exact ⟨a, vs, e, sqt_mono r.same s, q⟩
  | lst ds => obtain ⟨a, vs, e, s, q⟩ := h; exact ⟨a, vs, e, r.same _ _ s, q⟩
  | scr ns => obtain ⟨a, e, s⟩ := h; exact ⟨a, e, sql_mono r.same s⟩
  | dK ks ds => obtain ⟨a, kvs, e, s, k, q⟩ := h; exact ⟨a, kvs, e, r.same _ _ s, k, q⟩
  | dT ks ds => obtain ⟨a, kvs, e, s, k, q⟩ := h; exact ⟨a, kvs, e, r.same _ _ s, k, q⟩
  | ins cc nm ds => obtain ⟨a, dx, fs, e, s, k, q⟩ := h; exact ⟨a, dx, fs, e, r.same _ _ s, k, q⟩
  | slot i => exact h
  | cell n => exact absurd rfl (hc n)
  | non => exact h
  | bl b => exact h
  | int i => exact h
  | str x => exact h
theorem RpO.at {d : D} {o : HO} {a : Addr} (h : RpO K ca w d o) (ho : H a = some o) : At K ca w H d (.ref a) := by
  cases d with
  | lst ds => obtain ⟨vs, e, q⟩ := h; subst e; exact ⟨a, vs, rfl, ho, q⟩
  | tup ds => obtain ⟨vs, e, q⟩ := h; subst e; exact ⟨a, vs, rfl, ho, q⟩
  | dK ks ds => obtain ⟨kvs, e, k, q⟩ := h; subst e; exact ⟨a, kvs, rfl, ho, k, q⟩
  | dT ks ds => obtain ⟨kvs, e, k, q⟩ := h; subst e; exact ⟨a, kvs, rfl, ho, k, q⟩
  | ins cc nm ds => obtain ⟨dx, fs, e, k, q⟩ := h; subst e; exact ⟨a, dx, fs, rfl, ho, k, q⟩
  | _ => exact h.elim
/-- a new object is laid among what never changes -/
theorem Rel.lay (r : Rel K ca w c H) {p : Addr} {o : HO} (hp : H p = none) {T : Hp} (tH : ∀ a, T a ≠ none → H a ≠ none) : Rel K ca { w with S := upd w.S p o } c (upd H p o) ∧ Ext T w c H { w with S := upd w.S p o } c (upd H p o) := by
  have hS : w.S p = none := r.same.free hp
  have sm : Same w.S (upd w.S p o) := fun b u e => by rw [upd_ne (ne_of_none e hS)]; exact e
  have ne : ∀ n, Live c n → w.al n ≠ p := fun n ⟨d, e⟩ z => by
    obtain ⟨⟨o', q, _⟩, _⟩ := r.cell n d e
    rw [z, hp] at q; cases q
  refine ⟨⟨fun b u e => ?_, r.num, fun n d e => ?_, r.inj⟩, sm, fun _ _ => rfl, Nat.le_refl _, fun a u _ e _ => ?_, fun a h => ?_, fun n h => .inl h, fun _ h => r.liv h, fun _ h => r.liv h, tH, fun a h => ?_⟩
  · by_cases hb : b = p
    · subst hb
      have e' : upd w.S b o b = some u := e
      rw [upd_same] at e' ⊢; exact e'
    · have e' : upd w.S p o b = some u := e
      rw [upd_ne hb] at e' ⊢; exact r.same _ _ e'
  · obtain ⟨⟨o', q, rp⟩, z⟩ := r.cell n d e
    refine ⟨⟨o', ?_, RpO.mono (w := w) (w' := { w with S := upd w.S p o }) sm (fun _ _ => rfl) (Nat.le_refl _) rp⟩, ?_⟩
    · show upd H p o (w.al n) = _
      rw [upd_ne (ne n ⟨d, e⟩)]; exact q
    · show upd w.S p o (w.al n) = none
      rw [upd_ne (ne n ⟨d, e⟩)]; exact z
  · rw [upd_ne (ne_of_none e hp)]; exact e
  · by_cases hb : a = p
    · subst hb; rw [upd_same]; simp
    · rw [upd_ne hb]; exact h
  · by_cases hb : a = p
    · subst hb
      cases e : T a with
      | none => exact .inr (.inl rfl)
      | some o => exact absurd hp (tH a (by rw [e]; simp))
    · have h' : upd w.S p o a ≠ none := h
      rw [upd_ne hb] at h'; exact .inl h'
/-- a new object comes that nobody speaks of -/
theorem Rel.grow (r : Rel K ca w c H) {p : Addr} {o : HO} (hp : H p = none) {T : Hp} (tH : ∀ a, T a ≠ none → H a ≠ none) : Rel K ca w c (upd H p o) ∧ Ext T w c H w c (upd H p o) := by
  have ne : ∀ n, Live c n → w.al n ≠ p := fun n ⟨d, e⟩ z => by
    obtain ⟨⟨o', q, _⟩, _⟩ := r.cell n d e
    rw [z, hp] at q; cases q
  refine ⟨⟨fun b u e => ?_, r.num, fun n d e => ?_, r.inj⟩, Same.refl _, fun _ _ => rfl, Nat.le_refl _, fun a u _ e _ => ?_, fun a h => ?_, fun n h => .inl h, fun _ h => r.liv h, fun _ h => r.liv h, tH, fun _ h => .inl h⟩
  · rw [upd_ne (ne_of_none (r.same _ _ e) hp)]; exact r.same _ _ e
  · obtain ⟨⟨o', q, rp⟩, z⟩ := r.cell n d e
    exact ⟨⟨o', by rw [upd_ne (ne n ⟨d, e⟩)]; exact q, rp⟩, z⟩
  · rw [upd_ne (ne_of_none e hp)]; exact e
  · by_cases hb : a = p
    · subst hb; rw [upd_same]; simp
    · rw [upd_ne hb]; exact h
/-- what nobody speaks of comes to what never changes -/
theorem Rel.keep (r : Rel K ca w c H) {p : Addr} {o : HO} (hp : H p = some o) (hS : w.S p = none) (hc : ∀ n, Live c n → w.al n ≠ p) {T : Hp} (tH : ∀ a, T a ≠ none → H a ≠ none) (hT : T p = none) : Rel K ca { w with S := upd w.S p o } c H ∧ Ext T w c H { w with S := upd w.S p o } c H := by
  have sm : Same w.S (upd w.S p o) := fun b u e => by rw [upd_ne (ne_of_none e hS)]; exact e
  refine ⟨⟨fun b u e => ?_, r.num, fun n d e => ?_, r.inj⟩, sm, fun _ _ => rfl, Nat.le_refl _, fun a u _ e _ => e, fun a h => h, fun n h => .inl h, fun _ h => r.liv h, fun _ h => r.liv h, tH, fun a h => ?_⟩
  · by_cases hb : b = p
    · subst hb
      have e' : upd w.S b o b = some u := e
      rw [upd_same] at e'; rw [← e']; exact hp
    · have e' : upd w.S p o b = some u := e
      rw [upd_ne hb] at e'; exact r.same _ _ e'
  · obtain ⟨⟨o', q, rp⟩, z⟩ := r.cell n d e
    refine ⟨⟨o', q, RpO.mono (w := w) (w' := { w with S := upd w.S p o }) sm (fun _ _ => rfl) (Nat.le_refl _) rp⟩, ?_⟩
    show upd w.S p o (w.al n) = none
    rw [upd_ne (hc n ⟨d, e⟩)]; exact z
  · by_cases hb : a = p
    · subst hb; exact .inr (.inl hT)
    · have h' : upd w.S p o a ≠ none := h
      rw [upd_ne hb] at h'; exact .inl h'
/-- .. comes to be a cell -/
theorem Rel.tocell {w0 : Wd} {c0 : Cells} (r : Rel K ca w c H) {p : Addr} {o : HO} {d : D} (hp : H p = some o) (hS : w.S p = none) (hc : ∀ n, Live c n → w.al n ≠ p) (hd : RpO K ca w d o) {Hs T : Hp} (hs : T p = none) (tH : ∀ a, T a ≠ none → Hs a ≠ none) (hx : Ext T w0 c0 Hs w c H) :
    Rel K ca { w with al := fun n => if n = w.n then p else w.al n, n := w.n + 1 } (c ++ [some d]) H ∧ Ext T w0 c0 Hs { w with al := fun n => if n = w.n then p else w.al n, n := w.n + 1 } (c ++ [some d]) H := by
  have al0 : ∀ n, n < w.n → (fun n => if n = w.n then p else w.al n) n = w.al n := fun n h => if_neg (Nat.ne_of_lt h)
  have old : ∀ n d', (c ++ [some d])[n]? = some (some d') → (n = w.n ∧ d' = d) ∨ c[n]? = some (some d') := fun n d' e => by
    by_cases hn : n < c.length
    · rw [List.getElem?_append_left hn] at e; exact .inr e
    · rw [List.getElem?_append_right (by omega)] at e
      have : n - c.length = 0 := by
        rcases Nat.eq_zero_or_pos (n - c.length) with z | z
        · exact z
        · rw [List.getElem?_eq_none (by simp; omega)] at e; cases e
      rw [this] at e
      have e' : some d = some d' := by simpa using e
      refine .inl ⟨?_, (Option.some.inj e').symm⟩
      rw [r.num]; omega
  have new : ∀ n, Live (c ++ [some d]) n → n = w.n ∨ (Live c n ∧ n < w.n) := fun n ⟨d', e⟩ => by
    rcases old n d' e with ⟨z, _⟩ | z
    · exact .inl z
    · exact .inr ⟨⟨d', z⟩, r.liv ⟨d', z⟩⟩
  refine ⟨⟨r.same, by simp [r.num], fun n d' e => ?_, fun n m hn hm e => ?_⟩, hx.S, fun n h => ?_, Nat.le_trans hx.num (Nat.le_succ _), hx.frame, hx.trk, fun n h => ?_, hx.liv, fun n h => ?_, tH, hx.newS⟩
  · rcases old n d' e with ⟨rfl, rfl⟩ | z
    · refine ⟨⟨o, ?_, RpO.mono (w := w) (w' := { w with al := fun n => if n = w.n then p else w.al n, n := w.n + 1 }) (Same.refl _) al0 (Nat.le_succ _) hd⟩, ?_⟩
      · show H (if w.n = w.n then p else _) = _
        rw [if_pos rfl]; exact hp
      · show w.S (if w.n = w.n then p else _) = _
        rw [if_pos rfl]; exact hS
    · obtain ⟨⟨o', q, rp⟩, y⟩ := r.cell n d' z
      have hlt : n < w.n := r.liv ⟨d', z⟩
      refine ⟨⟨o', ?_, RpO.mono (w := w) (w' := { w with al := fun n => if n = w.n then p else w.al n, n := w.n + 1 }) (Same.refl _) al0 (Nat.le_succ _) rp⟩, ?_⟩
      · show H ((fun n => if n = w.n then p else w.al n) n) = _
        rw [al0 n hlt]; exact q
      · show w.S ((fun n => if n = w.n then p else w.al n) n) = _
        rw [al0 n hlt]; exact y
  · have e' : (fun n => if n = w.n then p else w.al n) n = (fun n => if n = w.n then p else w.al n) m := e
    rcases new n hn with rfl | ⟨n1, n2⟩
    · rcases new m hm with rfl | ⟨m1, m2⟩
      · rfl
      · rw [al0 m m2] at e'
        have e2 : p = w.al m := by simpa using e'
        exact absurd e2.symm (hc m m1)
    · rcases new m hm with rfl | ⟨m1, m2⟩
      · rw [al0 n n2] at e'
        have e2 : w.al n = p := by simpa using e'
        exact absurd e2 (hc n n1)
      · rw [al0 n n2, al0 m m2] at e'
        exact r.inj n m n1 m1 e'
  · show (fun n => if n = w.n then p else w.al n) n = _
    rw [al0 n (Nat.lt_of_lt_of_le h hx.num)]; exact hx.al n h
  · rcases new n h with rfl | ⟨n1, n2⟩
    · refine .inr ⟨hx.num, ?_⟩
      show T ((fun n => if n = w.n then p else w.al n) w.n) = none
      simp only [if_true]; exact hs
    · rcases hx.new n n1 with z | ⟨z1, z2⟩
      · exact .inl z
      · refine .inr ⟨z1, ?_⟩
        show T ((fun n => if n = w.n then p else w.al n) n) = none
        rw [al0 n n2]; exact z2
  · rcases new n h with rfl | ⟨n1, n2⟩
    · exact Nat.lt_succ_self _
    · exact Nat.lt_succ_of_lt n2
/-- a cell's content is changed -/
theorem Rel.put (r : Rel K ca w c H) {n : Nat} {d : D} {o : HO} (hl : Live c n) (hd : RpO K ca w d o) {T : Hp} (tH : ∀ a, T a ≠ none → H a ≠ none) : Rel K ca w (c.set n (some d)) (upd H (w.al n) o) ∧ Ext T w c H w (c.set n (some d)) (upd H (w.al n) o) := by
  have hlt : n < c.length := hl.lt
  have hlv : ∀ m, Live (c.set n (some d)) m → Live c m := fun m ⟨d', e⟩ => by
    by_cases hm : n = m
    · subst hm; exact hl
    · rw [List.getElem?_set_ne hm] at e; exact ⟨d', e⟩
  obtain ⟨d0, e0⟩ := id hl
  obtain ⟨⟨o0, q0, _⟩, z0⟩ := r.cell n d0 e0
  refine ⟨⟨fun b u e => ?_, by rw [List.length_set]; exact r.num, fun m d' e => ?_, fun m k hm hk => r.inj m k (hlv m hm) (hlv k hk)⟩, Same.refl _, fun _ _ => rfl, Nat.le_refl _, fun a u _ e ha => ?_, fun a h => ?_, fun m h => .inl (hlv m h), fun _ h => r.liv h, fun m h => r.liv (hlv m h), tH, fun _ h => .inl h⟩
  · rw [upd_ne (ne_of_none e z0)]; exact r.same _ _ e
  · by_cases hm : n = m
    · subst hm
      rw [List.getElem?_set_self hlt] at e
      have e' : d = d' := by simpa using e
      subst e'
      exact ⟨⟨o, upd_same, hd⟩, z0⟩
    · rw [List.getElem?_set_ne hm] at e
      obtain ⟨⟨o', q, rp⟩, z⟩ := r.cell m d' e
      exact ⟨⟨o', by rw [upd_ne (fun z => hm (r.inj m n ⟨d', e⟩ hl z).symm)]; exact q, rp⟩, z⟩
  · rw [upd_ne (fun z => ha n hl z.symm)]; exact e
  · by_cases hb : a = w.al n
    · subst hb; rw [upd_same]; simp
    · rw [upd_ne hb]; exact h
end
end Eng

/-! Eng2: runs of the small machine, and how they read a piece of Python -/
namespace Eng
open PySem PySem.Spec PyProof.Rows L2

inductive R (α : Type) where
  | ok (a : α)
  | ex (x : D)
/-- what runs: nothing (it does not run), or an answer (or a raised thing) and the cells behind it -/
abbrev Ans (α : Type) := Option (R α × Cells)
def bnd {α β : Type} (m : Ans α) (k : α → Cells → Ans β) : Ans β :=
  match m with
  | none => none
  | some (.ok a, c) => k a c
  | some (.ex x, c) => some (.ex x, c)
@[simp] theorem bnd_ok {α β : Type} (a : α) (c : Cells) (k : α → Cells → Ans β) : bnd (some (.ok a, c)) k = k a c := rfl
@[simp] theorem bnd_none {α β : Type} (k : α → Cells → Ans β) : bnd none k = none := rfl
@[simp] theorem bnd_ex {α β : Type} (x : D) (c : Cells) (k : α → Cells → Ans β) : bnd (some (.ex x, c)) k = some (.ex x, c) := rfl
/-- only answers -/
def noex {α : Type} (m : Ans α) : Ans α :=
  match m with
  | some (.ok a, c) => some (.ok a, c)
  | _ => none
@[simp] theorem noex_ok {α : Type} (a : α) (c : Cells) : noex (some (.ok a, c)) = some (.ok a, c) := rfl

section
variable (K : PySem.W.Frag) (ca : Nat → Addr)
/-- a raised thing as it lies: its dict is new since T -/
def ExR (T : Hp) (w : Wd) (H : Hp) : D → Value → Option Addr → Prop
  | .ins c nm vs, cls, dx => cls = .ref (ca c) ∧ ((nm = [] ∧ vs = [] ∧ dx = none) ∨ ∃ d fs, dx = some d ∧ T d = none ∧ H d = some (.xd fs) ∧ fs.map (·.1) = nm ∧ RpL K ca w vs (fs.map (·.2)))
  | _, _, _ => False
/-- a run, and what is wanted behind it; T: the heap from which new things are new -/
def RunT {α : Type} (T : Hp) (W : XK) (w : Wd) (c : Cells) (H : Hp) (res : Ans α) (P : α → Wd → Cells → Hp → Prop) : Prop :=
  ∃ r c', res = some (r, c') ∧ (∀ a, r = .ok a → ∀ w' H', Rel K ca w' c' H' → Ext T w c H w' c' H' → P a w' c' H') ∧
    (∀ x, r = .ex x → ∀ cls dx w' H', Rel K ca w' c' H' → Ext T w c H w' c' H' → ExR K ca T w' H' x cls dx → W cls dx H')
abbrev Run {α : Type} (W : XK) (w : Wd) (c : Cells) (H : Hp) (res : Ans α) (P : α → Wd → Cells → Hp → Prop) : Prop := RunT K ca H W w c H res P

/-- an expression's value: what it is, or the own object of a slot -/
def EV (w : Wd) (ρ : Rho) (σ : L2.St) : D → V → Prop
  | .slot i, v => (∃ d, ρ[i]? = some (Sl.own d)) ∧ σ[i]? = some (some v)
  | d, v => Rp K ca w d v
/-- a value that is new since T, with nobody else to speak of it -/
def New (T : Hp) (w : Wd) (c : Cells) (H : Hp) (d : D) (v : V) : Prop :=
  ∃ p o, v = .ref p ∧ H p = some o ∧ RpO K ca w d o ∧ w.S p = none ∧ T p = none ∧ ∀ n, Live c n → w.al n ≠ p
def NV (T : Hp) (w : Wd) (c : Cells) (H : Hp) (ρ : Rho) (σ : L2.St) : D × Bool → V → Prop
  | (d, true), v => New K ca T w c H d v
  | (d, false), v => EV K ca w ρ σ d v
/-- what a def hands back -/
def RtV (T : Hp) (w : Wd) (c : Cells) (H : Hp) : D × Bool → V → Prop
  | (d, true), v => New K ca T w c H d v
  | (d, false), v => Rp K ca w d v

end
section
variable (K : PySem.W.Frag) (ca : CA)
/-- what a suite holds is that raised thing -/
def ExS (w : Wd) : D → Prop
  | .ins c nm vs => ca.xc = .ref (ca.f c) ∧ ((nm = [] ∧ vs = [] ∧ ca.xd = none) ∨ ∃ d fs, ca.xd = some d ∧ w.S d = some (.xd fs) ∧ fs.map (·.1) = nm ∧ RpL K ca w vs (fs.map (·.2)))
  | _ => False
/-- the frame's slots: values, own objects -/
structure RhoR (w : Wd) (c : Cells) (H0 H : Hp) (ρ : Rho) (σ : L2.St) : Prop where
  len : ρ.length = σ.length
  val : ∀ (i : Nat) (d : D), ρ[i]? = some (Sl.val d) → ∃ v, σ[i]? = some (some v) ∧ Rp K ca w d v
  own : ∀ (i : Nat) (d : D), ρ[i]? = some (Sl.own d) → ∃ a o, σ[i]? = some (some (V.ref a)) ∧ H a = some o ∧ RpO K ca w d o ∧ w.S a = none ∧ H0 a = none ∧ ∀ n, Live c n → w.al n ≠ a
  dis : ∀ (i j : Nat) (d e : D) (a : Addr), ρ[i]? = some (Sl.own d) → ρ[j]? = some (Sl.own e) → σ[i]? = some (some (V.ref a)) → σ[j]? = some (some (V.ref a)) → i = j
  trk : ∀ a, H0 a ≠ none → H a ≠ none
  exc : ∀ (i : Nat) (d : D), ρ[i]? = some (Sl.exc d) → σ[i]? = some (some (V.ref ca.xa)) ∧ ExS K ca w d

abbrev WQ := Value → Option Addr → L2.St → Hp → Prop
def SemN (H0 : Hp) (W : WQ) (f : Rho → Cells → Ans (D × Bool)) : TE := fun σ H Q =>
  ∃ w ρ c, Rel K ca w c H ∧ RhoR K ca w c H0 H ρ σ ∧ Run K ca (fun cls dx H' => W cls dx σ H') w c H (f ρ c) fun d w' c' H' => ∀ v, NV K ca H w' c' H' ρ σ d v → Q v H'
def SemE (H0 : Hp) (W : WQ) (f : Rho → Cells → Ans D) : TE := fun σ H Q =>
  ∃ w ρ c, Rel K ca w c H ∧ RhoR K ca w c H0 H ρ σ ∧ Run K ca (fun cls dx H' => W cls dx σ H') w c H (f ρ c) fun d w' c' H' => ∀ v, EV K ca w' ρ σ d v → Q v H'
def SemT (H0 : Hp) (W : WQ) (f : Rho → Cells → Ans Bool) : TT := fun σ H Q =>
  ∃ w ρ c, Rel K ca w c H ∧ RhoR K ca w c H0 H ρ σ ∧ Run K ca (fun cls dx H' => W cls dx σ H') w c H (f ρ c) fun b w' c' H' => Q b H'
/-- an argument list: solid values -/
def SemA (H0 : Hp) (W : WQ) (f : Rho → Cells → Ans (List D)) : TA := fun σ H Q =>
  ∃ w ρ c, Rel K ca w c H ∧ RhoR K ca w c H0 H ρ σ ∧ Run K ca (fun cls dx H' => W cls dx σ H') w c H (f ρ c) fun ds w' c' H' => ∀ vs, RpL K ca w' ds vs → Q vs H'
def EVL (w : Wd) (ρ : Rho) (σ : L2.St) : List D → List V → Prop
  | [], vs => vs = []
  | d :: ds, vs => ∃ v r, vs = v :: r ∧ EV K ca w ρ σ d v ∧ EVL w ρ σ ds r
/-- an argument list of a builtin: the slots' own objects too -/
def SemB (H0 : Hp) (W : WQ) (f : Rho → Cells → Ans (List D)) : TA := fun σ H Q =>
  ∃ w ρ c, Rel K ca w c H ∧ RhoR K ca w c H0 H ρ σ ∧ Run K ca (fun cls dx H' => W cls dx σ H') w c H (f ρ c) fun ds w' c' H' => ∀ vs, EVL K ca w' ρ σ ds vs → Q vs H'
end

inductive Fl where
  | nx | bk | ct | rt (d : D) (fr : Bool) | ex (x : D)
abbrev AnsS := Option (Fl × Rho × Cells)
section
variable (K : PySem.W.Frag) (ca : CA)
def FlQ (H0 : Hp) (W : WQ) (D : Ends) (w' : Wd) (c' : Cells) (H' : Hp) (σ' : L2.St) : Fl → Prop
  | .nx => D.nx σ' H'
  | .bk => D.bk σ' H'
  | .ct => D.ct σ' H'
  | .rt d fr => ∀ v, RtV K ca H0 w' c' H' (d, fr) v → D.rt v H'
  | .ex x => ∀ cls dx, ExR K ca H0 w' H' x cls dx → W cls dx σ' H'
def RunS (H0 : Hp) (W : WQ) (w : Wd) (c : Cells) (H : Hp) (res : AnsS) (D : Ends) : Prop :=
  ∃ fl ρ' c', res = some (fl, ρ', c') ∧ ∀ w' H' σ', Rel K ca w' c' H' → Ext H0 w c H w' c' H' → RhoR K ca w' c' H0 H' ρ' σ' → FlQ K ca H0 W D w' c' H' σ' fl
def SemS (H0 : Hp) (W : WQ) (f : Rho → Cells → AnsS) : TS := fun D σ H =>
  ∃ w ρ c, Rel K ca w c H ∧ RhoR K ca w c H0 H ρ σ ∧ RunS K ca H0 W w c H (f ρ c) D
end

section
variable {K : PySem.W.Frag} {ca : Nat → Addr} {w w1 w2 w' : Wd} {c c1 c2 c' : Cells} {T H0 H H1 H2 H' : Hp} {ρ : Rho} {σ : L2.St} {W : XK} {α β : Type}

theorem ExR.mono {T1 : Hp} {x : D} {cls : Value} {dx : Option Addr} (h : ExR K ca T1 w H x cls dx) (hT : ∀ a, T a ≠ none → T1 a ≠ none) : ExR K ca T w H x cls dx := by
  cases x with
  | ins c nm vs =>
    obtain ⟨h1, h2⟩ := h
    refine ⟨h1, h2.imp id fun ⟨d, fs, e1, e2, e3⟩ => ⟨d, fs, e1, ?_, e3⟩⟩
    cases q : T d with
    | none => rfl
    | some o => exact absurd e2 (hT d (by rw [q]; simp))
  | _ => exact h.elim
theorem RunT.bnd {m : Ans α} {k : α → Cells → Ans β} {P : β → Wd → Cells → Hp → Prop} (r : RunT K ca T W w c H (bnd m k) P) :
    RunT K ca T W w c H m fun a w1 c1 H1 => ∀ T1, (∀ x, T x ≠ none → T1 x ≠ none) → (∀ x, T1 x ≠ none → H1 x ≠ none) → RunT K ca T1 W w1 c1 H1 (k a c1) fun b w2 c2 H2 => Ext T w c H w2 c2 H2 → P b w2 c2 H2 := by
  obtain ⟨r, c', e, h1, h2⟩ := r
  rcases m with _ | ⟨⟨a⟩ | ⟨x⟩, c1⟩
  · cases e
  · refine ⟨_, _, rfl, fun a' ea w1 H1 rel ext T1 hT hT1 => ?_, fun x z => (by cases z)⟩
    cases ea
    refine ⟨r, c', e, fun b eb w2 H2 rel2 ext2 ext3 => ?_, fun x ex cls dx w2 H2 rel2 ext2 exr => ?_⟩
    · exact h1 b eb w2 H2 rel2 ext3
    · exact h2 x ex cls dx w2 H2 rel2 (ext.trans ext2 hT) (exr.mono hT)
  · cases e
    refine ⟨_, _, rfl, fun a z => (by cases z), fun x' ex cls dx w' H' rel ext exr => ?_⟩
    cases ex
    exact h2 _ rfl cls dx w' H' rel ext exr
theorem Run.bnd {m : Ans α} {k : α → Cells → Ans β} {P : β → Wd → Cells → Hp → Prop} (r : Run K ca W w c H (bnd m k) P) :
    Run K ca W w c H m fun a w1 c1 H1 => Ext H w c H w1 c1 H1 → Run K ca W w1 c1 H1 (k a c1) fun b w2 c2 H2 => Ext H w c H w2 c2 H2 → P b w2 c2 H2 := by
  obtain ⟨r, c', e, h1, h2⟩ := RunT.bnd r
  exact ⟨r, c', e, fun a ea w1 H1 rel ext _ => h1 a ea w1 H1 rel ext H1 ext.trk (fun _ z => z), h2⟩
theorem RunT.mono {m : Ans α} {P P' : α → Wd → Cells → Hp → Prop} (r : RunT K ca T W w c H m P) (h : ∀ a w' c' H', Rel K ca w' c' H' → Ext T w c H w' c' H' → P a w' c' H' → P' a w' c' H') : RunT K ca T W w c H m P' := by
  obtain ⟨r, c', e, h1, h2⟩ := r
  exact ⟨r, c', e, fun a ea w1 H1 rel ext => h a w1 c' H1 rel ext (h1 a ea w1 H1 rel ext), h2⟩
/-- an answer at once -/
theorem RunT.ret {a : α} {P : α → Wd → Cells → Hp → Prop} (r : RunT K ca T W w c H (some (.ok a, c1)) P) : ∀ w' H', Rel K ca w' c1 H' → Ext T w c H w' c1 H' → P a w' c1 H' := by
  obtain ⟨r, c', e, h1, h2⟩ := r
  cases e
  exact h1 a rfl
theorem RunT.nope {P : α → Wd → Cells → Hp → Prop} (r : RunT K ca T W w c H none P) : False := by
  obtain ⟨r, c', e, h1, h2⟩ := r
  cases e
theorem RunT.noex {m : Ans α} {P : α → Wd → Cells → Hp → Prop} {W' : XK} (r : RunT K ca T W w c H (noex m) P) : RunT K ca T W' w c H m P := by
  obtain ⟨r, c', e, h1, h2⟩ := r
  rcases m with _ | ⟨⟨a⟩ | ⟨x⟩, c1⟩
  · cases e
  · cases e
    exact ⟨_, _, rfl, h1, fun x z => (by cases z)⟩
  · cases e

end
section
variable {K : PySem.W.Frag} {ca : CA} {w w1 w2 w' : Wd} {c c1 c2 c' : Cells} {T H0 H H1 H2 H' : Hp} {ρ : Rho} {σ : L2.St} {W : XK} {α β : Type}
theorem ExS.ext {T1 : Hp} (x : Ext T1 w c H w' c' H') {d : D} (h : ExS K ca w d) : ExS K ca w' d := by
  cases d with
  | ins c nm vs => exact ⟨h.1, h.2.imp id fun ⟨d, fs, e1, e2, e3, e4⟩ => ⟨d, fs, e1, x.S _ _ e2, e3, x.rpl e4⟩⟩
  | _ => exact h.elim
theorem RhoR.ext (h : RhoR K ca w c H0 H ρ σ) (x : Ext H w c H w' c' H') : RhoR K ca w' c' H0 H' ρ σ where
  len := h.len
  val := fun i d e => by
    obtain ⟨v, q, r⟩ := h.val i d e
    exact ⟨v, q, x.rp r⟩
  own := fun i d e => by
    obtain ⟨a, o, q, ho, r, hS, h0, hl⟩ := h.own i d e
    refine ⟨a, o, q, x.frame a o (by rw [ho]; simp) ho hl, x.rpo r, ?_, h0, fun n hn z => ?_⟩
    · cases q : w'.S a with
      | none => rfl
      | some o' =>
        rcases x.newS a (by rw [q]; simp) with z | z | ⟨n, z1, z2⟩
        · exact absurd hS z
        · rw [ho] at z; cases z
        · exact absurd z2 (hl n z1)
    · rcases x.new n hn with y | ⟨y1, y2⟩
      · exact hl n y ((x.al n (x.liv n y)).symm.trans z)
      · rw [z, ho] at y2; cases y2
  dis := h.dis
  trk := fun a q => x.trk a (h.trk a q)
  exc := fun i d e => ⟨(h.exc i d e).1, (h.exc i d e).2.ext x⟩
theorem EV.ext (x : Ext T w c H w' c' H') {d : D} {v : V} (h : EV K ca w ρ σ d v) : EV K ca w' ρ σ d v := by
  cases d with
  | slot i => exact h
  | _ => exact x.rp h
theorem Rp.ev {d : D} {v : V} (h : Rp K ca w d v) : EV K ca w ρ σ d v := by
  cases d with
  | slot i => exact h.elim
  | _ => exact h
/-- no slot's name -/
def sol : D → Bool
  | .slot _ => false
  | _ => true
theorem EV.rp {d : D} {v : V} (h : EV K ca w ρ σ d v) (hs : sol d = true) : Rp K ca w d v := by
  cases d with
  | slot i => cases hs
  | _ => exact h
/-- an object that stands among what never changes -/
theorem RpO.rp {d : D} {o : HO} {a : Addr} (h : RpO K ca w d o) (hS : w.S a = some o) : Rp K ca w d (.ref a) := by
  cases d with
  | lst ds => obtain ⟨vs, e, q⟩ := h; subst e; exact ⟨a, vs, rfl, hS, q⟩
  | tup ds => obtain ⟨vs, e, q⟩ := h; subst e; exact ⟨a, vs, rfl, hS, q⟩
  | dK ks ds => obtain ⟨kvs, e, k, q⟩ := h; subst e; exact ⟨a, kvs, rfl, hS, k, q⟩
  | dT ks ds => obtain ⟨kvs, e, k, q⟩ := h; subst e; exact ⟨a, kvs, rfl, hS, k, q⟩
  | ins cc nm ds => obtain ⟨dx, fs, e, k, q⟩ := h; subst e; exact ⟨a, dx, fs, rfl, hS, k, q⟩
  | _ => exact h.elim
/-- a new thing comes to what never changes -/
theorem New.keep (r : Rel K ca w c H) {d : D} {v : V} (h : New K ca T w c H d v) (tH : ∀ a, T a ≠ none → H a ≠ none) : ∃ w', Rel K ca w' c H ∧ Ext T w c H w' c H ∧ Rp K ca w' d v := by
  obtain ⟨p, o, e, ho, hr, hS, hT, hl⟩ := h
  subst e
  obtain ⟨r', x'⟩ := r.keep ho hS hl tH hT
  exact ⟨_, r', x', (x'.rpo hr).rp (by show upd w.S p o p = _; exact upd_same)⟩
theorem NV.keep (r : Rel K ca w c H) {d : D × Bool} {v : V} (h : NV K ca T w c H ρ σ d v) (tH : ∀ a, T a ≠ none → H a ≠ none) : ∃ w', Rel K ca w' c H ∧ Ext T w c H w' c H ∧ EV K ca w' ρ σ d.1 v := by
  obtain ⟨d, fr⟩ := d
  cases fr with
  | true =>
    obtain ⟨w', r', x', h'⟩ := New.keep r h tH
    exact ⟨w', r', x', h'.ev⟩
  | false => exact ⟨w, r, .refl r tH, h⟩
theorem RtV.keep (r : Rel K ca w c H) {d : D × Bool} {v : V} (h : RtV K ca T w c H d v) (tH : ∀ a, T a ≠ none → H a ≠ none) : ∃ w', Rel K ca w' c H ∧ Ext T w c H w' c H ∧ Rp K ca w' d.1 v := by
  obtain ⟨d, fr⟩ := d
  cases fr with
  | true => exact New.keep r h tH
  | false => exact ⟨w, r, .refl r tH, h⟩

def fstM (m : Ans (D × Bool)) : Ans D := bnd m fun d c => some (.ok d.1, c)
theorem peM {X : Cx} {e : Expr} {t t' : TE} (h : PE X e t) (i : ∀ σ H Q, t' σ H Q → t σ H Q) : PE X e t' := ⟨fun pins s σ H Q I q => h.run pins s σ H Q I (i σ H Q q)⟩
theorem ptM {X : Cx} {e : Expr} {t t' : TT} (h : PT X e t) (i : ∀ σ H Q, t' σ H Q → t σ H Q) : PT X e t' := ⟨fun pins s σ H Q I q => h.run pins s σ H Q I (i σ H Q q)⟩
theorem paM {X : Cx} {e : List Expr} {t t' : TA} (h : PA X e t) (i : ∀ σ H Q, t' σ H Q → t σ H Q) : PA X e t' := ⟨fun p pins s σ H Q I q => h.run p pins s σ H Q I (i σ H Q q)⟩
theorem psM {X : Cx} {e : Stmt} {t t' : TS} (h : PS X e t) (i : ∀ D σ H, t' D σ H → t D σ H) : PS X e t' := ⟨fun pins s σ H D I q => h.run pins s σ H D I (i D σ H q)⟩
theorem pssM {X : Cx} {e : List Stmt} {t t' : TS} (h : PSs X e t) (i : ∀ D σ H, t' D σ H → t D σ H) : PSs X e t' := ⟨fun pins s σ H D I q => h.run pins s σ H D I (i D σ H q)⟩
/-- a value of any kind, taken as one that never changes -/
theorem semE_of {X : Cx} {e : Expr} {W : WQ} {f : Rho → Cells → Ans (D × Bool)} (h : PE X e (SemN K ca H0 W f)) : PE X e (SemE K ca H0 W fun ρ c => fstM (f ρ c)) := by
  refine peM h fun σ H Q ⟨w, ρ, c, rel, rho, run⟩ => ⟨w, ρ, c, rel, rho, (RunT.bnd run).mono fun d w1 c1 H1 rel1 ext1 k v nv => ?_⟩
  obtain ⟨w2, rel2, ext2, ev⟩ := nv.keep rel1 ext1.trk
  exact (k H (fun _ z => z) ext1.trk).ret w2 H1 rel2 ext2 (ext1.trans ext2 fun _ z => z) v ev
end
end Eng

/-! Eng3: == of data -/
namespace Eng
open PySem PySem.Spec PyProof.Rows L2

def derC (c : Cells) : D → Option D
  | .cell n => match c[n]? with
    | some (some (.cell _)) => none
    | some (some (.slot _)) => none
    | some (some d) => some d
    | _ => none
  | .slot _ => none
  | d => some d
def eqZ (f : D → D → Option Bool) : List D → List D → Option Bool
  | x :: xs, y :: ys => match f x y, eqZ f xs ys with
    | some a, some b => some (a && b)
    | _, _ => none
  | _, _ => some true
/-- what may be compared -/
def flatK : D → Bool
  | .non => true | .bl _ => true | .int _ => true | .str _ => true | .lst _ => true | .tup _ => true
  | _ => false
def eqB (f : D → D → Option Bool) : D → D → Option Bool
  | .non, .non => some true
  | .bl x, .bl y => some (x == y)
  | .bl x, .int j => some ((if x then 1 else 0) == j)
  | .int i, .bl y => some (i == (if y then 1 else 0))
  | .int i, .int j => some (i == j)
  | .str x, .str y => some (x == y)
  | .lst xs, .lst ys => if xs.length = ys.length then eqZ f xs ys else some false
  | .tup xs, .tup ys => (eqZ f xs ys).map fun b => b && xs.length == ys.length
  | a, b => if flatK a && flatK b then some false else none
def eqD : Nat → Cells → D → D → Option Bool
  | 0, _, _, _ => none
  | n + 1, c, a, b => match derC c a, derC c b with
    | some a, some b => eqB (eqD n c) a b
    | _, _ => none

section
variable {K : PySem.W.Frag} {ca : Nat → Addr} {w : Wd} {c : Cells} {H : Hp}
variable (K ca) in
def AtV (w : Wd) (c : Cells) (H : Hp) (d : D) (v : V) : Prop := ∃ e, derC c d = some e ∧ At K ca w H e v
theorem derC_ne {d e : D} (h : derC c d = some e) : derC c e = some e := by
  unfold derC at h
  split at h
  · split at h
    · cases h
    · cases h
    · rename_i d' h1 h2 h3
      cases h
      cases e <;> first | rfl | exact absurd rfl (h1 _) | exact absurd rfl (h2 _)
    · cases h
  · cases h
  · rename_i h1 h2
    cases h
    cases d <;> first | rfl | exact absurd rfl (h1 _) | exact absurd rfl (h2 _)
theorem Rp.atV (r : Rel K ca w c H) {d e : D} {v : V} (h : Rp K ca w d v) (hd : derC c d = some e) : At K ca w H e v := by
  cases d with
  | cell n =>
    obtain ⟨rfl, hn⟩ := h
    unfold derC at hd
    simp only at hd
    split at hd
    · cases hd
    · cases hd
    · rename_i d' h1 h2 h3
      cases hd
      obtain ⟨⟨o, ho, hr⟩, _⟩ := r.cell n _ h3
      exact hr.at ho
    · cases hd
  | slot i => exact h.elim
  | _ => cases hd; exact h.at r (by intro n z; cases z)
theorem RpL.atV (r : Rel K ca w c H) {ds : List D} {vs : List V} {i : Nat} {d e : D} {v : V} (h : RpL K ca w ds vs) (hi : ds[i]? = some d) (hv : vs[i]? = some v) (hd : derC c d = some e) : At K ca w H e v := by
  obtain ⟨v', e1, e2⟩ := h.get hi
  rw [e1] at hv; cases hv
  exact e2.atV r hd
theorem eqZ_get {f : D → D → Option Bool} : ∀ {xs ys : List D} {b : Bool}, eqZ f xs ys = some b → ∃ g : Nat → Bool, (∀ i x y, xs[i]? = some x → ys[i]? = some y → f x y = some (g i)) ∧ b = (List.range (min xs.length ys.length)).all g
  | [], ys, b, h => by
    have h' : b = true := by simpa [eqZ] using h.symm
    exact ⟨fun _ => true, fun i x y e => by simp at e, by rw [h']; simp⟩
  | x :: xs, [], b, h => by
    have h' : b = true := by simpa [eqZ] using h.symm
    exact ⟨fun _ => true, fun i x y _ e => by simp at e, by rw [h']; simp⟩
  | x :: xs, y :: ys, b, h => by
    unfold eqZ at h
    cases e1 : f x y with
    | none => rw [e1] at h; simp at h
    | some a =>
      cases e2 : eqZ f xs ys with
      | none => rw [e1, e2] at h; simp at h
      | some b' =>
        rw [e1, e2] at h
        have hb : b = (a && b') := by simpa using h.symm
        obtain ⟨g, hg, eb⟩ := eqZ_get e2
        refine ⟨fun i => match i with | 0 => a | i + 1 => g i, fun i x' y' hx hy => ?_, ?_⟩
        · cases i with
          | zero =>
            have : x = x' := by simpa using hx
            have : y = y' := by simpa using hy
            subst x' y'; exact e1
          | succ i => exact hg i x' y' (by simpa using hx) (by simpa using hy)
        · rw [hb, eb, List.length_cons, List.length_cons, Nat.add_min_add_right, List.range_succ_eq_map, List.all_cons, List.all_map]
          rfl
variable {X : Cx} {pins : List (Addr × Obj)} {σ : L2.St} {s : Shared}
theorem in1_units (A : Around) (n : Nat) (h : A.units + (n + 1) < cLine) : A.in1.units + n < cLine := by
  show A.units + 1 + n < cLine
  omega
theorem items_at {vs : List V} {its : List Value} (rv : Vals vs its) {j : Nat} (h : j < its.toArray.size) : ∃ v, vs[j]? = some v ∧ RelV v its.toArray[j] := by
  have hl := rv.length
  have h' : j < its.length := by simpa using h
  have hj : j < vs.length := by omega
  obtain ⟨u, e, r⟩ := rv.get (i := j) (List.getElem?_eq_getElem hj)
  refine ⟨vs[j], List.getElem?_eq_getElem hj, ?_⟩
  have : its[j]? = some its[j] := List.getElem?_eq_getElem h'
  rw [this] at e; cases e
  simpa using r
theorem all_true {n : Nat} {g : Nat → Bool} (h : ∀ i, i < n → g i = true) : (List.range n).all g = true := by
  rw [List.all_eq_true]
  intro i hi
  exact h i (List.mem_range.mp hi)
/-- one and the same value is equal to itself -/
theorem eqSame (I : Inv X pins σ H s) (hK : X.K = K) (r : Rel K ca w c H) : ∀ (n : Nat) (a b : D) (x : V) (k : Bool), eqD n c a b = some k → (∀ e, derC c a = some e → At K ca w H e x) → (∀ e, derC c b = some e → At K ca w H e x) → k = true := by
  intro n
  induction n with
  | zero => intro a b x k h; cases h
  | succ n ih =>
    intro a b x k h ha hb
    unfold eqD at h
    cases ea : derC c a with
    | none => rw [ea] at h; simp at h
    | some a' =>
    cases eb : derC c b with
    | none => rw [ea, eb] at h; simp at h
    | some b' =>
    rw [ea, eb] at h
    simp only at h
    replace ha := ha _ ea
    replace hb := hb _ eb
    clear ea eb
    have dec : ∀ {xs ys : List D} {vs : List V} {b : Bool}, RpL K ca w xs vs → RpL K ca w ys vs → eqZ (eqD n c) xs ys = some b → b = true := fun {xs ys vs b} r1 r2 e => by
      obtain ⟨g, hg, eb⟩ := eqZ_get e
      rw [eb]
      refine all_true fun i hi => ?_
      have l1 := r1.length
      have l2 := r2.length
      have i1 : i < xs.length := by omega
      have i2 : i < ys.length := by omega
      have i3 : i < vs.length := by omega
      exact ih xs[i] ys[i] vs[i] (g i) (hg i _ _ (List.getElem?_eq_getElem i1) (List.getElem?_eq_getElem i2)) (fun e he => r1.atV r (List.getElem?_eq_getElem i1) (List.getElem?_eq_getElem i3) he) fun e he => r2.atV r (List.getElem?_eq_getElem i2) (List.getElem?_eq_getElem i3) he
    cases a' with
    | non => obtain rfl : x = .non := ha; cases b' <;> first | (cases h; rfl) | (cases hb; done) | (obtain ⟨_, _, z, _⟩ := hb; cases z; done) | cases h
    | bl i => obtain rfl : x = .bl i := ha; cases b' <;> first | (cases hb; cases h; simp; done) | (cases hb; done) | (obtain ⟨_, _, z, _⟩ := hb; cases z; done) | cases h
    | int i => obtain rfl : x = .int i := ha; cases b' <;> first | (cases hb; cases h; simp; done) | (cases hb; done) | (obtain ⟨_, _, z, _⟩ := hb; cases z; done) | cases h
    | str i => obtain rfl : x = .str i := ha; cases b' <;> first | (cases hb; cases h; simp; done) | (cases hb; done) | (obtain ⟨_, _, z, _⟩ := hb; cases z; done) | cases h
    | lst xs =>
      obtain ⟨l, vs, rfl, hl, rp⟩ := ha
      cases b' with
      | lst ys =>
        obtain ⟨l2, vs2, e2, hl2, rp2⟩ := hb
        cases e2
        rw [hl] at hl2; cases hl2
        have h' : (if xs.length = ys.length then eqZ (eqD n c) xs ys else some false) = some k := h
        rw [if_pos (rp.length.trans rp2.length.symm)] at h'
        exact dec rp rp2 h'
      | tup ys =>
        obtain ⟨l2, vs2, e2, hl2, rp2⟩ := hb
        cases e2
        rw [hl] at hl2; cases hl2
      | _ => first | (cases hb; done) | cases h
    | tup xs =>
      obtain ⟨l, vs, rfl, hl, rp⟩ := ha
      cases b' with
      | tup ys =>
        obtain ⟨l2, vs2, e2, hl2, rp2⟩ := hb
        cases e2
        rw [hl] at hl2; cases hl2
        have h' : (eqZ (eqD n c) xs ys).map (fun b => b && xs.length == ys.length) = some k := h
        cases e0 : eqZ (eqD n c) xs ys with
        | none => rw [e0] at h'; cases h'
        | some b0 =>
          rw [e0] at h'
          have : k = (b0 && xs.length == ys.length) := by simpa using h'.symm
          rw [this, dec rp rp2 e0, rp.length, rp2.length]
          simp
      | lst ys =>
        obtain ⟨l2, vs2, e2, hl2, rp2⟩ := hb
        cases e2
        rw [hl] at hl2; cases hl2
      | _ => first | (cases hb; done) | cases h
    | _ => cases b' <;> cases h
theorem eqAt_D (I : Inv X pins σ H s) (hK : X.K = K) (r : Rel K ca w c H) : ∀ (n : Nat) (A : Around) (a b : D) (x y : V) (v u : Value) (k : Bool), A.units + (n + 1) < cLine → eqD n c a b = some k →
    (∀ e, derC c a = some e → At K ca w H e x) → (∀ e, derC c b = some e → At K ca w H e y) → RelV x v → RelV y u → SeqAt.EqAt A s v u k ∧ SeqAt.RcNeAt A s v u (!k) ∧ SeqAt.RcAt A s v u k := by
  intro n
  induction n with
  | zero => intro A a b x y v u k _ h; cases h
  | succ n ih =>
    intro A a b x y v u k hu h ha hb rx ry
    have hu1 : A.units < cLine := by omega
    unfold eqD at h
    cases ea : derC c a with
    | none => rw [ea] at h; simp at h
    | some a' =>
    cases eb : derC c b with
    | none => rw [ea, eb] at h; simp at h
    | some b' =>
    rw [ea, eb] at h
    simp only at h
    replace ha := ha _ ea
    replace hb := hb _ eb
    clear ea eb
    have isL : ∀ {ds : List D} {z : V} {q : Value}, At K ca w H (.lst ds) z → RelV z q → ∃ l its vs, q = .ref l ∧ s.heap.IsList l (its : List Value).toArray ∧ Vals vs its ∧ RpL K ca w ds vs ∧ its.length = ds.length := fun {ds z q} h rz => by
      obtain ⟨l, vs, rfl, hl, rp⟩ := h
      cases rz
      obtain ⟨its, rv, pl, _⟩ := I.list (SqL.of hl)
      exact ⟨l, its, vs, rfl, pl.isList, rv, rp, by rw [rp.length, rv.length]⟩
    have isT : ∀ {ds : List D} {z : V} {q : Value}, At K ca w H (.tup ds) z → RelV z q → ∃ l its vs, q = .ref l ∧ s.heap.IsTuple l (its : List Value).toArray ∧ Vals vs its ∧ RpL K ca w ds vs ∧ its.length = ds.length := fun {ds z q} h rz => by
      obtain ⟨l, vs, rfl, hl, rp⟩ := h
      cases rz
      obtain ⟨its, rv, pl, _⟩ := I.tuple (SqT.of hl)
      exact ⟨l, its, vs, rfl, pl, rv, rp, by rw [rp.length, rv.length]⟩
    have dec : ∀ {xs ys : List D} {vs us : List V} {is js : List Value} {b : Bool}, RpL K ca w xs vs → RpL K ca w ys us → Vals vs is → Vals us js → eqZ (eqD n c) xs ys = some b → ∃ g : Nat → Bool,
        (∀ j (h1 : j < is.toArray.size) (h2 : j < js.toArray.size), SeqAt.EqAt A.in1 s is.toArray[j] js.toArray[j] (g j)) ∧ b = (List.range (min xs.length ys.length)).all g := fun {xs ys vs us is js b} r1 r2 v1 v2 e => by
      obtain ⟨g, hg, eb⟩ := eqZ_get e
      refine ⟨g, fun j h1 h2 => ?_, eb⟩
      obtain ⟨p, ep, rp⟩ := items_at v1 h1
      obtain ⟨q, eq, rq⟩ := items_at v2 h2
      have l1 := r1.length
      have l2 := r2.length
      have lp : j < vs.length := (List.getElem?_eq_some_iff.mp ep).1
      have lq : j < us.length := (List.getElem?_eq_some_iff.mp eq).1
      exact (ih A.in1 xs[j] ys[j] p q _ _ (g j) (in1_units A (n + 1) (by omega)) (hg j _ _ (List.getElem?_eq_getElem (by omega)) (List.getElem?_eq_getElem (by omega)))
        (fun e he => r1.atV r (List.getElem?_eq_getElem (by omega)) ep he) (fun e he => r2.atV r (List.getElem?_eq_getElem (by omega)) eq he) rp rq).1
    cases a' with
    | non =>
      obtain rfl : x = .non := ha
      cases rx
      cases b' with
      | non => obtain rfl : y = .non := hb; cases ry; cases h; exact ⟨SeqAt.EqAt.same _, SeqAt.RcNeAt.none_none, SeqAt.RcAt.none_none⟩
      | bl j => obtain rfl : y = .bl j := hb; cases ry; cases h; exact ⟨.none_bool _, .none_bool _, .none_bool _⟩
      | int j => obtain rfl : y = .int j := hb; obtain ⟨t, rfl⟩ := ry; cases h; exact ⟨.none_int _ _, .none_int _ _, .none_int _ _⟩
      | str j => obtain rfl : y = .str j := hb; obtain ⟨t, rfl⟩ := ry; cases h; exact ⟨.none_str _ _, .none_str _ _, .none_str _ _⟩
      | lst j => obtain ⟨l, its, vs, rfl, hl, _⟩ := isL hb ry; cases h; exact ⟨.none_list hl hu1, .none_list hl hu1, .none_list hl hu1⟩
      | tup j => obtain ⟨l, its, vs, rfl, hl, _⟩ := isT hb ry; cases h; exact ⟨.none_tuple hl hu1, .none_tuple hl hu1, .none_tuple hl hu1⟩
      | _ => cases h
    | bl i =>
      obtain rfl : x = .bl i := ha
      cases rx
      cases b' with
      | non => obtain rfl : y = .non := hb; cases ry; cases h; exact ⟨.bool_none _, .bool_none _, .bool_none _⟩
      | bl j => obtain rfl : y = .bl j := hb; cases ry; cases h; exact ⟨.bool_bool _ _, .bool_bool _ _, .bool_bool _ _⟩
      | int j => obtain rfl : y = .int j := hb; obtain ⟨t, rfl⟩ := ry; cases h; exact ⟨.bool_int _ _ _, .bool_int _ _ _, .bool_int _ _ _⟩
      | str j => obtain rfl : y = .str j := hb; obtain ⟨t, rfl⟩ := ry; cases h; exact ⟨.bool_str _ _ _, .bool_str _ _ _, .bool_str _ _ _⟩
      | lst j => obtain ⟨l, its, vs, rfl, hl, _⟩ := isL hb ry; cases h; exact ⟨.bool_list _ hl hu1, .bool_list _ hl hu1, .bool_list _ hl hu1⟩
      | tup j => obtain ⟨l, its, vs, rfl, hl, _⟩ := isT hb ry; cases h; exact ⟨.bool_tuple _ hl hu1, .bool_tuple _ hl hu1, .bool_tuple _ hl hu1⟩
      | _ => cases h
    | int i =>
      obtain rfl : x = .int i := ha
      obtain ⟨t', rfl⟩ := rx
      cases b' with
      | non => obtain rfl : y = .non := hb; cases ry; cases h; exact ⟨.int_none _ _, .int_none _ _, .int_none _ _⟩
      | bl j => obtain rfl : y = .bl j := hb; cases ry; cases h; exact ⟨.int_bool _ _ _, .int_bool _ _ _, .int_bool _ _ _⟩
      | int j => obtain rfl : y = .int j := hb; obtain ⟨t, rfl⟩ := ry; cases h; exact ⟨.int_int _ _ _ _, .int_int _ _ _ _, .int_int _ _ _ _⟩
      | str j => obtain rfl : y = .str j := hb; obtain ⟨t, rfl⟩ := ry; cases h; exact ⟨.int_str _ _ _ _, .int_str _ _ _ _, .int_str _ _ _ _⟩
      | lst j => obtain ⟨l, its, vs, rfl, hl, _⟩ := isL hb ry; cases h; exact ⟨.int_list _ _ hl hu1, .int_list _ _ hl hu1, .int_list _ _ hl hu1⟩
      | tup j => obtain ⟨l, its, vs, rfl, hl, _⟩ := isT hb ry; cases h; exact ⟨.int_tuple _ _ hl hu1, .int_tuple _ _ hl hu1, .int_tuple _ _ hl hu1⟩
      | _ => cases h
    | str i =>
      obtain rfl : x = .str i := ha
      obtain ⟨t', rfl⟩ := rx
      cases b' with
      | non => obtain rfl : y = .non := hb; cases ry; cases h; exact ⟨.str_none _ _, .str_none _ _, .str_none _ _⟩
      | bl j => obtain rfl : y = .bl j := hb; cases ry; cases h; exact ⟨.str_bool _ _ _, .str_bool _ _ _, .str_bool _ _ _⟩
      | int j => obtain rfl : y = .int j := hb; obtain ⟨t, rfl⟩ := ry; cases h; exact ⟨.str_int _ _ _ _, .str_int _ _ _ _, .str_int _ _ _ _⟩
      | str j => obtain rfl : y = .str j := hb; obtain ⟨t, rfl⟩ := ry; cases h; exact ⟨.str_str _ _ _ _, .str_str _ _ _ _, .str_str _ _ _ _⟩
      | lst j => obtain ⟨l, its, vs, rfl, hl, _⟩ := isL hb ry; cases h; exact ⟨.str_list _ _ hl hu1, .str_list _ _ hl hu1, .str_list _ _ hl hu1⟩
      | tup j => obtain ⟨l, its, vs, rfl, hl, _⟩ := isT hb ry; cases h; exact ⟨.str_tuple _ _ hl hu1, .str_tuple _ _ hl hu1, .str_tuple _ _ hl hu1⟩
      | _ => cases h
    | lst xs =>
      obtain ⟨l, its, vs, ev, hl, rv, rp, hlen⟩ := isL ha rx
      subst ev
      obtain rfl : x = .ref l := RelV.inj rx rfl
      cases b' with
      | non => obtain rfl : y = .non := hb; cases ry; cases h; exact ⟨.list_none hl hu1, .list_none hl hu1, .list_none hl hu1⟩
      | bl j => obtain rfl : y = .bl j := hb; cases ry; cases h; exact ⟨.list_bool _ hl hu1, .list_bool _ hl hu1, .list_bool _ hl hu1⟩
      | int j => obtain rfl : y = .int j := hb; obtain ⟨t, rfl⟩ := ry; cases h; exact ⟨.list_int _ _ hl hu1, .list_int _ _ hl hu1, .list_int _ _ hl hu1⟩
      | str j => obtain rfl : y = .str j := hb; obtain ⟨t, rfl⟩ := ry; cases h; exact ⟨.list_str _ _ hl hu1, .list_str _ _ hl hu1, .list_str _ _ hl hu1⟩
      | tup j => obtain ⟨l2, its2, vs2, rfl, hl2, _⟩ := isT hb ry; cases h; exact ⟨.list_tuple hl hl2 hu1, .list_tuple hl hl2 hu1, .list_tuple hl hl2 hu1⟩
      | lst ys =>
        obtain ⟨l2, its2, vs2, ev2, hl2, rv2, rp2, hlen2⟩ := isL hb ry
        subst ev2
        obtain rfl : y = .ref l2 := RelV.inj ry rfl
        have h' : (if xs.length = ys.length then eqZ (eqD n c) xs ys else some false) = some k := h
        by_cases hxy : xs.length = ys.length
        · rw [if_pos hxy] at h'
          obtain ⟨g, hg, ek⟩ := dec rp rp2 rv rv2 h'
          have hsz : its.toArray.size = its2.toArray.size := by simp [hlen, hlen2, hxy]
          have e2 : k = (List.range its.toArray.size).all g := by
            rw [ek, hxy, Nat.min_self, List.size_toArray, hlen, hxy]
          have rc : SeqAt.RcAt A s (.ref l) (.ref l2) k := by
            rw [e2]; exact SeqAt.RcAt.lists hl hl2 hsz hu1 hg
          refine ⟨?_, ?_, rc⟩
          · by_cases hll : l = l2
            · subst hll
              have ht : k = true := eqSame I hK r (n + 1) (.lst xs) (.lst ys) (.ref l) k h (fun e he => by cases he; exact ha) (fun e he => by cases he; exact hb)
              rw [ht]; exact .same _
            · exact .of_refs hll rc
          · rw [e2]; exact SeqAt.RcNeAt.lists hl hl2 hsz hu1 hg
        · rw [if_neg hxy] at h'
          cases h'
          have hsz : (its.toArray.size != its2.toArray.size) = true := by simp [hlen, hlen2, hxy]
          refine ⟨.of_refs (fun z => ?_) (.lists_lengths hl hl2 hsz hu1), .lists_lengths hl hl2 hsz hu1, .lists_lengths hl hl2 hsz hu1⟩
          subst z
          obtain ⟨o1, e1, c1, n1, d1⟩ := hl
          obtain ⟨o2, e2', c2, n2, d2⟩ := hl2
          rw [e1] at e2'; cases e2'
          rw [d1] at d2; cases d2
          simp at hsz
      | _ => cases h
    | tup xs =>
      obtain ⟨l, its, vs, ev, hl, rv, rp, hlen⟩ := isT ha rx
      subst ev
      obtain rfl : x = .ref l := RelV.inj rx rfl
      cases b' with
      | non => obtain rfl : y = .non := hb; cases ry; cases h; exact ⟨.tuple_none hl hu1, .tuple_none hl hu1, .tuple_none hl hu1⟩
      | bl j => obtain rfl : y = .bl j := hb; cases ry; cases h; exact ⟨.tuple_bool _ hl hu1, .tuple_bool _ hl hu1, .tuple_bool _ hl hu1⟩
      | int j => obtain rfl : y = .int j := hb; obtain ⟨t, rfl⟩ := ry; cases h; exact ⟨.tuple_int _ _ hl hu1, .tuple_int _ _ hl hu1, .tuple_int _ _ hl hu1⟩
      | str j => obtain rfl : y = .str j := hb; obtain ⟨t, rfl⟩ := ry; cases h; exact ⟨.tuple_str _ _ hl hu1, .tuple_str _ _ hl hu1, .tuple_str _ _ hl hu1⟩
      | lst j => obtain ⟨l2, its2, vs2, rfl, hl2, _⟩ := isL hb ry; cases h; exact ⟨.tuple_list hl hl2 hu1, .tuple_list hl hl2 hu1, .tuple_list hl hl2 hu1⟩
      | tup ys =>
        obtain ⟨l2, its2, vs2, ev2, hl2, rv2, rp2, hlen2⟩ := isT hb ry
        subst ev2
        obtain rfl : y = .ref l2 := RelV.inj ry rfl
        have h' : (eqZ (eqD n c) xs ys).map (fun b => b && xs.length == ys.length) = some k := h
        cases e0 : eqZ (eqD n c) xs ys with
        | none => rw [e0] at h'; cases h'
        | some b0 =>
          rw [e0] at h'
          obtain ⟨g, hg, ek⟩ := dec rp rp2 rv rv2 e0
          have e2 : k = ((List.range (min its.toArray.size its2.toArray.size)).all g && its.toArray.size == its2.toArray.size) := by
            have : k = (b0 && xs.length == ys.length) := by simpa using h'.symm
            rw [this, ek, List.size_toArray, List.size_toArray, hlen, hlen2]
          have rc : SeqAt.RcAt A s (.ref l) (.ref l2) k := by
            rw [e2]; exact SeqAt.RcAt.tuples hl hl2 hu1 hg
          refine ⟨?_, ?_, rc⟩
          · by_cases hll : l = l2
            · subst hll
              have ht : k = true := eqSame I hK r (n + 1) (.tup xs) (.tup ys) (.ref l) k h (fun e he => by cases he; exact ha) (fun e he => by cases he; exact hb)
              rw [ht]; exact .same _
            · exact .of_refs hll rc
          · rw [e2]; exact SeqAt.RcNeAt.tuples hl hl2 hu1 hg
      | _ => cases h
    | _ => cases b' <;> cases h
end
end Eng

/-! Eng4: the operations on data -/
namespace Eng
open PySem PySem.Spec PyProof.Rows L2

inductive Out where
  | val (d : D) | new (d : D)
section
variable (K : PySem.W.Frag) (ca : Nat → Addr)
def OutQ (w : Wd) (H : Hp) (out : Out) (Q : VK) : Prop :=
  match out with
  | .val d => ∀ v, Rp K ca w d v → Q v H
  | .new d => ∀ p o, H p = none → RpO K ca w d o → Q (.ref p) (upd H p o)
def prR (f : Cells → List D → Option Out) : List V → Hp → VK → Prop := fun vs H Q => ∃ w c ds out, Rel K ca w c H ∧ AtL K ca w H ds vs ∧ f c ds = some out ∧ OutQ K ca w H out Q
end

/-! ### dicts -/
section
variable {κ : Type} [DecidableEq κ]
def dget : List κ → List D → κ → Option D
  | k :: ks, d :: ds, q => if k = q then some d else dget ks ds q
  | _, _, _ => none
def dhas (ks : List κ) (q : κ) : Bool := ks.any fun k => decide (k = q)
def dputK (ks : List κ) (q : κ) : List κ := if dhas ks q then ks else ks ++ [q]
def dsub : List κ → List D → κ → D → List D
  | k :: ks, d :: ds, q, v => (if k = q then v else d) :: dsub ks ds q v
  | _, ds, _, _ => ds
def dputV (ks : List κ) (ds : List D) (q : κ) (v : D) : List D := if dhas ks q then dsub ks ds q v else ds ++ [v]
variable {K : PySem.W.Frag} {ca : Nat → Addr} {w : Wd}
theorem dget_val : ∀ {kvs : List (κ × V)} {ds : List D} (q : κ), RpL K ca w ds (kvs.map (·.2)) → match dget (kvs.map (·.1)) ds q with
    | none => valV kvs q = none
    | some d => ∃ v, valV kvs q = some v ∧ Rp K ca w d v
  | [], ds, q, h => by
    cases ds with
    | nil => rfl
    | cons d ds => obtain ⟨v, r, e, _⟩ := h; cases e
  | p :: kvs, [], q, h => by cases h
  | p :: kvs, d :: ds, q, h => by
    obtain ⟨v, r, e, h1, h2⟩ := h
    rw [List.map_cons] at e
    injection e with e1 e2
    subst e1 e2
    rw [List.map_cons]
    unfold dget
    by_cases hk : p.1 = q
    · rw [if_pos hk]
      exact ⟨p.2, valV_pos hk, h1⟩
    · rw [if_neg hk, valV_neg hk]
      exact dget_val q h2
theorem dhas_any : ∀ (kvs : List (κ × V)) (q : κ), dhas (kvs.map (·.1)) q = kvs.any fun kv => decide (kv.1 = q)
  | [], _ => rfl
  | p :: r, q => by
    show (decide (p.1 = q) || dhas (r.map (·.1)) q) = _
    rw [dhas_any r q, List.any_cons]
theorem dput_keys (kvs : List (κ × V)) (q : κ) (v : V) : (putK kvs q v).map (·.1) = dputK (kvs.map (·.1)) q := by
  unfold putK dputK
  rw [dhas_any]
  by_cases h : (kvs.any fun kv => decide (kv.1 = q)) = true
  · rw [if_pos h, if_pos h, List.map_map]
    refine List.map_congr_left fun p _ => ?_
    by_cases e : p.1 = q
    · simp [e]
    · simp [e]
  · rw [if_neg h, if_neg h, List.map_append]
    rfl
theorem dsub_vals : ∀ {kvs : List (κ × V)} {ds : List D} {q : κ} {v : V} {d : D}, RpL K ca w ds (kvs.map (·.2)) → Rp K ca w d v →
    RpL K ca w (dsub (kvs.map (·.1)) ds q d) ((kvs.map fun kv => if kv.1 = q then (kv.1, v) else kv).map (·.2))
  | [], ds, q, v, d, h, hv => by
    cases ds with
    | nil => rfl
    | cons d ds => obtain ⟨v, r, e, _⟩ := h; cases e
  | p :: kvs, [], q, v, d, h, hv => by cases h
  | p :: kvs, d' :: ds, q, v, d, h, hv => by
    obtain ⟨v', r, e, h1, h2⟩ := h
    rw [List.map_cons] at e
    injection e with e1 e2
    subst e1 e2
    refine ⟨_, _, rfl, ?_, dsub_vals h2 hv⟩
    by_cases hk : p.1 = q
    · simp only [hk, if_true]; exact hv
    · simp only [hk, if_false]; exact h1
theorem dput_vals {kvs : List (κ × V)} {ds : List D} {q : κ} {v : V} {d : D} (h : RpL K ca w ds (kvs.map (·.2))) (hv : Rp K ca w d v) : RpL K ca w (dputV (kvs.map (·.1)) ds q d) ((putK kvs q v).map (·.2)) := by
  unfold putK dputV
  rw [dhas_any]
  by_cases hb : (kvs.any fun kv => decide (kv.1 = q)) = true
  · rw [if_pos hb, if_pos hb]
    exact dsub_vals h hv
  · rw [if_neg hb, if_neg hb, List.map_append]
    exact h.append (RpL.one hv)
end
def keyD : D → Option Key
  | .int i => some (.inl i)
  | .str x => some (.inr x)
  | _ => none
def keysD : List D → Option (List Key)
  | [] => some []
  | d :: ds => match keyD d, keysD ds with
    | some k, some ks => some (k :: ks)
    | _, _ => none

section
variable {K : PySem.W.Frag} {ca : Nat → Addr} {w : Wd} {c : Cells} {H : Hp}
theorem keyD_v {d : D} {k : Key} {v : V} (h : keyD d = some k) (r : Rp K ca w d v) : v = kV k := by
  cases d <;> first | (cases h; exact r; done) | cases h
theorem keyD_at {d : D} {k : Key} {v : V} (h : keyD d = some k) (r : At K ca w H d v) : v = kV k := by
  cases d <;> first | (cases h; exact r; done) | cases h
theorem keysD_v : ∀ {ds : List D} {ks : List Key} {vs : List V}, keysD ds = some ks → RpL K ca w ds vs → vs = ks.map kV
  | [], ks, vs, h, r => by cases h; cases r; rfl
  | d :: ds, ks, vs, h, r => by
    obtain ⟨v, r', e, r1, r2⟩ := r
    unfold keysD at h
    cases e1 : keyD d with
    | none => rw [e1] at h; simp at h
    | some k =>
      cases e2 : keysD ds with
      | none => rw [e1, e2] at h; simp at h
      | some ks' =>
        rw [e1, e2] at h
        have : ks = k :: ks' := by simpa using h.symm
        rw [this, e, keyD_v e1 r1, keysD_v e2 r2, List.map_cons]
theorem AtL.two {d e : D} {x y : V} (h : AtL K ca w H [d, e] [x, y]) : At K ca w H d x ∧ At K ca w H e y := by
  obtain ⟨v, r, e1, h1, v2, r2, e2, h2, e3⟩ := h
  cases e1
  cases e2
  exact ⟨h1, h2⟩
theorem AtL.len : ∀ {ds : List D} {vs : List V}, AtL K ca w H ds vs → ds.length = vs.length
  | [], _, h => by cases h; rfl
  | d :: ds, vs, h => by
    obtain ⟨v, r, e, h1, h2⟩ := h
    subst e
    rw [List.length_cons, List.length_cons, AtL.len h2]
theorem AtL.inv2 {ds : List D} {x y : V} (h : AtL K ca w H ds [x, y]) : ∃ d e, ds = [d, e] ∧ At K ca w H d x ∧ At K ca w H e y := by
  match ds, h with
  | [], h => cases h
  | [d], h => obtain ⟨v, r, e1, h1, e2⟩ := h; cases e1; cases e2
  | [d, e], h => exact ⟨d, e, rfl, h.two⟩
  | d :: e :: f :: r, h =>
    have := h.len
    simp at this
theorem AtL.inv1 {ds : List D} {vs : List V} {d : D} (h : AtL K ca w H ds vs) (e : ds = [d]) : ∃ v, vs = [v] ∧ At K ca w H d v := by
  subst e
  obtain ⟨v, r, e1, h1, e2⟩ := h
  cases e2
  exact ⟨v, e1, h1⟩
end

/-! ### arithmetic -/
def addF : D → D → Option Out
  | .int i, .int j => some (.val (.int (i + j)))
  | .str x, .str y => if x.length + y.length ≤ sizeLine then some (.val (.str (x ++ y))) else none
  | .lst xs, .lst ys => if xs.length + ys.length ≤ sizeLine then some (.new (.lst (xs ++ ys))) else none
  | .tup xs, .tup ys => if xs.length + ys.length ≤ sizeLine ∧ xs ≠ [] ∧ ys ≠ [] then some (.new (.tup (xs ++ ys))) else none
  | _, _ => none
def subF : D → D → Option Out
  | .int i, .int j => some (.val (.int (i - j)))
  | _, _ => none
def strRep (x : Str) (k : Nat) : Str := ⟨(List.replicate k x.cps).foldl (· ++ ·) #[]⟩
def mulF : D → D → Option Out
  | .int i, .int j => if (-(2 ^ 64) < i ∧ i < 2 ^ 64) ∨ (-(2 ^ 64) < j ∧ j < 2 ^ 64) ∨ (-(2 ^ 200) < i ∧ i < 2 ^ 200 ∧ -(2 ^ 200) < j ∧ j < 2 ^ 200) then some (.val (.int (i * j))) else none
  | .lst xs, .int k => if -(2 ^ 63) ≤ k ∧ k < 2 ^ 63 ∧ xs.length * k.toNat ≤ sizeLine then some (.new (.lst (List.replicate k.toNat xs).flatten)) else none
  | .str x, .int k => if -(2 ^ 63) ≤ k ∧ k < 2 ^ 63 ∧ x.length * k.toNat ≤ sizeLine then some (.val (.str (strRep x k.toNat))) else none
  | _, _ => none
def divF : D → D → Option Out
  | .int i, .int j => if 0 < j ∧ j.natAbs.log2 < 9000 then some (.val (.int (i / j))) else none
  | _, _ => none
def modF : D → D → Option Out
  | .int i, .int j => if 0 < j then some (.val (.int (i % j))) else none
  | _, _ => none
def powF : D → D → Option Out
  | .int i, .int j => if 0 ≤ j ∧ j ≤ 1000000 ∧ i.natAbs < 2 ^ 64 then some (.val (.int (i ^ j.toNat))) else none
  | _, _ => none
def binF : Operator → Option (D → D → Option Out)
  | .Add => some addF
  | .Sub => some subF
  | .Mult => some mulF
  | .FloorDiv => some divF
  | .Mod => some modF
  | .Pow => some powF
  | _ => none
/-- a function of two values, as a rule -/
def f2 (f : D → D → Option Out) : Cells → List D → Option Out
  | _, [a, b] => f a b
  | _, _ => none

section
variable {X : Cx} {ca : Nat → Addr}
theorem strRep_small (x : Str) (t : Tok) (n : Int) : (if n < 1 then PySem.Made.str Str.empty else if (n == 1 || x.length == 0) = true then PySem.Made.val (.str x t) else PySem.Made.str ⟨(List.replicate n.toNat x.cps).foldl (· ++ ·) #[]⟩) =
    (if n < 1 then PySem.Made.str (strRep x n.toNat) else if (n == 1 || x.length == 0) = true then PySem.Made.val (.str (strRep x n.toNat) t) else PySem.Made.str (strRep x n.toNat)) := by
  by_cases h : n < 1
  · rw [if_pos h, if_pos h]
    have : n.toNat = 0 := by omega
    rw [this]; rfl
  · rw [if_neg h, if_neg h]
    by_cases h1 : (n == 1 || x.length == 0) = true
    · rw [if_pos h1, if_pos h1]
      have : strRep x n.toNat = x := by
        rw [Bool.or_eq_true] at h1
        rcases h1 with h1 | h1
        · have : n = 1 := by simpa using h1
          subst this
          show (⟨(List.replicate 1 x.cps).foldl (· ++ ·) #[]⟩ : Str) = x
          simp
        · have hz : x.cps = #[] := by
            have : x.cps.size = 0 := by simpa [Str.length] using h1
            exact Array.eq_empty_of_size_eq_zero this
          have : ∀ k, (List.replicate k x.cps).foldl (· ++ ·) #[] = #[] := fun k => by
            rw [hz]
            induction k with
            | zero => rfl
            | succ k ih => rw [List.replicate_succ, List.foldl_cons, Array.append_empty, ih]
          unfold strRep
          rw [this, ← hz]
      rw [this]
    · rw [if_neg h1, if_neg h1]; rfl
theorem strRep_toList (x : Str) (k : Nat) : (strRep x k).cps.toList = (List.replicate k x.cps.toList).flatten := by
  have : ∀ (k : Nat) (acc : Array Nat), ((List.replicate k x.cps).foldl (· ++ ·) acc).toList = acc.toList ++ (List.replicate k x.cps.toList).flatten := fun k => by
    induction k with
    | zero => intro acc; simp
    | succ k ih => intro acc; rw [List.replicate_succ, List.foldl_cons, ih, List.replicate_succ]; simp
  show ((List.replicate k x.cps).foldl (· ++ ·) #[]).toList = _
  rw [this]; simp
theorem strRep_len (x : Str) (k : Nat) : (strRep x k).length = x.length * k := by
  show (strRep x k).cps.size = x.cps.size * k
  rw [← Array.length_toList, strRep_toList, List.length_flatten, List.map_replicate, List.sum_replicate_nat, Array.length_toList, Nat.mul_comm]
theorem op_repS : OpR X (binaryOp .Mult) (fun x y H Q => ∃ z k, x = .str z ∧ y = .int k ∧ (-(2 ^ 63) ≤ k ∧ k < 2 ^ 63 ∧ z.length * k.toNat ≤ sizeLine) ∧ Q (.str (strRep z k.toNat)) H) := by
  intro pins s σ H x y v u Q I rx ry h
  obtain ⟨z, k, rfl, rfl, ⟨h1, h2, h3⟩, q⟩ := h
  obtain ⟨t, rfl⟩ := rx
  obtain ⟨t', rfl⟩ := ry
  have hs : sizeLine = 16777216 := sizeLine_eq
  refine PySem.P.mul_str ?_ (fun a b => ?_) (fun a b => ?_) ?_
  · rw [decide_eq_false (by omega), decide_eq_false (by omega)]; rfl
  · intro hgt
    have hk : 1 ≤ k := by omega
    have hzk : (z.length : Int) * k ≤ 16777216 := by
      have h4 : z.length * k.toNat ≤ 16777216 := by omega
      have h5 : ((z.length * k.toNat : Nat) : Int) ≤ 16777216 := by omega
      rw [Int.natCast_mul, Int.toNat_of_nonneg (by omega)] at h5
      exact h5
    have e : (2 ^ 63 - 1) / k < (z.length : Int) := hgt
    have := (Int.ediv_lt_iff_lt_mul (by omega)).mp e
    omega
  · unfold Builtin.Str.tooLong
    exact decide_eq_false (by omega)
  · rw [strRep_small]
    split
    · exact ⟨by rw [strRep_len]; omega, .str _, H, I.tok _, ⟨_, rfl⟩, q⟩
    · split
      · exact ⟨.str _, H, I, ⟨_, rfl⟩, q⟩
      · exact ⟨by rw [strRep_len]; omega, .str _, H, I.tok _, ⟨_, rfl⟩, q⟩
end
end Eng

/-! Eng5: the operations' rules -/
namespace Eng
open PySem PySem.Spec PyProof.Rows L2
section
variable {X : Cx} {ca : Nat → Addr}
abbrev pr2 (K : PySem.W.Frag) (ca : Nat → Addr) (f : D → D → Option Out) : R2 := fun x y H Q => prR K ca (f2 f) [x, y] H Q
theorem pr_add : OpR X (binaryOp .Add) (pr2 X.K ca addF) := by
  intro pins s σ H x y v u Q I rx ry ⟨w, c, ds, out, rel, at', ef, q⟩
  obtain ⟨d, e, rfl, hd, he⟩ := at'.inv2
  have ef : addF d e = some out := ef
  unfold addF at ef
  split at ef
  · cases ef; obtain rfl := hd; obtain rfl := he
    exact op_add pins s σ H _ _ v u Q I rx ry ⟨_, _, rfl, rfl, q _ rfl⟩
  · obtain rfl := hd; obtain rfl := he
    split at ef
    · cases ef
      exact op_add_str pins s σ H _ _ v u Q I rx ry ⟨_, _, rfl, rfl, by assumption, q _ rfl⟩
    · cases ef
  · obtain ⟨a, vs, rfl, ha, ra⟩ := hd; obtain ⟨b, us, rfl, hb, rb⟩ := he
    split at ef
    · cases ef
      rename_i hl
      rw [ra.length, rb.length] at hl
      exact op_cat pins s σ H _ _ v u Q I rx ry ⟨_, _, _, _, rfl, rfl, ha, hb, hl, fun p hp => q p _ hp ⟨_, rfl, ra.append rb⟩⟩
    · cases ef
  · obtain ⟨a, vs, rfl, ha, ra⟩ := hd; obtain ⟨b, us, rfl, hb, rb⟩ := he
    split at ef
    · cases ef
      rename_i hl
      obtain ⟨hl, hn, hm⟩ := hl
      have hn' : vs ≠ [] := fun z => hn (by subst z; have := ra.length; exact List.eq_nil_of_length_eq_zero this)
      have hm' : us ≠ [] := fun z => hm (by subst z; have := rb.length; exact List.eq_nil_of_length_eq_zero this)
      rw [ra.length, rb.length] at hl
      exact op_catT pins s σ H _ _ v u Q I rx ry ⟨_, _, _, _, rfl, rfl, SqT.of ha, SqT.of hb, hn', hl, fun z => absurd z hm', fun _ p hp => q p _ hp ⟨_, rfl, ra.append rb⟩⟩
    · cases ef
  · cases ef
theorem pr_sub : OpR X (binaryOp .Sub) (pr2 X.K ca subF) := by
  intro pins s σ H x y v u Q I rx ry ⟨w, c, ds, out, rel, at', ef, q⟩
  obtain ⟨d, e, rfl, hd, he⟩ := at'.inv2
  have ef : subF d e = some out := ef
  unfold subF at ef
  split at ef
  · cases ef; obtain rfl := hd; obtain rfl := he
    exact op_sub pins s σ H _ _ v u Q I rx ry ⟨_, _, rfl, rfl, q _ rfl⟩
  · cases ef
theorem RpL.rep {K : PySem.W.Frag} {w : Wd} {ds : List D} {vs : List V} (h : RpL K ca w ds vs) : ∀ k : Nat, RpL K ca w (List.replicate k ds).flatten (List.replicate k vs).flatten
  | 0 => rfl
  | k + 1 => by
    rw [List.replicate_succ, List.replicate_succ, List.flatten_cons, List.flatten_cons]
    exact h.append (RpL.rep h k)
theorem pr_mul : OpR X (binaryOp .Mult) (pr2 X.K ca mulF) := by
  intro pins s σ H x y v u Q I rx ry ⟨w, c, ds, out, rel, at', ef, q⟩
  obtain ⟨d, e, rfl, hd, he⟩ := at'.inv2
  have ef : mulF d e = some out := ef
  unfold mulF at ef
  split at ef
  · obtain rfl := hd; obtain rfl := he
    split at ef
    · cases ef
      rename_i hc
      rcases hc with hc | hc | ⟨h1, h2, h3, h4⟩
      · exact op_mul pins s σ H _ _ v u Q I rx ry ⟨_, _, rfl, rfl, .inl hc, q _ rfl⟩
      · exact op_mul pins s σ H _ _ v u Q I rx ry ⟨_, _, rfl, rfl, .inr hc, q _ rfl⟩
      · exact op_mulW pins s σ H _ _ v u Q I rx ry ⟨_, _, rfl, rfl, wide_mul (a := 200) (b := 200) (by omega) (by omega) (by decide) (by decide) (by decide), q _ rfl⟩
    · cases ef
  · obtain ⟨a, vs, rfl, ha, ra⟩ := hd; obtain rfl := he
    split at ef
    · cases ef
      rename_i hl
      rw [ra.length] at hl
      exact op_rep pins s σ H _ _ v u Q I rx ry ⟨_, _, _, rfl, rfl, ha, hl.1, hl.2.1, hl.2.2, fun p hp => q p _ hp ⟨_, rfl, ra.rep _⟩⟩
    · cases ef
  · obtain rfl := hd; obtain rfl := he
    split at ef
    · cases ef
      exact op_repS pins s σ H _ _ v u Q I rx ry ⟨_, _, rfl, rfl, by assumption, q _ rfl⟩
    · cases ef
  · cases ef
theorem pr_div : OpR X (binaryOp .FloorDiv) (pr2 X.K ca divF) := by
  intro pins s σ H x y v u Q I rx ry ⟨w, c, ds, out, rel, at', ef, q⟩
  obtain ⟨d, e, rfl, hd, he⟩ := at'.inv2
  have ef : divF d e = some out := ef
  unfold divF at ef
  split at ef
  · obtain rfl := hd; obtain rfl := he
    split at ef
    · cases ef
      exact op_fdivW pins s σ H _ _ v u Q I rx ry ⟨_, _, rfl, rfl, by assumption, q _ rfl⟩
    · cases ef
  · cases ef
theorem pr_mod : OpR X (binaryOp .Mod) (pr2 X.K ca modF) := by
  intro pins s σ H x y v u Q I rx ry ⟨w, c, ds, out, rel, at', ef, q⟩
  obtain ⟨d, e, rfl, hd, he⟩ := at'.inv2
  have ef : modF d e = some out := ef
  unfold modF at ef
  split at ef
  · obtain rfl := hd; obtain rfl := he
    split at ef
    · cases ef
      exact op_mod pins s σ H _ _ v u Q I rx ry ⟨_, _, rfl, rfl, by assumption, q _ rfl⟩
    · cases ef
  · cases ef
theorem pr_pow : OpR X (binaryOp .Pow) (pr2 X.K ca powF) := by
  intro pins s σ H x y v u Q I rx ry ⟨w, c, ds, out, rel, at', ef, q⟩
  obtain ⟨d, e, rfl, hd, he⟩ := at'.inv2
  have ef : powF d e = some out := ef
  unfold powF at ef
  split at ef
  · obtain rfl := hd; obtain rfl := he
    split at ef
    · cases ef
      exact op_pow pins s σ H _ _ v u Q I rx ry ⟨_, _, rfl, rfl, by assumption, q _ rfl⟩
    · cases ef
  · cases ef
theorem pr_bin (op : Operator) (f : D → D → Option Out) (h : binF op = some f) : OpR X (binaryOp op) (pr2 X.K ca f) := by
  cases op <;> first | (cases h; exact pr_add) | (cases h; exact pr_sub) | (cases h; exact pr_mul) | (cases h; exact pr_div) | (cases h; exact pr_mod) | (cases h; exact pr_pow) | cases h

/-! ### comparisons -/
def deep : Nat := 12
def strLt (a b : Str) : Bool := decide (a.cps.toList < b.cps.toList)
def scalD : D → Bool
  | .non => true | .bl _ => true | .int _ => true | .str _ => true
  | _ => false
def eqS : D → D → Bool
  | .non, .non => true
  | .bl x, .bl y => x == y
  | .bl x, .int j => (if x then 1 else 0) == j
  | .int i, .bl y => i == (if y then 1 else 0)
  | .int i, .int j => i == j
  | .str x, .str y => x == y
  | _, _ => false
/-- x in ys, any data -/
def anyD (c : Cells) (x : D) : List D → Option Bool
  | [] => some false
  | y :: ys => match eqD deep c y x, anyD c x ys with
    | some a, some b => some (a || b)
    | _, _ => none
def inF (c : Cells) : D → D → Option Bool
  | x, .lst ys => if scalD x && ys.all scalD then some (ys.any fun y => eqS y x) else anyD c x ys
  | x, .gt ys => if scalD x && ys.all scalD then some (ys.any fun y => eqS y x) else none
  | x, .tup ys => if scalD x && ys.all scalD then some (ys.any fun y => eqS y x) else none
  | .str x, .str y => some (!(Builtin.Str.occurrences y x 0 y.length 1).isEmpty)
  | x, .dK ks _ => (keyD x).map (dhas ks)
  | .tup xs, .dT ks _ => (keysD xs).map (dhas ks)
  | _, _ => none
def strsQ : List D → Option (List Str)
  | [] => some []
  | .str x :: r => (strsQ r).map (x :: ·)
  | _ => none
/-- < of lists of texts -/
def ltLs (xs ys : List D) : Option Bool := match strsQ xs, strsQ ys with
  | some a, some b => some (lexS a b)
  | _, _ => none
theorem strsQ_v {K : PySem.W.Frag} {ca : Nat → Addr} {w : Wd} : ∀ {ds : List D} {xs : List Str} {vs : List V}, strsQ ds = some xs → RpL K ca w ds vs → vs = xs.map V.str
  | [], xs, vs, h, r => by cases h; cases r; rfl
  | d :: ds, xs, vs, h, r => by
    obtain ⟨v, r', rfl, r1, r2⟩ := r
    cases d with
    | str x =>
      have h : (strsQ ds).map (x :: ·) = some xs := h
      obtain ⟨ys, e1, rfl⟩ := Option.map_eq_some_iff.mp h
      obtain rfl : v = .str x := r1
      rw [strsQ_v e1 r2]; rfl
    | _ => cases h
theorem strsQ_map : ∀ xs : List Str, strsQ (xs.map .str) = some xs
  | [] => rfl
  | x :: xs => by
    show (strsQ (xs.map .str)).map (x :: ·) = _
    rw [strsQ_map xs]; rfl
def cmpB (c : Cells) : CmpOp → D → D → Option Bool
  | .Eq, a, b => eqD deep c a b
  | .NotEq, a, b => (eqD deep c a b).map (!·)
  | .Lt, .int i, .int j => some (decide (i < j))
  | .LtE, .int i, .int j => some (decide (i ≤ j))
  | .Gt, .int i, .int j => some (decide (j < i))
  | .GtE, .int i, .int j => some (decide (j ≤ i))
  | .Lt, .str i, .str j => some (decide (i.cps.toList < j.cps.toList))
  | .Lt, .lst xs, .lst ys => ltLs xs ys
  | .Is, a, .non => some (match a with | .non => true | _ => false)
  | .IsNot, a, .non => some (match a with | .non => false | _ => true)
  | .Is, .bl a, .bl b => some (decide (a = b))
  | .IsNot, .bl a, .bl b => some (!decide (a = b))
  | .In, x, y => inF c x y
  | .NotIn, x, y => (inF c x y).map (!·)
  | _, _, _ => none
def cmpF (op : CmpOp) : Cells → List D → Option Out
  | c, [a, b] => (cmpB c op a b).map fun k => .val (.bl k)
  | _, _ => none

theorem flat_scal {K : PySem.W.Frag} {w : Wd} {H : Hp} {d : D} {v : V} (h : At K ca w H d v) (e : scalD d = true) : flatV v = true := by
  cases d <;> first | (cases h; rfl) | cases e
theorem flat_scalR {K : PySem.W.Frag} {w : Wd} {d : D} {v : V} (h : Rp K ca w d v) (e : scalD d = true) : flatV v = true := by
  cases d <;> first | (cases h; rfl) | cases e
theorem eqS_V {K : PySem.W.Frag} {w : Wd} {H : Hp} {d e : D} {v u : V} (h : Rp K ca w d v) (h' : At K ca w H e u) (sd : scalD d = true) (se : scalD e = true) : eqV v u = eqS d e := by
  cases d <;> first | (exact (Bool.false_ne_true sd).elim) | (cases h; cases e <;> first | (exact (Bool.false_ne_true se).elim) | (cases h'; rfl))
theorem any_V {K : PySem.W.Frag} {w : Wd} {H : Hp} {e : D} {u : V} (h' : At K ca w H e u) (se : scalD e = true) : ∀ {ds : List D} {vs : List V}, RpL K ca w ds vs → ds.all scalD = true → vs.all flatV = true ∧ inV u vs = ds.any fun y => eqS y e
  | [], _, r, _ => by cases r; exact ⟨rfl, rfl⟩
  | d :: ds, vs, r, sd => by
    obtain ⟨v, r', e1, r1, r2⟩ := r
    subst e1
    rw [List.all_cons, Bool.and_eq_true] at sd
    obtain ⟨a1, a2⟩ := any_V h' se r2 sd.2
    refine ⟨by rw [List.all_cons, flat_scalR r1 sd.1, a1]; rfl, ?_⟩
    show (eqV v u || inV u r') = _
    rw [a2, eqS_V r1 h' sd.1 se, List.any_cons]
theorem anyD_get {c : Cells} {x : D} : ∀ {ys : List D} {b : Bool}, anyD c x ys = some b → ∃ g : Nat → Bool, (∀ i y, ys[i]? = some y → eqD deep c y x = some (g i)) ∧ (b = true ↔ ∃ i, i < ys.length ∧ g i = true)
  | [], b, h => by
    have h' : b = false := by simpa [anyD] using h.symm
    refine ⟨fun _ => true, fun i y e => by simp at e, by simp [h']⟩
  | y :: ys, b, h => by
    unfold anyD at h
    cases e1 : eqD deep c y x with
    | none => rw [e1] at h; simp at h
    | some a =>
      cases e2 : anyD c x ys with
      | none => rw [e1, e2] at h; simp at h
      | some b' =>
        rw [e1, e2] at h
        have hb : b = (a || b') := by simpa using h.symm
        obtain ⟨g, hg, eb⟩ := anyD_get e2
        refine ⟨fun i => match i with | 0 => a | i + 1 => g i, fun i y' hy => ?_, ?_⟩
        · cases i with
          | zero => have : y = y' := by simpa using hy
                    subst y'; exact e1
          | succ i => exact hg i y' (by simpa using hy)
        · rw [hb, Bool.or_eq_true, eb]
          constructor
          · rintro (z | ⟨i, z1, z2⟩)
            · exact ⟨0, Nat.succ_pos _, z⟩
            · exact ⟨i + 1, Nat.succ_lt_succ z1, z2⟩
          · rintro ⟨i, z1, z2⟩
            cases i with
            | zero => exact .inl z2
            | succ i => exact .inr ⟨i, Nat.lt_of_succ_lt_succ z1, z2⟩
open Classical in
theorem pr_in (hu : X.A.units + 64 < cLine) (neg : Bool) : OpR X (compareOp (if neg then .NotIn else .In)) (fun x y H Q => ∃ w c d e b, Rel X.K ca w c H ∧ At X.K ca w H d x ∧ At X.K ca w H e y ∧ inF c d e = some b ∧ Q (.bl (if neg then !b else b)) H) := by
  intro pins s σ H x y v u Q I rx ry ⟨w, c, d, e, b, rel, hd, he, ef, q⟩
  unfold inF at ef
  have flat : ∀ {ys : List D} {vs : List V} {a : Addr}, (SqL X.K H a vs ∨ SqT X.K H a vs) → RpL X.K ca w ys vs → (scalD d && ys.all scalD) = true → y = .ref a → (ys.any fun y => eqS y d) = b → wpAny (model X.prog X.w) X.A (compareOp (if neg then .NotIn else .In) v u) (EP X pins σ Q) X.xe s := fun {ys vs a} hs r sc ea eb => by
    subst ea
    rw [Bool.and_eq_true] at sc
    obtain ⟨f1, f2⟩ := any_V hd sc.1 r sc.2
    rw [← eb, ← f2] at q
    cases neg with
    | false => exact op_in_seq pins s σ H x _ v u Q I rx ry ⟨a, vs, rfl, hs, flat_scal hd sc.1, f1, q⟩
    | true => exact op_notIn_seq pins s σ H x _ v u Q I rx ry ⟨a, vs, rfl, hs, flat_scal hd sc.1, f1, q⟩
  split at ef
  · obtain ⟨a, vs, ey, ha, ra⟩ := he
    split at ef
    · cases ef
      exact flat (.inl (SqL.of ha)) ra (by assumption) ey rfl
    · obtain ⟨g, hg, eb⟩ := anyD_get ef
      subst ey
      cases ry
      obtain ⟨its, rv, pl, _⟩ := I.list (SqL.of ha)
      have hlen : its.length = vs.length := rv.length.symm
      have hlen2 := ra.length
      have item : ∀ i (hi : i < its.length), SeqAt.EqAt X.A.in1 s its[i] v (g i) := fun i hi => by
        obtain ⟨p, ep, rp⟩ := items_at rv (j := i) (by simpa using hi)
        have hi2 : i < (List.length ‹List D›) := by omega
        have := (eqAt_D I rfl rel deep X.A.in1 _ d p x _ v (g i) (by show X.A.units + 1 + 13 < cLine; omega) (hg i _ (List.getElem?_eq_getElem hi2)) (fun e' he' => ra.atV rel (List.getElem?_eq_getElem hi2) ep he') (fun e' he' => by
          have : e' = d := by
            have z : derC c d = some d := by
              cases d <;> first | rfl | exact hd.elim
            rw [z] at he'; exact (Option.some.inj he').symm
          subst this; exact hd) rp rx).1
        simpa using this
      have he : ∀ y, y ∈ its.toArray → SeqAt.EqAt X.A.in1 s y v (decide (∃ i, ∃ h : i < its.length, its[i] = y ∧ g i = true)) := fun y hy => by
        obtain ⟨j, hj, ej⟩ := List.getElem_of_mem (by simpa using hy : y ∈ its)
        by_cases z : ∃ i, ∃ h : i < its.length, its[i] = y ∧ g i = true
        · rw [decide_eq_true z]
          obtain ⟨i, hi, e1, e2⟩ := z
          rw [← e1, ← e2]; exact item i hi
        · rw [decide_eq_false z]
          have : g j = false := by
            cases e : g j with
            | false => rfl
            | true => exact absurd ⟨j, hj, ej, e⟩ z
          rw [← ej, ← this]; exact item j hj
      have hany : its.toArray.any (fun y => decide (∃ i, ∃ h : i < its.length, its[i] = y ∧ g i = true)) = b := by
        rw [Bool.eq_iff_iff, eb, List.any_toArray, List.any_eq_true]
        constructor
        · rintro ⟨y, hy, z⟩
          obtain ⟨i, hi, e1, e2⟩ := of_decide_eq_true z
          exact ⟨i, by omega, e2⟩
        · rintro ⟨i, hi, z⟩
          have hi' : i < its.length := by omega
          exact ⟨its[i], List.getElem_mem hi', decide_eq_true ⟨i, hi', rfl, z⟩⟩
      cases neg with
      | false =>
        refine SeqAt.in_listAt (fun y => decide (∃ i, ∃ h : i < its.length, its[i] = y ∧ g i = true)) pl.isList he ⟨.bl _, H, I, rfl, ?_⟩
        rw [hany]; exact q
      | true =>
        refine SeqAt.notIn_listAt (fun y => decide (∃ i, ∃ h : i < its.length, its[i] = y ∧ g i = true)) pl.isList he ⟨.bl _, H, I, rfl, ?_⟩
        rw [hany]; exact q
  · obtain ⟨a, vs, ey, ha, ra⟩ := he
    split at ef
    · cases ef
      exact flat (.inr ha) ra (by assumption) ey rfl
    · cases ef
  · obtain ⟨a, vs, ey, ha, ra⟩ := he
    split at ef
    · cases ef
      exact flat (.inr (SqT.of ha)) ra (by assumption) ey rfl
    · cases ef
  · obtain rfl := hd; obtain rfl := he
    cases ef
    cases neg with
    | false => exact op_in_str pins s σ H _ _ v u Q I rx ry ⟨_, _, rfl, rfl, q⟩
    | true => exact op_notIn_str pins s σ H _ _ v u Q I rx ry ⟨_, _, rfl, rfl, q⟩
  · rename_i ks ds
    obtain ⟨a, kvs, ey, ha, hk, ra⟩ := he
    subst ey
    cases ry
    cases ek : keyD d with
    | none => rw [ek] at ef; cases ef
    | some k =>
      rw [ek] at ef
      have eb : b = dhas ks k := by simpa using ef.symm
      obtain rfl := keyD_at ek hd
      have hb : b = (valV kvs k).isSome := by rw [eb, ← hk, dhas_any, valV_any]
      cases neg with
      | false => exact d_in (by omega) I (DGet.k (k := k) ha) rx fun s3 I3 => ⟨.bl _, H, I3, rfl, by rw [← hb]; exact q⟩
      | true => exact d_notIn (by omega) I (DGet.k (k := k) ha) rx fun s3 I3 => ⟨.bl _, H, I3, rfl, by rw [← hb]; exact q⟩
  · rename_i xs ks ds
    obtain ⟨a, kvs, ey, ha, hk, ra⟩ := he
    obtain ⟨b', vs, ex, hb', rb⟩ := hd
    subst ey ex
    cases ry
    cases ek : keysD xs with
    | none => rw [ek] at ef; cases ef
    | some k =>
      rw [ek] at ef
      have eb : b = dhas ks k := by simpa using ef.symm
      obtain rfl := keysD_v ek rb
      have hb : b = (valV kvs k).isSome := by rw [eb, ← hk, dhas_any, valV_any]
      cases neg with
      | false => exact d_in (by omega) I (DGet.t (k := k) ha hb') rx fun s3 I3 => ⟨.bl _, H, I3, rfl, by rw [← hb]; exact q⟩
      | true => exact d_notIn (by omega) I (DGet.t (k := k) ha hb') rx fun s3 I3 => ⟨.bl _, H, I3, rfl, by rw [← hb]; exact q⟩
  · cases ef
theorem At.derC_self {K : PySem.W.Frag} {w : Wd} {c : Cells} {H : Hp} {d : D} {v : V} (h : At K ca w H d v) : derC c d = some d := by
  cases d <;> first | rfl | exact h.elim
theorem pr_cmp (hu : X.A.units + 64 < cLine) (op : CmpOp) : OpR X (compareOp op) (fun x y H Q => prR X.K ca (cmpF op) [x, y] H Q) := by
  intro pins s σ H x y v u Q I rx ry ⟨w, c, ds, out, rel, at', ef, q⟩
  obtain ⟨d, e, rfl, hd, he⟩ := at'.inv2
  have ef : (cmpB c op d e).map (fun k => Out.val (.bl k)) = some out := ef
  cases ec : cmpB c op d e with
  | none => rw [ec] at ef; cases ef
  | some k =>
  rw [ec] at ef
  have eo : out = .val (.bl k) := by simpa using ef.symm
  subst eo
  have q : Q (.bl k) H := q _ rfl
  have sd := he.derC_self (c := c)
  have sd' := hd.derC_self (c := c)
  unfold cmpB at ec
  split at ec
  · have := (eqAt_D I rfl rel deep X.A d e x y v u k (by show X.A.units + 13 < cLine; omega) ec (fun e' z => by rw [sd'] at z; cases z; exact hd) (fun e' z => by rw [sd] at z; cases z; exact he) rx ry).2.2
    exact this X.prog X.w _ _ ⟨.bl _, H, I, rfl, q⟩
  · cases e0 : eqD deep c d e with
    | none => rw [e0] at ec; cases ec
    | some k0 =>
      rw [e0] at ec
      have : k = !k0 := by simpa using ec.symm
      have := (eqAt_D I rfl rel deep X.A d e x y v u k0 (by show X.A.units + 13 < cLine; omega) e0 (fun e' z => by rw [sd'] at z; cases z; exact hd) (fun e' z => by rw [sd] at z; cases z; exact he) rx ry).2.1
      exact this X.prog X.w _ _ ⟨.bl _, H, I, rfl, by rwa [← ‹k = !k0›]⟩
  · cases ec; obtain rfl := hd; obtain rfl := he; exact op_lt pins s σ H _ _ v u Q I rx ry ⟨_, _, rfl, rfl, q⟩
  · cases ec; obtain rfl := hd; obtain rfl := he; exact op_le pins s σ H _ _ v u Q I rx ry ⟨_, _, rfl, rfl, q⟩
  · cases ec; obtain rfl := hd; obtain rfl := he; exact op_gt pins s σ H _ _ v u Q I rx ry ⟨_, _, rfl, rfl, q⟩
  · cases ec; obtain rfl := hd; obtain rfl := he; exact op_ge pins s σ H _ _ v u Q I rx ry ⟨_, _, rfl, rfl, q⟩
  · cases ec; obtain rfl := hd; obtain rfl := he; exact op_lt_str pins s σ H _ _ v u Q I rx ry ⟨_, _, rfl, rfl, q⟩
  · obtain ⟨a, vs, rfl, ha, ra⟩ := hd
    obtain ⟨b, us, rfl, hb, rb⟩ := he
    unfold ltLs at ec
    split at ec
    · rename_i e1 e2
      cases ec
      obtain rfl := strsQ_v e1 ra
      obtain rfl := strsQ_v e2 rb
      exact op_ltLL (by omega) pins s σ H _ _ v u Q I rx ry ⟨a, b, _, _, rfl, rfl, SqL.of ha, SqL.of hb, q⟩
    · cases ec
  · obtain rfl := he
    refine op_isN pins s σ H _ _ v u Q I rx ry ⟨rfl, ?_⟩
    have : k = decide (x = .non) := by
      cases d <;> first | (obtain rfl := hd; cases ec; rfl) | (obtain ⟨a, z⟩ := hd; first | (obtain ⟨_, rfl, _⟩ := z; cases ec; rfl) | (obtain ⟨rfl, _⟩ := z; cases ec; rfl) | (obtain ⟨_, _, rfl, _⟩ := z; cases ec; rfl)) | exact hd.elim
    rw [← this]; exact q
  · obtain rfl := he
    refine op_notN pins s σ H _ _ v u Q I rx ry ⟨rfl, ?_⟩
    have : k = !decide (x = .non) := by
      cases d <;> first | (obtain rfl := hd; cases ec; rfl) | (obtain ⟨a, z⟩ := hd; first | (obtain ⟨_, rfl, _⟩ := z; cases ec; rfl) | (obtain ⟨rfl, _⟩ := z; cases ec; rfl) | (obtain ⟨_, _, rfl, _⟩ := z; cases ec; rfl)) | exact hd.elim
    rw [← this]; exact q
  · cases ec; obtain rfl := hd; obtain rfl := he; exact op_isBl pins s σ H _ _ v u Q I rx ry ⟨_, _, rfl, rfl, q⟩
  · cases ec; obtain rfl := hd; obtain rfl := he; exact op_notBl pins s σ H _ _ v u Q I rx ry ⟨_, _, rfl, rfl, q⟩
  · exact pr_in hu false pins s σ H x y v u Q I rx ry ⟨w, c, _, _, k, rel, hd, he, ec, q⟩
  · cases e0 : inF c d e with
    | none => rw [e0] at ec; cases ec
    | some k0 =>
      rw [e0] at ec
      have : k = !k0 := by simpa using ec.symm
      exact pr_in hu true pins s σ H x y v u Q I rx ry ⟨w, c, _, _, k0, rel, hd, he, e0, by simp only [if_true]; rwa [← this]⟩
  · cases ec
end
end Eng

/-! Eng6: items, slices, builtin functions and methods -/
namespace Eng
open PySem PySem.Spec PyProof.Rows L2

def cutD (xs : List D) (lo hi : Option Int) : List D := (xs.drop (HT.sIx xs.length 0 lo)).take (HT.sIx xs.length xs.length hi - HT.sIx xs.length 0 lo)
def cutI (xs : List Int) (lo hi : Option Int) : List Int := (xs.drop (HT.sIx xs.length 0 lo)).take (HT.sIx xs.length xs.length hi - HT.sIx xs.length 0 lo)
def ixF : Cells → List D → Option Out
  | _, [.lst xs, .int i] => (atI xs i).map .val
  | _, [.tup xs, .int i] => (atI xs i).map .val
  | _, [.gt xs, .int i] => (atI xs i).map .val
  | _, [.str z, .int i] => if z.length ≤ sizeLine then (atI z.cps.toList i).map fun c => .val (.str ⟨#[c]⟩) else none
  | _, [.dK ks vs, k] => (keyD k).bind fun k => (dget ks vs k).map .val
  | _, [.dT ks vs, .tup k] => (keysD k).bind fun k => (dget ks vs k).map .val
  | _, _ => none
def slF (lo hi : Option Int) : D → Option Out
  | .lst xs => some (.new (.lst (cutD xs lo hi)))
  | .scr ns => some (.new (.lst ((cutI ns lo hi).map .int)))
  | .str z => if z.length ≤ sizeLine then some (.val (.str (cutS z lo hi))) else none
  | .tup xs => if HT.sIx xs.length 0 lo = 0 ∧ HT.sIx xs.length xs.length hi = xs.length then none else some (.new (.tup (cutD xs lo hi)))
  | _ => none

section
variable {X : Cx} {ca : Nat → Addr}
theorem RpL.atI {K : PySem.W.Frag} {w : Wd} {ds : List D} {vs : List V} {i : Int} {d : D} (h : RpL K ca w ds vs) (e : atI ds i = some d) : ∃ v, atI vs i = some v ∧ Rp K ca w d v := by
  unfold L2.atI at e ⊢
  rw [← h.length]
  cases z : ixN ds.length i with
  | none => rw [z] at e; cases e
  | some j =>
    rw [z] at e
    exact h.get e
theorem atI_ints {ns : List Int} {i : Int} : atI (ns.map V.int) i = (atI ns i).map V.int := by
  unfold L2.atI
  rw [List.length_map]
  cases ixN ns.length i with
  | none => rfl
  | some j => show (ns.map V.int)[j]? = (ns[j]?).map V.int; rw [List.getElem?_map]
theorem RpL.cut {K : PySem.W.Frag} {w : Wd} {ds : List D} {vs : List V} (h : RpL K ca w ds vs) (lo hi : Option Int) : RpL K ca w (cutD ds lo hi) (cutV vs lo hi) := by
  unfold cutD cutV
  rw [h.length]
  exact (h.drop _).take _
theorem RpL.ints {K : PySem.W.Frag} {w : Wd} : ∀ ns : List Int, RpL K ca w (ns.map D.int) (ns.map V.int)
  | [] => rfl
  | n :: ns => ⟨.int n, ns.map V.int, rfl, rfl, RpL.ints ns⟩
theorem cutV_ints (ns : List Int) (lo hi : Option Int) : cutV (ns.map V.int) lo hi = (cutI ns lo hi).map V.int := by
  unfold cutV cutI
  rw [List.length_map, List.map_take, List.map_drop]
theorem ix_dict (hu : X.A.units + 1 < cLine) : IxR X (fun x y H Q => ∃ a v, x = .ref a ∧ DGet H a y (some v) ∧ Q v H) := by
  intro value slice pins s σ H x y v u Q I rx ry h hs
  obtain ⟨a, z, rfl, g, q⟩ := h
  cases rx
  have ht := dict_typeIs I g
  unfold subscriptTail
  refine wpAny_bind ?_
  rw [getitemInPython_of_ne ht.not_modules]
  refine wpAny_bind (wpAny_specialOf ht PySem.F.slot_dict_getitem.lookup ?_)
  have fin : wpAny (model X.prog X.w) X.A (subscripted slice false (.ref a) u) (fun r s' => wpAny (model X.prog X.w) X.A (letTemporaryGo value (.ref a) r >>= fun _ => pure r) (EP X pins σ Q) X.xe s') X.xe s := by
    rw [hs]
    exact wpAny_operating (d_getItem hu I g ry fun w' s3 I3 rw' => wpAny_bind (wpAny_letTemporaryGo (wpAny_pure ⟨z, H, I3, rw', q⟩)))
  first
    | exact wpAny_pure (wpAny_bind fin)
    | exact wpAny_bind (wpAny_pure (wpAny_bind fin))
    | exact wpAny_bind fin
theorem pr_ix (hu : X.A.units + 64 < cLine) : IxR X (fun x y H Q => prR X.K ca ixF [x, y] H Q) := by
  intro value slice pins s σ H x y v u Q I rx ry ⟨w, c, ds, out, rel, at', ef, q⟩ hs
  obtain ⟨d, e, rfl, hd, he⟩ := at'.inv2
  unfold ixF at ef
  split at ef
  · rename_i e1; cases e1
    obtain ⟨a, vs, rfl, ha, ra⟩ := hd; obtain rfl := he
    obtain ⟨z, ez, eo⟩ := Option.map_eq_some_iff.mp ef
    subst eo
    obtain ⟨p, ep, rp⟩ := ra.atI ez
    exact ix_list value slice pins s σ H _ _ v u Q I rx ry ⟨a, vs, _, p, rfl, rfl, SqL.of ha, ep, q p rp⟩ hs
  · rename_i e1; cases e1
    obtain ⟨a, vs, rfl, ha, ra⟩ := hd; obtain rfl := he
    obtain ⟨z, ez, eo⟩ := Option.map_eq_some_iff.mp ef
    subst eo
    obtain ⟨p, ep, rp⟩ := ra.atI ez
    exact ix_tup value slice pins s σ H _ _ v u Q I rx ry ⟨a, vs, _, p, rfl, rfl, SqT.of ha, ep, q p rp⟩ hs
  · rename_i e1; cases e1
    obtain ⟨a, vs, rfl, ha, ra⟩ := hd; obtain rfl := he
    obtain ⟨z, ez, eo⟩ := Option.map_eq_some_iff.mp ef
    subst eo
    obtain ⟨p, ep, rp⟩ := ra.atI ez
    exact ix_tup value slice pins s σ H _ _ v u Q I rx ry ⟨a, vs, _, p, rfl, rfl, ha, ep, q p rp⟩ hs
  · rename_i e1; cases e1
    obtain rfl := hd; obtain rfl := he
    split at ef
    · obtain ⟨z, ez, eo⟩ := Option.map_eq_some_iff.mp ef
      subst eo
      exact ix_str value slice pins s σ H _ _ v u Q I rx ry ⟨_, _, z, rfl, rfl, by assumption, ez, q _ rfl⟩ hs
    · cases ef
  · rename_i e1; cases e1
    obtain ⟨a, kvs, rfl, ha, hk, ra⟩ := hd
    obtain ⟨k, ek, ef⟩ := Option.bind_eq_some_iff.mp ef
    obtain ⟨z, ez, eo⟩ := Option.map_eq_some_iff.mp ef
    subst eo
    obtain rfl := keyD_at ek he
    have := dget_val (K := X.K) (ca := ca) (w := w) k ra
    rw [hk, ez] at this
    obtain ⟨p, ep, rp⟩ := this
    exact ix_dict (by omega) value slice pins s σ H _ _ v u Q I rx ry ⟨a, p, rfl, by rw [← ep]; exact DGet.k ha, q p rp⟩ hs
  · rename_i e1; cases e1
    obtain ⟨a, kvs, rfl, ha, hk, ra⟩ := hd
    obtain ⟨b, vs, rfl, hb, rb⟩ := he
    obtain ⟨k, ek, ef⟩ := Option.bind_eq_some_iff.mp ef
    obtain ⟨z, ez, eo⟩ := Option.map_eq_some_iff.mp ef
    subst eo
    obtain rfl := keysD_v ek rb
    have := dget_val (K := X.K) (ca := ca) (w := w) k ra
    rw [hk, ez] at this
    obtain ⟨p, ep, rp⟩ := this
    exact ix_dict (by omega) value slice pins s σ H _ _ v u Q I rx ry ⟨a, p, rfl, by rw [← ep]; exact DGet.t ha hb, q p rp⟩ hs
  · cases ef
theorem pr_sl : SlR X (fun x lo hi H Q => ∃ w c d out, Rel X.K ca w c H ∧ At X.K ca w H d x ∧ slF lo hi d = some out ∧ OutQ X.K ca w H out Q) := by
  intro pins s σ H x v vl vu lo hi sl Q I rx hs pl pu ⟨w, c, d, out, rel, hd, ef, q⟩
  unfold slF at ef
  split at ef
  · cases ef
    obtain ⟨a, vs, rfl, ha, ra⟩ := hd
    exact sl_list pins s σ H _ v vl vu lo hi sl Q I rx hs pl pu ⟨a, vs, rfl, SqL.of ha, fun p hp => q p _ hp ⟨_, rfl, ra.cut lo hi⟩⟩
  · cases ef
    obtain ⟨a, rfl, ha⟩ := hd
    exact sl_list pins s σ H _ v vl vu lo hi sl Q I rx hs pl pu ⟨a, _, rfl, ha, fun p hp => by
      rw [cutV_ints]
      exact q p _ hp ⟨_, rfl, RpL.ints _⟩⟩
  · split at ef
    · cases ef
      obtain rfl := hd
      exact sl_str pins s σ H _ v vl vu lo hi sl Q I rx hs pl pu ⟨_, rfl, by assumption, q _ rfl⟩
    · cases ef
  · split at ef
    · cases ef
    · rename_i hn
      cases ef
      obtain ⟨a, vs, rfl, ha, ra⟩ := hd
      have hl := ra.length
      exact sl_tup pins s σ H _ v vl vu lo hi sl Q I rx hs pl pu ⟨a, vs, rfl, SqT.of ha, by rw [← hl]; exact hn, fun p hp => q p _ hp ⟨_, rfl, ra.cut lo hi⟩⟩
  · cases ef

/-! ### builtin functions -/
def lenF : List D → Option Out
  | [.lst xs] => some (.val (.int xs.length))
  | [.tup xs] => some (.val (.int xs.length))
  | [.gt xs] => some (.val (.int xs.length))
  | [.scr xs] => some (.val (.int xs.length))
  | [.str z] => if z.length ≤ sizeLine then some (.val (.int z.length)) else none
  | [.dK ks _] => some (.val (.int ks.length))
  | _ => none
def absF : List D → Option Out
  | [.int i] => some (.val (.int (if i < 0 then -i else i)))
  | _ => none
def intsD : List D → Option (List Int)
  | [] => some []
  | .int b :: ds => (intsD ds).map (b :: ·)
  | _ => none
/-- the largest, the smallest -/
def bigI : List Int → Int
  | [] => 0
  | [x] => x
  | x :: y :: r => if x < bigI (y :: r) then bigI (y :: r) else x
def smlI : List Int → Int
  | [] => 0
  | [x] => x
  | x :: y :: r => if smlI (y :: r) < x then smlI (y :: r) else x
theorem bigI_ok : ∀ {xs : List Int}, xs ≠ [] → bigI xs ∈ xs ∧ ∀ y ∈ xs, y ≤ bigI xs
  | [], h => absurd rfl h
  | [x], _ => ⟨List.mem_singleton.mpr rfl, fun y hy => by rw [List.mem_singleton.mp hy]; exact Int.le_refl _⟩
  | x :: z :: r, _ => by
    obtain ⟨h1, h2⟩ := bigI_ok (xs := z :: r) (by simp)
    unfold bigI
    by_cases h : x < bigI (z :: r)
    · rw [if_pos h]
      refine ⟨List.mem_cons_of_mem _ h1, fun y hy => ?_⟩
      rcases List.mem_cons.mp hy with rfl | hy
      · exact Int.le_of_lt h
      · exact h2 y hy
    · rw [if_neg h]
      refine ⟨List.mem_cons_self, fun y hy => ?_⟩
      rcases List.mem_cons.mp hy with rfl | hy
      · exact Int.le_refl _
      · exact Int.le_trans (h2 y hy) (Int.not_lt.mp h)
theorem smlI_ok : ∀ {xs : List Int}, xs ≠ [] → smlI xs ∈ xs ∧ ∀ y ∈ xs, smlI xs ≤ y
  | [], h => absurd rfl h
  | [x], _ => ⟨List.mem_singleton.mpr rfl, fun y hy => by rw [List.mem_singleton.mp hy]; exact Int.le_refl _⟩
  | x :: z :: r, _ => by
    obtain ⟨h1, h2⟩ := smlI_ok (xs := z :: r) (by simp)
    unfold smlI
    by_cases h : smlI (z :: r) < x
    · rw [if_pos h]
      refine ⟨List.mem_cons_of_mem _ h1, fun y hy => ?_⟩
      rcases List.mem_cons.mp hy with rfl | hy
      · exact Int.le_of_lt h
      · exact h2 y hy
    · rw [if_neg h]
      refine ⟨List.mem_cons_self, fun y hy => ?_⟩
      rcases List.mem_cons.mp hy with rfl | hy
      · exact Int.le_refl _
      · exact Int.le_trans (Int.not_lt.mp h) (h2 y hy)
def maxF : List D → Option Out
  | [.int i, .int j] => some (.val (.int (if j > i then j else i)))
  | [.lst xs] => (intsD xs).bind fun bs => if bs = [] then none else some (.val (.int (bigI bs)))
  | _ => none
def minF : List D → Option Out
  | [.int i, .int j] => some (.val (.int (if j < i then j else i)))
  | [.lst xs] => (intsD xs).bind fun bs => if bs = [] then none else some (.val (.int (smlI bs)))
  | _ => none
def dmF : List D → Option Out
  | [.int i, .int j] => if 0 < j ∧ (j < 1073741824 ∨ (-340282366920938463463374607431768211456 < i ∧ i < 340282366920938463463374607431768211456)) then some (.new (.tup [.int (i / j), .int (i % j)])) else none
  | _ => none
def intF : List D → Option Out
  | [.int i] => some (.val (.int i))
  | [.bl b] => some (.val (.int (if b then 1 else 0)))
  | _ => none
/-- a text's signs, each a text -/
def signsD (x : Str) : List D := x.cps.toList.map fun c => .str ⟨#[c]⟩
def listF : List D → Option Out
  | [.str x] => if x.length ≤ sizeLine then some (.new (.lst (signsD x))) else none
  | [.lst xs] => some (.new (.lst xs))
  | [.tup xs] => some (.new (.lst xs))
  | [.gt xs] => some (.new (.lst xs))
  | [.scr xs] => some (.new (.lst (xs.map .int)))
  | _ => none
def tupleF : List D → Option Out
  | [.lst xs] => some (.new (.tup xs))
  | [.tup xs] => some (.val (.tup xs))
  | _ => none
def boolsD : List D → Option (List Bool)
  | [] => some []
  | .bl b :: ds => (boolsD ds).map (b :: ·)
  | _ => none
def strsD : List D → Option (List Str)
  | [] => some []
  | .str b :: ds => (strsD ds).map (b :: ·)
  | _ => none
def allF : List D → Option Out
  | [.lst xs] => (boolsD xs).map fun bs => .val (.bl (bs.all id))
  | _ => none
def anyF : List D → Option Out
  | [.lst xs] => (boolsD xs).map fun bs => .val (.bl (bs.any id))
  | _ => none
def sumF : List D → Option Out
  | [.lst xs] => (intsD xs).map fun bs => .val (.int bs.sum)
  | _ => none
theorem boolsD_v {K : PySem.W.Frag} {w : Wd} : ∀ {ds : List D} {bs : List Bool} {vs : List V}, boolsD ds = some bs → RpL K ca w ds vs → vs = bs.map V.bl
  | [], bs, vs, h, r => by cases h; cases r; rfl
  | d :: ds, bs, vs, h, r => by
    obtain ⟨v, r', e, r1, r2⟩ := r
    cases d with
    | bl b =>
      obtain ⟨bs', e1, rfl⟩ := Option.map_eq_some_iff.mp (show (boolsD ds).map (b :: ·) = some bs from h)
      obtain rfl : v = .bl b := r1
      rw [e, boolsD_v e1 r2]; rfl
    | _ => cases h
theorem intsD_v {K : PySem.W.Frag} {w : Wd} : ∀ {ds : List D} {bs : List Int} {vs : List V}, intsD ds = some bs → RpL K ca w ds vs → vs = bs.map V.int
  | [], bs, vs, h, r => by cases h; cases r; rfl
  | d :: ds, bs, vs, h, r => by
    obtain ⟨v, r', e, r1, r2⟩ := r
    cases d with
    | int b =>
      obtain ⟨bs', e1, rfl⟩ := Option.map_eq_some_iff.mp (show (intsD ds).map (b :: ·) = some bs from h)
      obtain rfl : v = .int b := r1
      rw [e, intsD_v e1 r2]; rfl
    | _ => cases h
theorem strsD_v {K : PySem.W.Frag} {w : Wd} : ∀ {ds : List D} {bs : List Str} {vs : List V}, strsD ds = some bs → RpL K ca w ds vs → vs = bs.map V.str
  | [], bs, vs, h, r => by cases h; cases r; rfl
  | d :: ds, bs, vs, h, r => by
    obtain ⟨v, r', e, r1, r2⟩ := r
    cases d with
    | str b =>
      obtain ⟨bs', e1, rfl⟩ := Option.map_eq_some_iff.mp (show (strsD ds).map (b :: ·) = some bs from h)
      obtain rfl : v = .str b := r1
      rw [e, strsD_v e1 r2]; rfl
    | _ => cases h
mutual
def pyG (f : Nat → Option PyData) : D → Option PyData
  | .non => some .none
  | .bl b => some (.bool b)
  | .int i => some (.int i)
  | .str x => some (.str x)
  | .tup ds => (pyGL f ds).map .tuple
  | .lst ds => (pyGL f ds).map .list
  | .cell n => f n
  | .dK ks vs => (pyGL f vs).map fun ps => .dict ((ks.map keyP).zip ps)
  | _ => none
def pyGL (f : Nat → Option PyData) : List D → Option (List PyData)
  | [] => some []
  | d :: ds => match pyG f d, pyGL f ds with
    | some p, some ps => some (p :: ps)
    | _, _ => none
end
def pyF (c : Cells) : Nat → D → Option PyData
  | 0, d => pyG (fun _ => none) d
  | n + 1, d => pyG (fun k => match c[k]? with | some (some e) => pyF c n e | _ => none) d
def isSeq : D → Bool
  | .lst _ => true
  | .tup _ => true
  | .dK _ _ => true
  | _ => false
def reprF (c : Cells) : List D → Option Out
  | [.int i] => if i.natAbs.log2 < 1920 then some (.val (.str (PyData.int i).shown)) else none
  | [.bl b] => some (.val (.str (PyData.bool b).shown))
  | [.non] => some (.val (.str PyData.none.shown))
  | [.str x] => if (PyData.str x).shown.length ≤ sizeLine then some (.val (.str (PyData.str x).shown)) else none
  | [d] => match (if isSeq d then pyF c 2 d else none) with
    | some p => if p.showable = true ∧ p.depth ≤ 40 ∧ p.shown.length ≤ sizeLine then some (.val (.str p.shown)) else none
    | none => none
  | _ => none
mutual
theorem pyG_dp {K : PySem.W.Frag} {w : Wd} {H : Hp} {f : Nat → Option PyData} (hS : Same w.S H) (hf : ∀ n p, f n = some p → Dq K H (.ref (w.al n)) p) : ∀ (d : D) (v : V) (p : PyData), pyG f d = some p → Rp K ca w d v → Dq K H v p
  | .non, v, p, e, r => by cases e; obtain rfl : v = _ := r; exact .non
  | .bl b, v, p, e, r => by cases e; obtain rfl : v = _ := r; exact .bl _
  | .int i, v, p, e, r => by cases e; obtain rfl : v = _ := r; exact .int _
  | .str x, v, p, e, r => by cases e; obtain rfl : v = _ := r; exact .str _
  | .tup ds, v, p, e, r => by
    obtain ⟨a, vs, rfl, s, q⟩ := r
    obtain ⟨ps, e1, rfl⟩ := Option.map_eq_some_iff.mp (show (pyGL f ds).map PyData.tuple = some p from e)
    exact .tup (SqT.of (hS _ _ s)) (pyG_dpL hS hf ds vs ps e1 q)
  | .lst ds, v, p, e, r => by
    obtain ⟨a, vs, rfl, s, q⟩ := r
    obtain ⟨ps, e1, rfl⟩ := Option.map_eq_some_iff.mp (show (pyGL f ds).map PyData.list = some p from e)
    exact .lst (SqL.of (hS _ _ s)) (pyG_dpL hS hf ds vs ps e1 q)
  | .cell n, v, p, e, r => by
    obtain ⟨rfl, _⟩ := r
    exact hf n p e
  | .scr _, _, _, e, _ => by cases e
  | .gt _, _, _, e, _ => by cases e
  | .dK ks vs, v, p, e, r => by
    obtain ⟨a, kvs, rfl, s, hk, q⟩ := r
    obtain ⟨ps, e1, rfl⟩ := Option.map_eq_some_iff.mp (show (pyGL f vs).map (fun ps => PyData.dict ((ks.map keyP).zip ps)) = some p from e)
    rw [← hk, List.map_map]
    exact .dct (hS _ _ s) (pyG_dpL hS hf vs _ ps e1 q)
  | .dT _ _, _, _, e, _ => by cases e
  | .ins _ _ _, _, _, e, _ => by cases e
  | .slot _, _, _, e, _ => by cases e
theorem pyG_dpL {K : PySem.W.Frag} {w : Wd} {H : Hp} {f : Nat → Option PyData} (hS : Same w.S H) (hf : ∀ n p, f n = some p → Dq K H (.ref (w.al n)) p) : ∀ (ds : List D) (vs : List V) (ps : List PyData), pyGL f ds = some ps → RpL K ca w ds vs → DqAll K H vs ps
  | [], vs, ps, e, r => by cases e; obtain rfl : vs = [] := r; exact .nil
  | d :: ds, vs, ps, e, r => by
    obtain ⟨v, r', rfl, r1, r2⟩ := r
    have e : (match pyG f d, pyGL f ds with | some p, some ps => some (p :: ps) | _, _ => none) = some ps := e
    cases e1 : pyG f d with
    | none => rw [e1] at e; simp at e
    | some p =>
      cases e2 : pyGL f ds with
      | none => rw [e1, e2] at e; simp at e
      | some ps' =>
        rw [e1, e2] at e
        have : ps = p :: ps' := by simpa using e.symm
        subst this
        exact .cons (pyG_dp hS hf d v p e1 r1) (pyG_dpL hS hf ds r' ps' e2 r2)
end
/-- the top of what stands now -/
theorem pyG_at {K : PySem.W.Frag} {w : Wd} {H : Hp} {f : Nat → Option PyData} (hS : Same w.S H) (hf : ∀ n p, f n = some p → Dq K H (.ref (w.al n)) p) {d : D} {v : V} {p : PyData} (e : pyG f d = some p) (r : At K ca w H d v) : Dq K H v p := by
  cases d with
  | tup ds =>
    obtain ⟨a, vs, rfl, s, q⟩ := r
    obtain ⟨ps, e1, rfl⟩ := Option.map_eq_some_iff.mp (show (pyGL f ds).map PyData.tuple = some p from e)
    exact .tup (SqT.of s) (pyG_dpL hS hf ds vs ps e1 q)
  | lst ds =>
    obtain ⟨a, vs, rfl, s, q⟩ := r
    obtain ⟨ps, e1, rfl⟩ := Option.map_eq_some_iff.mp (show (pyGL f ds).map PyData.list = some p from e)
    exact .lst (SqL.of s) (pyG_dpL hS hf ds vs ps e1 q)
  | dK ks vs =>
    obtain ⟨a, kvs, rfl, s, hk, q⟩ := r
    obtain ⟨ps, e1, rfl⟩ := Option.map_eq_some_iff.mp (show (pyGL f vs).map (fun ps => PyData.dict ((ks.map keyP).zip ps)) = some p from e)
    rw [← hk, List.map_map]
    exact .dct s (pyG_dpL hS hf vs _ ps e1 q)
  | non => cases e; obtain rfl : v = _ := r; exact .non
  | bl b => cases e; obtain rfl : v = _ := r; exact .bl _
  | int i => cases e; obtain rfl : v = _ := r; exact .int _
  | str x => cases e; obtain rfl : v = _ := r; exact .str _
  | cell n => exact r.elim
  | slot n => exact r.elim
  | _ => cases e
theorem pyF_dp {K : PySem.W.Frag} {w : Wd} {c : Cells} {H : Hp} (rel : Rel K ca w c H) : ∀ (n : Nat) (d : D) (v : V) (p : PyData), pyF c n d = some p → At K ca w H d v → Dq K H v p
  | 0, d, v, p, e, r => pyG_at rel.same (fun n p z => by cases z) e r
  | n + 1, d, v, p, e, r => pyG_at rel.same (fun k p z => by
      cases ck : c[k]? with
      | none => rw [ck] at z; cases z
      | some o =>
        cases o with
        | none => rw [ck] at z; cases z
        | some e' =>
          rw [ck] at z
          obtain ⟨⟨o, ho, ro⟩, _⟩ := rel.cell k e' ck
          exact pyF_dp rel n e' _ p z (ro.at ho)) e r
abbrev prC (K : PySem.W.Frag) (ca : Nat → Addr) (f : List D → Option Out) : List V → Hp → VK → Prop := prR K ca fun _ => f
theorem AtL.of1 {K : PySem.W.Frag} {w : Wd} {H : Hp} {d : D} {vs : List V} (h : AtL K ca w H [d] vs) : ∃ v, vs = [v] ∧ At K ca w H d v := h.inv1 rfl
theorem AtL.of2 {K : PySem.W.Frag} {w : Wd} {H : Hp} {d e : D} {vs : List V} (h : AtL K ca w H [d, e] vs) : ∃ v u, vs = [v, u] ∧ At K ca w H d v ∧ At K ca w H e u := by
  obtain ⟨v, r, e1, h1, v2, r2, e2, h2, e3⟩ := h
  cases e3
  subst e2
  exact ⟨v, v2, e1, h1, h2⟩
theorem pr_len : CallR X (.builtin "len") (prC X.K ca lenF) := by
  intro pins s σ H vs us Q I r ⟨w, c, ds, out, rel, at', ef, q⟩
  replace ef : lenF ds = some out := ef
  unfold lenF at ef
  split at ef
  · cases ef
    obtain ⟨v, rfl, a, xs, rfl, ha, ra⟩ := at'.of1
    exact call_len_seq pins s σ H _ us Q I r ⟨a, xs, rfl, .inl (SqL.of ha), by rw [← ra.length]; exact q _ rfl⟩
  · cases ef
    obtain ⟨v, rfl, a, xs, rfl, ha, ra⟩ := at'.of1
    exact call_len_seq pins s σ H _ us Q I r ⟨a, xs, rfl, .inr (SqT.of ha), by rw [← ra.length]; exact q _ rfl⟩
  · cases ef
    obtain ⟨v, rfl, a, xs, rfl, ha, ra⟩ := at'.of1
    exact call_len_seq pins s σ H _ us Q I r ⟨a, xs, rfl, .inr ha, by rw [← ra.length]; exact q _ rfl⟩
  · cases ef
    obtain ⟨v, rfl, a, rfl, ha⟩ := at'.of1
    exact call_len_seq pins s σ H _ us Q I r ⟨a, _, rfl, .inl ha, by rw [List.length_map]; exact q _ rfl⟩
  · split at ef
    · cases ef
      obtain ⟨v, rfl, rfl⟩ := at'.of1
      exact call_len_str pins s σ H _ us Q I r ⟨_, rfl, by assumption, q _ rfl⟩
    · cases ef
  · cases ef
    obtain ⟨v, rfl, a, kvs, rfl, ha, hk, ra⟩ := at'.of1
    exact call_lenD pins s σ H _ us Q I r ⟨a, kvs, rfl, ha, by
      have : kvs.length = (List.length ‹List Key›) := by rw [← hk, List.length_map]
      rw [this]; exact q _ rfl⟩
  · cases ef
theorem pr_abs : CallR X (.builtin "abs") (prC X.K ca absF) := by
  intro pins s σ H vs us Q I r ⟨w, c, ds, out, rel, at', ef, q⟩
  replace ef : absF ds = some out := ef
  unfold absF at ef
  split at ef
  · cases ef
    obtain ⟨v, rfl, rfl⟩ := at'.of1
    exact call_abs pins s σ H _ us Q I r ⟨_, rfl, q _ rfl⟩
  · cases ef
theorem pr_max (hc : X.calm = true) : CallR X (.builtin "max") (prC X.K ca maxF) := by
  intro pins s σ H vs us Q I r ⟨w, c, ds, out, rel, at', ef, q⟩
  replace ef : maxF ds = some out := ef
  unfold maxF at ef
  split at ef
  · cases ef
    obtain ⟨v, u, rfl, rfl, rfl⟩ := at'.of2
    exact call_max2 hc pins s σ H _ us Q I r ⟨_, _, rfl, q _ rfl⟩
  · obtain ⟨v, rfl, a, vs, rfl, ha, ra⟩ := at'.of1
    obtain ⟨bs, e1, ef⟩ := Option.bind_eq_some_iff.mp ef
    obtain rfl := intsD_v e1 ra
    by_cases hb : bs = []
    · rw [if_pos hb] at ef; cases ef
    · rw [if_neg hb] at ef
      cases ef
      obtain ⟨j1, j2⟩ := bigI_ok hb
      refine cr_max hc pins s σ H _ us Q I r ⟨a, bs, rfl, SqL.of ha, List.length_pos_iff.mpr hb, fun m k1 k2 => ?_⟩
      rw [show m = bigI bs from Int.le_antisymm (j2 m k1) (k2 _ j1)]
      exact q _ rfl
  · cases ef
theorem pr_min (hc : X.calm = true) : CallR X (.builtin "min") (prC X.K ca minF) := by
  intro pins s σ H vs us Q I r ⟨w, c, ds, out, rel, at', ef, q⟩
  replace ef : minF ds = some out := ef
  unfold minF at ef
  split at ef
  · cases ef
    obtain ⟨v, u, rfl, rfl, rfl⟩ := at'.of2
    exact call_min2 hc pins s σ H _ us Q I r ⟨_, _, rfl, q _ rfl⟩
  · obtain ⟨v, rfl, a, vs, rfl, ha, ra⟩ := at'.of1
    obtain ⟨bs, e1, ef⟩ := Option.bind_eq_some_iff.mp ef
    obtain rfl := intsD_v e1 ra
    by_cases hb : bs = []
    · rw [if_pos hb] at ef; cases ef
    · rw [if_neg hb] at ef
      cases ef
      obtain ⟨j1, j2⟩ := smlI_ok hb
      refine cr_min hc pins s σ H _ us Q I r ⟨a, bs, rfl, SqL.of ha, List.length_pos_iff.mpr hb, fun m k1 k2 => ?_⟩
      rw [show m = smlI bs from Int.le_antisymm (k2 _ j1) (j2 m k1)]
      exact q _ rfl
  · cases ef
theorem pr_dm : CallR X (.builtin "divmod") (prC X.K ca dmF) := by
  intro pins s σ H vs us Q I r ⟨w, c, ds, out, rel, at', ef, q⟩
  replace ef : dmF ds = some out := ef
  unfold dmF at ef
  split at ef
  · rename_i i j
    split at ef
    · rename_i hc
      cases ef
      obtain ⟨v, u, rfl, rfl, rfl⟩ := at'.of2
      rcases hc with ⟨h0, hc | hc⟩
      · exact call_divmod pins s σ H _ us Q I r ⟨_, _, rfl, ⟨h0, hc⟩, fun p hn => q p _ hn ⟨_, rfl, _, _, rfl, rfl, _, _, rfl, rfl, rfl⟩⟩
      · have hb := PyProof.Rows.intBits_le (k := 128) (a := i) (show i.natAbs < 2 ^ 128 by omega)
        exact call_divmodW pins s σ H _ us Q I r ⟨_, _, rfl, divp_ok h0 (by omega), fun p hn => q p _ hn ⟨_, rfl, _, _, rfl, rfl, _, _, rfl, rfl, rfl⟩⟩
    · cases ef
  · cases ef
theorem pr_int : CallR X (.type "int") (prC X.K ca intF) := by
  intro pins s σ H vs us Q I r ⟨w, c, ds, out, rel, at', ef, q⟩
  replace ef : intF ds = some out := ef
  unfold intF at ef
  split at ef
  · cases ef
    obtain ⟨v, rfl, rfl⟩ := at'.of1
    exact call_int1 pins s σ H _ us Q I r (.inl ⟨_, rfl, q _ rfl⟩)
  · cases ef
    obtain ⟨v, rfl, rfl⟩ := at'.of1
    exact call_int1 pins s σ H _ us Q I r (.inr ⟨_, rfl, q _ rfl⟩)
  · cases ef
theorem signs_rp {K : PySem.W.Frag} {w : Wd} : ∀ l : List Nat, RpL K ca w (l.map fun c => D.str ⟨#[c]⟩) (l.map fun c => V.str ⟨#[c]⟩)
  | [] => rfl
  | c :: l => ⟨_, _, rfl, rfl, signs_rp l⟩
theorem signs_vals {x : Str} {acc : Array Value} (h : ItemsOf (SignAt x) acc x.cps.size) : Vals (x.cps.toList.map fun c => V.str ⟨#[c]⟩) acc.toList := by
  have key : ∀ (l : List Nat) (us : List Value), us.length = l.length → (∀ (j : Nat) (v : Value), us[j]? = some v → ∃ (c : Nat) (u : Tok), l[j]? = some c ∧ v = Value.str ⟨#[c]⟩ u) → Vals (l.map fun c => V.str ⟨#[c]⟩) us := by
    intro l
    induction l with
    | nil => intro us hl _; obtain rfl := List.eq_nil_of_length_eq_zero hl; exact .nil
    | cons c l ih =>
      intro us hl hj
      cases us with
      | nil => cases hl
      | cons u us =>
        obtain ⟨c', t, e1, e2⟩ := hj 0 u rfl
        have : c = c' := by simpa using e1
        subst this
        refine .cons ⟨t, e2⟩ (ih us (by simpa using hl) fun j v hv => ?_)
        obtain ⟨c', t, e1, e2⟩ := hj (j + 1) v (by simpa using hv)
        exact ⟨c', t, by simpa using e1, e2⟩
  refine key _ _ (by rw [Array.length_toList, h.1, Array.length_toList]) fun j v hv => ?_
  obtain ⟨c, u, e1, e2⟩ := h.2 j v (by simpa using hv)
  exact ⟨c, u, by simpa using e1, e2⟩
theorem pr_list (hc : X.calm = true) : CallR X (.type "list") (prC X.K ca listF) := by
  intro pins s σ H vs us Q I r ⟨w, c, ds, out, rel, at', ef, q⟩
  replace ef : listF ds = some out := ef
  unfold listF at ef
  split at ef
  · rename_i x
    split at ef
    · rename_i hx
      cases ef
      obtain ⟨v, rfl, rfl⟩ := at'.of1
      obtain ⟨u, rfl, t, rfl⟩ := vals1 r
      refine PySem.call_list_str (I.ok.hd hc) x t (fun h' tk acc' c' kp e hi => ?_) (by exact hx)
      have hz : (x.cps.toList.map fun c => V.str ⟨#[c]⟩).length ≤ sizeLine := by rw [List.length_map, Array.length_toList]; exact hx
      exact ⟨.ref s.heap.objs.size, _, I.laid (t' := tk) kp (Nat.le_refl _) (show ObjOk X.prog X.w _ h' _ (.lst (x.cps.toList.map fun c => V.str ⟨#[c]⟩)) from ⟨hz, _, c', signs_vals hi, by rw [e]⟩), rfl, q _ _ (I.hok.fresh (Nat.le_refl _)) ⟨_, rfl, signs_rp _⟩⟩
    · cases ef
  · cases ef
    obtain ⟨v, rfl, a, xs, rfl, ha, ra⟩ := at'.of1
    exact call_list_of pins s σ H _ us Q I r ⟨a, xs, rfl, .inl (SqL.of ha), fun l hl => q l _ hl ⟨_, rfl, ra⟩⟩
  · cases ef
    obtain ⟨v, rfl, a, xs, rfl, ha, ra⟩ := at'.of1
    exact call_list_of pins s σ H _ us Q I r ⟨a, xs, rfl, .inr (SqT.of ha), fun l hl => q l _ hl ⟨_, rfl, ra⟩⟩
  · cases ef
    obtain ⟨v, rfl, a, xs, rfl, ha, ra⟩ := at'.of1
    exact call_list_of pins s σ H _ us Q I r ⟨a, xs, rfl, .inr ha, fun l hl => q l _ hl ⟨_, rfl, ra⟩⟩
  · cases ef
    obtain ⟨v, rfl, a, rfl, ha⟩ := at'.of1
    exact call_list_of pins s σ H _ us Q I r ⟨a, _, rfl, .inl ha, fun l hl => q l _ hl ⟨_, rfl, RpL.ints _⟩⟩
  · cases ef
theorem At.rp_tup {K : PySem.W.Frag} {w : Wd} {H : Hp} {xs : List D} {vs : List V} {a : Addr} (h : w.S a = some (.tup vs)) (r : RpL K ca w xs vs) : Rp K ca w (.tup xs) (.ref a) := ⟨a, vs, rfl, h, r⟩
theorem pr_all (hc : X.calm = true) : CallR X (.builtin "all") (prC X.K ca allF) := by
  intro pins s σ H vs us Q I r ⟨w, c, ds, out, rel, at', ef, q⟩
  replace ef : allF ds = some out := ef
  unfold allF at ef
  split at ef
  · obtain ⟨bs, eb, rfl⟩ := Option.map_eq_some_iff.mp ef
    obtain ⟨v, rfl, a, xs, rfl, ha, ra⟩ := at'.of1
    exact cr_all hc pins s σ H _ us Q I r ⟨a, bs, rfl, by rw [← boolsD_v eb ra]; exact SqL.of ha, q _ rfl⟩
  · cases ef
theorem pr_any (hc : X.calm = true) : CallR X (.builtin "any") (prC X.K ca anyF) := by
  intro pins s σ H vs us Q I r ⟨w, c, ds, out, rel, at', ef, q⟩
  replace ef : anyF ds = some out := ef
  unfold anyF at ef
  split at ef
  · obtain ⟨bs, eb, rfl⟩ := Option.map_eq_some_iff.mp ef
    obtain ⟨v, rfl, a, xs, rfl, ha, ra⟩ := at'.of1
    exact cr_any hc pins s σ H _ us Q I r ⟨a, bs, rfl, by rw [← boolsD_v eb ra]; exact SqL.of ha, q _ rfl⟩
  · cases ef
theorem pr_sum (hc : X.calm = true) : CallR X (.builtin "sum") (prC X.K ca sumF) := by
  intro pins s σ H vs us Q I r ⟨w, c, ds, out, rel, at', ef, q⟩
  replace ef : sumF ds = some out := ef
  unfold sumF at ef
  split at ef
  · obtain ⟨bs, eb, rfl⟩ := Option.map_eq_some_iff.mp ef
    obtain ⟨v, rfl, a, xs, rfl, ha, ra⟩ := at'.of1
    exact cr_sum hc pins s σ H _ us Q I r ⟨a, bs, rfl, by rw [← intsD_v eb ra]; exact SqL.of ha, q _ rfl⟩
  · cases ef
theorem pr_repr (hg : X.A.guards = some []) (hu : X.A.units + 64 < cLine) : CallR X (.builtin "repr") (prR X.K ca reprF) := by
  intro pins s σ H vs us Q I r ⟨w, c, ds, out, rel, at', ef, q⟩
  unfold reprF at ef
  split at ef
  · rename_i i
    split at ef
    · rename_i hz
      cases ef
      obtain ⟨v, rfl, rfl⟩ := at'.of1
      obtain ⟨u, rfl, t, rfl⟩ := vals1 r
      exact PySem.P.repr_of_int hz ⟨.str _, H, I.tok _, ⟨_, rfl⟩, q _ rfl⟩
    · cases ef
  · rename_i b
    cases ef
    obtain ⟨v, rfl, rfl⟩ := at'.of1
    obtain ⟨u, rfl, rfl⟩ := vals1 r
    refine PySem.P.repr_of_bool ⟨.str _, H, I.tok _, ⟨_, rfl⟩, ?_⟩
    have := q _ (rfl : V.str (PyData.bool b).shown = _)
    cases b <;> exact this
  · cases ef
    obtain ⟨v, rfl, rfl⟩ := at'.of1
    obtain ⟨u, rfl, rfl⟩ := vals1 r
    exact PySem.P.repr_of_none ⟨.str _, H, I.tok _, ⟨_, rfl⟩, q _ rfl⟩
  · rename_i x
    split at ef
    · rename_i hz
      cases ef
      obtain ⟨v, rfl, rfl⟩ := at'.of1
      obtain ⟨u, rfl, t, rfl⟩ := vals1 r
      exact PySem.P.repr_of_str ⟨.str _, H, I.tok _, ⟨_, rfl⟩, q _ rfl⟩ hz
    · cases ef
  · rename_i d _ _ _ _
    split at ef
    · rename_i p ep
      split at ef
      · rename_i hp
        cases ef
        obtain ⟨v, rfl, hv⟩ := at'.of1
        obtain ⟨u, rfl, ru⟩ := vals1 r
        have sq : isSeq d = true := by
          cases z : isSeq d with
          | true => rfl
          | false => rw [z] at ep; simp at ep
        rw [sq, if_pos rfl] at ep
        have rd := pyF_dp rel 2 d v p ep hv
        have q : Q (.str p.shown) H := q _ rfl
        have hr : ∃ a, v = .ref a := by
          cases d <;> first | (obtain ⟨a, vs, e, _⟩ := hv; exact ⟨a, e⟩) | cases sq
        obtain ⟨a, rfl⟩ := hr
        cases ru
        exact Dq.repr I rd hp.1 hp.2.2 hg (by omega) (fun h' u tk hk => ⟨.str _, H, I.kept hk, ⟨_, rfl⟩, q⟩)
      · cases ef
    · cases ef
  · cases ef
end
/-! sorted words -/
def leW (x y : Str) : Bool := !ltCps y.cps.toList x.cps.toList
def sortW (xs : List Str) : List Str := xs.mergeSort leW
theorem leW_iff {x y : Str} : leW x y = true ↔ x.cps.toList ≤ y.cps.toList := by
  unfold leW
  rw [ltCps_eq, Bool.not_eq_true', decide_eq_false_iff_not]
  exact List.not_lt
theorem leW_trans (a b c : Str) (h1 : leW a b = true) (h2 : leW b c = true) : leW a c = true := by
  rw [leW_iff] at *
  exact List.le_trans h1 h2
theorem leW_total (a b : Str) : (leW a b || leW b a) = true := by
  rw [Bool.or_eq_true, leW_iff, leW_iff]
  exact List.le_total _ _
theorem leW_antisymm {a b : Str} (h1 : leW a b = true) (h2 : leW b a = true) : a = b := by
  rw [leW_iff] at *
  have := List.le_antisymm h1 h2
  obtain ⟨⟨l⟩⟩ := a
  obtain ⟨⟨m⟩⟩ := b
  simp at this
  rw [this]
theorem rising_pw : ∀ (r : List Str) (p : Str), risingS p r = true → (p :: r).Pairwise (fun a b => leW a b = true)
  | [], p, _ => List.pairwise_singleton _ _
  | x :: r, p, h => by
    have h : (leW p x && risingS x r) = true := h
    rw [Bool.and_eq_true] at h
    have ih := rising_pw r x h.2
    refine List.pairwise_cons.mpr ⟨fun y hy => ?_, ih⟩
    rcases List.mem_cons.mp hy with rfl | hy
    · exact h.1
    · exact leW_trans p x y h.1 ((List.pairwise_cons.mp ih).1 y hy)
theorem sorted_pw {xs : List Str} (h : sortedS xs = true) : xs.Pairwise (fun a b => leW a b = true) := by
  cases xs with
  | nil => exact List.Pairwise.nil
  | cons x r => exact rising_pw r x h
theorem sortW_pw (xs : List Str) : (sortW xs).Pairwise (fun a b => leW a b = true) := List.pairwise_mergeSort leW_trans leW_total xs
theorem sortW_perm (xs : List Str) : (sortW xs).Perm xs := List.mergeSort_perm xs leW
theorem sortW_eq {xs ys : List Str} (hp : ys.Perm xs) (hs : sortedS ys = true) : ys = sortW xs :=
  List.Perm.eq_of_pairwise (fun a b _ _ h1 h2 => leW_antisymm h1 h2) (sorted_pw hs) (sortW_pw xs) (hp.trans (sortW_perm xs).symm)
def llD : List D → Option (List (List Str))
  | [] => some []
  | .lst ds :: r => match strsD ds, llD r with
    | some xs, some xss => some (xs :: xss)
    | _, _ => none
  | _ => none
def leLL (x y : List Str) : Bool := !lexS y x
def sortLL (xss : List (List Str)) : List (List Str) := xss.mergeSort leLL
theorem leLL_iff {x y : List Str} : leLL x y = true ↔ lexS y x = false := by unfold leLL; rw [Bool.not_eq_true']
theorem leLL_trans (a b c : List Str) (h1 : leLL a b = true) (h2 : leLL b c = true) : leLL a c = true := by
  rw [leLL_iff] at *
  exact lexS_tr h1 h2
theorem leLL_total (a b : List Str) : (leLL a b || leLL b a) = true := by
  rw [Bool.or_eq_true, leLL_iff, leLL_iff]
  cases h : lexS b a with
  | false => exact .inl rfl
  | true => exact .inr (lexS_asym h)
theorem leLL_antisymm {a b : List Str} (h1 : leLL a b = true) (h2 : leLL b a = true) : a = b := by
  rw [leLL_iff] at *
  exact lexS_anti h2 h1
theorem sortLL_perm (xss : List (List Str)) : (sortLL xss).Perm xss := List.mergeSort_perm xss leLL
theorem sortLL_eq {xss yss : List (List Str)} (hp : yss.Perm xss) (hs : yss.Pairwise fun p q => lexS q p = false) : yss = sortLL xss :=
  List.Perm.eq_of_pairwise (fun a b _ _ h1 h2 => leLL_antisymm h1 h2) (hs.imp fun h => leLL_iff.mpr h) (List.pairwise_mergeSort leLL_trans leLL_total xss) (hp.trans (sortLL_perm xss).symm)
def sortF : List D → Option Out
  | [.lst xs] => match strsD xs with
    | some ws => if ws.length < 64 then some (.new (.lst ((sortW ws).map .str))) else none
    | none => (llD xs).map fun xss => .new (.lst ((sortLL xss).map fun u => .lst (u.map .str)))
  | _ => none
theorem RpL.strs {K : PySem.W.Frag} {ca : Nat → Addr} {w : Wd} : ∀ ns : List Str, RpL K ca w (ns.map D.str) (ns.map V.str)
  | [] => rfl
  | n :: ns => ⟨.str n, ns.map V.str, rfl, rfl, RpL.strs ns⟩
section
variable {X : Cx} {ca : Nat → Addr}
theorem strs_inj {xs ys : List Str} (h : xs.map V.str = ys.map V.str) : xs = ys := by
  have := congrArg (List.map fun v : V => match v with | .str x => x | _ => "") h
  simpa [List.map_map, Function.comp_def] using this
theorem llD_v {K : PySem.W.Frag} {w : Wd} : ∀ {ds : List D} {xss : List (List Str)} {vs : List V}, llD ds = some xss → RpL K ca w ds vs → ∀ k : V → List Str, (∀ a xs, w.S a = some (.lst (xs.map V.str)) → k (.ref a) = xs) → vs.map k = xss ∧ ∀ v ∈ vs, ∃ a, v = V.ref a ∧ w.S a = some (.lst ((k v).map V.str))
  | [], xss, vs, h, r => by cases h; cases r; exact fun _ _ => ⟨rfl, fun v h => by cases h⟩
  | d :: ds, xss, vs, h, r => by
    obtain ⟨v, r', rfl, r1, r2⟩ := r
    cases d with
    | lst es =>
      have h : (match strsD es, llD ds with | some xs, some xss => some (xs :: xss) | _, _ => none) = some xss := h
      cases e1 : strsD es with
      | none => rw [e1] at h; cases h
      | some xs =>
        cases e2 : llD ds with
        | none => rw [e1, e2] at h; cases h
        | some yss =>
          rw [e1, e2] at h
          cases h
          obtain ⟨a, us, rfl, ha, ra⟩ := r1
          obtain rfl := strsD_v e1 ra
          intro k hk
          obtain ⟨g3, g4⟩ := llD_v e2 r2 k hk
          have hka := hk a xs ha
          refine ⟨by rw [List.map_cons, hka, g3], fun v hv => ?_⟩
          rcases List.mem_cons.mp hv with rfl | hv
          · exact ⟨a, rfl, by rw [hka]; exact ha⟩
          · exact g4 v hv
    | _ => cases h
theorem rpL_ll {K : PySem.W.Frag} {w : Wd} {k : V → List Str} : ∀ {vs : List V}, (∀ v ∈ vs, ∃ a, v = V.ref a ∧ w.S a = some (.lst ((k v).map V.str))) → RpL K ca w ((vs.map k).map fun u => D.lst (u.map .str)) vs
  | [], _ => rfl
  | v :: vs, h => by
    obtain ⟨a, rfl, ha⟩ := h v List.mem_cons_self
    exact ⟨.ref a, vs, rfl, ⟨a, _, rfl, ha, RpL.strs _⟩, rpL_ll fun u hu => h u (List.mem_cons_of_mem _ hu)⟩
noncomputable def llK (S : Hp) : V → List Str
  | .ref a => Classical.epsilon fun xs : List Str => S a = some (.lst (xs.map V.str))
  | _ => []
theorem llK_of {S : Hp} {a : Addr} {xs : List Str} (h : S a = some (.lst (xs.map V.str))) : llK S (.ref a) = xs := by
  have e := (Classical.epsilon_spec (p := fun xs : List Str => S a = some (.lst (xs.map V.str))) ⟨xs, h⟩).symm.trans h
  injection e with e
  injection e with e
  exact strs_inj e
theorem pr_sorted (hu : X.A.units + 64 < cLine) : CallR X (.builtin "sorted") (prC X.K ca sortF) := by
  intro pins s σ H vs us Q I r ⟨w, c, ds, out, rel, at', ef, q⟩
  replace ef : sortF ds = some out := ef
  unfold sortF at ef
  split at ef
  · rename_i es
    obtain ⟨v, e0, hd⟩ := at'.inv1 rfl
    subst e0
    obtain ⟨a, xs, e1, ha, ra⟩ := hd
    subst e1
    split at ef
    · rename_i ws e2
      obtain rfl := strsD_v e2 ra
      split at ef
      · rename_i hl
        cases ef
        refine cr_sortedS pins s σ H _ us Q I r ⟨a, ws, rfl, SqL.of ha, hl, fun ys p hp hs hn => ?_⟩
        rw [sortW_eq hp hs]
        exact q p _ hn ⟨_, rfl, RpL.strs _⟩
      · cases ef
    · obtain ⟨xss, e2, rfl⟩ := Option.map_eq_some_iff.mp ef
      obtain ⟨g3, g4⟩ := llD_v e2 ra (llK w.S) fun a xs h => llK_of h
      refine cr_sortedLL hu pins s σ H _ us Q I r ⟨a, xs, llK w.S, rfl, SqL.of ha, fun y hy => ?_, fun zs p hp hs hn => ?_⟩
      · obtain ⟨t, e, ht⟩ := g4 y hy
        exact ⟨t, e, SqL.of (rel.same _ _ ht)⟩
      · have e3 : zs.map (llK w.S) = sortLL xss := sortLL_eq (by rw [← g3]; exact hp.map _) (List.pairwise_map.mpr hs)
        refine q p _ hn ⟨_, rfl, ?_⟩
        rw [← e3]
        exact rpL_ll fun v hv => g4 v (hp.mem_iff.mp hv)
  · cases ef
end
section
variable {X : Cx} {ca : Nat → Addr}
def tupF : List D → Option Out
  | [.lst xs] => some (.new (.tup xs))
  | _ => none
theorem pr_tuple : CallR X (.type "tuple") (prC X.K ca tupF) := by
  intro pins s σ H vs us Q I r ⟨w, c, ds, out, rel, at', ef, q⟩
  replace ef : tupF ds = some out := ef
  unfold tupF at ef
  split at ef
  · cases ef
    obtain ⟨v, rfl, a, xs, rfl, ha, ra⟩ := at'.of1
    exact call_tuple_of pins s σ H _ us Q I r ⟨a, xs, rfl, .inl ⟨SqL.of ha, fun l hn => q l _ hn ⟨_, rfl, ra⟩⟩⟩
  · cases ef
end
section
variable {X : Cx} {ca : Nat → Addr}
/-! of a set of texts -/
def setsF : List D → Option Out
  | [.lst xs] => (strsD xs).bind fun ws => if ws.length < 4000 ∧ (nubW ws).length < 64 then some (.new (.lst ((sortW (nubW ws)).map .str))) else none
  | _ => none
def setlF : List D → Option Out
  | [.lst xs] => (strsD xs).bind fun ws => if ws.length < 4000 ∨ (nubW ws).length < 64 then some (.val (.int (nubW ws).length)) else none
  | _ => none
theorem ps_sorted (hc : X.calm = true) : CallS X "sorted" (prC X.K ca setsF) := by
  intro pins s σ H vs us Q I r ⟨w, c, ds, out, rel, at', ef, q⟩
  replace ef : setsF ds = some out := ef
  unfold setsF at ef
  split at ef
  · obtain ⟨v, e0, hd⟩ := at'.inv1 rfl
    subst e0
    obtain ⟨a, xs, e1, ha, ra⟩ := hd
    subst e1
    obtain ⟨ws, e2, ef⟩ := Option.bind_eq_some_iff.mp ef
    obtain rfl := strsD_v e2 ra
    split at ef
    · rename_i hl
      cases ef
      refine cs_sorted hc pins s σ H _ us Q I r ⟨a, ws, rfl, SqL.of ha, hl, fun ys p hp hs hn => ?_⟩
      rw [sortW_eq hp hs]
      exact q p _ hn ⟨_, rfl, RpL.strs _⟩
    · cases ef
  · cases ef
theorem ps_len (hc : X.calm = true) : CallS X "len" (prC X.K ca setlF) := by
  intro pins s σ H vs us Q I r ⟨w, c, ds, out, rel, at', ef, q⟩
  replace ef : setlF ds = some out := ef
  unfold setlF at ef
  split at ef
  · obtain ⟨v, e0, hd⟩ := at'.inv1 rfl
    subst e0
    obtain ⟨a, xs, e1, ha, ra⟩ := hd
    subst e1
    obtain ⟨ws, e2, ef⟩ := Option.bind_eq_some_iff.mp ef
    obtain rfl := strsD_v e2 ra
    split at ef
    · rename_i hl
      cases ef
      exact cs_len hc pins s σ H _ us Q I r ⟨a, ws, rfl, SqL.of ha, hl, q _ rfl⟩
    · cases ef
  · cases ef
end
/-- list(range(n)) -/
def rngF : List D → Option Out
  | [.int n] => if 0 ≤ n ∧ n ≤ 16777216 then some (.new (.lst ((List.range n.toNat).map fun (i : Nat) => .int (i : Int)))) else none
  | _ => none
end Eng

/-! Eng7: the small language, what it computes, and which Python it stands for -/
namespace Eng
open PySem PySem.Spec PyProof.Rows L2

/-- builtin functions and types -/
inductive BF where
  | len | abs | max | min | int | list | all | any | sum | repr | sorted | tuple | divmod
  deriving DecidableEq
/-- functions of a set(..) -/
inductive SF where
  | len | sorted | rng
  deriving DecidableEq
/-- methods of builtin types that change nothing -/
inductive MK where
  | lindex | lcount | join
  deriving DecidableEq
/-- what a loop walks -/
inductive TY where
  | non | bl | int | str | tup | lst | dct
  deriving DecidableEq
inductive IK where
  | seq | rng1 | rng2 | rng3 | enum | zip | rvs
  deriving DecidableEq
mutual
inductive TG where
  | nm (i : Nat)
  | tp (ts : TGs)
inductive TGs where
  | nil
  | cons (t : TG) (r : TGs)
end
mutual
inductive EX where
  | var (i : Nat)
  | int (i : Int) | str (x : Str) | bl (b : Bool) | non
  | glb (i : Nat)
  | lst (es : EXs) | tup (es : EXs)
  | bin (op : Operator) (a b : EX)
  | neg (a : EX)
  | notE (a : EX)
  | cmp (op : CmpOp) (a b : EX)
  | chain (op op' : CmpOp) (a b c : EX)
  | andE (a b : EX)
  | orE (a b : EX)
  | ife (t a b : EX)
  | ix (a b : EX)
  | sl (a lo hi : EX)
  | rev (a : EX)
  | call (f : Nat) (es : EXs)
  | blt (f : BF) (es : EXs)
  | meth (m : MK) (o : EX) (es : EXs)
  | dct (k : Bool)
  | isi (a : EX) (t : TY)
  | dget (o k z : EX)
  | ofset (f : SF) (a : EX)
  | lend (f : Nat) (es : EXs)
  | box (a : EX)
  | exis (i : Nat) (ds cs : List Nat) (t : Bool)
  | exfd (i : Nat) (ds : List Nat) (g : Str)
  | dsp (kvs : EXs)
  | dsp1 (k v : EX)
  | lc2 (own : List (Str × Nat)) (elt : EX) (tg : TG) (k : IK) (its : EXs) (tg1 : TG) (it1 : EX)
  | lc (own : List (Str × Nat)) (elt : EX) (tg : TG) (k : IK) (its : EXs) (ifs : EX)
  | absent
inductive EXs where
  | nil
  | cons (e : EX) (r : EXs)
end

/-! ### what it computes -/
abbrev FS := List D → Cells → Ans (D × Bool)
/-- what is called, what the module's names stand for -/
structure FT where
  f : Nat → Option (Nat × FS)
  g : Nat → Option D
instance : CoeFun FT (fun _ => Nat → Option (Nat × FS)) := ⟨FT.f⟩
structure FN where
  f : List (Nat × Str)
  g : List (Nat × Str × D)
  x : List (Nat × Str × Option Str)
  sx : Bool
def lookX : List (Nat × Str × Option Str) → Nat → Option (Str × Option Str)
  | [], _ => none
  | (j, x) :: r, i => if i = j then some x else lookX r i
def lookG : List (Nat × Str × D) → Nat → Option (Str × D)
  | [], _ => none
  | (j, x) :: r, i => if i = j then some x else lookG r i
def lookL : List (Nat × Str) → Nat → Option Str
  | [], _ => none
  | (i, x) :: r, f => if f = i then some x else lookL r f
def lookN (F : FN) (f : Nat) : Option Str := lookL F.f f
def derS (ρ : Rho) (c : Cells) : D → Option D
  | .slot i => match ρ[i]? with
    | some (.own (.slot _)) => none
    | some (.own (.cell _)) => none
    | some (.own d) => some d
    | _ => none
  | d => derC c d
def dersL (ρ : Rho) (c : Cells) : List D → Option (List D)
  | [] => some []
  | d :: ds => match derS ρ c d, dersL ρ c ds with
    | some e, some es => some (e :: es)
    | _, _ => none
def solL : List D → Bool
  | [] => true
  | d :: ds => sol d && solL ds
def outA (out : Option Out) (c : Cells) : Ans (D × Bool) :=
  match out with
  | some (.val d) => some (.ok (d, false), c)
  | some (.new d) => some (.ok (d, true), c)
  | none => none
def prim (f : Cells → List D → Option Out) (ρ : Rho) (ds : List D) (c : Cells) : Ans (D × Bool) :=
  match dersL ρ c ds with
  | some es => outA (f c es) c
  | none => none
/-- truth -/
def truD : D → Option Bool
  | .non => some false
  | .bl b => some b
  | .int i => some (i != 0)
  | .str y => if y.length ≤ sizeLine then some ((y.length : Int) != 0) else none
  | .lst xs => some (!xs.isEmpty)
  | .tup xs => some (!xs.isEmpty)
  | .gt xs => some (!xs.isEmpty)
  | .dK ks _ => some (!ks.isEmpty)
  | _ => none
def truth (ρ : Rho) (c : Cells) (d : D) : Option Bool := (derS ρ c d).bind truD
def liftO {α : Type} (o : Option α) (c : Cells) : Ans α := o.map fun a => (.ok a, c)
@[simp] theorem liftO_some {α : Type} (a : α) (c : Cells) : liftO (some a) c = some (.ok a, c) := rfl
@[simp] theorem liftO_none {α : Type} (c : Cells) : liftO (none : Option α) c = none := rfl
def isBl : D → Option Bool
  | .bl b => some b
  | _ => none
def isInt : D → Option Int
  | .int i => some i
  | _ => none
structure Sem2 where
  e : Rho → Cells → Ans (D × Bool)
  t : Rho → Cells → Ans Bool
/-- an expression whose test is its value's truth -/
def byTruth (f : Rho → Cells → Ans (D × Bool)) : Sem2 := ⟨f, fun ρ c => bnd (fstM (f ρ c)) fun d c => liftO (truth ρ c d) c⟩
/-- an expression whose test is its value, a bool -/
def byBool (f : Rho → Cells → Ans (D × Bool)) : Sem2 := ⟨f, fun ρ c => bnd (fstM (f ρ c)) fun d c => liftO (isBl d) c⟩
mutual
def bindT : TG → D → Rho → Option Rho
  | .nm i, d, ρ => if sol d && decide (i < ρ.length) then some (ρ.set i (.val d)) else none
  | .tp ts, d, ρ => match d with
    | .tup ds => bindTs ts ds ρ
    | .gt ds => bindTs ts ds ρ
    | .lst ds => bindTs ts ds ρ
    | _ => none
def bindTs : TGs → List D → Rho → Option Rho
  | .nil, [], ρ => some ρ
  | .cons t r, d :: ds, ρ => match bindT t d ρ with
    | some ρ' => bindTs r ds ρ'
    | none => none
  | _, _, _ => none
end
mutual
def slotsT : TG → List Nat
  | .nm i => [i]
  | .tp ts => slotsTs ts
def slotsTs : TGs → List Nat
  | .nil => []
  | .cons t r => slotsT t ++ slotsTs r
end
def wipeR (ρ : Rho) : List Nat → Rho
  | [] => ρ
  | v :: vs => (wipeR ρ vs).set v .non
@[irreducible] def lim (n : Int) : Bool := decide (-(2 ^ 62) ≤ n ∧ n < 2 ^ 62)
def seqD : D → Option (List D)
  | .lst xs => some xs
  | .tup xs => some xs
  | .gt xs => some xs
  | .scr ns => some (ns.map .int)
  | .str x => some (signsD x)
  | _ => none
def enumL : Nat → List D → List D
  | _, [] => []
  | k, d :: ds => .tup [.int k, d] :: enumL (k + 1) ds
def zipL : List D → List D → List D
  | a :: as, b :: bs => .tup [a, b] :: zipL as bs
  | _, _ => []
/-- the items that a loop walks -/
def itemsI : IK → List D → Option (List D)
  | .seq, [d] => seqD d
  | .rng1, [.int n] => if lim n then some ((List.range n.toNat).map fun (i : Nat) => .int (i : Int)) else none
  | .rng2, [.int m, .int n] => if lim m && lim n then some ((List.range (n - m).toNat).map fun (i : Nat) => .int (m + (i : Int))) else none
  | .rng3, [.int m, .int n, .int (-1)] => if lim m && lim n then some ((List.range (m - n).toNat).map fun (i : Nat) => .int (m + (i : Int) * (-1))) else none
  | .enum, [.lst xs] => some (enumL 0 xs)
  | .zip, [.lst xs, .lst ys] => some (zipL xs ys)
  | .rvs, [.lst xs] => some xs.reverse
  | _, _ => none
/-- a comprehension's turns -/
def lcGo (tg : TG) (test : Rho → Cells → Ans Bool) (elt : Rho → Cells → Ans (D × Bool)) (ρ : Rho) : List D → List D → Cells → Ans (List D)
  | [], acc, c => some (.ok acc, c)
  | x :: xs, acc, c => match bindT tg x ρ with
    | none => none
    | some ρ' => bnd (noex (test ρ' c)) fun b c => if b then bnd (noex (fstM (elt ρ' c))) fun d c => if sol d && decide (acc.length < sizeLine) then lcGo tg test elt ρ xs (acc ++ [d]) c else none
      else lcGo tg test elt ρ xs acc c
def bfF : BF → Cells → List D → Option Out
  | .len, _, ds => lenF ds
  | .abs, _, ds => absF ds
  | .max, _, ds => maxF ds
  | .min, _, ds => minF ds
  | .int, _, ds => intF ds
  | .list, _, ds => listF ds
  | .all, _, ds => allF ds
  | .any, _, ds => anyF ds
  | .sum, _, ds => sumF ds
  | .repr, c, ds => reprF c ds
  | .sorted, _, ds => sortF ds
  | .tuple, _, ds => tupF ds
  | .divmod, _, ds => dmF ds
def sfF : SF → Cells → List D → Option Out
  | .len, _, ds => setlF ds
  | .sorted, _, ds => setsF ds
  | .rng, _, ds => rngF ds
def idxS (x : D) : List D → Nat → Option Nat
  | [], _ => none
  | y :: ys, k => if eqS y x then some k else idxS x ys (k + 1)
def lindexF : List D → Option Out
  | [.lst xs, x] => if scalD x && xs.all scalD then (idxS x xs 0).map fun (k : Nat) => Out.val (.int (k : Int)) else none
  | _ => none
def lcountF : List D → Option Out
  | [.lst xs, x] => if scalD x && xs.all scalD then some (.val (.int (xs.countP (fun y => eqS y x) : Nat))) else none
  | _ => none
def joinF : List D → Option Out
  | [.str a, .lst xs] => match strsD xs with
    | some ys => if (ys.map (·.length)).sum + ys.length * a.length ≤ 16777216 then some (.val (.str (Txt.join a ys))) else none
    | none => none
  | _ => none
/-- the pairs of a display -/
def dspF : List D → Option (List (Key × D))
  | [] => some []
  | k :: v :: r => match keyD k, dspF r with
    | some q, some l => some ((q, v) :: l)
    | _, _ => none
  | _ => none
def mrgD (ks : List Key) (vs : List D) : List (Key × D) → List Key × List D
  | [] => (ks, vs)
  | (q, v) :: r => mrgD (dputK ks q) (dputV ks vs q v) r
def dspA (ds : List D) (c : Cells) : Ans (D × Bool) := match dspF ds with
  | some l => if solL ds && decide (l.length ≤ 15) then some (.ok (.dK (mrgD [] [] l).1 (mrgD [] [] l).2, true), c) else none
  | none => none
/-- a display of one pair, its key a tuple -/
def dsp1A (x y : D) (c : Cells) : Ans (D × Bool) := match x with
  | .tup ks => match keysD ks with
    | some q => if sol y then some (.ok (.dT [q] [y], true), c) else none
    | none => none
  | _ => none
/-- a comprehension of two walks -/
def lc2Go (tg : TG) (fi1 : Rho → Cells → Ans (List D)) (tg1 : TG) (elt : Rho → Cells → Ans (D × Bool)) (vs1 : List Nat) (ρ : Rho) : List D → List D → Cells → Ans (List D)
  | [], acc, c => some (.ok acc, c)
  | x :: xs, acc, c => match bindT tg x ρ with
    | none => none
    | some ρ' => bnd (noex (fi1 ρ' c)) fun ys c => bnd (lcGo tg1 (fun _ c => some (.ok true, c)) elt (wipeR ρ' vs1) ys acc c) fun acc c => lc2Go tg fi1 tg1 elt vs1 ρ xs acc c
def tyM : MK → D → Bool
  | .lindex, .lst _ => true
  | .lcount, .lst _ => true
  | .join, .str _ => true
  | _, _ => false
def tyO (m : MK) (o : Option D) : Bool := match o with
  | some d => tyM m d
  | none => false
def mkF : MK → Cells → List D → Option Out
  | .lindex, _, ds => lindexF ds
  | .lcount, _, ds => lcountF ds
  | .join, _, ds => joinF ds
def isAbs : EX → Bool
  | .absent => true
  | _ => false
def slP (b : Bool) (m : Rho → Cells → Ans (D × Bool)) (ρ : Rho) (c : Cells) : Ans (Option Int) :=
  if b then some (.ok none, c) else bnd (fstM (m ρ c)) fun d c => liftO ((isInt d).map some) c

def tyD : D → Option TY
  | .non => some .non
  | .bl _ => some .bl
  | .int _ => some .int
  | .str _ => some .str
  | .tup _ => some .tup
  | .gt _ => some .tup
  | .lst _ => some .lst
  | .scr _ => some .lst
  | .dK _ _ => some .dct
  | .dT _ _ => some .dct
  | _ => none
def isiB (a b : TY) : Bool := decide (a = b) || (decide (a = .bl) && decide (b = .int))
def isDct : Option D → Bool
  | some (.dK _ _) => true
  | some (.dT _ _) => true
  | _ => false
def dgetF : D → D → D → Option D
  | .dK ks vs, k, z => (keyD k).map fun k => (dget ks vs k).getD z
  | .dT ks vs, .tup k, z => (keysD k).map fun k => (dget ks vs k).getD z
  | _, _, _ => none
def dgetA (ρ : Rho) (c : Cells) (x : D) : List D → Ans (D × Bool)
  | [q, z] => if sol z then match derS ρ c x, derS ρ c q with
    | some d, some q => liftO ((dgetF d q z).map fun r => (r, false)) c
    | _, _ => none
    else none
  | _ => none
/-- every cell is out of sight -/
def deadC (c : Cells) : Cells := c.map fun _ => none
/-- what may be kept of a call that was lent own objects -/
def keepB : D × Bool → Bool
  | (d, false) => scalD d
  | (.lst xs, true) => xs.all scalD
  | (.tup xs, true) => xs.all scalD
  | (d, true) => scalD d
def isObjD : D → Bool
  | .lst _ => true
  | .dK _ _ => true
  | .dT _ _ => true
  | .ins _ _ _ => true
  | _ => false
/-- a new object comes to be a cell -/
def boxA (d : D × Bool) (c : Cells) : Ans (D × Bool) := if d.2 && isObjD d.1 then some (.ok (.cell c.length, false), c ++ [some d.1]) else none
def lendR (c : Cells) : Ans (D × Bool) → Ans (D × Bool)
  | some (.ok d, _) => if keepB d then some (.ok d, c) else none
  | _ => none
/-- a call that is lent own objects and cells: it can't change or keep them -/
def lendA (o : Option (Nat × FS)) (ρ : Rho) (ds : List D) (c : Cells) : Ans (D × Bool) := match dersL ρ c ds with
  | some es => match o with
    | some (n, s) => if solL es && decide (es.length = n) then lendR c (s es (deadC c)) else none
    | none => none
  | none => none
/-- the classes: 0 is ValueError, 1 the one over all refusals -/
def isaX (d c : Nat) : Bool := decide (d = c) || decide (c ≤ 1)
def exsI (ds cs : List Nat) : Option Sl → Option Bool
  | some (.exc (.ins d _ _)) => if ds.contains d then some (cs.any (isaX d)) else none
  | _ => none
def exfD (ds : List Nat) (g : Str) : Option Sl → Option D
  | some (.exc (.ins d [h] [v])) => if ds.contains d && decide (h = g) then some v else none
  | _ => none
mutual
def evB (T : FT) : EX → Sem2
  | .var i => byTruth fun ρ c => match ρ[i]? with
    | some (.val d) => some (.ok (d, false), c)
    | some (.own _) => some (.ok (.slot i, false), c)
    | _ => none
  | .int i => byTruth fun _ c => some (.ok (.int i, false), c)
  | .str x => byTruth fun _ c => some (.ok (.str x, false), c)
  | .bl b => byTruth fun _ c => some (.ok (.bl b, false), c)
  | .non => byTruth fun _ c => some (.ok (.non, false), c)
  | .glb i => byTruth fun _ c => match T.g i with
    | some d => some (.ok (d, false), c)
    | none => none
  | .lst es => byTruth fun ρ c => bnd (evs T es ρ c) fun ds c => if solL ds && decide (ds.length ≤ sizeLine) then some (.ok (.lst ds, true), c) else none
  | .tup es => byTruth fun ρ c => bnd (evs T es ρ c) fun ds c => if solL ds && decide (ds.length ≤ sizeLine) then some (.ok (.tup ds, true), c) else none
  | .bin op a b => byTruth fun ρ c => bnd (fstM ((evB T a).e ρ c)) fun x c => bnd (fstM ((evB T b).e ρ c)) fun y c => match binF op with
    | some f => prim (f2 f) ρ [x, y] c
    | none => none
  | .neg a => byTruth fun ρ c => bnd (fstM ((evB T a).e ρ c)) fun x c => liftO ((isInt x).map fun i => (.int (-i), false)) c
  | .notE a => ⟨fun ρ c => bnd (fstM ((evB T a).e ρ c)) fun x c => bnd (liftO (truth ρ c x) c) fun b c => some (.ok (.bl (!b), false), c), fun ρ c => bnd ((evB T a).t ρ c) fun b c => some (.ok (!b), c)⟩
  | .cmp op a b => byBool fun ρ c => bnd (fstM ((evB T a).e ρ c)) fun x c => bnd (fstM ((evB T b).e ρ c)) fun y c => prim (cmpF op) ρ [x, y] c
  | .chain op op' a b d => byBool fun ρ c => bnd (fstM ((evB T a).e ρ c)) fun x c => bnd (fstM ((evB T b).e ρ c)) fun y c => bnd (fstM (prim (cmpF op) ρ [x, y] c)) fun k c => bnd (liftO (isBl k) c) fun k c =>
      if k then bnd (fstM ((evB T d).e ρ c)) fun z c => prim (cmpF op') ρ [y, z] c else some (.ok (.bl false, false), c)
  | .andE a b => ⟨fun ρ c => bnd (fstM ((evB T a).e ρ c)) fun x c => bnd (liftO (truth ρ c x) c) fun k c => if k then (evB T b).e ρ c else some (.ok (x, false), c),
      fun ρ c => bnd ((evB T a).t ρ c) fun k c => if k then (evB T b).t ρ c else some (.ok false, c)⟩
  | .orE a b => ⟨fun ρ c => bnd (fstM ((evB T a).e ρ c)) fun x c => bnd (liftO (truth ρ c x) c) fun k c => if k then some (.ok (x, false), c) else (evB T b).e ρ c,
      fun ρ c => bnd ((evB T a).t ρ c) fun k c => if k then some (.ok true, c) else (evB T b).t ρ c⟩
  | .ife t a b => ⟨fun ρ c => bnd ((evB T t).t ρ c) fun k c => if k then (evB T a).e ρ c else (evB T b).e ρ c, fun _ _ => none⟩
  | .ix a b => byTruth fun ρ c => bnd (fstM ((evB T a).e ρ c)) fun x c => bnd (fstM ((evB T b).e ρ c)) fun y c => prim ixF ρ [x, y] c
  | .sl a lo hi => byTruth fun ρ c => bnd (fstM ((evB T a).e ρ c)) fun x c => bnd (slP (isAbs lo) (evB T lo).e ρ c) fun l c => bnd (slP (isAbs hi) (evB T hi).e ρ c) fun h c =>
      match derS ρ c x with
      | some d => outA (slF l h d) c
      | none => none
  | .rev a => byTruth fun ρ c => bnd (fstM ((evB T a).e ρ c)) fun x c => match derS ρ c x with
      | some (.lst xs) => some (.ok (.lst xs.reverse, true), c)
      | _ => none
  | .call f es => byTruth fun ρ c => bnd (evs T es ρ c) fun ds c => match T f with
      | some (n, s) => if solL ds && decide (ds.length = n) then s ds c else none
      | none => none
  | .lend f es => byTruth fun ρ c => bnd (evs T es ρ c) fun ds c => lendA (T f) ρ ds c
  | .box a => byTruth fun ρ c => bnd ((evB T a).e ρ c) fun d c => boxA d c
  | .exis i ds cs t => byTruth fun ρ c => liftO ((exsI ds cs ρ[i]?).map fun b => (.bl b, false)) c
  | .exfd i ds g => byTruth fun ρ c => liftO ((exfD ds g ρ[i]?).map fun d => (d, false)) c
  | .blt f es => byTruth fun ρ c => bnd (evs T es ρ c) fun ds c => prim (bfF f) ρ ds c
  | .meth m o es => byTruth fun ρ c => bnd (fstM ((evB T o).e ρ c)) fun x c => if tyO m (derS ρ c x) then bnd (evs T es ρ c) fun ds c => prim (mkF m) ρ (x :: ds) c else none
  | .dsp kvs => byTruth fun ρ c => bnd (evs T kvs ρ c) fun ds c => dspA ds c
  | .dct k => byTruth fun _ c => some (.ok (if k then .dK [] [] else .dT [] [], true), c)
  | .isi a t => byTruth fun ρ c => bnd (fstM ((evB T a).e ρ c)) fun x c => liftO (((derS ρ c x).bind tyD).map fun y => (.bl (isiB y t), false)) c
  | .dget o k z => byTruth fun ρ c => bnd (fstM ((evB T o).e ρ c)) fun x c => if isDct (derS ρ c x) then bnd (fstM ((evB T k).e ρ c)) fun q c => bnd (bnd (fstM ((evB T z).e ρ c)) fun z c => bnd (some (.ok [], c)) fun ds c => some (.ok (z :: ds), c)) fun ds c => dgetA ρ c x (q :: ds) else none
  | .ofset f a => byTruth fun ρ c => bnd (fstM ((evB T a).e ρ c)) fun d c => prim (sfF f) ρ [d] c
  | .lc own elt tg k its ifs => byTruth fun ρ c => bnd (evs T its ρ c) fun ds c => match itemsI k ds with
      | some xs => bnd (lcGo tg (if isAbs ifs then fun _ c => some (.ok true, c) else (evB T ifs).t) (evB T elt).e (wipeR ρ (own.map (·.2))) xs [] c) fun acc c => some (.ok (.lst acc, true), c)
      | none => none
  | .dsp1 k v => byTruth fun ρ c => bnd (fstM ((evB T k).e ρ c)) fun x c => bnd (fstM ((evB T v).e ρ c)) fun y c => dsp1A x y c
  | .lc2 own elt tg k its tg1 it1 => byTruth fun ρ c => bnd (evs T its ρ c) fun ds c => match itemsI k ds with
      | some xs => bnd (lc2Go tg (fun ρ c => bnd (bnd (fstM ((evB T it1).e ρ c)) fun d c => some (.ok [d], c)) fun ds c => liftO (itemsI .seq ds) c) tg1 (evB T elt).e (slotsT tg1) (wipeR ρ (own.map (·.2))) xs [] c) fun acc c => some (.ok (.lst acc, true), c)
      | none => none
  | .absent => ⟨fun _ _ => none, fun _ _ => none⟩
def evs (T : FT) : EXs → Rho → Cells → Ans (List D)
  | .nil, _, c => some (.ok [], c)
  | .cons e r, ρ, c => bnd (fstM ((evB T e).e ρ c)) fun d c => bnd (evs T r ρ c) fun ds c => some (.ok (d :: ds), c)
end
def ev (T : FT) (m : EX) : Rho → Cells → Ans (D × Bool) := (evB T m).e
def evT (T : FT) (m : EX) : Rho → Cells → Ans Bool := (evB T m).t

/-! ### which Python it stands for -/
def bfN : BF → Str
  | .len => "len" | .abs => "abs" | .max => "max" | .min => "min" | .int => "int" | .list => "list" | .all => "all" | .any => "any" | .sum => "sum" | .repr => "repr" | .sorted => "sorted" | .tuple => "tuple" | .divmod => "divmod"
def sfN : SF → Str
  | .len => "len" | .sorted => "sorted" | .rng => "list"
def sfI : SF → Str
  | .len => "set" | .sorted => "set" | .rng => "range"
def mkN : MK → Str
  | .lindex => "index" | .lcount => "count" | .join => "join"
def tyN : TY → Str
  | .non => "" | .bl => "bool" | .int => "int" | .str => "str" | .tup => "tuple" | .lst => "list" | .dct => "dict"
def ikN : IK → Str
  | .rng1 => "range" | .rng2 => "range" | .rng3 => "range" | .enum => "enumerate" | .zip => "zip" | .seq => "" | .rvs => "reversed"
def glS (sc : Scope) (x : Str) : Bool := sc.names.lookup x == some .globalImplicit
def visS (sc : Scope) (x : Str) : Bool := sc.names.lookup x == some .local || sc.names.lookup x == some .cell || sc.names.lookup x == some .free
def locS (sc : Scope) (x : Str) : Bool := sc.names.lookup x == some .local || sc.names.lookup x == some .cell
/-- not super().. -/
def noSup : Expr → Bool
  | .Call (.Name _ _) [] [] _ => false
  | _ => true
def noSl : Expr → Bool
  | .Slice .. => false
  | _ => true
def noStar : Expr → Bool
  | .Starred .. => false
  | _ => true
def noSet : Expr → Bool
  | .Set .. => false
  | _ => true
def lenEX : EXs → Nat
  | .nil => 0
  | .cons _ r => lenEX r + 1
def isNil : EXs → Bool
  | .nil => true
  | _ => false
def clsN (F : FN) (sc : Scope) (c : Nat) (x : Str) : Bool := decide ((lookX F.x c).map (·.1) = some x) && glS sc x && !(x == ("__debug__" : Str))
def clsEs (F : FN) (sc : Scope) : List Nat → List Expr → Bool
  | [], [] => true
  | c :: cs, .Name x _ :: es => clsN F sc c x && clsEs F sc cs es
  | _, _ => false
def clsE (F : FN) (sc : Scope) : Bool → List Nat → Expr → Bool
  | false, [c], .Name x _ => clsN F sc c x
  | true, cs, .Tuple es _ _ => clsEs F sc cs es && decide (cs.length ≤ 100)
  | _, _, _ => false
def ownX (F : FN) (ds : List Nat) : Bool := ds.all fun d => decide (2 ≤ d) && (lookX F.x d).isSome
def fldX (F : FN) (g : Str) (ds : List Nat) : Bool := ds.all fun d => decide (2 ≤ d) && (match lookX F.x d with | some (_, some h) => decide (h = g) | _ => false)
/-- what runs while an exception is handled -/
def coolB : BF → Bool
  | .len => true | .abs => true | .int => true | .repr => true | .sorted => true | .tuple => true | .divmod => true
  | _ => false
mutual
/-- the target, in a place where names of the kinds f are stored -/
def isT (sc : Scope) (N : List Str) : TG → Expr → Bool
  | .nm i, .Name x _ => decide (N[i]? = some x) && locS sc x
  | .tp ts, .Tuple es _ _ => isTs sc N ts es
  | _, _ => false
def isTs (sc : Scope) (N : List Str) : TGs → List Expr → Bool
  | .nil, [] => true
  | .cons t r, e :: es => isT sc N t e && isTs sc N r es
  | _, _ => false
end
def isTup : Expr → Bool
  | .Tuple .. => true
  | _ => false
def ikL : IK → Nat
  | .seq => 1 | .rng1 => 1 | .rng2 => 2 | .rng3 => 3 | .enum => 1 | .zip => 2 | .rvs => 1
def itTup (k : IK) (t : Expr) : Bool := match k with
  | .enum => isTup t
  | .zip => isTup t
  | _ => true
/-- the arguments of what is walked; none where it is no such thing -/
def itArgs (sc : Scope) (k : IK) (t it : Expr) : List Expr :=
  match k with
  | .seq => if noSet it then [it] else []
  | k => match it with
    | .Call (.Name g _) xs [] _ => if decide (ikN k = g) && glS sc g && itTup k t then xs else []
    | _ => []
/-- keys and values by turns -/
def interE : List (Option Expr) → List Expr → Option (List Expr)
  | [], [] => some []
  | some k :: ks, v :: vs => (interE ks vs).map fun es => k :: v :: es
  | _, _ => none
mutual
def isE (F : FN) (N : List Str) (sc : Scope) : EX → Expr → Bool
  | .var i, .Name x _ => decide (N[i]? = some x) && visS sc x && !(x == ("__debug__" : Str)) && !(x == ("__classdict__" : Str))
  | .int i, .Constant (.int j) _ _ => i == j
  | .str i, .Constant (.str j) _ _ => i == j
  | .bl i, .Constant (.bool j) _ _ => i == j
  | .non, .Constant .none _ _ => true
  | .glb i, .Name x _ => decide ((lookG F.g i).map (·.1) = some x) && glS sc x && !(x == ("__debug__" : Str))
  | .lst es, .List xs _ => isEs F N sc es xs
  | .tup es, .Tuple xs _ _ => isEs F N sc es xs
  | .bin op a b, .BinOp x op' y _ => decide (op = op') && (binF op).isSome && isE F N sc a x && isE F N sc b y
  | .neg a, .UnaryOp .USub x _ => isE F N sc a x
  | .notE a, .UnaryOp .Not x _ => isE F N sc a x
  | .cmp op a b, .Compare x [op'] [y] _ => decide (op = op') && isE F N sc a x && isE F N sc b y && !behindInMarks op y
  | .chain o1 o2 a b c, .Compare x [p1, p2] [y, z] _ => decide (o1 = p1) && decide (o2 = p2) && isE F N sc a x && isE F N sc b y && isE F N sc c z && !behindInMarks o2 z
  | .andE a b, .BoolOp .And (x :: y :: rest) pos => isE F N sc a x && (match rest with | [] => isE F N sc b y | _ :: _ => isE F N sc b (.BoolOp .And (y :: rest) pos))
  | .orE a b, .BoolOp .Or (x :: y :: rest) pos => isE F N sc a x && (match rest with | [] => isE F N sc b y | _ :: _ => isE F N sc b (.BoolOp .Or (y :: rest) pos))
  | .ife t a b, .IfExp t' a' b' _ => isE F N sc t t' && isE F N sc a a' && isE F N sc b b'
  | .ix a b, .Subscript x y _ => noSl y && isE F N sc a x && isE F N sc b y
  | .sl a lo hi, .Subscript x (.Slice l h none _) _ => isE F N sc a x && (match l with | none => isAbs lo | some e => !isAbs lo && isE F N sc lo e) && (match h with | none => isAbs hi | some e => !isAbs hi && isE F N sc hi e)
  | .rev a, .Subscript x (.Slice none none (some (.UnaryOp .USub (.Constant (.int 1) _ _) _)) _) _ => isE F N sc a x
  | .call f es, .Call (.Name g _) xs [] _ => !F.sx && decide (lookN F f = some g) && glS sc g && !(g == ("__debug__" : Str)) && !isNil es && isEs F N sc es xs
  | .lend f es, .Call (.Name g _) xs [] _ => !F.sx && decide (lookN F f = some g) && glS sc g && !(g == ("__debug__" : Str)) && !isNil es && isEs F N sc es xs
  | .box a, .Call fe xs kws pos => isE F N sc a (.Call fe xs kws pos)
  | .box a, .Subscript x y pos => isE F N sc a (.Subscript x y pos)
  | .exis i ds cs t, .Call (.Name g _) [.Name x _, ce] [] _ => F.sx && ownX F ds && decide (g = "isinstance") && glS sc g && decide (N[i]? = some x) && visS sc x && !(x == ("__debug__" : Str)) && !(x == ("__classdict__" : Str)) && clsE F sc t cs ce
  | .exfd i ds g, .Attribute (.Name x _) n _ => F.sx && fldX F g ds && decide (g = n) && decide (N[i]? = some x) && visS sc x && !(x == ("__debug__" : Str)) && !(x == ("__classdict__" : Str))
  | .blt f es, .Call (.Name g _) xs [] _ => (!F.sx || coolB f) && decide (bfN f = g) && glS sc g && !isNil es && isEs F N sc es xs
  | .meth m o es, .Call (.Attribute x n ap) xs [] cp => decide (mkN m = n) && noSup x && (ap.endLine == cp.line) && decide (xs.length < 29) && !isNil es && isE F N sc o x && isEs F N sc es xs
  | .dct _, .Dict [] [] _ => true
  | .dsp kvs, .Dict ks vs _ => !isNil kvs && decide (ks.length ≤ 15) && (match interE ks vs with | some es => isEs F N sc kvs es | none => false)
  | .isi a t, .Call (.Name g _) [x, .Name y _] [] _ => decide (g = "isinstance") && glS sc g && decide (tyN t = y) && decide (t ≠ .non) && glS sc y && noStar x && isE F N sc a x
  | .dget o k z, .Call (.Attribute x n ap) [u, v] [] cp => decide (n = "get") && noSup x && (ap.endLine == cp.line) && noStar u && noStar v && isE F N sc o x && isE F N sc k u && isE F N sc z v
  | .ofset f a, .Call (.Name g _) [.Call (.Name y _) [x] [] _] [] _ => !F.sx && decide (sfN f = g) && glS sc g && decide (y = sfI f) && glS sc y && noStar x && isE F N sc a x
  | .lc own elt tg k its ifs, .ListComp e [⟨t, it, fs, 0⟩] scope _ => !F.sx && blkC N sc scope own && isE F N (relS scope sc) elt e && isT scope N tg t && (slotsT tg).all (fun i => decide (i ∈ own.map (·.2))) &&
      (match fs with | [] => isAbs ifs | [f] => !isAbs ifs && isE F N (relS scope sc) ifs f | _ => false) && decide (lenEX its = ikL k) && isEs F N sc its (itArgs sc k t it)
  | .dsp1 k v, .Dict [some x] [y] _ => isE F N sc k x && isE F N sc v y
  | .lc2 own elt tg k its tg1 it1, .ListComp e [⟨t, it, [], 0⟩, ⟨t1, i1, [], 0⟩] scope _ => !F.sx && blkC N sc scope own && isE F N (relS scope sc) elt e && isT scope N tg t && isT scope N tg1 t1 && (slotsT tg).all (fun i => decide (i ∈ own.map (·.2))) && (slotsT tg1).all (fun i => decide (i ∈ own.map (·.2))) &&
      decide (lenEX its = ikL k) && isEs F N sc its (itArgs sc k t it) && noSet i1 && isE F N (relS scope sc) it1 i1
  | _, _ => false
def isEs (F : FN) (N : List Str) (sc : Scope) : EXs → List Expr → Bool
  | .nil, [] => true
  | .cons m r, e :: es => noStar e && isE F N sc m e && isEs F N sc r es
  | _, _ => false
end
end Eng

/-! Eng8: an expression computes what the small machine computes -/
namespace Eng
open PySem PySem.Spec PyProof.Rows L2

/-- a def's promise, where no repr is under way -/
structure FnG (P : Program) (w : World) (K : PySem.W.Frag) (mg : Str → Option Value) (base : Heap) (CX : CXT) (k : Nat) (f : Addr) (fd : FuncData) (ps : List Str) (sp : Sp) : Prop where
  num : ∀ vs H Q E, sp vs H Q E → vs.length = ps.length
  runs : ∀ (A : Around) (outer : List Env) (s : Shared) (H : Hp) (args : Args) (us : List Value) (vs : List V) (Q : VK) (E : XK), Room (k + 1) A → A.guards = some [] →
    Env0 P w K mg base A outer s H → BindsTo s fd args (ps.zip us) → Vals vs us → sp vs H Q E → codeAny (model P w) A (.call (.ref f) args) (CR CX outer P w H s Q E) s

def SpF (K : PySem.W.Frag) (ca : Nat → Addr) (n : Nat) (fs : FS) : Sp := fun vs H Q E => ∃ w c ds, Rel K ca w c H ∧ RpL K ca w ds vs ∧ ds.length = n ∧
  Run K ca E w c H (fs ds c) fun d w' c' H' => ∀ v, RtV K ca H w' c' H' d v → Q v H'

def bltNames : List Str := ["len", "abs", "max", "min", "int", "list", "all", "any", "sum", "repr", "range", "enumerate", "zip", "sorted", "tuple", "isinstance", "bool", "str", "dict", "set", "divmod", "ValueError", "reversed"]
def cvX (ca : Nat → Addr) (c : Nat) : Value := if c = 0 then .type "ValueError" else .ref (ca c)
/-- the refusals' classes -/
structure XOk (K : PySem.W.Frag) (gv : Str → Value → Prop) (ca : Nat → Addr) (l : List (Nat × Str × Option Str)) : Prop where
  nm : ∀ c x f, lookX l c = some (x, f) → if c = 0 then x = "ValueError" else gv x (.ref (ca c))
  sub : ∀ d x f c y g, lookX l d = some (x, f) → 2 ≤ d → lookX l c = some (y, g) → PySem.W.kitOne K (.ref (ca d)) (cvX ca c) = some (isaX d c) ∧ PySem.W.exmOne K (.ref (ca d)) (cvX ca c) = some (isaX d c)
  made : ∀ d x f, lookX l d = some (x, f) → 2 ≤ d → EngX.XcC K (ca d) ∧ ∃ S, EngX.XcI K gv S (ca d) x f
structure Gd (ca : CA) (F : FN) (T : FT) (k : Nat) (W : WX) (X : Cx) : Prop where
  calm : F.sx = false → X.calm = true
  guards : X.A.guards = some []
  room : F.sx = false → Room (k + 1) X.A
  un : X.A.units + 100 < cLine
  nd : X.N.Nodup
  blt : ∀ x ∈ bltNames, X.mg x = none
  po : PassesOwn (model X.prog X.w) X.A X.env X.xe
  tk : Takes X W
  gls : ∀ i x d, lookG F.g i = some (x, d) → T.g i = some d ∧ ∃ u v, X.mg x = some u ∧ RelV v u ∧ ∀ w, Rp X.K ca w d v
  fns : ∀ f g n s, lookN F f = some g → T f = some (n, s) → ∃ fa fd ps, X.mg g = some (.ref fa) ∧ PySem.W.keepIn X.K (.ref fa) = true ∧ Binds X.K fd ps [] ∧ ps.length = n ∧ FnG X.prog X.w X.K X.mg X.base (L2.CX X.prog X.w) k fa fd ps (SpF X.K ca n s)
  xcs : XOk X.K (fun x v => X.mg x = some v) ca F.x
  xs : F.sx = true → ∃ (Y : Cx) (oe : Obj) (pn : List (Addr × Obj)), X = Y.suite ca.xa ((ca.xa, oe) :: pn) ∧ Zc ca.xc ca.xd oe ∧ ∃ vs, oe.data = .fields vs
theorem Gd.units {ca : CA} {F : FN} {T : FT} {k : Nat} {W : WX} {X : Cx} (g : Gd ca F T k W X) : X.A.units + 100 < cLine := g.un
theorem Gd.blk {ca : CA} {F : FN} {T : FT} {k : Nat} {W : WX} {X : Cx} (g : Gd ca F T k W X) (hs : F.sx = false) (s : Shared) (H : Hp) (scope : Scope) (cenv : Env) (fp : List Addr) : Gd ca F T k (fun _ _ _ _ => False) (X.blk s H scope cenv fp) :=
  ⟨g.calm, g.guards, g.room, g.un, g.nd, g.blt, PassesOwn.never, fun u s' ⟨_, _, _, _, _, _, _, _, _, _, _, _, _, _, _, w⟩ => w.2, g.gls, g.fns, g.xcs, fun z => by rw [hs] at z; cases z⟩
theorem Gd.tr {ca : CA} {F : FN} {T : FT} {k : Nat} {W W' : WX} {X : Cx} (g : Gd ca F T k W X) (hs : F.sx = false) {pn : List (Addr × Obj)} {xe : Value → Shared → Prop} (tk : Takes (X.tr pn xe) W') (po : PassesOwn (model X.prog X.w) X.A X.env xe) : Gd ca F T k W' (X.tr pn xe) :=
  ⟨g.calm, g.guards, g.room, g.un, g.nd, g.blt, po, tk, g.gls, g.fns, g.xcs, fun z => by rw [hs] at z; cases z⟩
abbrev FN.hot (F : FN) : FN := { F with sx := true }
theorem Gd.suite {ca : CA} {F : FN} {T : FT} {k : Nat} {W : WX} {X : Cx} (g : Gd ca F T k W X) {a : Addr} {cls : Value} {d : Option Addr} {oe : Obj} {pn : List (Addr × Obj)} (hz : Zc cls d oe) (hf : ∃ vs, oe.data = .fields vs) :
    Gd ⟨ca.f, a, cls, d⟩ F.hot T k (fun _ _ _ _ => False) (X.suite a ((a, oe) :: pn)) :=
  ⟨fun z => (by cases z), g.guards, fun z => (by cases z), g.un, g.nd, g.blt, PassesOwn.never, fun u s' ⟨_, _, _, _, _, _, _, _, _, _, _, _, _, _, _, w⟩ => w.2.elim, g.gls, g.fns, g.xcs, fun _ => ⟨X, oe, pn, rfl, hz, hf⟩⟩
section
variable {K : PySem.W.Frag} {ca : CA} {w w1 w2 : Wd} {c c1 c2 : Cells} {H0 H H1 H2 : Hp} {ρ : Rho} {σ : L2.St} {W : XK} {α β : Type}
theorem RunT.now {T : Hp} {a : α} {P : α → Wd → Cells → Hp → Prop} (r : RunT K ca T W w c H (some (.ok a, c)) P) (rel : Rel K ca w c H) (tH : ∀ x, T x ≠ none → H x ≠ none) : P a w c H := r.ret w H rel (.refl rel tH)
theorem Ext.self (rel : Rel K ca w c H) : Ext H w c H w c H := .refl rel fun _ z => z
/-- a new object has come -/
theorem newK (rel : Rel K ca w1 c1 H1) (ext : Ext H w c H w1 c1 H1) {p : Addr} {o : HO} {d : D} (hp : H1 p = none) (ho : RpO K ca w1 d o) :
    Rel K ca w1 c1 (upd H1 p o) ∧ Ext H1 w1 c1 H1 w1 c1 (upd H1 p o) ∧ New K ca H w1 c1 (upd H1 p o) d (.ref p) := by
  obtain ⟨r, e⟩ := rel.grow (o := o) hp (T := H1) fun _ z => z
  refine ⟨r, e, p, o, rfl, upd_same, ho, rel.same.free hp, ?_, fun n ⟨d, e⟩ z => ?_⟩
  · cases q : H p with
    | none => rfl
    | some o' => exact absurd hp (ext.trk p (by rw [q]; simp))
  · obtain ⟨⟨o', q, _⟩, _⟩ := rel.cell n d e
    rw [z, hp] at q; cases q
theorem out_run {out : Option Out} {Q : VK} (rel : Rel K ca w1 c1 H1) (ext : Ext H w c H w1 c1 H1)
    (run : Run K ca W w1 c1 H1 (outA out c1) fun d w2 c2 H2 => Ext H w c H w2 c2 H2 → ∀ v, NV K ca H w2 c2 H2 ρ σ d v → Q v H2) : ∃ o, out = some o ∧ OutQ K ca w1 H1 o Q := by
  cases out with
  | none => exact run.nope.elim
  | some o =>
    refine ⟨o, rfl, ?_⟩
    cases o with
    | val d => exact fun v hv => RunT.now run rel (fun _ z => z) ext v hv.ev
    | new d =>
      intro p o hp ho
      obtain ⟨r, e, n⟩ := newK rel ext hp ho
      exact RunT.ret run w1 _ r e (ext.tr e) _ n
theorem ev_at (rel : Rel K ca w c H) (rho : RhoR K ca w c H0 H ρ σ) {d e : D} {v : V} (h : EV K ca w ρ σ d v) (he : derS ρ c d = some e) : At K ca w H e v := by
  cases d with
  | slot i =>
    obtain ⟨⟨d', hd'⟩, hv⟩ := h
    obtain ⟨a, o, q, ho, r, _⟩ := rho.own i d' hd'
    have he' : (match ρ[i]? with | some (.own (.slot _)) => none | some (.own (.cell _)) => none | some (.own d) => some d | _ => none) = some e := he
    rw [hd'] at he'
    rw [hv] at q; cases q
    cases d' <;> first | (cases he'; done) | (cases he'; exact r.at ho)
  | _ => exact Rp.atV rel h he
theorem evl_at (rel : Rel K ca w c H) (rho : RhoR K ca w c H0 H ρ σ) : ∀ {ds es : List D} {vs : List V}, EVL K ca w ρ σ ds vs → dersL ρ c ds = some es → AtL K ca w H es vs
  | [], es, vs, h, e => by cases e; cases h; rfl
  | d :: ds, es, vs, h, e => by
    obtain ⟨v, r, rfl, h1, h2⟩ := h
    have e : (match derS ρ c d, dersL ρ c ds with | some e, some es => some (e :: es) | _, _ => none) = some es := e
    cases e1 : derS ρ c d with
    | none => rw [e1] at e; simp at e
    | some d' =>
      cases e2 : dersL ρ c ds with
      | none => rw [e1, e2] at e; simp at e
      | some es' =>
        rw [e1, e2] at e
        have : es = d' :: es' := by simpa using e.symm
        subst this
        exact ⟨v, r, rfl, ev_at rel rho h1 e1, evl_at rel rho h2 e2⟩
theorem EVL.ext {T : Hp} {w' : Wd} {c' : Cells} {H' : Hp} (x : Ext T w c H w' c' H') : ∀ {ds : List D} {vs : List V}, EVL K ca w ρ σ ds vs → EVL K ca w' ρ σ ds vs
  | [], _, h => h
  | d :: ds, vs, h => by
    obtain ⟨v, r, e, h1, h2⟩ := h
    exact ⟨v, r, e, h1.ext x, EVL.ext x h2⟩
theorem EVL.two {d e : D} {v u : V} (h1 : EV K ca w ρ σ d v) (h2 : EV K ca w ρ σ e u) : EVL K ca w ρ σ [d, e] [v, u] := ⟨v, [u], rfl, h1, u, [], rfl, h2, rfl⟩
theorem EVL.of1 {K : PySem.W.Frag} {w : Wd} {ρ : Rho} {σ : L2.St} {d : D} {vs : List V} (h : EVL K ca w ρ σ [d] vs) : ∃ v, vs = [v] ∧ EV K ca w ρ σ d v := by
  obtain ⟨v, r, e, h1, h2⟩ := h
  cases h2
  exact ⟨v, e, h1⟩
theorem EVL.of2 {K : PySem.W.Frag} {w : Wd} {ρ : Rho} {σ : L2.St} {d e : D} {vs : List V} (h : EVL K ca w ρ σ [d, e] vs) : ∃ v u, vs = [v, u] ∧ EV K ca w ρ σ d v ∧ EV K ca w ρ σ e u := by
  obtain ⟨v, r, e1, h1, h2⟩ := h
  obtain ⟨u, e2, h3⟩ := EVL.of1 h2
  subst e2
  exact ⟨v, u, e1, h1, h3⟩
theorem EVL.rpl : ∀ {ds : List D} {vs : List V}, EVL K ca w ρ σ ds vs → solL ds = true → RpL K ca w ds vs
  | [], _, h, _ => h
  | d :: ds, vs, h, hs => by
    obtain ⟨v, r, e, h1, h2⟩ := h
    have hs : (sol d && solL ds) = true := hs
    rw [Bool.and_eq_true] at hs
    exact ⟨v, r, e, h1.rp hs.1, EVL.rpl h2 hs.2⟩
theorem EVL.length : ∀ {ds : List D} {vs : List V}, EVL K ca w ρ σ ds vs → ds.length = vs.length
  | [], _, h => by cases h; rfl
  | d :: ds, vs, h => by
    obtain ⟨v, r, e, h1, h2⟩ := h
    subst e
    rw [List.length_cons, List.length_cons, EVL.length h2]
theorem prim_run {f : Cells → List D → Option Out} {ds : List D} {vs : List V} {Q : VK} (rel : Rel K ca w1 c1 H1) (rho : RhoR K ca w1 c1 H0 H1 ρ σ) (ext : Ext H w c H w1 c1 H1) (ev : EVL K ca w1 ρ σ ds vs)
    (run : Run K ca W w1 c1 H1 (prim f ρ ds c1) fun d w2 c2 H2 => Ext H w c H w2 c2 H2 → ∀ v, NV K ca H w2 c2 H2 ρ σ d v → Q v H2) : prR K ca f vs H1 Q := by
  unfold prim at run
  cases e : dersL ρ c1 ds with
  | none => rw [e] at run; exact run.nope.elim
  | some es =>
    rw [e] at run
    obtain ⟨o, eo, q⟩ := out_run rel ext run
    exact ⟨w1, c1, es, o, rel, evl_at rel rho ev e, eo, q⟩
theorem truth_ok {d : D} {v : V} {k : Bool} (h : At K ca w H d v) (e : truD d = some k) : TruV K v H k := by
  cases d with
  | non => obtain rfl : v = _ := h; cases e; exact rfl
  | bl b => obtain rfl : v = _ := h; cases e; exact rfl
  | int i => obtain rfl : v = _ := h; cases e; exact rfl
  | str x =>
    obtain rfl : v = _ := h
    have e : (if x.length ≤ sizeLine then some ((x.length : Int) != 0) else none) = some k := e
    by_cases hx : x.length ≤ sizeLine
    · rw [if_pos hx] at e; cases e; exact ⟨hx, rfl⟩
    · rw [if_neg hx] at e; cases e
  | lst xs => obtain ⟨a, vs, rfl, ha, r⟩ := h; cases e; exact .inl ⟨vs, SqL.of ha, by have := r.length; cases xs <;> cases vs <;> first | rfl | (simp at this)⟩
  | tup xs => obtain ⟨a, vs, rfl, ha, r⟩ := h; cases e; exact .inr (.inl ⟨vs, SqT.of ha, by have := r.length; cases xs <;> cases vs <;> first | rfl | (simp at this)⟩)
  | gt xs => obtain ⟨a, vs, rfl, ha, r⟩ := h; cases e; exact .inr (.inl ⟨vs, ha, by have := r.length; cases xs <;> cases vs <;> first | rfl | (simp at this)⟩)
  | dK ks ds => obtain ⟨a, kvs, rfl, ha, hk, r⟩ := h; cases e; exact .inr (.inr ⟨kvs, ha, by rw [← hk]; cases kvs <;> rfl⟩)
  | _ => cases e
theorem truth_at (rel : Rel K ca w c H) (rho : RhoR K ca w c H0 H ρ σ) {d : D} {v : V} {k : Bool} (h : EV K ca w ρ σ d v) (e : truth ρ c d = some k) : TruV K v H k := by
  unfold truth at e
  obtain ⟨d', e1, e2⟩ := Option.bind_eq_some_iff.mp e
  exact truth_ok (ev_at rel rho h e1) e2
end

section
variable {ca : CA} {X : Cx} {H0 : Hp} {W : WX} {a b : Expr} {f g : Rho → Cells → Ans (D × Bool)} {pos : Pos}
abbrev fE (f : Rho → Cells → Ans (D × Bool)) : Rho → Cells → Ans D := fun ρ c => fstM (f ρ c)
/-- two operands, then an operation -/
theorem two_prim {op : Cells → List D → Option Out} {σ : L2.St} {H : Hp} {Q : VK} (h : SemN X.K ca H0 W (fun ρ c => bnd (fstM (f ρ c)) fun x c => bnd (fstM (g ρ c)) fun y c => prim op ρ [x, y] c) σ H Q) :
    tOp (fun x y H Q => prR X.K ca op [x, y] H Q) (SemE X.K ca H0 W (fE f)) (SemE X.K ca H0 W (fE g)) σ H Q := by
  obtain ⟨w, ρ, c, rel, rho, run⟩ := h
  refine ⟨w, ρ, c, rel, rho, run.bnd.mono fun x w1 c1 H1 rel1 ext1 k1 v1 ev1 => ⟨w1, ρ, c1, rel1, rho.ext ext1, (k1 ext1).bnd.mono fun y w2 c2 H2 rel2 ext2 k2 v2 ev2 => ?_⟩⟩
  have x2 := ext1.tr ext2
  refine prim_run rel2 (rho.ext x2) x2 (EVL.two (ev1.ext ext2) ev2) ((k2 ext2).mono fun d w3 c3 H3 rel3 ext3 q e => q (ext2.tr ext3) e)
/-- a test by its value's truth -/
theorem by_truth {σ : L2.St} {H : Hp} {Q : Bool → Hp → Prop} (h : SemT X.K ca H0 W (byTruth f).t σ H Q) : SemE X.K ca H0 W (fE f) σ H fun x H' => ∃ k, TruV X.K x H' k ∧ Q k H' := by
  obtain ⟨w, ρ, c, rel, rho, run⟩ := h
  refine ⟨w, ρ, c, rel, rho, run.bnd.mono fun x w1 c1 H1 rel1 ext1 k v ev => ?_⟩
  have k := k ext1
  cases e : truth ρ c1 x with
  | none => rw [e] at k; exact (RunT.nope k).elim
  | some b =>
    rw [e] at k
    exact ⟨b, truth_at rel1 (rho.ext ext1) ev e, RunT.now k rel1 (fun _ z => z) ext1⟩
theorem pt_byTruth (h : PE X a (SemN X.K ca H0 W f)) (he : ∀ whole, isTrue a X.env whole = (do let v ← whole; standAt a.pos; holding [v] (truthy v))) : PT X a (SemT X.K ca H0 W (byTruth f).t) :=
  ptM (pt_truth (semE_of h) he) fun σ H Q q => by_truth q
/-- a test by its value, a bool -/
theorem by_bool {σ : L2.St} {H : Hp} {Q : Bool → Hp → Prop} (h : SemT X.K ca H0 W (byBool f).t σ H Q) : SemN X.K ca H0 W f σ H fun x H' => ∃ k, x = .bl k ∧ Q k H' := by
  obtain ⟨w, ρ, c, rel, rho, run⟩ := h
  refine ⟨w, ρ, c, rel, rho, (RunT.bnd run.bnd).mono fun x w1 c1 H1 rel1 ext1 k v nv => ?_⟩
  obtain ⟨w2, rel2, ext2, ev⟩ := nv.keep rel1 ext1.trk
  have e3 := ext1.trans ext2 fun _ z => z
  have k := RunT.ret (k H (fun _ z => z) ext1.trk) w2 H1 rel2 ext2 e3 e3
  cases e : isBl x.1 with
  | none => rw [e] at k; exact (RunT.nope k).elim
  | some b =>
    rw [e] at k
    refine ⟨b, ?_, RunT.now k rel2 (fun _ z => z) e3⟩
    cases hx : x.1 with
    | bl b' =>
      rw [hx] at e ev; cases e
      exact ev
    | _ => rw [hx] at e; cases e
end
end Eng

/-! Eng9: the pieces of expressions, one by one -/
namespace Eng
open PySem PySem.Spec PyProof.Rows L2

section
variable {ca : CA} {X : Cx} {H0 : Hp} {W : WX} {a b e : Expr} {f g : Rho → Cells → Ans (D × Bool)} {pos : Pos}

theorem se_var {i : Nat} {x : Str} (hN : X.N[i]? = some x) (hv : Vis X.env.scope x) (hd : (x == ("__debug__" : Str)) = false) (hcd : (x == ("__classdict__" : Str)) = false) :
    PE X (.Name x pos) (SemN X.K ca H0 W fun ρ c => match ρ[i]? with | some (.val d) => some (.ok (d, false), c) | some (.own _) => some (.ok (.slot i, false), c) | _ => none) := by
  refine peM (pe_var hN hv hd hcd) fun σ H Q ⟨w, ρ, c, rel, rho, run⟩ => ?_
  dsimp only at run
  cases er : ρ[i]? with
  | none => rw [er] at run; exact (RunT.nope run).elim
  | some s =>
    rw [er] at run
    cases s with
    | non => exact (RunT.nope run).elim
    | exc d => exact (RunT.nope run).elim
    | val d =>
      obtain ⟨v, hs, r⟩ := rho.val i d er
      exact ⟨v, hs, RunT.now run rel (fun _ z => z) v r.ev⟩
    | own d =>
      obtain ⟨a, o, hs, _⟩ := rho.own i d er
      exact ⟨_, hs, RunT.now run rel (fun _ z => z) _ ⟨⟨d, er⟩, hs⟩⟩
theorem se_con {v : V} {d : D} (h : PE X e (tC v)) (hr : ∀ w, Rp X.K ca w d v) : PE X e (SemN X.K ca H0 W fun _ c => some (.ok (d, false), c)) :=
  peM h fun σ H Q ⟨w, ρ, c, rel, rho, run⟩ => RunT.now run rel (fun _ z => z) v (hr w).ev
variable {es : List Expr} {fs : Rho → Cells → Ans (List D)}
theorem se_lst (h : PA X es (SemB X.K ca H0 W fs)) : PE X (.List es pos) (SemN X.K ca H0 W fun ρ c => bnd (fs ρ c) fun ds c => if solL ds && decide (ds.length ≤ sizeLine) then some (.ok (.lst ds, true), c) else none) := by
  refine peM (pe_lst h) fun σ H Q ⟨w, ρ, c, rel, rho, run⟩ => ⟨w, ρ, c, rel, rho, run.bnd.mono fun ds w1 c1 H1 rel1 ext1 k vs ev => ?_⟩
  have k := k ext1
  by_cases hc : (solL ds && decide (ds.length ≤ sizeLine)) = true
  · rw [if_pos hc] at k
    rw [Bool.and_eq_true, decide_eq_true_eq] at hc
    have r := ev.rpl hc.1
    refine ⟨by rw [← ev.length]; exact hc.2, fun p hp => ?_⟩
    obtain ⟨rel2, ext2, nw⟩ := newK rel1 ext1 (d := .lst ds) (o := .lst vs) hp ⟨vs, rfl, r⟩
    exact RunT.ret k w1 _ rel2 ext2 (ext1.tr ext2) _ nw
  · rw [if_neg hc] at k; exact (RunT.nope k).elim
theorem se_tup {kk : Nat} (h : PA X es (SemB X.K ca H0 W fs)) : PE X (.Tuple es kk pos) (SemN X.K ca H0 W fun ρ c => bnd (fs ρ c) fun ds c => if solL ds && decide (ds.length ≤ sizeLine) then some (.ok (.tup ds, true), c) else none) := by
  refine peM (pe_tup h) fun σ H Q ⟨w, ρ, c, rel, rho, run⟩ => ⟨w, ρ, c, rel, rho, run.bnd.mono fun ds w1 c1 H1 rel1 ext1 k vs ev => ?_⟩
  have k := k ext1
  by_cases hc : (solL ds && decide (ds.length ≤ sizeLine)) = true
  · rw [if_pos hc] at k
    rw [Bool.and_eq_true, decide_eq_true_eq] at hc
    have r := ev.rpl hc.1
    refine ⟨by rw [← ev.length]; exact hc.2, fun p hp => ?_⟩
    obtain ⟨rel2, ext2, nw⟩ := newK rel1 ext1 (d := .tup ds) (o := .tup vs) hp ⟨vs, rfl, r⟩
    exact RunT.ret k w1 _ rel2 ext2 (ext1.tr ext2) _ nw
  · rw [if_neg hc] at k; exact (RunT.nope k).elim
theorem se_bin {op : Operator} {h : D → D → Option Out} (hf : binF op = some h) (ha : PE X a (SemN X.K ca H0 W f)) (hb : PE X b (SemN X.K ca H0 W g)) :
    PE X (.BinOp a op b pos) (SemN X.K ca H0 W fun ρ c => bnd (fstM (f ρ c)) fun x c => bnd (fstM (g ρ c)) fun y c => match binF op with | some h => prim (f2 h) ρ [x, y] c | none => none) := by
  rw [hf]
  exact peM (pe_op (pr_bin op h hf) (semE_of ha) (semE_of hb)) fun σ H Q q => two_prim q
theorem se_cmp {op : CmpOp} (hu : X.A.units + 64 < cLine) (ha : PE X a (SemN X.K ca H0 W f)) (hb : PE X b (SemN X.K ca H0 W g)) (hm : behindInMarks op b = false) :
    PE X (.Compare a [op] [b] pos) (SemN X.K ca H0 W fun ρ c => bnd (fstM (f ρ c)) fun x c => bnd (fstM (g ρ c)) fun y c => prim (cmpF op) ρ [x, y] c) :=
  peM (pe_cmpR (pr_cmp hu op) (semE_of ha) (semE_of hb) hm) fun σ H Q q => two_prim q
theorem se_cmpT {op : CmpOp} (hu : X.A.units + 64 < cLine) (ha : PE X a (SemN X.K ca H0 W f)) (hb : PE X b (SemN X.K ca H0 W g)) (hm : behindInMarks op b = false) :
    PT X (.Compare a [op] [b] pos) (SemT X.K ca H0 W (byBool fun ρ c => bnd (fstM (f ρ c)) fun x c => bnd (fstM (g ρ c)) fun y c => prim (cmpF op) ρ [x, y] c).t) :=
  ptM (pt_cmpR (pr_cmp hu op) (semE_of ha) (semE_of hb) hm) fun σ H Q q => two_prim (by_bool q)
theorem se_ix (hu : X.A.units + 64 < cLine) (ha : PE X a (SemN X.K ca H0 W f)) (hb : PE X b (SemN X.K ca H0 W g)) (hs : PlainIx b) :
    PE X (.Subscript a b pos) (SemN X.K ca H0 W fun ρ c => bnd (fstM (f ρ c)) fun x c => bnd (fstM (g ρ c)) fun y c => prim ixF ρ [x, y] c) :=
  peM (pe_ix (pr_ix hu) (semE_of ha) (semE_of hb) hs) fun σ H Q q => two_prim q
theorem se_neg (ha : PE X a (SemN X.K ca H0 W f)) : PE X (.UnaryOp .USub a pos) (SemN X.K ca H0 W fun ρ c => bnd (fstM (f ρ c)) fun x c => liftO ((isInt x).map fun i => (.int (-i), false)) c) := by
  refine peM (pe_un un_neg (semE_of ha)) fun σ H Q ⟨w, ρ, c, rel, rho, run⟩ => ⟨w, ρ, c, rel, rho, run.bnd.mono fun x w1 c1 H1 rel1 ext1 k v ev => ?_⟩
  have k := k ext1
  cases x with
  | int i =>
    obtain rfl : v = .int i := ev
    exact ⟨i, rfl, RunT.now k rel1 (fun _ z => z) ext1 _ (show Rp X.K ca w1 (.int (-i)) (.int (-i)) from rfl)⟩
  | _ => exact (RunT.nope k).elim
theorem se_not (ha : PE X a (SemN X.K ca H0 W f)) : PE X (.UnaryOp .Not a pos) (SemN X.K ca H0 W fun ρ c => bnd (fstM (f ρ c)) fun x c => bnd (liftO (truth ρ c x) c) fun b c => some (.ok (.bl (!b), false), c)) := by
  refine peM (pe_notT (semE_of ha)) fun σ H Q ⟨w, ρ, c, rel, rho, run⟩ => ⟨w, ρ, c, rel, rho, run.bnd.mono fun x w1 c1 H1 rel1 ext1 k v ev => ?_⟩
  have k := k ext1
  cases e : truth ρ c1 x with
  | none => rw [e] at k; exact (RunT.nope k).elim
  | some b =>
    rw [e] at k
    exact ⟨b, truth_at rel1 (rho.ext ext1) ev e, RunT.now k rel1 (fun _ z => z) ext1 _ (show Rp X.K ca w1 (.bl (!b)) (.bl (!b)) from rfl)⟩
variable {t u : Rho → Cells → Ans Bool}
theorem se_notT (ha : PT X a (SemT X.K ca H0 W t)) : PT X (.UnaryOp .Not a pos) (SemT X.K ca H0 W fun ρ c => bnd (t ρ c) fun b c => some (.ok (!b), c)) := by
  refine ptM (pt_not ha) fun σ H Q ⟨w, ρ, c, rel, rho, run⟩ => ⟨w, ρ, c, rel, rho, run.bnd.mono fun x w1 c1 H1 rel1 ext1 k => ?_⟩
  exact RunT.now (k ext1) rel1 (fun _ z => z) ext1
theorem se_and {rest : List Expr} (ha : PE X a (SemN X.K ca H0 W f)) (hb : PE X (.BoolOp .And (b :: rest) pos) (SemN X.K ca H0 W g)) :
    PE X (.BoolOp .And (a :: b :: rest) pos) (SemN X.K ca H0 W fun ρ c => bnd (fstM (f ρ c)) fun x c => bnd (liftO (truth ρ c x) c) fun k c => if k then g ρ c else some (.ok (x, false), c)) := by
  refine peM (pe_andT (semE_of ha) hb) fun σ H Q ⟨w, ρ, c, rel, rho, run⟩ => ⟨w, ρ, c, rel, rho, run.bnd.mono fun x w1 c1 H1 rel1 ext1 k v ev => ?_⟩
  have k := k ext1
  cases e : truth ρ c1 x with
  | none => rw [e] at k; exact (RunT.nope k).elim
  | some b =>
    rw [e] at k
    refine ⟨b, truth_at rel1 (rho.ext ext1) ev e, ?_⟩
    cases b with
    | true => exact ⟨w1, ρ, c1, rel1, rho.ext ext1, RunT.mono k fun d w2 c2 H2 rel2 ext2 q v' nv => q (ext1.tr ext2) v' (by
        obtain ⟨d, fr⟩ := d
        cases fr with
        | false => exact nv
        | true =>
          obtain ⟨p, o, h1, h2, h3, h4, h5, h6⟩ := nv
          refine ⟨p, o, h1, h2, h3, h4, ?_, h6⟩
          cases z : H p with
          | none => rfl
          | some o' => exact absurd h5 (ext1.trk p (by rw [z]; simp)))⟩
    | false => exact RunT.now k rel1 (fun _ z => z) ext1 _ ev
theorem se_or {rest : List Expr} (ha : PE X a (SemN X.K ca H0 W f)) (hb : PE X (.BoolOp .Or (b :: rest) pos) (SemN X.K ca H0 W g)) :
    PE X (.BoolOp .Or (a :: b :: rest) pos) (SemN X.K ca H0 W fun ρ c => bnd (fstM (f ρ c)) fun x c => bnd (liftO (truth ρ c x) c) fun k c => if k then some (.ok (x, false), c) else g ρ c) := by
  refine peM (pe_orT (semE_of ha) hb) fun σ H Q ⟨w, ρ, c, rel, rho, run⟩ => ⟨w, ρ, c, rel, rho, run.bnd.mono fun x w1 c1 H1 rel1 ext1 k v ev => ?_⟩
  have k := k ext1
  cases e : truth ρ c1 x with
  | none => rw [e] at k; exact (RunT.nope k).elim
  | some b =>
    rw [e] at k
    refine ⟨b, truth_at rel1 (rho.ext ext1) ev e, ?_⟩
    cases b with
    | false => exact ⟨w1, ρ, c1, rel1, rho.ext ext1, RunT.mono k fun d w2 c2 H2 rel2 ext2 q v' nv => q (ext1.tr ext2) v' (by
        obtain ⟨d, fr⟩ := d
        cases fr with
        | false => exact nv
        | true =>
          obtain ⟨p, o, h1, h2, h3, h4, h5, h6⟩ := nv
          refine ⟨p, o, h1, h2, h3, h4, ?_, h6⟩
          cases z : H p with
          | none => rfl
          | some o' => exact absurd h5 (ext1.trk p (by rw [z]; simp)))⟩
    | true => exact RunT.now k rel1 (fun _ z => z) ext1 _ ev
/-- one way of two -/
theorem se_andT {rest : List Expr} (ha : PT X a (SemT X.K ca H0 W t)) (hb : PW X (.BoolOp .And (b :: rest) pos) (SemT X.K ca H0 W u)) :
    PW X (.BoolOp .And (a :: b :: rest) pos) (SemT X.K ca H0 W fun ρ c => bnd (t ρ c) fun k c => if k then u ρ c else some (.ok false, c)) := by
  have h := pw_and ha hb
  refine ⟨fun wh pins s σ H Q I ⟨w, ρ, c, rel, rho, run⟩ => h.run wh pins s σ H Q I ⟨w, ρ, c, rel, rho, run.bnd.mono fun k w1 c1 H1 rel1 ext1 q => ?_⟩⟩
  cases k with
  | true => exact ⟨w1, ρ, c1, rel1, rho.ext ext1, RunT.mono (q ext1) fun d w2 c2 H2 rel2 ext2 z => z (ext1.tr ext2)⟩
  | false => exact RunT.now (q ext1) rel1 (fun _ z => z) ext1
theorem se_orT {rest : List Expr} (ha : PT X a (SemT X.K ca H0 W t)) (hb : PW X (.BoolOp .Or (b :: rest) pos) (SemT X.K ca H0 W u)) :
    PW X (.BoolOp .Or (a :: b :: rest) pos) (SemT X.K ca H0 W fun ρ c => bnd (t ρ c) fun k c => if k then some (.ok true, c) else u ρ c) := by
  have h := pw_or ha hb
  refine ⟨fun wh pins s σ H Q I ⟨w, ρ, c, rel, rho, run⟩ => h.run wh pins s σ H Q I ⟨w, ρ, c, rel, rho, run.bnd.mono fun k w1 c1 H1 rel1 ext1 q => ?_⟩⟩
  cases k with
  | false => exact ⟨w1, ρ, c1, rel1, rho.ext ext1, RunT.mono (q ext1) fun d w2 c2 H2 rel2 ext2 z => z (ext1.tr ext2)⟩
  | true => exact RunT.now (q ext1) rel1 (fun _ z => z) ext1
end
end Eng

/-! Eng10: further pieces: calls, slices, methods -/
namespace Eng
open PySem PySem.Spec PyProof.Rows L2

section
variable {K : PySem.W.Frag} {ca : CA} {w w1 w2 : Wd} {c c1 c2 : Cells} {H0 H H1 H2 : Hp} {ρ : Rho} {σ : L2.St}
/-- new since later is new since earlier -/
theorem NV.back {T : Hp} (h : ∀ x, T x ≠ none → H1 x ≠ none) {d : D × Bool} {v : V} (nv : NV K ca H1 w c H ρ σ d v) : NV K ca T w c H ρ σ d v := by
  obtain ⟨d, fr⟩ := d
  cases fr with
  | false => exact nv
  | true =>
    obtain ⟨p, o, h1, h2, h3, h4, h5, h6⟩ := nv
    refine ⟨p, o, h1, h2, h3, h4, ?_, h6⟩
    cases z : T p with
    | none => rfl
    | some o' => exact absurd h5 (h p (by rw [z]; simp))
theorem RtV.nv {T : Hp} {d : D × Bool} {v : V} (h : NV K ca T w c H ρ σ d v) (hs : d.2 = false → sol d.1 = true) : RtV K ca T w c H d v := by
  obtain ⟨d, fr⟩ := d
  cases fr with
  | true => exact h
  | false => exact EV.rp h (hs rfl)
theorem RtV.toNV {T : Hp} {d : D × Bool} {v : V} (h : RtV K ca T w c H d v) : NV K ca T w c H ρ σ d v := by
  obtain ⟨d, fr⟩ := d
  cases fr with
  | true => exact h
  | false => exact Rp.ev h
end

section
variable {ca : CA} {X : Cx} {H0 : Hp} {W : WX} {a b e : Expr} {f g : Rho → Cells → Ans (D × Bool)} {pos : Pos} {t : Rho → Cells → Ans Bool}
theorem se_ife {cnd : Expr} (hc : PT X cnd (SemT X.K ca H0 W t)) (ha : PE X a (SemN X.K ca H0 W f)) (hb : PE X b (SemN X.K ca H0 W g)) :
    PE X (.IfExp cnd a b pos) (SemN X.K ca H0 W fun ρ c => bnd (t ρ c) fun k c => if k then f ρ c else g ρ c) := by
  refine peM (pe_ifExp hc ha hb) fun σ H Q ⟨w, ρ, c, rel, rho, run⟩ => ⟨w, ρ, c, rel, rho, run.bnd.mono fun k w1 c1 H1 rel1 ext1 q => ?_⟩
  cases k with
  | true => exact ⟨w1, ρ, c1, rel1, rho.ext ext1, RunT.mono (q ext1) fun d w2 c2 H2 rel2 ext2 z v nv => z (ext1.tr ext2) v (nv.back ext1.trk)⟩
  | false => exact ⟨w1, ρ, c1, rel1, rho.ext ext1, RunT.mono (q ext1) fun d w2 c2 H2 rel2 ext2 z v nv => z (ext1.tr ext2) v (nv.back ext1.trk)⟩
theorem po_part {lo : Option Expr} {k : Bool} (h : match lo with | none => k = true | some e => k = false ∧ PE X e (SemN X.K ca H0 W f)) :
    ∃ tl : TO, PO X lo tl ∧ ∀ σ H (Q : Option Int → Hp → Prop), (∃ w ρ c, Rel X.K ca w c H ∧ RhoR X.K ca w c H0 H ρ σ ∧ Run X.K ca (fun cls dx H' => W cls dx σ H') w c H (slP k f ρ c) fun o w' c' H' => Q o H') → tl σ H Q := by
  cases lo with
  | none =>
    refine ⟨_, po_none, fun σ H Q ⟨w, ρ, c, rel, rho, run⟩ => ?_⟩
    have hk : k = true := h
    subst hk
    exact RunT.now run rel fun _ z => z
  | some e =>
    obtain ⟨hk, he⟩ := h
    subst hk
    refine ⟨_, po_some (semE_of he), fun σ H Q ⟨w, ρ, c, rel, rho, run⟩ => ⟨w, ρ, c, rel, rho, run.bnd.mono fun d w1 c1 H1 rel1 ext1 q v ev => ?_⟩⟩
    have q := q ext1
    cases d with
    | int i =>
      obtain rfl : v = .int i := ev
      exact ⟨i, rfl, RunT.now q rel1 (fun _ z => z) ext1⟩
    | _ => exact (RunT.nope q).elim
theorem se_sl {lo hi : Option Expr} {k l : Bool} {fl fh : Rho → Cells → Ans (D × Bool)} {p2 : Pos} (ha : PE X a (SemN X.K ca H0 W f)) (hl : match lo with | none => k = true | some e => k = false ∧ PE X e (SemN X.K ca H0 W fl))
    (hh : match hi with | none => l = true | some e => l = false ∧ PE X e (SemN X.K ca H0 W fh)) :
    PE X (.Subscript a (.Slice lo hi none p2) pos) (SemN X.K ca H0 W fun ρ c => bnd (fstM (f ρ c)) fun x c => bnd (slP k fl ρ c) fun lo c => bnd (slP l fh ρ c) fun hi c =>
      match derS ρ c x with
      | some d => outA (slF lo hi d) c
      | none => none) := by
  obtain ⟨tl, hl, ql⟩ := po_part hl
  obtain ⟨th, hh, qh⟩ := po_part hh
  refine peM (pe_slice (pr_sl (ca := ca)) (semE_of ha) hl hh) fun σ H Q ⟨w, ρ, c, rel, rho, run⟩ => ⟨w, ρ, c, rel, rho, run.bnd.mono fun x w1 c1 H1 rel1 ext1 k1 v ev => ?_⟩
  refine ql σ H1 _ ⟨w1, ρ, c1, rel1, rho.ext ext1, (k1 ext1).bnd.mono fun lo' w2 c2 H2 rel2 ext2 k2 => ?_⟩
  have x2 := ext1.tr ext2
  refine qh σ H2 _ ⟨w2, ρ, c2, rel2, rho.ext x2, (k2 ext2).bnd.mono fun hi' w3 c3 H3 rel3 ext3 k3 => ?_⟩
  have x3 := x2.tr ext3
  have k3 := k3 ext3
  cases ed : derS ρ c3 x with
  | none => rw [ed] at k3; exact (RunT.nope k3).elim
  | some d =>
    rw [ed] at k3
    obtain ⟨o, eo, q⟩ := out_run rel3 x3 (RunT.mono k3 fun d w4 c4 H4 rel4 ext4 q e => q (ext3.tr ext4) (ext2.tr (ext3.tr ext4)) e)
    exact ⟨w3, c3, d, o, rel3, ev_at rel3 (rho.ext x3) (ev.ext (ext2.tr ext3)) ed, eo, q⟩
theorem se_rev {k1 : Nat} {p1 p2 p3 : Pos} (ha : PE X a (SemN X.K ca H0 W f)) :
    PE X (.Subscript a (.Slice none none (some (.UnaryOp .USub (.Constant (.int 1) k1 p1) p2)) p3) pos) (SemN X.K ca H0 W fun ρ c => bnd (fstM (f ρ c)) fun x c => match derS ρ c x with
      | some (.lst xs) => some (.ok (.lst xs.reverse, true), c)
      | _ => none) := by
  refine peM (pe_revL (semE_of ha)) fun σ H Q ⟨w, ρ, c, rel, rho, run⟩ => ⟨w, ρ, c, rel, rho, run.bnd.mono fun x w1 c1 H1 rel1 ext1 k v ev => ?_⟩
  have k := k ext1
  cases ed : derS ρ c1 x with
  | none => rw [ed] at k; exact (RunT.nope k).elim
  | some d =>
    rw [ed] at k
    have hv := ev_at rel1 (rho.ext ext1) ev ed
    cases d with
    | lst xs =>
      obtain ⟨a, vs, rfl, hs, r⟩ := hv
      refine ⟨a, vs, rfl, SqL.of hs, fun p hp => ?_⟩
      obtain ⟨rel2, ext2, nw⟩ := newK rel1 ext1 (d := .lst xs.reverse) (o := .lst vs.reverse) hp ⟨_, rfl, r.reverse⟩
      exact RunT.ret k w1 _ rel2 ext2 (ext1.tr ext2) _ nw
    | _ => exact (RunT.nope k).elim
variable {cc : Expr} {h : Rho → Cells → Ans (D × Bool)}
theorem chain_run {op op' : CmpOp} {σ : L2.St} {H : Hp} {Q : VK} (q : SemN X.K ca H0 W (fun ρ c => bnd (fstM (f ρ c)) fun x c => bnd (fstM (g ρ c)) fun y c => bnd (fstM (prim (cmpF op) ρ [x, y] c)) fun k c => bnd (liftO (isBl k) c) fun k c =>
      if k then bnd (fstM (h ρ c)) fun z c => prim (cmpF op') ρ [y, z] c else some (.ok (.bl false, false), c)) σ H Q) :
    tChain (fun x y H Q => prR X.K ca (cmpF op) [x, y] H Q) (fun x y H Q => prR X.K ca (cmpF op') [x, y] H Q) (SemE X.K ca H0 W (fE f)) (SemE X.K ca H0 W (fE g)) (SemE X.K ca H0 W (fE h)) σ H Q := by
  obtain ⟨w, ρ, c, rel, rho, run⟩ := q
  refine ⟨w, ρ, c, rel, rho, run.bnd.mono fun x w1 c1 H1 rel1 ext1 k1 v1 ev1 => ⟨w1, ρ, c1, rel1, rho.ext ext1, (k1 ext1).bnd.mono fun y w2 c2 H2 rel2 ext2 k2 v2 ev2 => ?_⟩⟩
  have x2 := ext1.tr ext2
  refine prim_run (W := fun cls dx H' => W cls dx σ H') rel2 (rho.ext x2) x2 (EVL.two (ev1.ext ext2) ev2) ((k2 ext2).bnd.bnd.mono fun d w3 c3 H3 rel3 ext3 k3 ext3' v3 nv3 => ?_)
  have x3 := x2.tr ext3
  have k3 := RunT.now (k3 ext3) rel3 (fun _ z => z) ext3 ext3
  obtain ⟨d, fr⟩ := d
  have hd : ∃ b, d = .bl b := by
    cases d with
    | bl b => exact ⟨b, rfl⟩
    | _ => exact (RunT.nope k3).elim
  obtain ⟨b, rfl⟩ := hd
  have hv : v3 = .bl b := by
    cases fr with
    | true => obtain ⟨p, o, _, _, z, _⟩ := nv3; exact z.elim
    | false => exact nv3
  subst hv
  refine ⟨b, rfl, ?_⟩
  have k3 : Run X.K ca (fun cls dx H' => W cls dx σ H') w3 c3 H3 (if b = true then bnd (fstM (h ρ c3)) fun z c => prim (cmpF op') ρ [y, z] c else some (.ok (.bl false, false), c3)) _ := k3
  cases b with
  | false => exact RunT.now k3 rel3 (fun _ z => z) ext3 (ext2.tr ext3) x3 _ (show Rp X.K ca w3 (.bl false) (.bl false) from rfl)
  | true =>
    refine ⟨w3, ρ, c3, rel3, rho.ext x3, (Run.bnd k3).mono fun z w4 c4 H4 rel4 ext4 k4 v4 ev4 => ?_⟩
    have x4 := x3.tr ext4
    exact prim_run (W := fun cls dx H' => W cls dx σ H') rel4 (rho.ext x4) x4 (EVL.two (ev2.ext (ext3.tr ext4)) ev4) ((k4 ext4).mono fun d w5 c5 H5 rel5 ext5 q e => q (ext4.tr ext5) (ext3.tr (ext4.tr ext5)) (ext2.tr (ext3.tr (ext4.tr ext5))) e)
theorem se_chain {op op' : CmpOp} (hu : X.A.units + 64 < cLine) (ha : PE X a (SemN X.K ca H0 W f)) (hb : PE X b (SemN X.K ca H0 W g)) (hc : PE X cc (SemN X.K ca H0 W h)) (hm : lastMarks [op, op'] [b, cc] = false) :
    PE X (.Compare a [op, op'] [b, cc] pos) (SemN X.K ca H0 W fun ρ c => bnd (fstM (f ρ c)) fun x c => bnd (fstM (g ρ c)) fun y c => bnd (fstM (prim (cmpF op) ρ [x, y] c)) fun k c => bnd (liftO (isBl k) c) fun k c =>
      if k then bnd (fstM (h ρ c)) fun z c => prim (cmpF op') ρ [y, z] c else some (.ok (.bl false, false), c)) :=
  peM (pe_chain (pr_cmp hu op) (pr_cmp hu op') (semE_of ha) (semE_of hb) (semE_of hc) hm) fun σ H Q q => chain_run q
theorem se_chainT {op op' : CmpOp} (hu : X.A.units + 64 < cLine) (ha : PE X a (SemN X.K ca H0 W f)) (hb : PE X b (SemN X.K ca H0 W g)) (hc : PE X cc (SemN X.K ca H0 W h)) (hm : lastMarks [op, op'] [b, cc] = false) :
    PT X (.Compare a [op, op'] [b, cc] pos) (SemT X.K ca H0 W (byBool fun ρ c => bnd (fstM (f ρ c)) fun x c => bnd (fstM (g ρ c)) fun y c => bnd (fstM (prim (cmpF op) ρ [x, y] c)) fun k c => bnd (liftO (isBl k) c) fun k c =>
      if k then bnd (fstM (h ρ c)) fun z c => prim (cmpF op') ρ [y, z] c else some (.ok (.bl false, false), c)).t) :=
  ptM (pt_chain (pr_cmp hu op) (pr_cmp hu op') (semE_of ha) (semE_of hb) (semE_of hc) hm) fun σ H Q q => chain_run (by_bool q)

/-! ### calls -/
variable {es : List Expr} {fs : Rho → Cells → Ans (List D)}
theorem run_fnG {F : FN} {T : FT} {k n : Nat} {fa : Addr} {fd : FuncData} {ps : List Str} {s0 : FS} (gd : Gd ca F T k W X) (hx : F.sx = false) (Ff : FnG X.prog X.w X.K X.mg X.base (L2.CX X.prog X.w) k fa fd ps (SpF X.K ca n s0)) (hb : Binds X.K fd ps [])
    {pins : List (Addr × Obj)} {σ : L2.St} {H : Hp} {s : Shared} {Q : VK} {us : List Value} {vs : List V} (I : Inv X pins σ H s) (r : Vals vs us) (h : SpF X.K ca n s0 vs H Q (WE W σ)) :
    wpAny (model X.prog X.w) X.A (call (.ref fa) us) (EP X pins σ Q) X.xe s := by
  have hl : us.length = ps.length := r.length.symm.trans (Ff.num _ _ _ _ h)
  have b := hb s us I.kIn (by rw [List.append_nil]; exact hl)
  rw [List.append_nil] at b
  have go := Ff.runs X.A X.stack s H ⟨us, []⟩ us vs Q (WE W σ) (gd.room hx) gd.guards I.env0 b r h
  refine wpAny_call (codeAny_mono go fun r s' hq => ?_)
  match r, hq with
  | .error e, hq => exact passAt gd.tk σ pins H s e s' I hq
  | .ok (.ret u), hq => exact I.after hq
  | .ok .next, hq => exact hq.elim
  | .ok .brk, hq => exact hq.elim
  | .ok .cont, hq => exact hq.elim
theorem pe_callG {F : FN} {T : FT} {k n : Nat} {fa : Addr} {fd : FuncData} {ps : List Str} {s0 : FS} {x : Str} {p : Pos} {t : TA} (gd : Gd ca F T k W X) (hx : F.sx = false) (Ff : FnG X.prog X.w X.K X.mg X.base (L2.CX X.prog X.w) k fa fd ps (SpF X.K ca n s0)) (hb : Binds X.K fd ps [])
    (hg : Gl X x) (hm : X.mg x = some (.ref fa)) (hk : PySem.W.keepIn X.K (.ref fa) = true) (ha : PA X (e :: es) t) (hdb : (x == ("__debug__" : Str)) = false)
    (he : starEach (e :: es) X.env = (false, eval e X.env) :: starEach es X.env) (hpl : (backTo pos (starEach es X.env)).any (·.1) = false) :
    PE X (.Call (.Name x p) (e :: es) [] pos) (fun σ H Q => t σ H fun vs H1 => SpF X.K ca n s0 vs H1 Q (WE W σ)) :=
  ⟨fun pins s σ H Q I h => wpAny_Call_Name_kw (ld_glob I hg hm (PySem.W.callWith_K (h₀ := X.base) I.ok.mod.kin hk (thn (ha.run pos pins s σ H _ I h) fun _ _ ⟨_, _, I1, r, q⟩ => ⟨I1.kIn, run_fnG gd hx Ff hb I1 r q⟩) he hpl) hdb)⟩
theorem se_call {F : FN} {T : FT} {k f : Nat} {x : Str} {p : Pos} (gd : Gd ca F T k W X) (hsx : F.sx = false) (hT : (T f).isSome = true) (hx : lookN F f = some x) (ha : PA X (e :: es) (SemB X.K ca H0 W fs)) (hg : Gl X x) (hdb : (x == ("__debug__" : Str)) = false)
    (he : starEach (e :: es) X.env = (false, eval e X.env) :: starEach es X.env) (hpl : (backTo pos (starEach es X.env)).any (·.1) = false) :
    PE X (.Call (.Name x p) (e :: es) [] pos) (SemN X.K ca H0 W fun ρ c => bnd (fs ρ c) fun ds c => match T f with
      | some (n, s) => if solL ds && decide (ds.length = n) then s ds c else none
      | none => none) := by
  cases ht : T f with
  | none => rw [ht] at hT; cases hT
  | some q =>
    obtain ⟨n, s⟩ := q
    obtain ⟨fa, fd, ps, hm, hk, hb, hl, Ff⟩ := gd.fns f x n s hx ht
    refine peM (pe_callG gd hsx Ff hb hg hm hk ha hdb he hpl) fun σ H Q ⟨w, ρ, c, rel, rho, run⟩ => ⟨w, ρ, c, rel, rho, run.bnd.mono fun ds w1 c1 H1 rel1 ext1 k1 vs ev => ?_⟩
    have k1 := k1 ext1
    dsimp only at k1
    by_cases hc : (solL ds && decide (ds.length = n)) = true
    · rw [if_pos hc] at k1
      rw [Bool.and_eq_true, decide_eq_true_eq] at hc
      exact ⟨w1, c1, ds, rel1, ev.rpl hc.1, hc.2, RunT.mono k1 fun d w2 c2 H2 rel2 ext2 q v rt => q (ext1.tr ext2) v ((rt.toNV (ρ := ρ) (σ := σ)).back ext1.trk)⟩
    · rw [if_neg hc] at k1; exact (RunT.nope k1).elim
theorem at_rp {K : PySem.W.Frag} {w : Wd} {H : Hp} (hS : Same w.S H) : ∀ {d : D} {v : V}, At K ca w H d v → Rp K ca { w with S := H } d v := by
  intro d v h
  have al0 : ∀ n, n < w.n → ({ w with S := H } : Wd).al n = w.al n := fun _ _ => rfl
  have m : ∀ {ds : List D} {vs : List V}, RpL K ca w ds vs → RpL K ca { w with S := H } ds vs := fun r => RpL.mono (w := w) (w' := { w with S := H }) hS al0 (Nat.le_refl _) _ _ r
  cases d with
  | tup ds => obtain ⟨a, vs, e, s, q⟩ := h; exact ⟨a, vs, e, s, m q⟩
  | gt ds => obtain ⟨a, vs, e, s, q⟩ := h; exact ⟨a, vs, e, s, m q⟩
  | lst ds => obtain ⟨a, vs, e, s, q⟩ := h; exact ⟨a, vs, e, s, m q⟩
  | scr ns => obtain ⟨a, e, s⟩ := h; exact ⟨a, e, s⟩
  | dK ks ds => obtain ⟨a, kvs, e, s, k, q⟩ := h; exact ⟨a, kvs, e, s, k, m q⟩
  | dT ks ds => obtain ⟨a, kvs, e, s, k, q⟩ := h; exact ⟨a, kvs, e, s, k, m q⟩
  | ins cc nm ds => obtain ⟨a, dx, fs, e, s, k, q⟩ := h; exact ⟨a, dx, fs, e, s, k, m q⟩
  | slot i => exact h.elim
  | cell n => exact h.elim
  | non => exact h
  | bl b => exact h
  | int i => exact h
  | str x => exact h
theorem atl_rp {K : PySem.W.Frag} {w : Wd} {H : Hp} (hS : Same w.S H) : ∀ {ds : List D} {vs : List V}, AtL K ca w H ds vs → RpL K ca { w with S := H } ds vs
  | [], _, h => h
  | d :: ds, vs, h => by
    obtain ⟨v, r, e, h1, h2⟩ := h
    exact ⟨v, r, e, at_rp hS h1, atl_rp hS h2⟩
theorem scal_rp {K : PySem.W.Frag} {w w' : Wd} : ∀ {d : D} {v : V}, scalD d = true → Rp K ca w d v → Rp K ca w' d v := by
  intro d v hs h
  cases d <;> first | exact h | cases hs
theorem scal_rpl {K : PySem.W.Frag} {w w' : Wd} : ∀ {ds : List D} {vs : List V}, ds.all scalD = true → RpL K ca w ds vs → RpL K ca w' ds vs
  | [], _, _, h => h
  | d :: ds, vs, hs, h => by
    rw [List.all_cons, Bool.and_eq_true] at hs
    obtain ⟨v, r, e, h1, h2⟩ := h
    exact ⟨v, r, e, scal_rp hs.1 h1, scal_rpl hs.2 h2⟩
theorem dead_live {c : Cells} {n : Nat} : ¬ Live (deadC c) n := fun ⟨d, e⟩ => by
  unfold deadC at e
  rw [List.getElem?_map] at e
  cases h : c[n]? with
  | none => rw [h] at e; cases e
  | some o => rw [h] at e; cases e
/-- behind a call that was lent all: the world as it was -/
theorem lend_back {K : PySem.W.Frag} {w w' : Wd} {c c' : Cells} {H H' : Hp} (rel : Rel K ca w c H) (ext : Ext H { w with S := H } (deadC c) H w' c' H') : Rel K ca w c H' ∧ Ext H w c H w c H' := by
  have fr : ∀ a o, H a = some o → H' a = some o := fun a o e => ext.frame a o (by rw [e]; simp) e fun n hl => absurd hl dead_live
  refine ⟨⟨fun a o e => fr a o (rel.same a o e), rel.num, fun n d e => ?_, rel.inj⟩, Same.refl _, fun _ _ => rfl, Nat.le_refl _, fun a o _ e _ => fr a o e, fun a h => ?_, fun n h => .inl h, fun n h => rel.liv h, fun n h => rel.liv h, fun _ h => h, fun _ h => .inl h⟩
  · obtain ⟨⟨o, q, r⟩, z⟩ := rel.cell n d e
    exact ⟨⟨o, fr _ _ q, r⟩, z⟩
  · cases e : H a with
    | none => exact absurd e h
    | some o => rw [fr a o e]; simp
theorem lend_val {K : PySem.W.Frag} {w w' : Wd} {c c' : Cells} {H H' : Hp} {d : D × Bool} {v : V} (rel : Rel K ca w c H) (hk : keepB d = true) (h : RtV K ca H w' c' H' d v) : RtV K ca H w c H' d v := by
  obtain ⟨d, fr⟩ := d
  cases fr with
  | false => exact scal_rp hk h
  | true =>
    obtain ⟨p, o, e, ho, hr, hS, hT, hl⟩ := h
    have ro : RpO K ca w d o := by
      cases d with
      | lst xs => obtain ⟨vs, e, q⟩ := hr; exact ⟨vs, e, scal_rpl hk q⟩
      | tup xs => obtain ⟨vs, e, q⟩ := hr; exact ⟨vs, e, scal_rpl hk q⟩
      | _ => first | exact hr.elim | cases hk
    refine ⟨p, o, e, ho, ro, rel.same.free hT, hT, fun n ⟨d', e'⟩ z => ?_⟩
    obtain ⟨⟨o', q, _⟩, _⟩ := rel.cell n d' e'
    rw [z, hT] at q; cases q
theorem lendA_run {K : PySem.W.Frag} {w : Wd} {c : Cells} {H : Hp} {ρ : Rho} {σ : L2.St} {W : XK} {n : Nat} {s : FS} {ds : List D} {vs : List V} {Q : D × Bool → V → Hp → Prop} (rel : Rel K ca w c H) (rho : RhoR K ca w c H0 H ρ σ) (ev : EVL K ca w ρ σ ds vs)
    (run : Run K ca W w c H (lendA (some (n, s)) ρ ds c) fun d w' c' H' => Ext H w c H w' c' H' → ∀ v, NV K ca H w' c' H' ρ σ d v → Q d v H') :
    ∃ w1 c1 es, Rel K ca w1 c1 H ∧ RpL K ca w1 es vs ∧ es.length = n ∧ Run K ca W w1 c1 H (s es c1) fun d w' c' H' => ∀ v, RtV K ca H w' c' H' d v → Q d v H' := by
  unfold lendA at run
  cases e1 : dersL ρ c ds with
  | none => rw [e1] at run; exact run.nope.elim
  | some es =>
    rw [e1] at run
    dsimp only at run
    by_cases hc : (solL es && decide (es.length = n)) = true
    · rw [if_pos hc] at run
      rw [Bool.and_eq_true, decide_eq_true_eq] at hc
      refine ⟨{ w with S := H }, deadC c, es, ⟨Same.refl _, ?_, fun n d e => absurd ⟨d, e⟩ dead_live, fun n m hn => absurd hn dead_live⟩, atl_rp rel.same (evl_at rel rho ev e1), hc.2, ?_⟩
      · show w.n = (deadC c).length
        unfold deadC
        rw [List.length_map]; exact rel.num
      · revert run
        generalize s es (deadC c) = m
        intro run
        rcases m with _ | ⟨⟨d⟩ | ⟨x⟩, c3⟩
        · exact run.nope.elim
        · have run : Run K ca W w c H (if keepB d then some (.ok d, c) else none) _ := run
          by_cases hk : keepB d = true
          · rw [if_pos hk] at run
            refine ⟨.ok d, c3, rfl, fun a ea w' H' rel' ext' v rt => ?_, fun x z => by cases z⟩
            cases ea
            obtain ⟨rel2, ext2⟩ := lend_back rel ext'
            exact RunT.ret run w H' rel2 ext2 ext2 v (RtV.toNV (lend_val rel hk rt))
          · rw [if_neg hk] at run; exact run.nope.elim
        · exact run.nope.elim
    · rw [if_neg hc] at run; exact run.nope.elim
theorem se_box (ha : PE X e (SemN X.K ca H0 W f)) : PE X e (SemN X.K ca H0 W fun ρ c => bnd (f ρ c) fun d c => boxA d c) := by
  refine peM ha fun σ H Q ⟨w, ρ, c, rel, rho, run⟩ => ⟨w, ρ, c, rel, rho, (RunT.bnd run).mono fun d w1 c1 H1 rel1 ext1 k v nv => ?_⟩
  replace k := k H (fun _ z => z) ext1.trk
  obtain ⟨d, fr⟩ := d
  unfold boxA at k
  by_cases hc : (fr && isObjD d) = true
  · rw [if_pos hc] at k
    rw [Bool.and_eq_true] at hc
    obtain rfl : fr = true := hc.1
    obtain ⟨p, o, rfl, hp, ro, hS, hT, hcl⟩ := nv
    obtain ⟨r', x'⟩ := rel1.tocell (T := H) hp hS hcl ro hT ext1.trk (.refl rel1 ext1.trk)
    have num : w1.n = c1.length := rel1.num
    refine RunT.ret k _ H1 r' x' (ext1.trans x' fun _ z => z) (.ref p) ⟨?_, ?_⟩
    · show V.ref p = V.ref (if c1.length = w1.n then p else _)
      rw [if_pos num.symm]
    · show c1.length < w1.n + 1
      omega
  · rw [if_neg hc] at k; exact (RunT.nope k).elim
theorem se_lend {F : FN} {T : FT} {k f : Nat} {x : Str} {p : Pos} (gd : Gd ca F T k W X) (hsx : F.sx = false) (hT : (T f).isSome = true) (hx : lookN F f = some x) (ha : PA X (e :: es) (SemB X.K ca H0 W fs)) (hg : Gl X x) (hdb : (x == ("__debug__" : Str)) = false)
    (he : starEach (e :: es) X.env = (false, eval e X.env) :: starEach es X.env) (hpl : (backTo pos (starEach es X.env)).any (·.1) = false) :
    PE X (.Call (.Name x p) (e :: es) [] pos) (SemN X.K ca H0 W fun ρ c => bnd (fs ρ c) fun ds c => lendA (T f) ρ ds c) := by
  cases ht : T f with
  | none => rw [ht] at hT; cases hT
  | some q =>
    obtain ⟨n, s⟩ := q
    obtain ⟨fa, fd, ps, hm, hk, hb, hl, Ff⟩ := gd.fns f x n s hx ht
    refine peM (pe_callG gd hsx Ff hb hg hm hk ha hdb he hpl) fun σ H Q ⟨w, ρ, c, rel, rho, run⟩ => ⟨w, ρ, c, rel, rho, run.bnd.mono fun ds w1 c1 H1 rel1 ext1 k1 vs ev => ?_⟩
    exact lendA_run (Q := fun _ v H' => Q v H') rel1 (rho.ext ext1) ev ((k1 ext1).mono fun d w2 c2 H2 rel2 ext2 q e v nv => q (ext1.tr ext2) v (nv.back ext1.trk))
theorem se_blt {id : String} {x : Str} {p : Pos} {op : Cells → List D → Option Out} (hc : CallR X (.builtin id) (prR X.K ca op)) (hg : Gl X x) (hm : X.mg x = none) (hv : bootBuiltins x = some (.builtin id)) (ha : PA X (e :: es) (SemB X.K ca H0 W fs)) (hn : x ≠ "__name__") (hdb : (x == ("__debug__" : Str)) = false)
    (he : starEach (e :: es) X.env = (false, eval e X.env) :: starEach es X.env) (hpl : (backTo pos (starEach es X.env)).any (·.1) = false) :
    PE X (.Call (.Name x p) (e :: es) [] pos) (SemN X.K ca H0 W fun ρ c => bnd (fs ρ c) fun ds c => prim op ρ ds c) :=
  peM (pe_callB hc hg hm hv ha hn hdb he hpl) fun σ H Q ⟨w, ρ, c, rel, rho, run⟩ => ⟨w, ρ, c, rel, rho, run.bnd.mono fun ds w1 c1 H1 rel1 ext1 k1 vs ev => prim_run rel1 (rho.ext ext1) ext1 ev (k1 ext1)⟩
theorem se_bltT {id : String} {x : Str} {p : Pos} {op : Cells → List D → Option Out} (hc : CallR X (.type id) (prR X.K ca op)) (hg : Gl X x) (hm : X.mg x = none) (hv : bootBuiltins x = some (.type id)) (ha : PA X (e :: es) (SemB X.K ca H0 W fs)) (hn : x ≠ "__name__") (hdb : (x == ("__debug__" : Str)) = false)
    (he : starEach (e :: es) X.env = (false, eval e X.env) :: starEach es X.env) (hpl : (backTo pos (starEach es X.env)).any (·.1) = false) :
    PE X (.Call (.Name x p) (e :: es) [] pos) (SemN X.K ca H0 W fun ρ c => bnd (fs ρ c) fun ds c => prim op ρ ds c) :=
  peM (pe_callTy hc hg hm hv ha hn hdb he hpl) fun σ H Q ⟨w, ρ, c, rel, rho, run⟩ => ⟨w, ρ, c, rel, rho, run.bnd.mono fun ds w1 c1 H1 rel1 ext1 k1 vs ev => prim_run rel1 (rho.ext ext1) ext1 ev (k1 ext1)⟩
/-! ### argument lists -/
theorem sa_nil : PA X [] (SemB X.K ca H0 W fun _ c => some (.ok [], c)) := paM pa_nil fun σ H Q ⟨w, ρ, c, rel, rho, run⟩ => RunT.now run rel (fun _ z => z) [] rfl
theorem sa_cons (ha : PE X e (SemN X.K ca H0 W f)) (hr : PA X es (SemB X.K ca H0 W fs)) (hs : starEach (e :: es) X.env = (false, eval e X.env) :: starEach es X.env) :
    PA X (e :: es) (SemB X.K ca H0 W fun ρ c => bnd (fstM (f ρ c)) fun d c => bnd (fs ρ c) fun ds c => some (.ok (d :: ds), c)) :=
  paM (pa_cons (semE_of ha) hr hs) fun σ H Q ⟨w, ρ, c, rel, rho, run⟩ => ⟨w, ρ, c, rel, rho, run.bnd.mono fun d w1 c1 H1 rel1 ext1 k1 v ev => ⟨w1, ρ, c1, rel1, rho.ext ext1, (k1 ext1).bnd.mono fun ds w2 c2 H2 rel2 ext2 k2 vs evs =>
    RunT.now (k2 ext2) rel2 (fun _ z => z) ext2 (ext1.tr ext2) (v :: vs) ⟨v, vs, rfl, ev.ext ext2, evs⟩⟩⟩
end
end Eng

/-! Eng11: argument lists, methods, what is walked, comprehensions -/
namespace Eng
open PySem PySem.Spec PyProof.Rows L2

theorem star_cons {e : Expr} {es : List Expr} {env : PySem.Env} (h : noStar e = true) : starEach (e :: es) env = (false, eval e env) :: starEach es env := by
  cases e <;> first | rfl | cases h
theorem star_any (pos : Pos) (env : PySem.Env) : ∀ {es : List Expr}, es.all noStar = true → (backTo pos (starEach es env)).any (·.1) = false
  | [], _ => rfl
  | e :: es, h => by
    rw [List.all_cons, Bool.and_eq_true] at h
    rw [star_cons h.1]
    have := star_any pos env h.2
    cases es with
    | nil => rfl
    | cons e' es' =>
      rw [List.all_cons, Bool.and_eq_true] at h
      rw [star_cons h.2.1] at this ⊢
      exact this
theorem base_of {o : Expr} (h : noSup o = true) (n : Str) (env : PySem.Env) : attributeBase o n env (eval o env) = eval o env := by
  cases o with
  | Call f args kws pos =>
    cases f <;> first | rfl | (cases args <;> first | rfl | (cases kws <;> first | rfl | cases h))
  | _ => rfl

section
variable {ca : CA} {X : Cx} {H0 : Hp} {W : WX} {a b e : Expr} {es : List Expr} {f g : Rho → Cells → Ans (D × Bool)} {fs : Rho → Cells → Ans (List D)} {pos : Pos}

/-! ### methods that change nothing -/
theorem idxS_get {x : D} : ∀ {ys : List D} {k j : Nat}, idxS x ys k = some j → ∃ i y, j = k + i ∧ ys[i]? = some y ∧ eqS y x = true ∧ ∀ m y', m < i → ys[m]? = some y' → eqS y' x = false
  | [], k, j, h => by cases h
  | y :: ys, k, j, h => by
    unfold idxS at h
    by_cases e : eqS y x = true
    · rw [if_pos e] at h
      cases h
      exact ⟨0, y, rfl, rfl, e, fun m y' hm => absurd hm (Nat.not_lt_zero _)⟩
    · rw [if_neg e] at h
      obtain ⟨i, z, h1, h2, h3, h4⟩ := idxS_get h
      refine ⟨i + 1, z, by omega, by simpa using h2, h3, fun m y' hm hy => ?_⟩
      cases m with
      | zero => have : y = y' := by simpa using hy
                subst y'; simpa using e
      | succ m => exact h4 m y' (by omega) (by simpa using hy)
theorem pr_lindex : MtR X "list.index" (fun x vs H Q => prR X.K ca (fun _ => lindexF) (x :: vs) H Q) := by
  intro pins s σ H x xs v us Q I rx rs ⟨w, c, ds, out, rel, at', ef, q⟩
  replace ef : lindexF ds = some out := ef
  unfold lindexF at ef
  split at ef
  · rename_i ys y
    split at ef
    · rename_i hs
      rw [Bool.and_eq_true] at hs
      obtain ⟨j, ej, rfl⟩ := Option.map_eq_some_iff.mp ef
      obtain ⟨v', u', ev, hv, hu⟩ := at'.of2
      cases ev
      obtain ⟨a, vs, rfl, ha, ra⟩ := hv
      obtain ⟨f1, _⟩ := any_V hu hs.1 ra hs.2
      obtain ⟨i, z, e1, e2, e3, e4⟩ := idxS_get ej
      have e1 : j = i := by omega
      subst e1
      obtain ⟨zv, ez, rz⟩ := ra.get e2
      have sc : ∀ {m : Nat} {z' : D}, ys[m]? = some z' → scalD z' = true := fun h => List.all_eq_true.mp hs.2 _ (List.mem_of_getElem? h)
      refine mt_index pins s σ H _ _ v us Q I rx rs ⟨a, vs, u', j, zv, rfl, rfl, SqL.of ha, flat_scal hu hs.1, f1, ez, by rw [eqS_V rz hu (sc e2) hs.1]; exact e3, fun m z' hm hz => ?_, q _ rfl⟩
      have hl : m < ys.length := by rw [ra.length]; exact (List.getElem?_eq_some_iff.mp hz).1
      obtain ⟨z2, ez2, rz2⟩ := ra.get (List.getElem?_eq_getElem hl)
      rw [ez2] at hz; cases hz
      rw [eqS_V rz2 hu (sc (List.getElem?_eq_getElem hl)) hs.1]
      exact e4 m _ hm (List.getElem?_eq_getElem hl)
    · cases ef
  · cases ef
theorem countP_eqU {y : V} : ∀ {xs : List V} {us : List Value}, Vals xs us → xs.all flatV = true → us.countP (eqU y) = xs.countP fun z => eqV z y
  | _, _, .nil, _ => rfl
  | x :: xs, u :: us, .cons r rr, h => by
    rw [List.all_cons, Bool.and_eq_true] at h
    rw [List.countP_cons, List.countP_cons, countP_eqU rr h.2, eqU_of r h.1]
theorem countP_eqS {K : PySem.W.Frag} {w : Wd} {H : Hp} {e : D} {u : V} (h' : At K ca w H e u) (se : scalD e = true) : ∀ {ds : List D} {vs : List V}, RpL K ca w ds vs → ds.all scalD = true → vs.countP (fun z => eqV z u) = ds.countP fun y => eqS y e
  | [], _, r, _ => by cases r; rfl
  | d :: ds, vs, r, sd => by
    obtain ⟨v, r', rfl, r1, r2⟩ := r
    rw [List.all_cons, Bool.and_eq_true] at sd
    rw [List.countP_cons, List.countP_cons, countP_eqS h' se r2 sd.2, eqS_V r1 h' sd.1 se]
theorem pr_lcount : MtR X "list.count" (fun x vs H Q => prR X.K ca (fun _ => lcountF) (x :: vs) H Q) := by
  intro pins s σ H x xs v us Q I rx rs ⟨w, c, ds, out, rel, at', ef, q⟩
  replace ef : lcountF ds = some out := ef
  unfold lcountF at ef
  split at ef
  · rename_i ys y
    split at ef
    · rename_i hs
      rw [Bool.and_eq_true] at hs
      cases ef
      obtain ⟨v', u', ev, hv, hu⟩ := at'.of2
      cases ev
      obtain ⟨a, vs, rfl, ha, ra⟩ := hv
      obtain ⟨f1, _⟩ := any_V hu hs.1 ra hs.2
      have fy := flat_scal hu hs.1
      cases rx
      cases rs with
      | cons ry rt =>
        rename_i uy ut
        cases rt
        obtain ⟨its, rv, ⟨⟨cls, dd, data, sl⟩, n, ho, hc, hdn, hd⟩, hlen⟩ := I.list (SqL.of ha)
        simp only at hc hd
        subst hc hd
        refine call_meets PySem.F.slot_list_count ⟨_, ho, rfl⟩ PySem.F.entry_list_count (PySem.F.args_list_count_2 _ _)
          (SeqAt.list_countAt a its.toArray n dd sl uy (eqU u')) ⟨ho, fun z hz => mem_eqAt ry fy rv f1 z (by simpa using hz), ?_⟩
        refine ⟨.int _, H, I.tok _, ⟨_, rfl⟩, ?_⟩
        have e : its.toArray.toList.countP (eqU u') = ys.countP fun z => eqS z y := by
          rw [show its.toArray.toList = its from rfl, countP_eqU rv f1, countP_eqS hu hs.1 ra hs.2]
        rw [e]
        exact q _ rfl
    · cases ef
  · cases ef
theorem pr_join : MtR X "str.join" (fun x vs H Q => prR X.K ca (fun _ => joinF) (x :: vs) H Q) := by
  intro pins s σ H x xs v us Q I rx rs ⟨w, c, ds, out, rel, at', ef, q⟩
  replace ef : joinF ds = some out := ef
  unfold joinF at ef
  split at ef
  · rename_i a ys
    split at ef
    · rename_i zs ez
      split at ef
      · rename_i hl
        cases ef
        obtain ⟨v', u', ev, hv, hu⟩ := at'.of2
        cases ev
        obtain rfl : x = .str a := hv
        obtain ⟨p, vs, rfl, hp, rp⟩ := hu
        obtain rfl := strsD_v ez rp
        exact mt_join pins s σ H _ _ v us Q I rx rs ⟨a, p, zs, rfl, rfl, .inl (SqL.of hp), hl, q _ rfl⟩
      · cases ef
    · cases ef
  · cases ef
theorem few_of (cpos : Pos) (env : PySem.Env) {e : Expr} {es : List Expr} (h : (e :: es).all noStar = true) (hl : (e :: es).length < 29) : ((backTo cpos (starEach (e :: es) env)).all (fun x => !x.1) && (backToKw cpos (keywordEach [] env)).all (fun x => x.1.isSome)
      && decide ((e :: es).length + ([] : List Keyword).length + (if ([] : List Keyword).isEmpty then 0 else 1) < 30)) = true := by
  have h1 := star_any cpos env h
  have h2 : (backTo cpos (starEach (e :: es) env)).all (fun x => !x.1) = true := by
    rw [List.all_eq_true]
    intro x hx
    rw [List.any_eq_false] at h1
    have := h1 x hx
    simpa using this
  rw [h2]
  have h3 : (e :: es).length + ([] : List Keyword).length + (if ([] : List Keyword).isEmpty then 0 else 1) < 30 := by
    show (e :: es).length + 0 + 0 < 30
    omega
  rw [decide_eq_true h3]; rfl
theorem se_meth {m : MK} {Tn id : String} {name : Str} {ap : Pos} {op : Cells → List D → Option Out} (pa : PlainAttrs Tn) (slot : Slot Tn name id) (hty : typeOf (.builtin id) = pure (.type "method_descriptor"))
    (hm : MtR X id (fun x vs H Q => prR X.K ca op (x :: vs) H Q)) (ht : ∀ (w : Wd) (H : Hp) (d : D) (v : V), At X.K ca w H d v → tyM m d = true → tyV X.K Tn v H)
    (ha : PE X a (SemN X.K ca H0 W f)) (hb : PA X (e :: es) (SemB X.K ca H0 W fs)) (hs : noSup a = true) (hst : (e :: es).all noStar = true) (hl : (e :: es).length < 29) (hline : (ap.endLine == pos.line) = true) :
    PE X (.Call (.Attribute a name ap) (e :: es) [] pos) (SemN X.K ca H0 W fun ρ c => bnd (fstM (f ρ c)) fun x c => if tyO m (derS ρ c x) then bnd (fs ρ c) fun ds c => prim op ρ (x :: ds) c else none) := by
  have h1 := hst
  rw [List.all_cons, Bool.and_eq_true] at h1
  refine peM (pe_bm (T := Tn) pa slot hty hm (semE_of ha) hb (base_of hs _ _) (few_of _ _ hst hl) hline (star_cons h1.1) (star_any _ _ h1.2)) fun σ H Q ⟨w, ρ, c, rel, rho, run⟩ => ⟨w, ρ, c, rel, rho, run.bnd.mono fun x w1 c1 H1 rel1 ext1 k1 v ev => ?_⟩
  have k1 := k1 ext1
  cases ed : derS ρ c1 x with
  | none => rw [ed] at k1; exact (RunT.nope k1).elim
  | some d =>
    rw [ed] at k1
    have k1 : Run X.K ca (fun cls dx H' => W cls dx σ H') w1 c1 H1 (if tyM m d = true then bnd (fs ρ c1) fun ds c => prim op ρ (x :: ds) c else none) _ := k1
    by_cases hd : tyM m d = true
    · rw [if_pos hd] at k1
      refine ⟨ht w1 H1 d v (ev_at rel1 (rho.ext ext1) ev ed) hd, w1, ρ, c1, rel1, rho.ext ext1, (Run.bnd k1).mono fun ds w2 c2 H2 rel2 ext2 k2 vs evs => ?_⟩
      have x2 := ext1.tr ext2
      exact prim_run (W := fun cls dx H' => W cls dx σ H') rel2 (rho.ext x2) x2 (show EVL X.K ca w2 ρ σ (x :: ds) (v :: vs) from ⟨v, vs, rfl, ev.ext ext2, evs⟩) ((k2 ext2).mono fun d w3 c3 H3 rel3 ext3 q e => q (ext2.tr ext3) e)
    · rw [if_neg hd] at k1; exact (RunT.nope k1).elim
end
section
variable {ca : CA} {X : Cx} {H0 : Hp} {W : WX} {a b e : Expr} {f g h : Rho → Cells → Ans (D × Bool)} {pos : Pos}
theorem se_dct {k : Bool} : PE X (.Dict [] [] pos) (SemN X.K ca H0 W fun _ c => some (.ok (if k then .dK [] [] else .dT [] [], true), c)) := by
  cases k with
  | true =>
    refine peM pe_dnewK fun σ H Q ⟨w, ρ, c, rel, rho, run⟩ p hp => ?_
    obtain ⟨rel2, ext2, nw⟩ := newK rel (Ext.self rel) (d := .dK [] []) (o := .dK []) hp ⟨[], rfl, rfl, rfl⟩
    exact RunT.ret run w _ rel2 ext2 _ nw
  | false =>
    refine peM pe_dnewT fun σ H Q ⟨w, ρ, c, rel, rho, run⟩ p hp => ?_
    obtain ⟨rel2, ext2, nw⟩ := newK rel (Ext.self rel) (d := .dT [] []) (o := .dT []) hp ⟨[], rfl, rfl, rfl⟩
    exact RunT.ret run w _ rel2 ext2 _ nw
theorem keyD_rp {K : PySem.W.Frag} {w : Wd} {d : D} {q : Key} {v : V} (h : keyD d = some q) (r : Rp K ca w d v) : kV q = v := by
  cases d with
  | int i => cases h; exact Eq.symm r
  | str x => cases h; exact Eq.symm r
  | _ => cases h
theorem mrg_ok {K : PySem.W.Frag} {w : Wd} : ∀ (l : List (Key × D)) (kvs more : List (Key × V)) (ds : List D), more.map (·.1) = l.map (·.1) → RpL K ca w (l.map (·.2)) (more.map (·.2)) → RpL K ca w ds (kvs.map (·.2)) →
    (mergeK kvs more).map (·.1) = (mrgD (kvs.map (·.1)) ds l).1 ∧ RpL K ca w (mrgD (kvs.map (·.1)) ds l).2 ((mergeK kvs more).map (·.2))
  | [], kvs, [], ds, _, _, h => ⟨rfl, h⟩
  | [], _, _ :: _, _, e, _, _ => by cases e
  | _ :: _, _, [], _, e, _, _ => by cases e
  | (q, d) :: l, kvs, (k, v) :: more, ds, e, r, h => by
    obtain ⟨e1, e2⟩ := List.cons.inj e
    obtain rfl : k = q := e1
    obtain ⟨v', r', ev, r1, r2⟩ := r
    obtain ⟨rfl, rfl⟩ := List.cons.inj ev
    have := mrg_ok l (putK kvs k v) more (dputV (kvs.map (·.1)) ds k d) e2 r2 (dput_vals h r1)
    rw [dput_keys] at this
    exact this
/-- a display's pairs, read off -/
theorem pairs_of {K : PySem.W.Frag} {w : Wd} : ∀ {ds : List D} {l : List (Key × D)} {ps : List (V × V)}, dspF ds = some l → RpL K ca w ds (ps.flatMap fun p => [p.1, p.2]) →
    ∃ kvs : List (Key × V), ps = kvs.map (fun kv => (kV kv.1, kv.2)) ∧ kvs.map (·.1) = l.map (·.1) ∧ RpL K ca w (l.map (·.2)) (kvs.map (·.2))
  | [], l, ps, h, r => by
    cases h
    cases ps with
    | nil => exact ⟨[], rfl, rfl, rfl⟩
    | cons p ps => cases r
  | [_], l, ps, h, r => by cases h
  | dk :: dv :: ds, l, ps, h, r => by
    cases ps with
    | nil => obtain ⟨_, _, e, _⟩ := r; cases e
    | cons p ps =>
      obtain ⟨x, r1, e1, a1, b1⟩ := r
      obtain ⟨y, r2, e2, a2, b2⟩ := b1
      subst e2
      obtain ⟨rfl, e3⟩ := List.cons.inj e1
      obtain ⟨rfl, rfl⟩ := List.cons.inj e3
      unfold dspF at h
      split at h
      · rename_i q l' h1 h2
        cases h
        obtain ⟨kvs, z1, z2, z3⟩ := pairs_of h2 b2
        exact ⟨(q, p.2) :: kvs, by rw [z1, List.map_cons, keyD_rp h1 a1], by rw [List.map_cons, List.map_cons, z2], ⟨_, _, rfl, a2, z3⟩⟩
      · cases h
/-- a type's own name -/
def tyT : TY → String
  | .non => "NoneType" | .bl => "bool" | .int => "int" | .str => "str" | .tup => "tuple" | .lst => "list" | .dct => "dict"
theorem kitB_ty (y t : TY) (ht : t ≠ .non) : kitB (tyT y) (tyT t) = some (isiB y t) := by
  cases t <;> first | exact absurd rfl ht | (cases y <;> decide +kernel)
theorem tyX_of {K : PySem.W.Frag} {w : Wd} {H : Hp} {d : D} {v : V} {y : TY} (h : At K ca w H d v) (e : tyD d = some y) : TyX K H v (.type (tyT y)) := by
  cases d with
  | non => cases e; obtain rfl : v = _ := h; exact .base .non
  | bl x => cases e; obtain rfl : v = _ := h; exact .base (.bl x)
  | int x => cases e; obtain rfl : v = _ := h; exact .base (.int x)
  | str x => cases e; obtain rfl : v = _ := h; exact .base (.str x)
  | tup ds => cases e; obtain ⟨a, vs, rfl, ha, _⟩ := h; exact .base (.tup ha)
  | lst ds => cases e; obtain ⟨a, vs, rfl, ha, _⟩ := h; exact .base (.lst ha)
  | dK ks ds => cases e; obtain ⟨a, kvs, rfl, ha, _⟩ := h; exact .base (.dK ha)
  | dT ks ds => cases e; obtain ⟨a, kvs, rfl, ha, _⟩ := h; exact .base (.dT ha)
  | gt ds =>
    cases e
    obtain ⟨a, vs, rfl, ha, _⟩ := h
    rcases ha with (ha | ⟨o, ha⟩) | ⟨o, its, n, hk, hc, _⟩
    · exact .base (.tup ha)
    · exact .fTuple ha
    · exact .kTuple hk hc
  | scr ns =>
    cases e
    obtain ⟨a, rfl, ha⟩ := h
    rcases ha with (ha | ⟨o, ha⟩) | ⟨o, its, n, hk, hc, _⟩
    · exact .base (.lst ha)
    · exact .base (.frz ha)
    · exact .kList hk hc
  | _ => cases e
theorem boot_ty (t : TY) (ht : t ≠ .non) : bootBuiltins (tyN t) = some (.type (tyT t)) := by
  cases t <;> first | exact absurd rfl ht | decide +kernel
theorem se_ofset {id : String} {x : Str} {p p2 qq : Pos} {op : Cells → List D → Option Out} (hc : CallS X id (prR X.K ca op)) (hg : Gl X x) (hm : X.mg x = none) (hv : bootBuiltins x = some (.builtin id)) (hg2 : Gl X "set") (hm2 : X.mg "set" = none) (ha : PE X a (SemN X.K ca H0 W f)) (hn : x ≠ "__name__") (hdb : (x == ("__debug__" : Str)) = false)
    (na : starEach [a] X.env = (false, eval a X.env) :: starEach [] X.env) :
    PE X (.Call (.Name x p) [.Call (.Name "set" p2) [a] [] qq] [] pos) (SemN X.K ca H0 W fun ρ c => bnd (fstM (f ρ c)) fun d c => prim op ρ [d] c) :=
  peM (pe_ofset hc hg hm hv hg2 hm2 (semE_of ha) hn hdb na) fun σ H Q ⟨w, ρ, c, rel, rho, run⟩ => ⟨w, ρ, c, rel, rho, run.bnd.mono fun d w1 c1 H1 rel1 ext1 k1 v ev => prim_run rel1 (rho.ext ext1) ext1 (show EVL X.K ca w1 ρ σ [d] [v] from ⟨v, [], rfl, ev, rfl⟩) (k1 ext1)⟩
def rngFc : Cells → List D → Option Out := fun _ ds => rngF ds
theorem se_lrng {p p2 qq : Pos} (hc : X.calm = true) (hg : Gl X "list") (hm : X.mg "list" = none) (hg2 : Gl X "range") (hm2 : X.mg "range" = none) (ha : PE X a (SemN X.K ca H0 W f))
    (na : starEach [a] X.env = (false, eval a X.env) :: starEach [] X.env) (na2 : starEach [.Call (.Name "range" p2) [a] [] qq] X.env = (false, eval (.Call (.Name "range" p2) [a] [] qq) X.env) :: starEach [] X.env) :
    PE X (.Call (.Name "list" p) [.Call (.Name "range" p2) [a] [] qq] [] pos) (SemN X.K ca H0 W fun ρ c => bnd (fstM (f ρ c)) fun d c => prim rngFc ρ [d] c) :=
  peM (pe_listRg hc hg hm (prg_1 hg2 hm2 (semE_of ha) na) na2) fun σ H Q ⟨w, ρ, c, rel, rho, run⟩ => ⟨w, ρ, c, rel, rho, run.bnd.mono fun d w1 c1 H1 rel1 ext1 k1 v ev => by
    obtain ⟨w2, c2, ds, out, rel2, at2, ef, q⟩ := prim_run rel1 (rho.ext ext1) ext1 (show EVL X.K ca w1 ρ σ [d] [v] from ⟨v, [], rfl, ev, rfl⟩) (k1 ext1)
    replace ef : rngF ds = some out := ef
    unfold rngF at ef
    split at ef
    · rename_i n
      obtain ⟨u, e0, hu⟩ := at2.inv1 rfl
      cases e0
      obtain rfl : v = .int n := hu
      split at ef
      · rename_i hn
        cases ef
        refine ⟨n, rfl, RgOk.of_le (by omega) hn.2 (by omega) hn.1, fun l hl => q l _ hl ⟨_, rfl, ?_⟩⟩
        have e : rgV 0 n = ((List.range n.toNat).map fun (i : Nat) => (i : Int)).map V.int := by
          unfold rgV
          rw [List.map_map, Int.sub_zero]
          refine List.map_congr_left fun i _ => ?_
          show V.int (0 + (i : Int)) = V.int (i : Int)
          rw [Int.zero_add]
        rw [e, show ((List.range n.toNat).map fun (i : Nat) => D.int (i : Int)) = ((List.range n.toNat).map fun (i : Nat) => (i : Int)).map D.int by rw [List.map_map]; rfl]
        exact RpL.ints _
      · cases ef
    · cases ef⟩
theorem se_isi {y : TY} {p p2 : Pos} (hy : y ≠ .non) (ha : PE X a (SemN X.K ca H0 W f)) (hg : Gl X "isinstance") (hm : X.mg "isinstance" = none) (hg2 : Gl X (tyN y)) (hm2 : X.mg (tyN y) = none)
    (he : starEach [a, .Name (tyN y) p2] X.env = (false, eval a X.env) :: starEach [.Name (tyN y) p2] X.env) (hpl : (backTo pos (starEach [.Name (tyN y) p2] X.env)).any (·.1) = false) :
    PE X (.Call (.Name "isinstance" p) [a, .Name (tyN y) p2] [] pos) (SemN X.K ca H0 W fun ρ c => bnd (fstM (f ρ c)) fun x c => liftO (((derS ρ c x).bind tyD).map fun z => (.bl (isiB z y), false)) c) := by
  have hn : tyN y ≠ "__name__" := by cases y <;> decide
  have hd : (tyN y == ("__debug__" : Str)) = false := by cases y <;> decide
  refine peM (pe_callB call_isi hg hm (by decide +kernel) (pa_cons (semE_of ha) (pa_cons (pe_bltn (v := .ty (tyT y)) hg2 hm2 (boot_ty y hy) rfl hn hd) pa_nil rfl) he) (by decide) (by decide) he hpl) fun σ H Q ⟨w, ρ, c, rel, rho, run⟩ => ?_
  refine ⟨w, ρ, c, rel, rho, run.bnd.mono fun x w1 c1 H1 rel1 ext1 k v ev => ?_⟩
  have k := k ext1
  cases ed : (derS ρ c1 x).bind tyD with
  | none => rw [ed] at k; exact (RunT.nope k).elim
  | some z =>
    rw [ed] at k
    obtain ⟨d, e1, e2⟩ := Option.bind_eq_some_iff.mp ed
    exact ⟨v, .ty (tyT y), _, _, _, rfl, .ty _, tyX_of (ev_at rel1 (rho.ext ext1) ev e1) e2, kit_ty (kitB_ty z y hy), RunT.now k rel1 (fun _ z => z) ext1 _ (show EV X.K ca w1 ρ σ (.bl (isiB z y)) (.bl (isiB z y)) from rfl)⟩
theorem mt_dget2 (hu : X.A.units + 1 < cLine) : MtR X "dict.get" (fun x vs H Q => ∃ (l : Addr) (y z : V) (o : Option V), x = .ref l ∧ vs = [y, z] ∧ DGet H l y o ∧ Q (o.getD z) H) := by
  intro pins s σ H x vs v us Q I rx rv q
  obtain ⟨l, y, z, o, rfl, rfl, g, q⟩ := q
  cases rx
  obtain ⟨u1, u2, rfl, r1, r2⟩ := rv.two
  exact d_get2 hu I g r1 r2 fun w' s' I' rw' => ⟨_, H, I', rw', q⟩
theorem dget_of {K : PySem.W.Frag} {w : Wd} {H : Hp} {d q z r : D} {v i u : V} (h1 : At K ca w H d v) (h2 : At K ca w H q i) (h3 : Rp K ca w z u) (e : dgetF d q z = some r) : ∃ l o, v = .ref l ∧ DGet H l i o ∧ Rp K ca w r (o.getD u) := by
  unfold dgetF at e
  split at e
  · obtain ⟨k, ek, rfl⟩ := Option.map_eq_some_iff.mp e
    obtain ⟨l, kvs, rfl, ha, hk, r⟩ := h1
    obtain rfl := keyD_at ek h2
    have := dget_val (K := K) (ca := ca) (w := w) k r
    rw [hk] at this
    refine ⟨l, _, rfl, DGet.k ha, ?_⟩
    revert this
    generalize dget _ _ k = o1
    cases o1 with
    | none => intro this; rw [this]; exact h3
    | some d1 => rintro ⟨p, ep, rp⟩; rw [ep]; exact rp
  · obtain ⟨k, ek, rfl⟩ := Option.map_eq_some_iff.mp e
    obtain ⟨l, kvs, rfl, ha, hk, r⟩ := h1
    obtain ⟨b, us, rfl, hb, rb⟩ := h2
    obtain rfl := keysD_v ek rb
    have := dget_val (K := K) (ca := ca) (w := w) k r
    rw [hk] at this
    refine ⟨l, _, rfl, DGet.t ha hb, ?_⟩
    revert this
    generalize dget _ _ k = o1
    cases o1 with
    | none => intro this; rw [this]; exact h3
    | some d1 => rintro ⟨p, ep, rp⟩; rw [ep]; exact rp
  · cases e
theorem se_dget {x u v : Expr} {ap : Pos} (hu : X.A.units + 1 < cLine) (hx : PE X x (SemN X.K ca H0 W f)) (ha : PE X u (SemN X.K ca H0 W g)) (hb : PE X v (SemN X.K ca H0 W h)) (hs : noSup x = true) (hst : [u, v].all noStar = true) (hline : (ap.endLine == pos.line) = true) :
    PE X (.Call (.Attribute x "get" ap) [u, v] [] pos) (SemN X.K ca H0 W fun ρ c => bnd (fstM (f ρ c)) fun x c => if isDct (derS ρ c x) then bnd (fstM (g ρ c)) fun q c => bnd (bnd (fstM (h ρ c)) fun z c => bnd (some (.ok [], c)) fun ds c => some (.ok (z :: ds), c)) fun ds c => dgetA ρ c x (q :: ds) else none) := by
  have h1 := hst
  rw [List.all_cons, Bool.and_eq_true, List.all_cons, Bool.and_eq_true] at h1
  have qa : PA X [u, v] (SemB X.K ca H0 W fun ρ c => bnd (fstM (g ρ c)) fun q c => bnd (bnd (fstM (h ρ c)) fun z c => bnd (some (.ok [], c)) fun ds c => some (.ok (z :: ds), c)) fun ds c => some (.ok (q :: ds), c)) :=
    sa_cons ha (sa_cons hb sa_nil (star_cons h1.2.1)) (star_cons h1.1)
  refine peM (pe_bm (T := "dict") PySem.F.plainAttrs_dict PySem.F.slot_dict_get PySem.F.type_dict_get (mt_dget2 hu) (semE_of hx) qa (base_of hs _ _) (few_of _ _ hst (show 2 < 29 by decide)) hline (star_cons h1.1) (star_any _ _ (by rw [List.all_cons, h1.2.1]; rfl))) fun σ H Q ⟨w, ρ, c, rel, rho, run⟩ => ⟨w, ρ, c, rel, rho, run.bnd.mono fun x w1 c1 H1 rel1 ext1 k1 v1 ev => ?_⟩
  have k1 := k1 ext1
  by_cases hd : isDct (derS ρ c1 x) = true
  · rw [if_pos hd] at k1
    refine ⟨?_, w1, ρ, c1, rel1, rho.ext ext1, ?_⟩
    · cases e1 : derS ρ c1 x with
      | none => rw [e1] at hd; cases hd
      | some d =>
        rw [e1] at hd
        have av := ev_at rel1 (rho.ext ext1) ev e1
        cases d with
        | dK ks ds => obtain ⟨l, kvs, rfl, ha, _⟩ := av; exact .inr (.inr (.inl ⟨rfl, .inl ⟨_, ha⟩⟩))
        | dT ks ds => obtain ⟨l, kvs, rfl, ha, _⟩ := av; exact .inr (.inr (.inl ⟨rfl, .inr ⟨_, ha⟩⟩))
        | _ => cases hd
    · have e : ∀ (m : Ans D) (k2 : D → Cells → Ans (List D)) (k3 : List D → Cells → Ans (D × Bool)), (bnd m fun q c => bnd (k2 q c) fun ds c => k3 (q :: ds) c) = bnd (bnd m fun q c => bnd (k2 q c) fun ds c => some (.ok (q :: ds), c)) k3 := fun m k2 k3 => by
        rcases m with _ | ⟨⟨q⟩ | ⟨y⟩, c⟩
        · rfl
        · show bnd (k2 q c) _ = bnd (bnd (k2 q c) _) k3
          rcases k2 q c with _ | ⟨⟨ds⟩ | ⟨y⟩, c'⟩ <;> rfl
        · rfl
      rw [e (fstM (g ρ c1)) (fun q c => bnd (fstM (h ρ c)) fun z c => bnd (some (.ok [], c)) fun ds c => some (.ok (z :: ds), c)) (fun ds c => dgetA ρ c x ds)] at k1
      refine (Run.bnd k1).mono fun ds w2 c2 H2 rel2 ext2 k2 us eus => ?_
      replace k2 := k2 ext2
      unfold dgetA at k2
      split at k2
      · rename_i q z
        split at k2
        · rename_i hz
          split at k2
          · rename_i d q' e1 e2
            cases e3 : dgetF d q' z with
            | none => rw [e3] at k2; exact (RunT.nope k2).elim
            | some r =>
              rw [e3] at k2
              obtain ⟨v2, v3, rfl, ev2, ev3⟩ := EVL.of2 eus
              have rho2 := (rho.ext ext1).ext ext2
              obtain ⟨l, o, rfl, dg, rr⟩ := dget_of (ev_at rel2 rho2 (ev.ext ext2) e1) (ev_at rel2 rho2 ev2 e2) (ev3.rp hz) e3
              exact ⟨l, v2, v3, o, rfl, rfl, dg, RunT.now k2 rel2 (fun _ z => z) ext2 (ext1.tr ext2) _ rr.ev⟩
          · exact (RunT.nope k2).elim
        · exact (RunT.nope k2).elim
      · exact (RunT.nope k2).elim
  · rw [if_neg hd] at k1; exact (RunT.nope k1).elim
end
end Eng

/-! Eng12: targets, what is walked, comprehensions -/
namespace Eng
open PySem PySem.Spec PyProof.Rows L2

/-! ### targets -/
/-- (a, b, ..) = a tuple, a list of that length -/
def gTL (K : PySem.W.Frag) (n : Nat) (t : L2.TGs) : L2.TG := fun v σ H Q => gTup K n t v σ H Q ∨ gUnl K n t v σ H Q
theorem pg_tl {X : Cx} {pos : Pos} {es : List Expr} {k : Nat} {t : L2.TGs} {n : Nat} (hc : X.calm = true) (h : PGs X es t) (hn : (assignEach es X.env).length = n) (hst : (assignEach es X.env).findIdx? (·.1) = none) : PG X (.Tuple es k pos) (gTL X.K n t) :=
  ⟨fun pins s σ H v u Q I r hw => hw.elim ((pg_tup hc h hn hst).run pins s σ H v u Q I r) ((pg_unl hc h hn hst).run pins s σ H v u Q I r)⟩
mutual
def gT (K : PySem.W.Frag) : TG → L2.TG
  | .nm i => gName i
  | .tp ts => gTL K (numT ts) (gTs K ts)
def gTs (K : PySem.W.Frag) : TGs → L2.TGs
  | .nil => gNil
  | .cons t r => gCons (gT K t) (gTs K r)
def numT : TGs → Nat
  | .nil => 0
  | .cons _ r => numT r + 1
end
theorem isTs_num {sc : Scope} {N : List Str} : ∀ {ts : TGs} {es : List Expr}, isTs sc N ts es = true → es.length = numT ts ∧ es.all noStar = true
  | .nil, [], _ => ⟨rfl, rfl⟩
  | .nil, e :: es, h => by cases h
  | .cons t r, [], h => by cases h
  | .cons t r, e :: es, h => by
    have h : (isT sc N t e && isTs sc N r es) = true := h
    rw [Bool.and_eq_true] at h
    obtain ⟨h1, h2⟩ := isTs_num h.2
    refine ⟨by show es.length + 1 = _; rw [h1]; rfl, ?_⟩
    rw [List.all_cons, h2, Bool.and_true]
    cases e <;> first | rfl | (cases t <;> cases h.1)
theorem asg_len (env : PySem.Env) : ∀ es : List Expr, (assignEach es env).length = es.length
  | [] => rfl
  | e :: es => by
    have := asg_len env es
    cases e <;> (show (assignEach es env).length + 1 = _; rw [this]; rfl)
theorem asg_cons {e : Expr} {es : List Expr} {env : PySem.Env} (h : noStar e = true) : assignEach (e :: es) env = (false, assign e env) :: assignEach es env := by
  cases e <;> first | rfl | cases h
theorem asg_star (env : PySem.Env) : ∀ {es : List Expr}, es.all noStar = true → (assignEach es env).findIdx? (·.1) = none
  | [], _ => rfl
  | e :: es, h => by
    rw [List.all_cons, Bool.and_eq_true] at h
    rw [asg_cons h.1, List.findIdx?_cons]
    simp [asg_star env h.2]
section
variable {X : Cx} {N : List Str} {sc : Scope}
mutual
theorem pgT (hN : X.N = N) (nd : X.N.Nodup) (hc : X.calm = true) (hf : ∀ x, locS sc x = true → Loc X.env.scope x ∧ (X.fn x = true ∨ X.env.scope.names.lookup x = some .local)) : ∀ (t : TG) (e : Expr), isT sc N t e = true → PG X e (gT X.K t)
  | .nm i, e, h => by
    cases e with
    | Name x pos =>
      have h : (decide (N[i]? = some x) && locS sc x) = true := h
      rw [Bool.and_eq_true, decide_eq_true_eq] at h
      obtain ⟨h1, h2⟩ := hf x h.2
      exact pg_name nd (by rw [hN]; exact h.1) h1 h2
    | _ => cases h
  | .tp ts, e, h => by
    cases e with
    | Tuple es k pos =>
      have h : isTs sc N ts es = true := h
      obtain ⟨h1, h2⟩ := isTs_num h
      exact pg_tl hc (pgTs hN nd hc hf ts es h) (by rw [asg_len, h1]) (asg_star _ h2)
    | _ => cases h
theorem pgTs (hN : X.N = N) (nd : X.N.Nodup) (hc : X.calm = true) (hf : ∀ x, locS sc x = true → Loc X.env.scope x ∧ (X.fn x = true ∨ X.env.scope.names.lookup x = some .local)) : ∀ (ts : TGs) (es : List Expr), isTs sc N ts es = true → PGs X es (gTs X.K ts)
  | .nil, [], _ => pgs_nil
  | .nil, e :: es, h => by cases h
  | .cons t r, [], h => by cases h
  | .cons t r, e :: es, h => by
    have h0 := h
    have h : (isT sc N t e && isTs sc N r es) = true := h
    rw [Bool.and_eq_true] at h
    have hs := (isTs_num h0).2
    rw [List.all_cons, Bool.and_eq_true] at hs
    exact pgs_cons (pgT hN nd hc hf t e h.1) (pgTs hN nd hc hf r es h.2) (by rw [asg_cons hs.1]; rfl)
end
end
section
variable {K : PySem.W.Frag} {ca : CA} {w : Wd} {c : Cells} {H0 H : Hp} {ρ : Rho} {σ : L2.St}
theorem RhoR.set (h : RhoR K ca w c H0 H ρ σ) {i : Nat} {d : D} {v : V} (r : Rp K ca w d v) : RhoR K ca w c H0 H (ρ.set i (.val d)) (σ.set i (some v)) where
  len := by rw [List.length_set, List.length_set]; exact h.len
  val := fun j e hj => by
    by_cases hij : i = j
    · subst hij
      by_cases hi : i < ρ.length
      · rw [List.getElem?_set_self hi] at hj
        have : d = e := by simpa using hj
        subst this
        exact ⟨v, List.getElem?_set_self (by rw [← h.len]; exact hi), r⟩
      · rw [List.getElem?_eq_none (by simpa using hi)] at hj; cases hj
    · rw [List.getElem?_set_ne hij] at hj ⊢
      exact h.val j e hj
  own := fun j e hj => by
    by_cases hij : i = j
    · subst hij
      by_cases hi : i < ρ.length
      · rw [List.getElem?_set_self hi] at hj
        cases hj
      · rw [List.getElem?_eq_none (by simpa using hi)] at hj; cases hj
    · rw [List.getElem?_set_ne hij] at hj ⊢
      exact h.own j e hj
  dis := fun j k e f a hj hk sj sk => by
    by_cases hij : i = j
    · subst hij
      by_cases hi : i < ρ.length
      · rw [List.getElem?_set_self hi] at hj; cases hj
      · rw [List.getElem?_eq_none (by simpa using hi)] at hj; cases hj
    · by_cases hik : i = k
      · subst hik
        by_cases hi : i < ρ.length
        · rw [List.getElem?_set_self hi] at hk; cases hk
        · rw [List.getElem?_eq_none (by simpa using hi)] at hk; cases hk
      · rw [List.getElem?_set_ne hij] at hj sj
        rw [List.getElem?_set_ne hik] at hk sk
        exact h.dis j k e f a hj hk sj sk
  trk := h.trk
  exc := fun j e hj => by
    by_cases hij : i = j
    · subst hij
      by_cases hi : i < ρ.length
      · rw [List.getElem?_set_self hi] at hj; cases hj
      · rw [List.getElem?_eq_none (by simpa using hi)] at hj; cases hj
    · rw [List.getElem?_set_ne hij] at hj ⊢
      exact h.exc j e hj
theorem wipe_set (i : Nat) (x : Option V) : ∀ (vs : List Nat) (σ : L2.St), i ∈ vs → wipe (σ.set i x) vs = wipe σ vs := by
  have com : ∀ (vs : List Nat) (σ : L2.St), i ∉ vs → wipe (σ.set i x) vs = (wipe σ vs).set i x := fun vs => by
    induction vs with
    | nil => intro σ _; rfl
    | cons v vs ih =>
      intro σ h
      rw [List.mem_cons, not_or] at h
      show (wipe (σ.set i x) vs).set v none = ((wipe σ vs).set v none).set i x
      rw [ih σ h.2, List.set_comm _ _ h.1]
  intro vs
  induction vs with
  | nil => intro σ h; cases h
  | cons v vs ih =>
    intro σ h
    show (wipe (σ.set i x) vs).set v none = (wipe σ vs).set v none
    by_cases hv : i ∈ vs
    · rw [ih σ hv]
    · have : i = v := by
        rcases List.mem_cons.mp h with z | z
        · exact z
        · exact absurd z hv
      subst this
      rw [com vs σ hv, List.set_set]
mutual
theorem bindT_ok (rel : Rel K ca w c H) {Q : L2.St → Hp → Prop} : ∀ (t : TG) (d : D) (v : V) (ρ ρ' : Rho) (σ : L2.St), bindT t d ρ = some ρ' → Rp K ca w d v → RhoR K ca w c H0 H ρ σ →
    (∀ σ', RhoR K ca w c H0 H ρ' σ' → (∀ vs, (∀ i ∈ slotsT t, i ∈ vs) → wipe σ' vs = wipe σ vs) → Q σ' H) → gT K t v σ H Q
  | .nm i, d, v, ρ, ρ', σ, h, r, rho, q => by
    have h : (if (sol d && decide (i < ρ.length)) = true then some (ρ.set i (.val d)) else none) = some ρ' := h
    split at h
    · cases h
      exact q _ (rho.set r) fun vs hv => wipe_set i _ vs σ (hv i (List.mem_singleton.mpr rfl))
    · cases h
  | .tp ts, d, v, ρ, ρ', σ, h, r, rho, q => by
    cases d with
    | tup ds =>
      have h : bindTs ts ds ρ = some ρ' := h
      obtain ⟨a, vs, rfl, hs, rp⟩ := r
      have hl := bindTs_num ts ds ρ ρ' h
      exact .inl ⟨a, vs, rfl, SqT.of (rel.same _ _ hs), by rw [← rp.length]; exact hl, bindTs_ok rel ts ds vs ρ ρ' σ h rp rho q⟩
    | gt ds =>
      have h : bindTs ts ds ρ = some ρ' := h
      obtain ⟨a, vs, rfl, hs, rp⟩ := r
      have hl := bindTs_num ts ds ρ ρ' h
      exact .inl ⟨a, vs, rfl, sqt_mono rel.same hs, by rw [← rp.length]; exact hl, bindTs_ok rel ts ds vs ρ ρ' σ h rp rho q⟩
    | lst ds =>
      have h : bindTs ts ds ρ = some ρ' := h
      obtain ⟨a, vs, rfl, hs, rp⟩ := r
      have hl := bindTs_num ts ds ρ ρ' h
      exact .inr ⟨a, vs, rfl, SqL.of (rel.same _ _ hs), by rw [← rp.length]; exact hl, bindTs_ok rel ts ds vs ρ ρ' σ h rp rho q⟩
    | _ => cases h
theorem bindTs_ok (rel : Rel K ca w c H) {Q : L2.St → Hp → Prop} : ∀ (ts : TGs) (ds : List D) (vs : List V) (ρ ρ' : Rho) (σ : L2.St), bindTs ts ds ρ = some ρ' → RpL K ca w ds vs → RhoR K ca w c H0 H ρ σ →
    (∀ σ', RhoR K ca w c H0 H ρ' σ' → (∀ vs, (∀ i ∈ slotsTs ts, i ∈ vs) → wipe σ' vs = wipe σ vs) → Q σ' H) → gTs K ts vs σ H Q
  | .nil, [], vs, ρ, ρ', σ, h, r, rho, q => by
    cases h
    exact ⟨r, q σ rho fun _ _ => rfl⟩
  | .nil, d :: ds, vs, ρ, ρ', σ, h, r, rho, q => by cases h
  | .cons t ts, [], vs, ρ, ρ', σ, h, r, rho, q => by cases h
  | .cons t ts, d :: ds, vs, ρ, ρ', σ, h, r, rho, q => by
    obtain ⟨v, rs, rfl, r1, r2⟩ := r
    have h : (match bindT t d ρ with | some ρ' => bindTs ts ds ρ' | none => none) = some ρ' := h
    cases e : bindT t d ρ with
    | none => rw [e] at h; cases h
    | some ρ1 =>
      rw [e] at h
      refine ⟨v, rs, rfl, bindT_ok rel t d v ρ ρ1 σ e r1 rho fun σ1 rho1 w1 => bindTs_ok rel ts ds rs ρ1 ρ' σ1 h r2 rho1 fun σ2 rho2 w2 => q σ2 rho2 fun us hu => ?_⟩
      rw [w2 us fun i hi => hu i (List.mem_append_right _ hi), w1 us fun i hi => hu i (List.mem_append_left _ hi)]
theorem bindTs_num : ∀ (ts : TGs) (ds : List D) (ρ ρ' : Rho), bindTs ts ds ρ = some ρ' → ds.length = numT ts
  | .nil, [], _, _, _ => rfl
  | .nil, d :: ds, _, _, h => by cases h
  | .cons t ts, [], _, _, h => by cases h
  | .cons t ts, d :: ds, ρ, ρ', h => by
    have h : (match bindT t d ρ with | some ρ' => bindTs ts ds ρ' | none => none) = some ρ' := h
    cases e : bindT t d ρ with
    | none => rw [e] at h; cases h
    | some ρ1 =>
      rw [e] at h
      show ds.length + 1 = numT ts + 1
      rw [bindTs_num ts ds ρ1 ρ' h]
end
/-- a slot's value goes -/
theorem RhoR.unset (h : RhoR K ca w c H0 H ρ σ) (v : Nat) : RhoR K ca w c H0 H (ρ.set v .non) (σ.set v none) := by
  have ne : ∀ {j : Nat} {s : Sl}, (ρ.set v .non)[j]? = some s → s ≠ .non → v ≠ j := fun {j s} hj hs z => by
    subst z
    by_cases hi : v < ρ.length
    · rw [List.getElem?_set_self hi] at hj; cases hj; exact hs rfl
    · rw [List.getElem?_eq_none (by simpa using hi)] at hj; cases hj
  refine ⟨by rw [List.length_set, List.length_set]; exact h.len, fun j e hj => ?_, fun j e hj => ?_, fun j k e f a hj hk sj sk => ?_, h.trk, fun j e hj => ?_⟩
  · have nj := ne hj (by simp)
    rw [List.getElem?_set_ne nj] at hj ⊢
    exact h.val j e hj
  · have nj := ne hj (by simp)
    rw [List.getElem?_set_ne nj] at hj ⊢
    exact h.own j e hj
  · have nj := ne hj (by simp)
    have nk := ne hk (by simp)
    rw [List.getElem?_set_ne nj] at hj sj
    rw [List.getElem?_set_ne nk] at hk sk
    exact h.dis j k e f a hj hk sj sk
  · have nj := ne hj (by simp)
    rw [List.getElem?_set_ne nj] at hj ⊢
    exact h.exc j e hj
theorem RhoR.wipe (h : RhoR K ca w c H0 H ρ σ) : ∀ vs : List Nat, RhoR K ca w c H0 H (wipeR ρ vs) (L2.wipe σ vs)
  | [] => h
  | v :: vs => (RhoR.wipe h vs).unset v
end

/-! ### what is walked -/
structure Le (w w' : Wd) : Prop where
  S : Same w.S w'.S
  al : ∀ n, n < w.n → w'.al n = w.al n
  num : w.n ≤ w'.n
section
variable {K : PySem.W.Frag} {ca : CA} {w w1 w2 w' : Wd} {c c1 c2 c' : Cells} {T H0 H H1 H2 H' : Hp} {ρ : Rho} {σ : L2.St}
theorem Ext.le (x : Ext T w c H w' c' H') : Le w w' := ⟨x.S, x.al, x.num⟩
theorem Le.refl : Le w w := ⟨Same.refl _, fun _ _ => rfl, Nat.le_refl _⟩
theorem Le.trans (a : Le w w1) (b : Le w1 w2) : Le w w2 := ⟨a.S.trans b.S, fun n h => (b.al n (Nat.lt_of_lt_of_le h a.num)).trans (a.al n h), Nat.le_trans a.num b.num⟩
theorem Le.rp (x : Le w w') {d : D} {v : V} (h : Rp K ca w d v) : Rp K ca w' d v := h.mono x.S x.al x.num
theorem Le.rpl (x : Le w w') {d : List D} {v : List V} (h : RpL K ca w d v) : RpL K ca w' d v := h.mono x.S x.al x.num
variable (K ca) in
/-- J yields the items its, whatever may come to be -/
def ItR (w0 : Wd) (its : List D) (J : It) : Prop := ∀ w1 c1 H1, Rel K ca w1 c1 H1 → Le w0 w1 → ∀ i, (∀ d, its[i]? = some d → J.go i H1 ∧ ∀ x H2, J.yld i H1 x H2 → ∃ w2, Rel K ca w2 c1 H2 ∧ Ext H1 w1 c1 H1 w2 c1 H2 ∧ Rp K ca w2 d x) ∧ (its.length ≤ i → J.stop i H1)
variable (K ca) in
def SemI (H0 : Hp) (W : WQ) (f : Rho → Cells → Ans (List D)) : TI := fun σ H R =>
  ∃ w ρ c, Rel K ca w c H ∧ RhoR K ca w c H0 H ρ σ ∧ Run K ca (fun cls dx H' => W cls dx σ H') w c H (f ρ c) fun its w' c' H' => ∀ J, ItR K ca w' its J → R J H'
theorem it_list {a : Addr} {vs : List V} {ds : List D} (hs : ∀ w1 c1 H1, Rel K ca w1 c1 H1 → Le w w1 → SqL K H1 a vs) (r : RpL K ca w ds vs) : ItR K ca w ds (Itl K a) := fun w1 c1 H1 rel le i => by
  have hq := hs w1 c1 H1 rel le
  refine ⟨fun d hd => ?_, fun hl => ⟨vs, hq, by rw [← r.length]; exact hl⟩⟩
  obtain ⟨v, ev, rv⟩ := r.get hd
  exact ⟨⟨vs, v, hq, ev⟩, fun x H2 ⟨e, hx⟩ => by
    have hx := hx vs hq
    rw [ev] at hx; cases hx
    subst e
    exact ⟨w1, rel, Ext.self rel, le.rp rv⟩⟩
theorem it_tup {a : Addr} {vs : List V} {ds : List D} (hs : ∀ w1 c1 H1, Rel K ca w1 c1 H1 → Le w w1 → SqT K H1 a vs) (r : RpL K ca w ds vs) : ItR K ca w ds (Itt K a) := fun w1 c1 H1 rel le i => by
  have hq := hs w1 c1 H1 rel le
  refine ⟨fun d hd => ?_, fun hl => ⟨vs, hq, by rw [← r.length]; exact hl⟩⟩
  obtain ⟨v, ev, rv⟩ := r.get hd
  exact ⟨⟨vs, v, hq, ev⟩, fun x H2 ⟨e, hx⟩ => by
    have hx := hx vs hq
    rw [ev] at hx; cases hx
    subst e
    exact ⟨w1, rel, Ext.self rel, le.rp rv⟩⟩
theorem it_str {x : Str} : ItR K ca w (signsD x) (Its x) := fun w1 c1 H1 rel le i => by
  refine ⟨fun d hd => ?_, fun hl => (show x.cps.size ≤ i by rw [← Array.length_toList]; simpa [signsD] using hl)⟩
  unfold signsD at hd
  rw [List.getElem?_map] at hd
  obtain ⟨c, hc, rfl⟩ := Option.map_eq_some_iff.mp hd
  rw [Array.getElem?_toList] at hc
  refine ⟨(Array.getElem?_eq_some_iff.mp hc).1, fun v H2 ⟨e, c', h1, h2⟩ => ?_⟩
  rw [hc] at h1
  obtain rfl := Option.some.inj h1
  subst e
  exact ⟨w1, rel, Ext.self rel, h2⟩
theorem it_rev {a : Addr} {vs : List V} {ds : List D} (hs : ∀ w1 c1 H1, Rel K ca w1 c1 H1 → Le w w1 → SqL K H1 a vs) (r : RpL K ca w ds vs) : ItR K ca w ds.reverse (Itv K a vs.length) := fun w1 c1 H1 rel le i => by
  have hq := hs w1 c1 H1 rel le
  refine ⟨fun d hd => ?_, fun hl => (show vs.length ≤ i by rw [← r.length, ← List.length_reverse]; exact hl)⟩
  have hi : i < ds.length := by
    have := (List.getElem?_eq_some_iff.mp hd).1
    rwa [List.length_reverse] at this
  rw [List.getElem?_reverse hi, r.length] at hd
  obtain ⟨v, ev, rv⟩ := r.get hd
  exact ⟨⟨by rw [← r.length]; exact hi, vs, v, hq, ev⟩, fun x H2 ⟨e, hx⟩ => by
    have hx := hx vs hq
    rw [ev] at hx; cases hx
    subst e
    exact ⟨w1, rel, Ext.self rel, le.rp rv⟩⟩
theorem it_rng {lo : Int} {n : Nat} : ItR K ca w ((List.range n).map fun (i : Nat) => .int (lo + (i : Int))) (Itr lo n) := fun w1 c1 H1 rel le i => by
  refine ⟨fun d hd => ?_, fun hl => (show n ≤ i by simpa using hl)⟩
  rw [List.getElem?_map] at hd
  obtain ⟨j, hj, rfl⟩ := Option.map_eq_some_iff.mp hd
  have hi : i < n := by
    have := (List.getElem?_eq_some_iff.mp hj).1
    simpa using this
  have : j = i := by
    rw [List.getElem?_range hi] at hj
    exact (Option.some.inj hj).symm
  subst this
  exact ⟨hi, fun x H2 ⟨e1, e2⟩ => by subst e1 e2; exact ⟨w1, rel, Ext.self rel, rfl⟩⟩
theorem it_rngC {lo k : Int} {n : Nat} : ItR K ca w ((List.range n).map fun (i : Nat) => .int (lo + (i : Int) * k)) (Itc lo k n) := fun w1 c1 H1 rel le i => by
  refine ⟨fun d hd => ?_, fun hl => (show n ≤ i by simpa using hl)⟩
  rw [List.getElem?_map] at hd
  obtain ⟨j, hj, rfl⟩ := Option.map_eq_some_iff.mp hd
  have hi : i < n := by
    have := (List.getElem?_eq_some_iff.mp hj).1
    simpa using this
  have : j = i := by
    rw [List.getElem?_range hi] at hj
    exact (Option.some.inj hj).symm
  subst this
  exact ⟨hi, fun x H2 ⟨e1, e2⟩ => by subst e1 e2; exact ⟨w1, rel, Ext.self rel, rfl⟩⟩
theorem enumL_get : ∀ {ds : List D} {k i : Nat} {d : D}, (enumL k ds)[i]? = some d → ∃ e, ds[i]? = some e ∧ d = .tup [.int ((k + i : Nat) : Int), e]
  | [], k, i, d, h => by simp [enumL] at h
  | x :: ds, k, 0, d, h => by
    have : D.tup [.int (k : Nat), x] = d := by simpa [enumL] using h
    exact ⟨x, rfl, this.symm⟩
  | x :: ds, k, i + 1, d, h => by
    obtain ⟨e, h1, h2⟩ := enumL_get (ds := ds) (k := k + 1) (i := i) (d := d) (by simpa [enumL] using h)
    refine ⟨e, by simpa using h1, ?_⟩
    rw [h2]
    have : k + 1 + i = k + (i + 1) := by omega
    rw [this]
theorem enumL_len : ∀ (ds : List D) (k : Nat), (enumL k ds).length = ds.length
  | [], _ => rfl
  | x :: ds, k => by show (enumL (k + 1) ds).length + 1 = _; rw [enumL_len ds]; rfl
theorem it_enum {a : Addr} {vs : List V} {ds : List D} (hs : ∀ w1 c1 H1, Rel K ca w1 c1 H1 → Le w w1 → SqL K H1 a vs) (r : RpL K ca w ds vs) : ItR K ca w (enumL 0 ds) (Ite K a) := fun w1 c1 H1 rel le i => by
  have hq := hs w1 c1 H1 rel le
  refine ⟨fun d hd => ?_, fun hl => ⟨vs, hq, by rw [enumL_len] at hl; rw [← r.length]; exact hl⟩⟩
  obtain ⟨e, he, rfl⟩ := enumL_get hd
  obtain ⟨v, ev, rv⟩ := r.get he
  refine ⟨⟨vs, v, hq, ev⟩, fun x H2 ⟨t, y, ex, ht, eH, hy⟩ => ?_⟩
  have hy := hy vs hq
  rw [ev] at hy; cases hy
  subst ex eH
  obtain ⟨rel2, ext2⟩ := rel.lay (o := .tup [.int (i : Nat), v]) ht (T := H1) fun _ z => z
  refine ⟨_, rel2, ext2, t, _, rfl, (by show upd w1.S t _ t = _; exact upd_same), .int (i : Nat), [v], rfl, by rw [Nat.zero_add]; rfl, v, [], rfl, ext2.rp (le.rp rv), rfl⟩
theorem zipL_get : ∀ {xs ys : List D} {i : Nat} {d : D}, (zipL xs ys)[i]? = some d → ∃ e f, xs[i]? = some e ∧ ys[i]? = some f ∧ d = .tup [e, f]
  | [], ys, i, d, h => by simp [zipL] at h
  | x :: xs, [], i, d, h => by simp [zipL] at h
  | x :: xs, y :: ys, 0, d, h => by
    have : D.tup [x, y] = d := by simpa [zipL] using h
    exact ⟨x, y, rfl, rfl, this.symm⟩
  | x :: xs, y :: ys, i + 1, d, h => by
    obtain ⟨e, f, h1, h2, h3⟩ := zipL_get (xs := xs) (ys := ys) (i := i) (d := d) (by simpa [zipL] using h)
    exact ⟨e, f, by simpa using h1, by simpa using h2, h3⟩
theorem zipL_len : ∀ (xs ys : List D), (zipL xs ys).length = min xs.length ys.length
  | [], ys => by simp [zipL]
  | x :: xs, [] => by simp [zipL]
  | x :: xs, y :: ys => by show (zipL xs ys).length + 1 = _; rw [zipL_len xs ys, List.length_cons, List.length_cons]; omega
theorem it_zip {a b : Addr} {vs us : List V} {ds es : List D} (hs : ∀ w1 c1 H1, Rel K ca w1 c1 H1 → Le w w1 → SqL K H1 a vs) (r : RpL K ca w ds vs) (hs' : ∀ w1 c1 H1, Rel K ca w1 c1 H1 → Le w w1 → SqL K H1 b us) (r' : RpL K ca w es us) : ItR K ca w (zipL ds es) (Itz K a b) := fun w1 c1 H1 rel le i => by
  have hq := hs w1 c1 H1 rel le
  have hq' := hs' w1 c1 H1 rel le
  refine ⟨fun d hd => ?_, fun hl => ⟨vs, us, hq, hq', by rw [zipL_len] at hl; rw [← r.length, ← r'.length]; omega⟩⟩
  obtain ⟨e, f, he, hf, rfl⟩ := zipL_get hd
  obtain ⟨v, ev, rv⟩ := r.get he
  obtain ⟨u, eu, ru⟩ := r'.get hf
  refine ⟨⟨vs, us, v, u, hq, hq', ev, eu⟩, fun x H2 ⟨t, y, z, ex, ht, eH, hy, hz⟩ => ?_⟩
  have hy := hy vs hq
  rw [ev] at hy; cases hy
  have hz := hz us hq'
  rw [eu] at hz; cases hz
  subst ex eH
  obtain ⟨rel2, ext2⟩ := rel.lay (o := .tup [v, u]) ht (T := H1) fun _ z => z
  exact ⟨_, rel2, ext2, t, _, rfl, (by show upd w1.S t _ t = _; exact upd_same), v, [u], rfl, ext2.rp (le.rp rv), u, [], rfl, ext2.rp (le.rp ru), rfl⟩
end
/-! ### a, b, *rest = a tuple -/
section
variable {prog : Program} {w : World} {A : Around} {E : Value → Shared → Prop} {s : Shared}
theorem un_star {l : Addr} {items : Array Value} {n : Nat} {Q : List Value → Shared → Prop} (hl : IsTup s.heap l items) (hh : A.handled = none) (hn : n ≤ items.size) (hz : items.size ≤ 16384)
    (h : ∀ (h' : Heap) tk, (∀ b o, s.heap.get? b = some o → h'.get? b = some o) → Q (items.toList.take n ++ [.ref h'.objs.size]) { s with heap := h'.push { cls := .type "list", data := .seq (items.toList.drop n).toArray }, toks := tk }) :
    wpAny (model prog w) A (unpackItems (.ref l) (n + 1) (some n)) Q E s := by
  have hlt : l ≠ s.heap.objs.size := by obtain ⟨o, ho, _⟩ := hl; exact Nat.ne_of_lt (Heap.lt_size ho)
  have hll : l < s.heap.objs.size := by obtain ⟨o, ho, _⟩ := hl; exact Heap.lt_size ho
  unfold unpackItems
  refine wpAny_bind ?_
  unfold notIterableAtAll
  refine wpAny_bind (wpAny_specialOf hl.typeIs slot_tuple_iter.lookup ?_)
  refine wpAny_pure ?_
  simp only [Bool.false_eq_true, if_false]
  refine wpAny_bind (wpAny_holding (iter_tuple hl ?_))
  refine wpAny_bind (wpAny_holding (draw_tuple hlt n 0 _ _ ⟨_, Heap.get?_push_size _ rfl, rfl, rfl⟩ (hl.push _) (by omega) fun h₁ hit₁ hs₁ => ?_))
  have hl₁ : IsTup h₁ l items := (hl.push _).extBut hs₁.extBut hlt
  rw [Nat.zero_add] at hit₁
  have hit₁' := hit₁
  obtain ⟨oi, hoi, _⟩ := hit₁'
  have hl₁' := hl₁
  obtain ⟨ol, hol, _⟩ := hl₁'
  rw [List.drop_zero]
  have hfl : (items.toList.take n).length = n := by rw [List.length_take, Array.length_toList]; omega
  rw [if_neg (show ¬ ((items.toList.take n).length < n) by rw [hfl]; omega)]
  refine wpAny_bind (wpAny_holding (PySem.W.kun_collect (s := { s with heap := h₁ }) (T := "tuple_iterator") (.inr (.inr (.inr rfl))) (Walks.tuple (A := A.in1) hh s.heap.objs.size l hlt items) (fun j u st => st.1.typeIs) (k := n) (by omega) ⟨hit₁, hl₁⟩ (Heap.lt_size hoi) (Heap.lt_size hol) (fun h₂ tk hk => ?_) (by rw [sizeLine_eq]; omega)))
  have e0 : n + 1 - 1 - n = 0 := by omega
  rw [e0]
  show wpAny _ _ (if (items.toList.drop n).length < 0 then _ else _) _ _ _
  rw [if_neg (Nat.not_lt_zero _)]
  show wpAny _ _ (newList ((items.toList.drop n).take ((items.toList.drop n).length - 0)) >>= fun d => pure (items.toList.take n ++ [d] ++ (items.toList.drop n).drop ((items.toList.drop n).length - 0))) _ _ _
  rw [Nat.sub_zero, List.take_length, List.drop_length]
  refine wpAny_bind (wpAny_newList (wpAny_pure ?_) (by rw [List.length_drop, sizeLine_eq, Array.length_toList]; omega))
  rw [List.append_nil]
  exact h h₂ tk fun b o e => hk b o (Nat.ne_of_lt (Heap.lt_size e)) (hs₁.extBut b o (Nat.ne_of_lt (Heap.lt_size e)) (Heap.get?_push_of_some _ e))
end
/-- the targets with the star taken off the last one -/
def starX : Expr → Option Expr
  | .Starred e _ => some e
  | _ => none
def unStar : List Expr → Option (List Expr)
  | [] => none
  | e :: es => if es.isEmpty then (starX e).map fun x => [x] else if noStar e then (unStar es).map (e :: ·) else none
theorem starX_of {e x : Expr} (h : starX e = some x) : ∃ p, e = .Starred x p := by
  cases e <;> first | (cases h; done) | exact ⟨_, by cases h; rfl⟩
theorem unStar_asg {env : PySem.Env} : ∀ {es fs : List Expr}, unStar es = some fs → (∀ e ∈ fs, noStar e = true) → (assignEach es env).map (·.2) = (assignEach fs env).map (·.2) ∧ (assignEach es env).findIdx? (·.1) = some (fs.length - 1) ∧ es.length = fs.length ∧ 0 < fs.length
  | [], fs, h, _ => by cases h
  | e :: es, fs, h, hs => by
    replace h : (if es.isEmpty then (starX e).map fun x => [x] else if noStar e then (unStar es).map (e :: ·) else none) = some fs := h
    by_cases he : es.isEmpty = true
    · rw [if_pos he] at h
      cases es with
      | cons => cases he
      | nil =>
        cases hx : starX e with
        | none => rw [hx] at h; cases h
        | some x =>
          rw [hx] at h
          cases h
          obtain ⟨p, rfl⟩ := starX_of hx
          have := asg_cons (es := []) (env := env) (hs x List.mem_cons_self)
          refine ⟨?_, rfl, rfl, Nat.succ_pos _⟩
          rw [this]
          rfl
    · rw [if_neg he] at h
      by_cases hn : noStar e = true
      · rw [if_pos hn] at h
        cases hu : unStar es with
        | none => rw [hu] at h; cases h
        | some gs =>
          rw [hu] at h
          cases h
          obtain ⟨i1, i2, i3, i4⟩ := unStar_asg (env := env) hu fun x hx => hs x (List.mem_cons_of_mem _ hx)
          rw [asg_cons hn, asg_cons hn, List.map_cons, List.map_cons, i1, List.findIdx?_cons, i2, List.length_cons, List.length_cons, i3]
          refine ⟨rfl, ?_, rfl, Nat.succ_pos _⟩
          show some (gs.length - 1 + 1) = some (gs.length + 1 - 1)
          rw [show gs.length - 1 + 1 = gs.length + 1 - 1 by omega]
      · rw [if_neg hn] at h; cases h
/-- n names, and a list of what is left -/
def gStar (K : PySem.W.Frag) (n : Nat) (t : L2.TGs) : L2.TG := fun v σ H Q => ∃ a xs, v = .ref a ∧ SqT K H a xs ∧ n ≤ xs.length ∧ xs.length ≤ 16384 ∧ ∀ p, H p = none → t (xs.take n ++ [.ref p]) σ (upd H p (.lst (xs.drop n))) Q
theorem pg_star {X : Cx} {pos : Pos} {es fs : List Expr} {k : Nat} {t : L2.TGs} {n : Nat} (hc : X.calm = true) (h : PGs X fs t) (hu : unStar es = some fs) (hs : ∀ e ∈ fs, noStar e = true) (hn : fs.length = n + 1) : PG X (.Tuple es k pos) (gStar X.K n t) := by
  refine ⟨fun pins s σ H v u Q I r hw => ?_⟩
  obtain ⟨a, xs, e1, hq, hl, hz', hw⟩ := hw
  subst e1
  cases r
  obtain ⟨its, rv, ht, hz⟩ := I.tuple hq
  obtain ⟨u1, u2, u3, u4⟩ := unStar_asg (env := X.env) hu hs
  have hlen := rv.length
  rw [PyProof.Rows.assign_Tuple]
  refine wpAny_bind (wpAny_standAt ?_)
  unfold unpack
  rw [asg_len, u3, hn, u2, hn, u1]
  refine wpAny_bind (wpAny_holding (un_star ht (I.ok.hd hc) (by simp; omega) (by simp; omega) fun h' tk hk => ?_))
  have I1 : Inv X pins σ H { s with heap := h', toks := tk } := I.kept hk
  have rd : Vals (xs.drop n) (its.drop n) := rv.drop n
  have I2 := I1.laid (h' := h'.push { cls := .type "list", data := .seq (its.drop n).toArray }) (a := h'.objs.size) (o := .lst (xs.drop n)) (t' := tk) (fun b u e => Heap.get?_push_of_some _ e) (Nat.le_refl _)
    (show ObjOk X.prog X.w _ _ _ (.lst (xs.drop n)) from ⟨by rw [List.length_drop]; omega, its.drop n, 0, rd, Heap.get?_push_size _ rfl⟩)
  refine h.run pins _ σ (upd H h'.objs.size (.lst (xs.drop n))) (xs.take n ++ [.ref h'.objs.size]) _ Q I2 ?_ (hw _ (I1.hok.fresh (Nat.le_refl _)))
  exact (rv.take n).append (.cons rfl .nil)
end Eng

/-! Eng13: loops' iterables, comprehensions -/
namespace Eng
open PySem PySem.Spec PyProof.Rows L2
section
variable {ca : CA} {X : Cx} {H0 : Hp} {W : WX} {a b e tg : Expr} {es : List Expr} {f g : Rho → Cells → Ans (D × Bool)} {fs : Rho → Cells → Ans (List D)} {pos p tpos : Pos}
theorem pi_or {w1 w2 : TI} (h1 : PI X tg e w1) (h2 : PI X tg e w2) : PI X tg e fun σ H R => w1 σ H R ∨ w2 σ H R :=
  ⟨fun pins s σ H R I h => h.elim (h1.run pins s σ H R I) (h2.run pins s σ H R I)⟩
theorem piM {w1 w2 : TI} (h1 : PI X tg e w1) (i : ∀ σ H R, w2 σ H R → w1 σ H R) : PI X tg e w2 := ⟨fun pins s σ H R I h => h1.run pins s σ H R I (i σ H R h)⟩
def evI (k : IK) (fs : Rho → Cells → Ans (List D)) : Rho → Cells → Ans (List D) := fun ρ c => bnd (fs ρ c) fun ds c => liftO (itemsI k ds) c
theorem sqL_of {K : PySem.W.Frag} {w : Wd} {a : Addr} {vs : List V} (h : w.S a = some (.lst vs)) : ∀ w1 c1 H1, Rel K ca w1 c1 H1 → Le w w1 → SqL K H1 a vs := fun w1 c1 H1 rel le => SqL.of (rel.same _ _ (le.S _ _ h))
theorem sqT_of {K : PySem.W.Frag} {w : Wd} {a : Addr} {vs : List V} (h : SqT K w.S a vs) : ∀ w1 c1 H1, Rel K ca w1 c1 H1 → Le w w1 → SqT K H1 a vs := fun w1 c1 H1 rel le => sqt_mono rel.same (sqt_mono le.S h)
theorem sqS_of {K : PySem.W.Frag} {w : Wd} {a : Addr} {vs : List V} (h : SqL K w.S a vs) : ∀ w1 c1 H1, Rel K ca w1 c1 H1 → Le w w1 → SqL K H1 a vs := fun w1 c1 H1 rel le => sql_mono rel.same (sql_mono le.S h)
def isTupD : Ans D → Bool
  | some (.ok (.tup _), _) => true
  | some (.ok (.gt _), _) => true
  | _ => false
def isStrD : Ans D → Bool
  | some (.ok (.str _), _) => true
  | _ => false
theorem si_seq (he : PE X e (SemN X.K ca H0 W f)) : PI X tg e (SemI X.K ca H0 W (evI .seq fun ρ c => bnd (fstM (f ρ c)) fun d c => some (.ok [d], c))) := by
  refine piM (pi_or (pi_str (semE_of he)) (pi_or (pi_list (semE_of he)) (pi_tup (semE_of he)))) fun σ H R ⟨w, ρ, c, rel, rho, run⟩ => ?_
  obtain ⟨r, c1, eq, h1, h2⟩ := run.bnd.bnd
  cases hz : isStrD (fstM (f ρ c)) with
  | true =>
    refine .inl ⟨w, ρ, c, rel, rho, r, c1, eq, fun d ed w1 H1 rel1 ext1 v ev => ?_, h2⟩
    have k := RunT.now (h1 d ed w1 H1 rel1 ext1 ext1) rel1 (fun _ z => z) ext1 ext1
    rw [eq, ed] at hz
    cases d with
    | str x =>
      have q := RunT.now k rel1 (fun _ z => z) ext1
      obtain rfl := ev
      exact ⟨x, rfl, q _ it_str⟩
    | _ => cases hz
  | false =>
  refine .inr ?_
  cases ht : isTupD (fstM (f ρ c)) with
  | true =>
    refine .inr ⟨w, ρ, c, rel, rho, r, c1, eq, fun d ed w1 H1 rel1 ext1 v ev => ?_, h2⟩
    have k := RunT.now (h1 d ed w1 H1 rel1 ext1 ext1) rel1 (fun _ z => z) ext1 ext1
    rw [eq, ed] at ht
    cases d with
    | tup ds =>
      have q := RunT.now k rel1 (fun _ z => z) ext1
      obtain ⟨a, vs, rfl, hs, rp⟩ := ev
      exact ⟨a, rfl, ⟨vs, SqT.of (rel1.same _ _ hs)⟩, q _ (it_tup (sqT_of (SqT.of hs)) rp)⟩
    | gt ds =>
      have q := RunT.now k rel1 (fun _ z => z) ext1
      obtain ⟨a, vs, rfl, hs, rp⟩ := ev
      exact ⟨a, rfl, ⟨vs, sqt_mono rel1.same hs⟩, q _ (it_tup (sqT_of hs) rp)⟩
    | _ => cases ht
  | false =>
    refine .inl ⟨w, ρ, c, rel, rho, r, c1, eq, fun d ed w1 H1 rel1 ext1 v ev => ?_, h2⟩
    have k := RunT.now (h1 d ed w1 H1 rel1 ext1 ext1) rel1 (fun _ z => z) ext1 ext1
    rw [eq, ed] at ht
    cases d with
    | lst ds =>
      have q := RunT.now k rel1 (fun _ z => z) ext1
      obtain ⟨a, vs, rfl, hs, rp⟩ := ev
      exact ⟨a, rfl, ⟨vs, SqL.of (rel1.same _ _ hs)⟩, q _ (it_list (sqL_of hs) rp)⟩
    | scr ns =>
      have q := RunT.now k rel1 (fun _ z => z) ext1
      obtain ⟨a, rfl, hs⟩ := ev
      exact ⟨a, rfl, ⟨_, sql_mono rel1.same hs⟩, q _ (it_list (sqS_of hs) (RpL.ints ns))⟩
    | tup ds => cases ht
    | gt ds => cases ht
    | str x =>
      rw [eq, ed] at hz
      cases hz
    | _ => exact (RunT.nope k).elim
theorem lim_of {n : Int} (h : lim n = true) : -(2 ^ 62) ≤ n ∧ n < 2 ^ 62 := by
  unfold lim at h
  exact of_decide_eq_true h
theorem EVL.of3 {K : PySem.W.Frag} {w : Wd} {ρ : Rho} {σ : L2.St} {d e f : D} {vs : List V} (h : EVL K ca w ρ σ [d, e, f] vs) : ∃ v u t, vs = [v, u, t] ∧ EV K ca w ρ σ d v ∧ EV K ca w ρ σ e u ∧ EV K ca w ρ σ f t := by
  obtain ⟨v, r, e1, h1, h2⟩ := h
  obtain ⟨u, t, e2, h3, h4⟩ := EVL.of2 h2
  subst e2
  exact ⟨v, u, t, e1, h1, h3, h4⟩
theorem si_rng1 {x : Expr} (hg : Gl X "range") (hm : X.mg "range" = none) (ha : PA X [x] (SemB X.K ca H0 W fs)) (hs : starEach [x] X.env = [(false, eval x X.env)]) : PI X tg (.Call (.Name "range" p) [x] [] pos) (SemI X.K ca H0 W (evI .rng1 fs)) := by
  refine piM (pi_range1 hg hm ha hs) fun σ H R ⟨w, ρ, c, rel, rho, run⟩ => ⟨w, ρ, c, rel, rho, run.bnd.mono fun ds w1 c1 H1 rel1 ext1 k vs ev => ?_⟩
  replace k := k ext1
  unfold itemsI at k
  split at k <;> first | (rename_i z; cases z; done) | skip
  · rename_i n _
    by_cases hn : lim n = true
    · rw [if_pos hn] at k
      have q := RunT.now k rel1 (fun _ z => z) ext1
      obtain ⟨v, rfl, hv⟩ := EVL.of1 ev
      obtain rfl : v = .int n := hv
      have := it_rng (K := X.K) (ca := ca) (w := w1) (lo := 0) (n := n.toNat)
      simp only [Int.zero_add] at this
      exact ⟨n, rfl, (lim_of hn).1, (lim_of hn).2, q _ this⟩
    · rw [if_neg hn] at k; exact (RunT.nope k).elim
  · exact (RunT.nope k).elim
theorem si_rng2 {x y : Expr} (hg : Gl X "range") (hm : X.mg "range" = none) (ha : PA X [x, y] (SemB X.K ca H0 W fs)) (hs : starEach [x, y] X.env = [(false, eval x X.env), (false, eval y X.env)]) (hs2 : starEach [y] X.env = [(false, eval y X.env)]) :
    PI X tg (.Call (.Name "range" p) [x, y] [] pos) (SemI X.K ca H0 W (evI .rng2 fs)) := by
  refine piM (pi_range2 hg hm ha hs hs2) fun σ H R ⟨w, ρ, c, rel, rho, run⟩ => ⟨w, ρ, c, rel, rho, run.bnd.mono fun ds w1 c1 H1 rel1 ext1 k vs ev => ?_⟩
  replace k := k ext1
  unfold itemsI at k
  split at k <;> first | (rename_i z; cases z; done) | skip
  · rename_i m n _
    by_cases hn : (lim m && lim n) = true
    · rw [if_pos hn] at k
      rw [Bool.and_eq_true] at hn
      have q := RunT.now k rel1 (fun _ z => z) ext1
      obtain ⟨v, u, rfl, hv, hu⟩ := EVL.of2 ev
      obtain rfl : v = .int m := hv
      obtain rfl : u = .int n := hu
      exact ⟨m, n, rfl, ⟨(lim_of hn.1).1, (lim_of hn.1).2, (lim_of hn.2).1, (lim_of hn.2).2⟩, q _ it_rng⟩
    · rw [if_neg hn] at k; exact (RunT.nope k).elim
  · exact (RunT.nope k).elim
theorem si_rng3 {x y z : Expr} (hg : Gl X "range") (hm : X.mg "range" = none) (ha : PA X [x, y, z] (SemB X.K ca H0 W fs)) (hs : starEach [x, y, z] X.env = (false, eval x X.env) :: starEach [y, z] X.env) (hpl : (backTo pos (starEach [y, z] X.env)).any (·.1) = false) :
    PI X tg (.Call (.Name "range" p) [x, y, z] [] pos) (SemI X.K ca H0 W (evI .rng3 fs)) := by
  refine piM (pi_range3 hg hm ha hs hpl) fun σ H R ⟨w, ρ, c, rel, rho, run⟩ => ⟨w, ρ, c, rel, rho, run.bnd.mono fun ds w1 c1 H1 rel1 ext1 k vs ev => ?_⟩
  replace k := k ext1
  unfold itemsI at k
  split at k <;> first | (rename_i z; cases z; done) | skip
  · rename_i m n _
    by_cases hn : (lim m && lim n) = true
    · rw [if_pos hn] at k
      rw [Bool.and_eq_true] at hn
      have q := RunT.now k rel1 (fun _ z => z) ext1
      obtain ⟨v, u, t, rfl, hv, hu, ht⟩ := EVL.of3 ev
      obtain rfl : v = .int m := hv
      obtain rfl : u = .int n := hu
      obtain rfl : t = .int (-1) := ht
      exact ⟨m, n, -1, _, rfl, RgC.neg (lim_of hn.1).1 (lim_of hn.1).2 (lim_of hn.2).1 (lim_of hn.2).2, q _ it_rngC⟩
    · rw [if_neg hn] at k; exact (RunT.nope k).elim
  · exact (RunT.nope k).elim
theorem si_enum {x : Expr} {ts : List Expr} {kk : Nat} (hg : Gl X "enumerate") (hm : X.mg "enumerate" = none) (ha : PA X [x] (SemB X.K ca H0 W fs)) (hs : starEach [x] X.env = [(false, eval x X.env)]) :
    PI X (.Tuple ts kk tpos) (.Call (.Name "enumerate" p) [x] [] pos) (SemI X.K ca H0 W (evI .enum fs)) := by
  refine piM (pi_enum hg hm ha hs) fun σ H R ⟨w, ρ, c, rel, rho, run⟩ => ⟨w, ρ, c, rel, rho, run.bnd.mono fun ds w1 c1 H1 rel1 ext1 k vs ev => ?_⟩
  replace k := k ext1
  unfold itemsI at k
  split at k <;> first | (rename_i z; cases z; done) | skip
  · have q := RunT.now k rel1 (fun _ z => z) ext1
    obtain ⟨v, rfl, hv⟩ := EVL.of1 ev
    obtain ⟨a, us, rfl, hs, rp⟩ := hv
    exact ⟨a, us, rfl, SqL.of (rel1.same _ _ hs), q _ (it_enum (sqL_of hs) rp)⟩
  · exact (RunT.nope k).elim
theorem si_rvs {x : Expr} (hg : Gl X "reversed") (hm : X.mg "reversed" = none) (ha : PA X [x] (SemB X.K ca H0 W fs)) (hs : starEach [x] X.env = [(false, eval x X.env)]) :
    PI X tg (.Call (.Name "reversed" p) [x] [] pos) (SemI X.K ca H0 W (evI .rvs fs)) := by
  refine piM (pi_reversed hg hm ha hs) fun σ H R ⟨w, ρ, c, rel, rho, run⟩ => ⟨w, ρ, c, rel, rho, run.bnd.mono fun ds w1 c1 H1 rel1 ext1 k vs ev => ?_⟩
  replace k := k ext1
  unfold itemsI at k
  split at k <;> first | (rename_i z; cases z; done) | skip
  · have q := RunT.now k rel1 (fun _ z => z) ext1
    obtain ⟨v, rfl, hv⟩ := EVL.of1 ev
    obtain ⟨a, us, rfl, hs, rp⟩ := hv
    exact ⟨a, us, rfl, SqL.of (rel1.same _ _ hs), q _ (it_rev (sqL_of hs) rp)⟩
  · exact (RunT.nope k).elim
theorem si_zip {x y : Expr} {ts : List Expr} {kk : Nat} (hg : Gl X "zip") (hm : X.mg "zip" = none) (ha : PA X [x, y] (SemB X.K ca H0 W fs)) (hs : starEach [x, y] X.env = (false, eval x X.env) :: starEach [y] X.env) (hpl : (backTo pos (starEach [y] X.env)).any (·.1) = false) :
    PI X (.Tuple ts kk tpos) (.Call (.Name "zip" p) [x, y] [] pos) (SemI X.K ca H0 W (evI .zip fs)) := by
  refine piM (pi_zip hg hm ha hs hpl) fun σ H R ⟨w, ρ, c, rel, rho, run⟩ => ⟨w, ρ, c, rel, rho, run.bnd.mono fun ds w1 c1 H1 rel1 ext1 k vs ev => ?_⟩
  replace k := k ext1
  unfold itemsI at k
  split at k <;> first | (rename_i z; cases z; done) | skip
  · have q := RunT.now k rel1 (fun _ z => z) ext1
    obtain ⟨v, u, rfl, hv, hu⟩ := EVL.of2 ev
    obtain ⟨a, us, rfl, hs, rp⟩ := hv
    obtain ⟨b, us', rfl, hs', rp'⟩ := hu
    exact ⟨a, b, us, us', rfl, SqL.of (rel1.same _ _ hs), SqL.of (rel1.same _ _ hs'), q _ (it_zip (sqL_of hs) rp (sqL_of hs') rp')⟩
  · exact (RunT.nope k).elim
end
end Eng

/-! Eng14: comprehensions -/
namespace Eng
open PySem PySem.Spec PyProof.Rows L2
section
variable {K : PySem.W.Frag} {ca : CA} {w w0 w1 w2 : Wd} {c c0 c1 c2 : Cells} {T Hs H H1 H2 : Hp}
/-- an object that nobody speaks of is changed -/
theorem Rel.touch (r : Rel K ca w c H) {p : Addr} {o : HO} (hS : w.S p = none) (hc : ∀ n, Live c n → w.al n ≠ p) : Rel K ca w c (upd H p o) :=
  ⟨fun b u e => by rw [upd_ne (ne_of_none e hS)]; exact r.same _ _ e, r.num, fun n d e => by
    obtain ⟨⟨o', q, rp⟩, z⟩ := r.cell n d e
    exact ⟨⟨o', by rw [upd_ne (hc n ⟨d, e⟩)]; exact q, rp⟩, z⟩, r.inj⟩
theorem Ext.touch (x : Ext T w0 c0 Hs w c H) {p : Addr} {o : HO} (hp : T p = none) : Ext T w0 c0 Hs w c (upd H p o) :=
  ⟨x.S, x.al, x.num, fun a u t e hn => by
    have ne : a ≠ p := fun z => t (z ▸ hp)
    rw [upd_ne ne]; exact x.frame a u t e hn, fun a h => by
    by_cases e : a = p
    · subst e; rw [upd_same]; simp
    · rw [upd_ne e]; exact x.trk a h, x.new, x.liv, x.liv', x.tH, x.newS⟩
/-- what nobody speaks of is left as it is -/
theorem Ext.still (x : Ext H w c H w1 c1 H1) {p : Addr} {o : HO} (hp : H p = some o) (hS : w.S p = none) (hc : ∀ n, Live c n → w.al n ≠ p) : H1 p = some o ∧ w1.S p = none ∧ ∀ n, Live c1 n → w1.al n ≠ p := by
  refine ⟨x.frame p o (by rw [hp]; simp) hp hc, ?_, fun n hn z => ?_⟩
  · cases q : w1.S p with
    | none => rfl
    | some u =>
      rcases x.newS p (by rw [q]; simp) with z | z | ⟨n, z1, z2⟩
      · exact absurd hS z
      · rw [hp] at z; cases z
      · exact absurd z2 (hc n z1)
  · rcases x.new n hn with y | ⟨_, y⟩
    · exact hc n y ((x.al n (x.liv n y)).symm.trans z)
    · rw [z, hp] at y; cases y
theorem wipe_sub (vs : List Nat) : ∀ (us : List Nat) (σ : L2.St), (∀ u ∈ us, u ∈ vs) → wipe (wipe σ us) vs = wipe σ vs
  | [], _, _ => rfl
  | u :: us, σ, h => by
    show wipe ((wipe σ us).set u none) vs = _
    rw [wipe_set u none vs (wipe σ us) (h u List.mem_cons_self), wipe_sub vs us σ fun x hx => h x (List.mem_cons_of_mem _ hx)]
theorem wipe_wipe (σ : L2.St) (vs : List Nat) : wipe (wipe σ vs) vs = wipe σ vs := wipe_sub vs vs σ fun _ h => h
theorem bnd_some {α β : Type} {m : Ans α} {k : α → Cells → Ans β} {b : β} {c : Cells} (h : bnd m k = some (.ok b, c)) : ∃ a c1, m = some (.ok a, c1) ∧ k a c1 = some (.ok b, c) := by
  rcases m with _ | ⟨⟨a⟩ | ⟨x⟩, c1⟩
  · cases h
  · exact ⟨a, c1, rfl, h⟩
  · cases h
theorem noex_some {α : Type} {m : Ans α} {a : α} {c : Cells} (h : noex m = some (.ok a, c)) : m = some (.ok a, c) := by
  rcases m with _ | ⟨⟨a⟩ | ⟨x⟩, c1⟩ <;> first | exact h | cases h
theorem fstM_some {m : Ans (D × Bool)} {d : D} {c : Cells} (h : fstM m = some (.ok d, c)) : ∃ fr, m = some (.ok (d, fr), c) := by
  obtain ⟨⟨d', fr⟩, c1, h1, h2⟩ := bnd_some h
  cases h2
  exact ⟨fr, h1⟩
theorem lcGo_noex {tg : TG} {t : Rho → Cells → Ans Bool} {f : Rho → Cells → Ans (D × Bool)} {ρ : Rho} : ∀ (xs acc : List D) (c : Cells) (r : R (List D)) (c' : Cells), lcGo tg t f ρ xs acc c = some (r, c') → ∃ a, r = .ok a
  | [], acc, c, r, c', h => by cases h; exact ⟨_, rfl⟩
  | x :: xs, acc, c, r, c', h => by
    unfold lcGo at h
    cases e : bindT tg x ρ with
    | none => rw [e] at h; cases h
    | some ρ' =>
      rw [e] at h
      simp only at h
      rcases e1 : t ρ' c with _ | ⟨⟨b⟩ | ⟨z⟩, c1⟩
      · rw [e1] at h; cases h
      · rw [e1] at h
        simp only [noex_ok, bnd_ok] at h
        cases b with
        | false => exact lcGo_noex xs acc c1 r c' h
        | true =>
          simp only [if_true] at h
          rcases e2 : fstM (f ρ' c1) with _ | ⟨⟨d⟩ | ⟨z⟩, c2⟩
          · rw [e2] at h; cases h
          · rw [e2] at h
            simp only [noex_ok, bnd_ok] at h
            split at h
            · exact lcGo_noex xs _ c2 r c' h
            · cases h
          · rw [e2] at h; cases h
      · rw [e1] at h; cases h
end
section
variable {ca : CA} {X : Cx} {H0 : Hp} {W : WX} {elt tge iter : Expr} {ifs : List Expr} {fi : Rho → Cells → Ans (List D)} {pos : Pos}
theorem lc_tLc {own : List (Str × Nat)} {tg : TG} {t : Rho → Cells → Ans Bool} {f : Rho → Cells → Ans (D × Bool)} (hsl : ∀ i ∈ slotsT tg, i ∈ own.map (·.2)) :
    ∀ σ H Q, SemN X.K ca H0 W (fun ρ c => bnd (fi ρ c) fun xs c => bnd (lcGo tg t f (wipeR ρ (own.map (·.2))) xs [] c) fun acc c => some (.ok (.lst acc, true), c)) σ H Q →
      tLc (SemI X.K ca H0 W fi) (gT X.K tg) (SemT X.K ca H0 (fun _ _ _ _ => False) t) (SemE X.K ca H0 (fun _ _ _ _ => False) (fE f)) (own.map (·.2)) σ H Q := by
  refine fun σ H Q ⟨w, ρ, c, rel, rho, run⟩ => ⟨w, ρ, c, rel, rho, run.bnd.mono fun its w1 c1 H1 rel1 ext1 k J hJ L hL => ?_⟩
  have k := k ext1
  -- the loop ends with an answer
  obtain ⟨r, cF, eq, h1, h2⟩ := k
  rcases eg : lcGo tg t f (wipeR ρ (own.map (·.2))) its [] c1 with _ | ⟨r0, cg⟩
  · rw [eg] at eq; cases eq
  obtain ⟨accF, rfl⟩ := lcGo_noex _ _ _ _ _ eg
  rw [eg] at eq
  cases eq
  have hS : w1.S L = none := rel1.same.free hL
  have hcl : ∀ n, Live c1 n → w1.al n ≠ L := fun n ⟨d, e⟩ z => by
    obtain ⟨⟨o', q, _⟩, _⟩ := rel1.cell n d e
    rw [z, hL] at q; cases q
  have rho1 := rho.ext ext1
  refine ⟨fun i m Hc => m = its.length - i ∧ i ≤ its.length ∧ ∃ w2 c2 acc vs, Rel X.K ca w2 c2 Hc ∧ Ext H1 w1 c1 H1 w2 c2 Hc ∧ Hc L = some (.lst vs) ∧ RpL X.K ca w2 acc vs ∧ w2.S L = none ∧ (∀ n, Live c2 n → w2.al n ≠ L) ∧
      RhoR X.K ca w2 c2 H0 Hc ρ σ ∧ lcGo tg t f (wipeR ρ (own.map (·.2))) (its.drop i) acc c2 = some (.ok accF, cF), ⟨its.length, by simp, Nat.zero_le _, w1, c1, [], [], ?_⟩, fun i m Hc hW => ?_⟩
  · obtain ⟨rg, eg'⟩ := rel1.grow (o := .lst []) hL (T := H1) fun _ z => z
    exact ⟨rg, eg', upd_same, rfl, hS, hcl, rho1.ext eg', eg⟩
  · obtain ⟨rfl, hil, w2, c2, acc, vs, rel2, ext2, hLv, racc, hS2, hcl2, rho2, eg2⟩ := hW
    have it := hJ w2 c2 Hc rel2 ext2.le i
    by_cases hlt : i < its.length
    · refine .inr ?_
      have hd : its[i]? = some its[i] := List.getElem?_eq_getElem hlt
      obtain ⟨go, yl⟩ := it.1 _ hd
      rw [List.drop_eq_getElem_cons hlt] at eg2
      unfold lcGo at eg2
      cases eb : bindT tg its[i] (wipeR ρ (own.map (·.2))) with
      | none => rw [eb] at eg2; cases eg2
      | some ρ' =>
      rw [eb] at eg2
      simp only at eg2
      obtain ⟨b, c3, et, eg3⟩ := bnd_some eg2
      have et := noex_some et
      refine ⟨go, fun H' => ∃ m', m' < its.length - i ∧ (m' = its.length - (i + 1) ∧ i + 1 ≤ its.length ∧ ∃ w2 c2 acc vs, Rel X.K ca w2 c2 H' ∧ Ext H1 w1 c1 H1 w2 c2 H' ∧ H' L = some (.lst vs) ∧ RpL X.K ca w2 acc vs ∧ w2.S L = none ∧ (∀ n, Live c2 n → w2.al n ≠ L) ∧
        RhoR X.K ca w2 c2 H0 H' ρ σ ∧ lcGo tg t f (wipeR ρ (own.map (·.2))) (its.drop (i + 1)) acc c2 = some (.ok accF, cF)), fun H' hN => hN, fun x H3 hy => ?_⟩
      obtain ⟨w3, rel3, ext3, rx⟩ := yl x H3 hy
      have rho3 := (rho2.ext ext3).wipe (own.map (·.2))
      refine bindT_ok rel3 tg _ x _ ρ' _ eb rx rho3 fun σ' rho' hw => ⟨by rw [hw _ hsl]; exact wipe_wipe σ _, ?_⟩
      obtain ⟨hL3, hS3, hcl3⟩ := ext3.still hLv hS2 hcl2
      refine ⟨w3, ρ', c2, rel3, rho', .ok b, c3, et, fun b' eb' w4 H4 rel4 ext4 => ?_, fun x z => (by cases z)⟩
      cases eb'
      obtain ⟨hL4, hS4, hcl4⟩ := ext4.still hL3 hS3 hcl3
      have x4 := ext3.tr ext4
      cases b with
      | false =>
        refine ⟨_, by omega, rfl, hlt, w4, c3, acc, vs, rel4, ext2.trans x4 ext2.trk, hL4, x4.rpl racc, hS4, hcl4, rho2.ext x4, ?_⟩
        simpa using eg3
      | true =>
        simp only [if_true] at eg3 ⊢
        obtain ⟨d, c5, ed, eg5⟩ := bnd_some eg3
        have ed := noex_some ed
        refine ⟨w4, ρ', c3, rel4, rho'.ext ext4, .ok d, c5, ed, fun d' ed' w5 H5 rel5 ext5 y ey => ?_, fun x z => (by cases z)⟩
        cases ed'
        obtain ⟨hL5, hS5, hcl5⟩ := ext5.still hL4 hS4 hcl4
        have x5 := x4.tr ext5
        by_cases hk : (sol d && decide (acc.length < sizeLine)) = true
        · rw [if_pos hk] at eg5
          rw [Bool.and_eq_true, decide_eq_true_eq] at hk
          refine ⟨vs, hL5, by rw [← racc.length]; exact hk.2, _, by omega, rfl, hlt, w5, c5, acc ++ [d], vs ++ [y], rel5.touch hS5 hcl5, (ext2.trans x5 ext2.trk).touch hL, upd_same, (x5.rpl racc).append (RpL.one (ey.rp hk.1)), hS5, hcl5, ?_, eg5⟩
          have rq := rho2.ext x5
          refine ⟨rq.len, rq.val, fun j e hj => ?_, rq.dis, fun a ha => ?_, rq.exc⟩
          · obtain ⟨a, o, q1, q2, q3, q4, q5, q6⟩ := rq.own j e hj
            obtain ⟨a', o', p1, p2, _⟩ := rho1.own j e hj
            rw [p1] at q1
            have ea : a' = a := by simpa using q1
            subst ea
            exact ⟨a', o, p1, by rw [upd_ne (ne_of_none p2 hL)]; exact q2, q3, q4, q5, q6⟩
          · by_cases e : a = L
            · subst e; rw [upd_same]; simp
            · rw [upd_ne e]; exact rq.trk a ha
        · rw [if_neg hk] at eg5; cases eg5
    · have ei : i = its.length := by omega
      subst ei
      refine .inl ⟨it.2 (Nat.le_refl _), ?_⟩
      rw [List.drop_length] at eg2
      cases eg2
      have hLn : H L = none := by
        cases q : H L with
        | none => rfl
        | some o' => exact absurd hL (ext1.trk L (by rw [q]; simp))
      exact h1 _ rfl w2 Hc rel2 ext2 (ext1.tr ext2) _ ⟨L, .lst vs, rfl, hLv, ⟨vs, rfl, racc⟩, hS2, hLn, hcl2⟩
theorem se_lc {scope : Scope} {own : List (Str × Nat)} {tg : TG} {t : Rho → Cells → Ans Bool} {f : Rho → Cells → Ans (D × Bool)} (hc : X.calm = true) (hN : X.N.Nodup) (hi : PI X tge iter (SemI X.K ca H0 W fi)) (ok : BlkOk X.N X.env.scope scope own)
    (hg : ∀ (s : Shared) (H : Hp) (C : Addr) (cl : List (Str × Addr)) (fp : List Addr), PG (X.blk s H scope (compEnvC scope cl C X.env) fp) tge (gT X.K tg))
    (ht : ∀ (s : Shared) (H : Hp) (C : Addr) (cl : List (Str × Addr)) (fp : List Addr), PTs (X.blk s H scope (compEnvC scope cl C X.env) fp) ifs (SemT X.K ca H0 (fun _ _ _ _ => False) t))
    (he : ∀ (s : Shared) (H : Hp) (C : Addr) (cl : List (Str × Addr)) (fp : List Addr), PE (X.blk s H scope (compEnvC scope cl C X.env) fp) elt (SemN X.K ca H0 (fun _ _ _ _ => False) f))
    (hsl : ∀ i ∈ slotsT tg, i ∈ own.map (·.2)) (hs : ∀ x, foldedSetIterable iter X.env x = pure x) :
    PE X (.ListComp elt [⟨tge, iter, ifs, 0⟩] scope pos) (SemN X.K ca H0 W fun ρ c => bnd (fi ρ c) fun xs c => bnd (lcGo tg t f (wipeR ρ (own.map (·.2))) xs [] c) fun acc c => some (.ok (.lst acc, true), c)) := by
  exact peM (pe_lc (te := SemE X.K ca H0 (fun _ _ _ _ => False) (fE f)) hc hN hi ok hg ht (fun s H C cl fp => semE_of (he s H C cl fp)) hs) (lc_tLc hsl)
end
section
variable {ca : CA} {X : Cx} {H0 : Hp} {W : WX} {elt tge iter tge1 iter1 : Expr} {fi fi1 : Rho → Cells → Ans (List D)} {pos : Pos}
/-! ### comprehensions of two walks -/
mutual
theorem bindT_own : ∀ (t : TG) (d : D) (ρ ρ' : Rho) (j : Nat) (e : D), bindT t d ρ = some ρ' → ρ'[j]? = some (.own e) → j ∉ slotsT t ∧ ρ[j]? = some (.own e)
  | .nm i, d, ρ, ρ', j, e, h, hj => by
    have h : (if (sol d && decide (i < ρ.length)) = true then some (ρ.set i (.val d)) else none) = some ρ' := h
    by_cases hc : (sol d && decide (i < ρ.length)) = true
    · rw [if_pos hc] at h
      cases h
      rw [Bool.and_eq_true, decide_eq_true_eq] at hc
      by_cases hij : i = j
      · subst hij
        rw [List.getElem?_set_self hc.2] at hj; cases hj
      · rw [List.getElem?_set_ne hij] at hj
        exact ⟨fun z => hij (by have z : j ∈ [i] := z; exact (List.mem_singleton.mp z).symm), hj⟩
    · rw [if_neg hc] at h; cases h
  | .tp ts, d, ρ, ρ', j, e, h, hj => by
    cases d with
    | tup ds => exact bindTs_own ts ds ρ ρ' j e h hj
    | gt ds => exact bindTs_own ts ds ρ ρ' j e h hj
    | lst ds => exact bindTs_own ts ds ρ ρ' j e h hj
    | _ => cases h
theorem bindTs_own : ∀ (ts : TGs) (ds : List D) (ρ ρ' : Rho) (j : Nat) (e : D), bindTs ts ds ρ = some ρ' → ρ'[j]? = some (.own e) → j ∉ slotsTs ts ∧ ρ[j]? = some (.own e)
  | .nil, [], ρ, ρ', j, e, h, hj => by
    cases h
    exact ⟨fun z => (by cases z), hj⟩
  | .nil, _ :: _, _, _, _, _, h, _ => by cases h
  | .cons t r, [], _, _, _, _, h, _ => by cases h
  | .cons t r, d :: ds, ρ, ρ', j, e, h, hj => by
    have h : (match bindT t d ρ with | some ρ' => bindTs r ds ρ' | none => none) = some ρ' := h
    cases eb : bindT t d ρ with
    | none => rw [eb] at h; cases h
    | some ρ1 =>
      rw [eb] at h
      obtain ⟨a1, a2⟩ := bindTs_own r ds ρ1 ρ' j e h hj
      obtain ⟨b1, b2⟩ := bindT_own t d ρ ρ1 j e eb a2
      exact ⟨fun z => by
        have z : j ∈ slotsT t ++ slotsTs r := z
        exact (List.mem_append.mp z).elim b1 a1, b2⟩
end
theorem wipe_get {j : Nat} : ∀ (vs : List Nat) (σ : L2.St), j ∉ vs → (wipe σ vs)[j]? = σ[j]?
  | [], σ, _ => rfl
  | v :: vs, σ, h => by
    show ((wipe σ vs).set v none)[j]? = _
    rw [List.getElem?_set_ne (fun z => h (by rw [z]; exact List.mem_cons_self)), wipe_get vs σ fun z => h (List.mem_cons_of_mem _ z)]
theorem wipeR_own {j : Nat} {e : D} : ∀ (vs : List Nat) (ρ : Rho), (wipeR ρ vs)[j]? = some (.own e) → j ∉ vs ∧ ρ[j]? = some (.own e)
  | [], ρ, h => ⟨fun z => (by cases z), h⟩
  | v :: vs, ρ, h => by
    have h : ((wipeR ρ vs).set v .non)[j]? = some (.own e) := h
    by_cases hv : v = j
    · subst hv
      by_cases hl : v < (wipeR ρ vs).length
      · rw [List.getElem?_set_self hl] at h; cases h
      · rw [List.getElem?_eq_none (by simpa using hl)] at h; cases h
    · rw [List.getElem?_set_ne hv] at h
      obtain ⟨a, b⟩ := wipeR_own vs ρ h
      exact ⟨fun z => (List.mem_cons.mp z).elim (fun q => hv q.symm) a, b⟩
theorem RhoR.updL {K : PySem.W.Frag} {w : Wd} {c : Cells} {H : Hp} {ρ : Rho} {σ : L2.St} {L : Addr} {o : HO} (rq : RhoR K ca w c H0 H ρ σ) (hno : ∀ (j : Nat) (e : D) (a : Addr), ρ[j]? = some (.own e) → σ[j]? = some (some (V.ref a)) → a ≠ L) : RhoR K ca w c H0 (upd H L o) ρ σ := by
  refine ⟨rq.len, rq.val, fun j e hj => ?_, rq.dis, fun a ha => ?_, rq.exc⟩
  · obtain ⟨a, o', q1, q2, q3, q4, q5, q6⟩ := rq.own j e hj
    exact ⟨a, o', q1, by rw [upd_ne (hno j e a hj q1)]; exact q2, q3, q4, q5, q6⟩
  · by_cases e : a = L
    · subst e; rw [upd_same]; simp
    · rw [upd_ne e]; exact rq.trk a ha
theorem lc2Go_noex {tg tg1 : TG} {f : Rho → Cells → Ans (D × Bool)} {vs1 : List Nat} {ρ : Rho} : ∀ (xs acc : List D) (c : Cells) (r : R (List D)) (c' : Cells), lc2Go tg fi1 tg1 f vs1 ρ xs acc c = some (r, c') → ∃ a, r = .ok a
  | [], acc, c, r, c', h => by cases h; exact ⟨_, rfl⟩
  | x :: xs, acc, c, r, c', h => by
    unfold lc2Go at h
    cases e : bindT tg x ρ with
    | none => rw [e] at h; cases h
    | some ρ' =>
      rw [e] at h
      simp only at h
      rcases e1 : fi1 ρ' c with _ | ⟨⟨ys⟩ | ⟨z⟩, c1⟩
      · rw [e1] at h; cases h
      · rw [e1] at h
        simp only [noex_ok, bnd_ok] at h
        rcases e2 : lcGo tg1 (fun _ c => some (.ok true, c)) f (wipeR ρ' vs1) ys acc c1 with _ | ⟨⟨a⟩ | ⟨z⟩, c2⟩
        · rw [e2] at h; cases h
        · rw [e2] at h
          exact lc2Go_noex xs a c2 r c' h
        · obtain ⟨_, q⟩ := lcGo_noex _ _ _ _ _ e2
          cases q
      · rw [e1] at h; cases h
theorem lc2_tLc2 {own : List (Str × Nat)} {tg tg1 : TG} {f : Rho → Cells → Ans (D × Bool)} (hsl : ∀ i ∈ slotsT tg, i ∈ own.map (·.2)) :
    ∀ σ H Q, SemN X.K ca H0 W (fun ρ c => bnd (fi ρ c) fun xs c => bnd (lc2Go tg fi1 tg1 f (slotsT tg1) (wipeR ρ (own.map (·.2))) xs [] c) fun acc c => some (.ok (.lst acc, true), c)) σ H Q →
      tLc2 (SemI X.K ca H0 W fi) (gT X.K tg) (SemT X.K ca H0 (fun _ _ _ _ => False) fun _ c => some (.ok true, c)) (SemI X.K ca H0 (fun _ _ _ _ => False) fi1) (gT X.K tg1) (SemT X.K ca H0 (fun _ _ _ _ => False) fun _ c => some (.ok true, c)) (SemE X.K ca H0 (fun _ _ _ _ => False) (fE f)) (own.map (·.2)) (slotsT tg1) σ H Q := by
  refine fun σ H Q ⟨w, ρ, c, rel, rho, run⟩ => ⟨w, ρ, c, rel, rho, run.bnd.mono fun its w1 c1 H1 rel1 ext1 k J hJ L hL => ?_⟩
  have k := k ext1
  obtain ⟨r, cF, eq, h1, h2⟩ := k
  rcases eg : lc2Go tg fi1 tg1 f (slotsT tg1) (wipeR ρ (own.map (·.2))) its [] c1 with _ | ⟨r0, cg⟩
  · rw [eg] at eq; cases eq
  obtain ⟨accF, rfl⟩ := lc2Go_noex _ _ _ _ _ eg
  rw [eg] at eq
  cases eq
  have hS : w1.S L = none := rel1.same.free hL
  have hcl : ∀ n, Live c1 n → w1.al n ≠ L := fun n ⟨d, e⟩ z => by
    obtain ⟨⟨o', q, _⟩, _⟩ := rel1.cell n d e
    rw [z, hL] at q; cases q
  have rho1 := rho.ext ext1
  have noL : ∀ (j : Nat) (e : D) (a : Addr), ρ[j]? = some (.own e) → σ[j]? = some (some (V.ref a)) → a ≠ L := fun j e a hj sj z => by
    obtain ⟨a', o, q1, q2, _⟩ := rho1.own j e hj
    rw [q1] at sj
    have : a' = a := by simpa using sj
    rw [this, z, hL] at q2; cases q2
  refine ⟨fun i m Hc => m = its.length - i ∧ i ≤ its.length ∧ ∃ w2 c2 acc vs, Rel X.K ca w2 c2 Hc ∧ Ext H1 w1 c1 H1 w2 c2 Hc ∧ Hc L = some (.lst vs) ∧ RpL X.K ca w2 acc vs ∧ w2.S L = none ∧ (∀ n, Live c2 n → w2.al n ≠ L) ∧
      RhoR X.K ca w2 c2 H0 Hc ρ σ ∧ lc2Go tg fi1 tg1 f (slotsT tg1) (wipeR ρ (own.map (·.2))) (its.drop i) acc c2 = some (.ok accF, cF), ⟨its.length, by simp, Nat.zero_le _, w1, c1, [], [], ?_⟩, fun i m Hc hW => ?_⟩
  · obtain ⟨rg, eg'⟩ := rel1.grow (o := .lst []) hL (T := H1) fun _ z => z
    exact ⟨rg, eg', upd_same, rfl, hS, hcl, rho1.ext eg', eg⟩
  · obtain ⟨rfl, hil, w2, c2, acc, vs, rel2, ext2, hLv, racc, hS2, hcl2, rho2, eg2⟩ := hW
    have it := hJ w2 c2 Hc rel2 ext2.le i
    by_cases hlt : i < its.length
    · refine .inr ?_
      have hd : its[i]? = some its[i] := List.getElem?_eq_getElem hlt
      obtain ⟨go, yl⟩ := it.1 _ hd
      rw [List.drop_eq_getElem_cons hlt] at eg2
      unfold lc2Go at eg2
      cases eb : bindT tg its[i] (wipeR ρ (own.map (·.2))) with
      | none => rw [eb] at eg2; cases eg2
      | some ρ' =>
      rw [eb] at eg2
      simp only at eg2
      obtain ⟨ys, c3, et, eg3⟩ := bnd_some eg2
      have et := noex_some et
      refine ⟨go, fun H' => ∃ m', m' < its.length - i ∧ (m' = its.length - (i + 1) ∧ i + 1 ≤ its.length ∧ ∃ w2 c2 acc vs, Rel X.K ca w2 c2 H' ∧ Ext H1 w1 c1 H1 w2 c2 H' ∧ H' L = some (.lst vs) ∧ RpL X.K ca w2 acc vs ∧ w2.S L = none ∧ (∀ n, Live c2 n → w2.al n ≠ L) ∧
        RhoR X.K ca w2 c2 H0 H' ρ σ ∧ lc2Go tg fi1 tg1 f (slotsT tg1) (wipeR ρ (own.map (·.2))) (its.drop (i + 1)) acc c2 = some (.ok accF, cF)), fun H' hN => hN, fun x H3 hy => ?_⟩
      obtain ⟨w3, rel3, ext3, rx⟩ := yl x H3 hy
      have rho3 := (rho2.ext ext3).wipe (own.map (·.2))
      refine bindT_ok rel3 tg _ x _ ρ' _ eb rx rho3 fun σ' rho' hw => ⟨by rw [hw _ hsl]; exact wipe_wipe σ _, ?_⟩
      have noL' : ∀ (j : Nat) (e : D) (a : Addr), ρ'[j]? = some (.own e) → σ'[j]? = some (some (V.ref a)) → a ≠ L := fun j e a hj sj => by
        obtain ⟨a1, a2⟩ := bindT_own _ _ _ _ _ _ eb hj
        obtain ⟨b1, b2⟩ := wipeR_own _ _ a2
        have q := congrArg (fun s : L2.St => s[j]?) (hw (slotsT tg) fun _ z => z)
        simp only [wipe_get _ _ a1, wipe_get _ _ b1] at q
        exact noL j e a b2 (q.symm.trans sj)
      obtain ⟨hL3, hS3, hcl3⟩ := ext3.still hLv hS2 hcl2
      refine ⟨w3, ρ', c2, rel3, rho', .ok true, c2, rfl, fun b' eb' w4 H4 rel4 ext4 => ?_, fun x z => (by cases z)⟩
      cases eb'
      rw [if_pos rfl]
      obtain ⟨hL4, hS4, hcl4⟩ := ext4.still hL3 hS3 hcl3
      have x4 := ext3.tr ext4
      refine ⟨w4, ρ', c2, rel4, rho'.ext ext4, .ok ys, c3, et, fun ys' ey w5 H5 rel5 ext5 J1 hJ1 => ?_, fun x z => (by cases z)⟩
      cases ey
      obtain ⟨hL5, hS5, hcl5⟩ := ext5.still hL4 hS4 hcl4
      have x5 := x4.tr ext5
      refine ⟨fun j q Hd => q = ys.length - j ∧ j ≤ ys.length ∧ ∃ w6 c6 acc vs, Rel X.K ca w6 c6 Hd ∧ Ext H1 w1 c1 H1 w6 c6 Hd ∧ Le w5 w6 ∧ Hd L = some (.lst vs) ∧ RpL X.K ca w6 acc vs ∧ w6.S L = none ∧ (∀ n, Live c6 n → w6.al n ≠ L) ∧
        RhoR X.K ca w6 c6 H0 Hd ρ σ ∧ RhoR X.K ca w6 c6 H0 Hd ρ' σ' ∧ (bnd (lcGo tg1 (fun _ c => some (.ok true, c)) f (wipeR ρ' (slotsT tg1)) (ys.drop j) acc c6) fun acc c => lc2Go tg fi1 tg1 f (slotsT tg1) (wipeR ρ (own.map (·.2))) (its.drop (i + 1)) acc c) = some (.ok accF, cF),
        ⟨ys.length, by simp, Nat.zero_le _, w5, c3, acc, vs, rel5, ext2.trans x5 ext2.trk, Le.refl, hL5, x5.rpl racc, hS5, hcl5, rho2.ext x5, (rho'.ext ext4).ext ext5, eg3⟩, fun j q Hd hW1 => ?_⟩
      obtain ⟨rfl, hjl, w6, c6, acc6, vs6, rel6, ext6, le6, hL6, racc6, hS6, hcl6, rho6, rho6', eg6⟩ := hW1
      have it1 := hJ1 w6 c6 Hd rel6 le6 j
      by_cases hlt1 : j < ys.length
      · refine .inr ?_
        have hd1 : ys[j]? = some ys[j] := List.getElem?_eq_getElem hlt1
        obtain ⟨go1, yl1⟩ := it1.1 _ hd1
        rw [List.drop_eq_getElem_cons hlt1] at eg6
        unfold lcGo at eg6
        cases eb1 : bindT tg1 ys[j] (wipeR ρ' (slotsT tg1)) with
        | none => rw [eb1] at eg6; cases eg6
        | some ρ'' =>
        rw [eb1] at eg6
        simp only [noex_ok, bnd_ok, if_true] at eg6
        refine ⟨go1, fun H' => ∃ k', k' < ys.length - j ∧ (k' = ys.length - (j + 1) ∧ j + 1 ≤ ys.length ∧ ∃ w6 c6 acc vs, Rel X.K ca w6 c6 H' ∧ Ext H1 w1 c1 H1 w6 c6 H' ∧ Le w5 w6 ∧ H' L = some (.lst vs) ∧ RpL X.K ca w6 acc vs ∧ w6.S L = none ∧ (∀ n, Live c6 n → w6.al n ≠ L) ∧
          RhoR X.K ca w6 c6 H0 H' ρ σ ∧ RhoR X.K ca w6 c6 H0 H' ρ' σ' ∧ (bnd (lcGo tg1 (fun _ c => some (.ok true, c)) f (wipeR ρ' (slotsT tg1)) (ys.drop (j + 1)) acc c6) fun acc c => lc2Go tg fi1 tg1 f (slotsT tg1) (wipeR ρ (own.map (·.2))) (its.drop (i + 1)) acc c) = some (.ok accF, cF)), fun H' hN => hN, fun x1 H7 hy1 => ?_⟩
        obtain ⟨w7, rel7, ext7, rx1⟩ := yl1 x1 H7 hy1
        have rho7 := (rho6'.ext ext7).wipe (slotsT tg1)
        refine bindT_ok rel7 tg1 _ x1 _ ρ'' _ eb1 rx1 rho7 fun σ'' rho'' hw1 => ⟨by rw [hw1 _ fun _ z => z]; exact wipe_wipe σ' _, ?_⟩
        obtain ⟨hL7, hS7, hcl7⟩ := ext7.still hL6 hS6 hcl6
        refine ⟨w7, ρ'', c6, rel7, rho'', .ok true, c6, rfl, fun b' eb' w8 H8 rel8 ext8 => ?_, fun x z => (by cases z)⟩
        cases eb'
        rw [if_pos rfl]
        obtain ⟨hL8, hS8, hcl8⟩ := ext8.still hL7 hS7 hcl7
        have x8 := ext7.tr ext8
        obtain ⟨a9, c9, eq9, eg9⟩ := bnd_some eg6
        obtain ⟨d, c10, ed, eg10⟩ := bnd_some eq9
        have ed := noex_some ed
        refine ⟨w8, ρ'', c6, rel8, rho''.ext ext8, .ok d, c10, ed, fun d' ed' w9 H9 rel9 ext9 y ey => ?_, fun x z => (by cases z)⟩
        cases ed'
        obtain ⟨hL9, hS9, hcl9⟩ := ext9.still hL8 hS8 hcl8
        have x9 := x8.tr ext9
        by_cases hk : (sol d && decide (acc6.length < sizeLine)) = true
        · rw [if_pos hk] at eg10
          rw [Bool.and_eq_true, decide_eq_true_eq] at hk
          refine ⟨vs6, hL9, by rw [← racc6.length]; exact hk.2, _, by omega, rfl, hlt1, w9, c10, acc6 ++ [d], vs6 ++ [y], rel9.touch hS9 hcl9, (ext6.trans x9 ext6.trk).touch hL, le6.trans x9.le, upd_same, (x9.rpl racc6).append (RpL.one (ey.rp hk.1)), hS9, hcl9, (rho6.ext x9).updL noL, (rho6'.ext x9).updL noL', ?_⟩
          rw [eg10]
          exact eg9
        · rw [if_neg hk] at eg10; cases eg10
      · have ej : j = ys.length := by omega
        subst ej
        refine .inl ⟨it1.2 (Nat.le_refl _), ?_⟩
        rw [List.drop_length] at eg6
        exact ⟨_, by omega, rfl, hlt, w6, c6, acc6, vs6, rel6, ext6, hL6, racc6, hS6, hcl6, rho6, eg6⟩
    · have ei : i = its.length := by omega
      subst ei
      refine .inl ⟨it.2 (Nat.le_refl _), ?_⟩
      rw [List.drop_length] at eg2
      cases eg2
      have hLn : H L = none := by
        cases q : H L with
        | none => rfl
        | some o' => exact absurd hL (ext1.trk L (by rw [q]; simp))
      exact h1 _ rfl w2 Hc rel2 ext2 (ext1.tr ext2) _ ⟨L, .lst vs, rfl, hLv, ⟨vs, rfl, racc⟩, hS2, hLn, hcl2⟩
theorem pts_tt {Y : Cx} : PTs Y [] (SemT Y.K ca H0 W fun _ c => some (.ok true, c)) := ⟨fun pins s σ H Q I ⟨w, ρ, c, rel, rho, run⟩ => pts_nil.run pins s σ H Q I (RunT.now run rel fun _ z => z)⟩
theorem se_lc2 {scope : Scope} {own : List (Str × Nat)} {tg tg1 : TG} {f : Rho → Cells → Ans (D × Bool)} (hc : X.calm = true) (hN : X.N.Nodup) (hi : PI X tge iter (SemI X.K ca H0 W fi)) (ok : BlkOk X.N X.env.scope scope own)
    (hg : ∀ (s : Shared) (H : Hp) (C : Addr) (cl : List (Str × Addr)) (fp : List Addr), PG (X.blk s H scope (compEnvC scope cl C X.env) fp) tge (gT X.K tg))
    (hi1 : ∀ (s : Shared) (H : Hp) (C : Addr) (cl : List (Str × Addr)) (fp : List Addr), PI (X.blk s H scope (compEnvC scope cl C X.env) fp) tge1 iter1 (SemI X.K ca H0 (fun _ _ _ _ => False) fi1))
    (hg1 : ∀ (s : Shared) (H : Hp) (C : Addr) (cl : List (Str × Addr)) (fp : List Addr), PG (X.blk s H scope (compEnvC scope cl C X.env) fp) tge1 (gT X.K tg1))
    (he : ∀ (s : Shared) (H : Hp) (C : Addr) (cl : List (Str × Addr)) (fp : List Addr), PE (X.blk s H scope (compEnvC scope cl C X.env) fp) elt (SemN X.K ca H0 (fun _ _ _ _ => False) f))
    (hsl : ∀ i ∈ slotsT tg, i ∈ own.map (·.2)) (hsl1 : ∀ i ∈ slotsT tg1, i ∈ own.map (·.2)) (hs : ∀ x, foldedSetIterable iter X.env x = pure x) (hs1 : ∀ env x, foldedSetIterable iter1 env x = pure x) :
    PE X (.ListComp elt [⟨tge, iter, [], 0⟩, ⟨tge1, iter1, [], 0⟩] scope pos) (SemN X.K ca H0 W fun ρ c => bnd (fi ρ c) fun xs c => bnd (lc2Go tg fi1 tg1 f (slotsT tg1) (wipeR ρ (own.map (·.2))) xs [] c) fun acc c => some (.ok (.lst acc, true), c)) := by
  exact peM (pe_lc2 (te := SemE X.K ca H0 (fun _ _ _ _ => False) (fE f)) hc hN hi ok hsl1 hg (fun s H C cl fp => pts_tt) hi1 hg1 (fun s H C cl fp => pts_tt) (fun s H C cl fp => semE_of (he s H C cl fp)) hs hs1) (lc2_tLc2 hsl)
end
section
/-! ### displays of dicts -/
theorem RunT.grown {α : Type} {K : PySem.W.Frag} {ca : CA} {T T1 : Hp} {W : XK} {w : Wd} {c : Cells} {H H1 : Hp} {m : Ans α} {P : α → Wd → Cells → Hp → Prop} (r : RunT K ca T W w c H m P) (ext : Ext T w c H w c H1) (hT : ∀ x, T x ≠ none → T1 x ≠ none) :
    RunT K ca T1 W w c H1 m fun a w' c' H' => Ext T w c H w' c' H' → P a w' c' H' := by
  obtain ⟨r, c', e, h1, h2⟩ := r
  exact ⟨r, c', e, fun a ea w2 H2 rel2 ext2 ext3 => h1 a ea w2 H2 rel2 ext3, fun x ex cls dx w2 H2 rel2 ext2 exr => h2 x ex cls dx w2 H2 rel2 (ext.trans ext2 hT) (exr.mono hT)⟩
theorem RunT.wk {α : Type} {K : PySem.W.Frag} {ca : CA} {T T1 : Hp} {W : XK} {w : Wd} {c : Cells} {H : Hp} {m : Ans α} {P : α → Wd → Cells → Hp → Prop} (r : RunT K ca T W w c H m P) (hT : ∀ a, T a ≠ none → T1 a ≠ none) : RunT K ca T1 W w c H m P := by
  obtain ⟨r, c', e, h1, h2⟩ := r
  exact ⟨r, c', e, fun a ea w2 H2 rel2 ext2 => h1 a ea w2 H2 rel2 (ext2.wk hT), fun x ex cls dx w2 H2 rel2 ext2 exr => h2 x ex cls dx w2 H2 rel2 (ext2.wk hT) (exr.mono hT)⟩
variable {ca : CA} {X : Cx} {H0 : Hp} {W : WX} {T : FT}
def flatP (ps : List (V × V)) : List V := ps.flatMap fun p => [p.1, p.2]
def evenE : EXs → Bool
  | .nil => true
  | .cons _ .nil => false
  | .cons _ (.cons _ r) => evenE r
def trsOf (X : Cx) (ca : CA) (H0 : Hp) (W : WX) (T : FT) : EXs → List (TE × TE)
  | .nil => []
  | .cons _ .nil => []
  | .cons a (.cons b r) => (SemE X.K ca H0 W (fun ρ c => fstM (ev T a ρ c)), SemE X.K ca H0 W (fun ρ c => fstM (ev T b ρ c))) :: trsOf X ca H0 W T r
/-- each one keeps its promise -/
def pesE (X : Cx) (ca : CA) (H0 : Hp) (W : WX) (T : FT) : EXs → List Expr → Prop
  | .nil, _ => True
  | .cons m r, e :: es => PE X e (SemN X.K ca H0 W (ev T m)) ∧ pesE X ca H0 W T r es
  | .cons _ _, [] => False
theorem pairs_run : ∀ (kvs : EXs) (σ : L2.St) (H : Hp) (Q : List (V × V) → Hp → Prop) (w : Wd) (ρ : Rho) (c : Cells), evenE kvs = true → Rel X.K ca w c H → RhoR X.K ca w c H0 H ρ σ →
    Run X.K ca (fun cls dx H' => W cls dx σ H') w c H (evs T kvs ρ c) (fun ds w' c' H' => Ext H w c H w' c' H' → Rel X.K ca w' c' H' → ∀ ps, EVL X.K ca w' ρ σ ds (flatP ps) → Q ps H') → tPairs (trsOf X ca H0 W T kvs) σ H Q
  | .nil, σ, H, Q, w, ρ, c, _, rel, rho, run => RunT.now run rel (fun _ z => z) (Ext.self rel) rel [] rfl
  | .cons _ .nil, _, _, _, _, _, _, he, _, _, _ => by cases he
  | .cons a (.cons b r), σ, H, Q, w, ρ, c, he, rel, rho, run => by
    refine ⟨w, ρ, c, rel, rho, (Run.bnd run).mono fun x w1 c1 H1 rel1 ext1 k1 v ev1 => ⟨w1, ρ, c1, rel1, rho.ext ext1, ?_⟩⟩
    have k2 := (k1 ext1).bnd
    refine (Run.bnd k2).mono fun y w2 c2 H2 rel2 ext2 k3 u ev2 => pairs_run r σ H2 _ w2 ρ c2 he rel2 ((rho.ext ext1).ext ext2) ((Run.bnd (k3 ext2)).mono fun ds w3 c3 H3 rel3 ext3 k4 _ _ ps hps => ?_)
    have e13 := ext2.tr ext3
    have e03 := ext1.tr e13
    have q1 := RunT.now (RunT.now (k4 ext3) rel3 (fun _ z => z) ext3 e13 e13) rel3 (fun _ z => z) e13 e03 e03 rel3 ((v, u) :: ps) ⟨v, u :: flatP ps, rfl, ev1.ext e13, u, flatP ps, rfl, ev2.ext ext3, hps⟩
    exact q1
theorem pps_of {pos : Pos} : ∀ (kvs : EXs) (ks : List (Option Expr)) (vs es : List Expr), interE ks vs = some es → pesE X ca H0 W T kvs es → isNil kvs = es.isEmpty → lenEX kvs = es.length →
    PPs X pos ks vs (trsOf X ca H0 W T kvs) ∧ evenE kvs = true ∧ ks.length = vs.length ∧ ks.all (·.isSome) = true
  | kvs, [], [], es, hi, h, _, hl => by
    cases hi
    cases kvs with
    | nil => exact ⟨pps_nil, rfl, rfl, rfl⟩
    | cons a r => cases hl
  | kvs, [], v :: vs, es, hi, h, _, hl => by cases hi
  | kvs, none :: ks, _, es, hi, h, _, hl => by cases hi
  | kvs, some k :: ks, [], es, hi, h, _, hl => by cases hi
  | kvs, some k :: ks, v :: vs, es, hi, h, _, hl => by
    obtain ⟨es', hi', rfl⟩ := Option.map_eq_some_iff.mp hi
    match kvs, h, hl with
    | .cons a (.cons b r), h, hl =>
      have hl' : lenEX r = es'.length := by
        have : lenEX r + 1 + 1 = es'.length + 1 + 1 := hl
        omega
      obtain ⟨q1, q2, q3, q4⟩ := pps_of r ks vs es' hi' h.2.2 (by
        cases r with
        | nil => cases es' with
          | nil => rfl
          | cons _ _ => cases hl'
        | cons _ _ => cases es' with
          | nil => cases hl'
          | cons _ _ => rfl) hl'
      exact ⟨pps_cons (semE_of h.1) (semE_of h.2.1) q1, q2, by rw [List.length_cons, List.length_cons, q3], by rw [List.all_cons, q4]; rfl⟩
theorem dspF_len : ∀ {ds : List D} {l : List (Key × D)}, dspF ds = some l → ds.length = 2 * l.length
  | [], l, h => by cases h; rfl
  | [_], l, h => by cases h
  | dk :: dv :: ds, l, h => by
    unfold dspF at h
    split at h
    · rename_i q l' h1 h2
      cases h
      have := dspF_len h2
      rw [List.length_cons, List.length_cons, List.length_cons, this]; omega
    · cases h
theorem se_dsp {pos : Pos} {kvs : EXs} {ks : List (Option Expr)} {vs es : List Expr} (hi : interE ks vs = some es) (h : pesE X ca H0 W T kvs es) (h0 : isNil kvs = false) (hl : lenEX kvs = es.length) (h15 : ks.length ≤ 15) :
    PE X (.Dict ks vs pos) (SemN X.K ca H0 W fun ρ c => bnd (evs T kvs ρ c) fun ds c => dspA ds c) := by
  have hne : isNil kvs = es.isEmpty := by
    cases kvs with
    | nil => cases h0
    | cons _ _ => cases es with
      | nil => cases hl
      | cons _ _ => rfl
  obtain ⟨pp, ev, lk, hall⟩ := pps_of (pos := pos) kvs ks vs es hi h hne hl
  have k0 : ks ≠ [] := fun e => by
    subst e
    cases vs with
    | nil => cases hi; rw [h0] at hne; cases hne
    | cons _ _ => cases lk
  refine peM (pe_disp pp hall lk k0 h15) fun σ H Q ⟨w, ρ, c, rel, rho, run⟩ p hp => ?_
  obtain ⟨r1, e1⟩ := rel.grow (o := .dK []) hp (T := H) fun _ z => z
  have pH : upd H p (.dK []) p ≠ none := by rw [upd_same]; simp
  refine pairs_run kvs σ _ _ w ρ c ev r1 (rho.ext e1) (((RunT.bnd run).grown (T1 := upd H p (.dK [])) e1 e1.trk).mono fun ds w2 c2 H2 rel2 ext2 k ext2' _ ps hps => ?_)
  have ext3 := e1.trans ext2 e1.trk
  have k := k ext3 H (fun _ z => z) ext3.trk
  have hS1 : w.S p = none := rel.same.free hp
  have hc1 : ∀ n, Live c n → w.al n ≠ p := fun n ⟨d, e⟩ z => by
    obtain ⟨⟨o', q, _⟩, _⟩ := rel.cell n d e
    rw [z, hp] at q; cases q
  have hS2 : w2.S p = none := by
    cases q : w2.S p with
    | none => rfl
    | some o =>
      rcases ext2.newS p (by rw [q]; simp) with z | z | ⟨n, z1, z2⟩
      · exact absurd hS1 z
      · exact absurd z pH
      · exact absurd z2 (hc1 n z1)
  have hc2 : ∀ n, Live c2 n → w2.al n ≠ p := fun n hn z => by
    rcases ext2.new n hn with q | ⟨_, q⟩
    · exact hc1 n q (by rw [← ext2.al n (ext2.liv n q)]; exact z)
    · rw [z] at q; exact pH q
  have hp2 : H2 p = some (.dK []) := ext2.frame p _ pH upd_same fun n hn => hc1 n hn
  unfold dspA at k
  split at k
  · rename_i l hd
    split at k
    · rename_i hs
      rw [Bool.and_eq_true, decide_eq_true_eq] at hs
      obtain ⟨kvs', rfl, z2, z3⟩ := pairs_of hd (hps.rpl hs.1)
      refine ⟨hp2, kvs', rfl, ?_, ?_⟩
      · have := congrArg List.length z2
        rw [List.length_map, List.length_map] at this
        omega
      · obtain ⟨g1, g2⟩ := mrg_ok l [] kvs' [] z2 z3 rfl
        refine RunT.ret k w2 _ (rel2.touch hS2 hc2) ((Ext.refl rel2 ext3.trk).touch hp) (ext3.touch hp) _ ⟨p, _, rfl, upd_same, ⟨_, rfl, g1, g2⟩, hS2, hp, hc2⟩
    · exact k.nope.elim
  · exact k.nope.elim
theorem se_dsp1 {pos : Pos} {k v : Expr} {f g : Rho → Cells → Ans (D × Bool)} (hu : X.A.units + 1 < cLine) (hk : PE X k (SemN X.K ca H0 W f)) (hv : PE X v (SemN X.K ca H0 W g)) :
    PE X (.Dict [some k] [v] pos) (SemN X.K ca H0 W fun ρ c => bnd (fstM (f ρ c)) fun x c => bnd (fstM (g ρ c)) fun y c => dsp1A x y c) := by
  refine peM (EngD.pe_disp1 hu (semE_of hk) (semE_of hv)) fun σ H Q ⟨w, ρ, c, rel, rho, run⟩ p hp => ?_
  obtain ⟨r1, e1⟩ := rel.grow (o := .dT []) hp (T := H) fun _ z => z
  have hS1 : w.S p = none := rel.same.free hp
  have hc1 : ∀ n, Live c n → w.al n ≠ p := fun n ⟨d, e⟩ z => by
    obtain ⟨⟨o', q, _⟩, _⟩ := rel.cell n d e
    rw [z, hp] at q; cases q
  refine ⟨w, ρ, c, r1, rho.ext e1, ((RunT.bnd run).grown (T1 := upd H p (.dT [])) e1 e1.trk).mono fun x w1 c1 H1 rel1 ext1 k v ev => ?_⟩
  have ext1' := e1.trans ext1 e1.trk
  have k := k ext1' H (fun _ z => z) ext1'.trk
  refine ⟨w1, ρ, c1, rel1, (rho.ext e1).ext ext1, ((RunT.bnd k).wk ext1'.trk).mono fun y w2 c2 H2 rel2 ext2 k2 u eu => ?_⟩
  have ext12 := ext1.tr ext2
  have ext3 := e1.trans ext12 e1.trk
  have k2 := k2 H (fun _ z => z) ext3.trk
  obtain ⟨hp2, hS2, hc2⟩ := ext12.still (o := .dT []) upd_same hS1 hc1
  unfold dsp1A at k2
  cases x with
  | tup ks =>
    cases ek : keysD ks with
    | none => simp only [ek] at k2; exact k2.nope.elim
    | some q =>
      simp only [ek] at k2
      by_cases hs : sol y = true
      · rw [if_pos hs] at k2
        obtain ⟨a, vs, rfl, ha, rp⟩ := ev.rp (show sol (.tup ks) = true from rfl)
        obtain rfl := keysD_v ek rp
        have ru := eu.rp hs
        refine ⟨hp2, a, q, rfl, rel2.same _ _ (ext2.S _ _ ha), ?_⟩
        refine RunT.ret k2 w2 _ (rel2.touch hS2 hc2) ((Ext.refl rel2 ext3.trk).touch hp) ((ext2.wk ext1'.trk).touch hp) (ext3.touch hp) _ ⟨p, _, rfl, upd_same, ⟨[(q, u)], rfl, rfl, .one ru⟩, hS2, hp, hc2⟩
      · rw [if_neg hs] at k2; exact k2.nope.elim
  | _ => exact k2.nope.elim
end
end Eng

/-! Eng15: every expression that is taken computes what the small machine computes -/
namespace Eng
open PySem PySem.Spec PyProof.Rows L2

theorem bnd_lift {α β γ : Type} (m : Ans α) (o : α → Option β) (g : β → Cells → Ans γ) : bnd (bnd m fun a c => liftO (o a) c) g = bnd m fun a c => match o a with | some b => g b c | none => none := by
  rcases m with _ | ⟨⟨a⟩ | ⟨x⟩, c⟩
  · rfl
  · show bnd (liftO (o a) c) g = _
    cases h : o a with
    | none => simp [liftO, h]
    | some b => simp [liftO, h]
  · rfl
theorem gl_of {X : Cx} {sc : Scope} {x : Str} (hs : X.env.scope = sc) (h : glS sc x = true) : Gl X x := by
  unfold glS at h
  have : sc.names.lookup x = some .globalImplicit := eq_of_beq h
  show X.env.scope.names.lookup x = _
  rw [hs]; exact this
theorem vis_of {X : Cx} {sc : Scope} {x : Str} (hs : X.env.scope = sc) (h : visS sc x = true) : Vis X.env.scope x := by
  unfold visS at h
  rw [Bool.or_eq_true, Bool.or_eq_true] at h
  rw [hs]
  rcases h with (h | h) | h
  · exact .inl (eq_of_beq h)
  · exact .inr (.inl (eq_of_beq h))
  · exact .inr (.inr (eq_of_beq h))
theorem plain_of {b : Expr} (h : noSl b = true) : PlainIx b := by
  intro o i
  cases b <;> first | rfl | cases h
theorem fold_of {e : Expr} (h : noSet e = true) (env : PySem.Env) : ∀ x, foldedSetIterable e env x = pure x := by
  intro x
  cases e <;> first | rfl | cases h
theorem eq_lit {a b : Str} (h : decide (a = b) = true) : a = b := of_decide_eq_true h
theorem isEs_star {F : FN} {N : List Str} {sc : Scope} : ∀ {ms : EXs} {es : List Expr}, isEs F N sc ms es = true → es.all noStar = true ∧ es.length = lenEX ms
  | .nil, [], _ => ⟨rfl, rfl⟩
  | .nil, e :: es, h => by cases h
  | .cons m r, [], h => by cases h
  | .cons m r, e :: es, h => by
    have h : (noStar e && isE F N sc m e && isEs F N sc r es) = true := h
    rw [Bool.and_eq_true, Bool.and_eq_true] at h
    obtain ⟨h1, h2⟩ := isEs_star h.2
    exact ⟨by rw [List.all_cons, h.1.1, h1]; rfl, by show es.length + 1 = _; rw [h2]; rfl⟩
theorem ite_map {α : Type} (x : Bool) (a b : α) : (if x then a else b) = if x then a else b := rfl
section
variable {ca : CA} {T : FT} {H0 : Hp} {F : FN} {k : Nat}
theorem blt_len {X : Cx} {W : WX} (g : Gd ca F T k W X) (f : BF) : X.mg (bfN f) = none := by
  cases f <;> exact g.blt _ (by simp [bltNames, bfN])
theorem se_bf {X : Cx} {W : WX} (gd : Gd ca F T k W X) {f : BF} (hx : (!F.sx || coolB f) = true) {e : Expr} {es : List Expr} {fs : Rho → Cells → Ans (List D)} {p pos : Pos} (hg : Gl X (bfN f)) (ha : PA X (e :: es) (SemB X.K ca H0 W fs))
    (he : starEach (e :: es) X.env = (false, eval e X.env) :: starEach es X.env) (hpl : (backTo pos (starEach es X.env)).any (·.1) = false) :
    PE X (.Call (.Name (bfN f) p) (e :: es) [] pos) (SemN X.K ca H0 W fun ρ c => bnd (fs ρ c) fun ds c => prim (bfF f) ρ ds c) := by
  have cm : coolB f = false → X.calm = true := fun z => gd.calm (by rw [z, Bool.or_false, Bool.not_eq_true'] at hx; exact hx)
  have hm := blt_len gd f
  have hu : X.A.units + 64 < cLine := by have := gd.units; omega
  cases f with
  | len => exact se_blt pr_len hg hm PySem.boot_len ha (by decide) (by decide) he hpl
  | abs => exact se_blt pr_abs hg hm (by decide +kernel) ha (by decide) (by decide) he hpl
  | max => exact se_blt (pr_max (cm rfl)) hg hm (by decide +kernel) ha (by decide) (by decide) he hpl
  | min => exact se_blt (pr_min (cm rfl)) hg hm (by decide +kernel) ha (by decide) (by decide) he hpl
  | int => exact se_bltT pr_int hg hm (by decide +kernel) ha (by decide) (by decide) he hpl
  | list => exact se_bltT (pr_list (cm rfl)) hg hm (by decide +kernel) ha (by decide) (by decide) he hpl
  | all => exact se_blt (pr_all (cm rfl)) hg hm (by decide +kernel) ha (by decide) (by decide) he hpl
  | any => exact se_blt (pr_any (cm rfl)) hg hm (by decide +kernel) ha (by decide) (by decide) he hpl
  | sum => exact se_blt (pr_sum (cm rfl)) hg hm (by decide +kernel) ha (by decide) (by decide) he hpl
  | repr => exact se_blt (pr_repr gd.guards hu) hg hm (by decide +kernel) ha (by decide) (by decide) he hpl
  | sorted => exact se_blt (pr_sorted hu) hg hm (by decide +kernel) ha (by decide) (by decide) he hpl
  | tuple => exact se_bltT pr_tuple hg hm (by decide +kernel) ha (by decide) (by decide) he hpl
  | divmod => exact se_blt pr_dm hg hm (by decide +kernel) ha (by decide) (by decide) he hpl
theorem se_sf {X : Cx} {W : WX} (gd : Gd ca F T k W X) (hx : F.sx = false) {f : SF} {a : Expr} {g : Rho → Cells → Ans (D × Bool)} {p p2 qq pos : Pos} (hg : Gl X (sfN f)) (hg2 : Gl X (sfI f)) (ha : PE X a (SemN X.K ca H0 W g))
    (na : starEach [a] X.env = (false, eval a X.env) :: starEach [] X.env) :
    PE X (.Call (.Name (sfN f) p) [.Call (.Name (sfI f) p2) [a] [] qq] [] pos) (SemN X.K ca H0 W fun ρ c => bnd (fstM (g ρ c)) fun d c => prim (sfF f) ρ [d] c) := by
  have hm2 : X.mg "set" = none := gd.blt _ (by simp [bltNames])
  cases f with
  | len => exact se_ofset (ps_len (gd.calm hx)) hg (gd.blt _ (by simp [bltNames, sfN])) PySem.boot_len hg2 hm2 ha (by decide) (by decide) na
  | sorted => exact se_ofset (ps_sorted (gd.calm hx)) hg (gd.blt _ (by simp [bltNames, sfN])) (by decide +kernel) hg2 hm2 ha (by decide) (by decide) na
  | rng => exact se_lrng (gd.calm hx) hg (gd.blt _ (by simp [bltNames, sfN])) hg2 (gd.blt _ (by simp [bltNames, sfI])) ha na (star_cons rfl)
/-! ### what an except suite holds -/
def cV (ca : Nat → Addr) (c : Nat) : V := if c = 0 then .ty "ValueError" else .ref (ca c)
theorem cV_cls (ca : Nat → Addr) (c : Nat) : ClsV (cV ca c) (cvX ca c) := by
  unfold cV cvX
  by_cases h : c = 0
  · rw [if_pos h, if_pos h]; exact .ty _
  · rw [if_neg h, if_neg h]; exact .own _
theorem cls_some {sc : Scope} {c : Nat} {x : Str} (h : clsN F sc c x = true) : ∃ f, lookX F.x c = some (x, f) := by
  unfold clsN at h
  simp only [Bool.and_eq_true, decide_eq_true_eq] at h
  obtain ⟨⟨y, f⟩, e1, e2⟩ := Option.map_eq_some_iff.mp h.1.1
  exact ⟨f, by rw [e1]; cases e2; rfl⟩
theorem pe_cls {X : Cx} {W : WX} {sc : Scope} {c : Nat} {x : Str} {p : Pos} (gd : Gd ca F T k W X) (hsc : X.env.scope = sc) (h : clsN F sc c x = true) : PE X (.Name x p) (tC (cV ca.f c)) := by
  obtain ⟨f, e⟩ := cls_some h
  unfold clsN at h
  simp only [Bool.and_eq_true, Bool.not_eq_true'] at h
  have q := gd.xcs.nm c x f e
  unfold cV
  by_cases hc : c = 0
  · rw [if_pos hc] at q ⊢
    subst q
    exact pe_bltn (gl_of hsc h.1.2) (gd.blt _ (by simp [bltNames])) PyProof.Rows.Boot.«ValueError» rfl (by decide) (by decide)
  · rw [if_neg hc] at q ⊢
    exact pe_glob (gl_of hsc h.1.2) q rfl h.2
def tVs (vs : List V) : TA := fun _ H Q => Q vs H
theorem pa_clss {X : Cx} {W : WX} {sc : Scope} (gd : Gd ca F T k W X) (hsc : X.env.scope = sc) : ∀ {cs : List Nat} {es : List Expr}, clsEs F sc cs es = true → PA X es (tVs (cs.map (cV ca.f))) ∧ (∀ c ∈ cs, ∃ x f, lookX F.x c = some (x, f))
  | [], [], _ => ⟨paM pa_nil fun σ H Q q => q, fun c hc => by cases hc⟩
  | [], e :: es, h => by cases h
  | c :: cs, [], h => by cases h
  | c :: cs, e :: es, h => by
    cases e with
    | Name x p =>
      have h : (clsN F sc c x && clsEs F sc cs es) = true := h
      rw [Bool.and_eq_true] at h
      obtain ⟨q1, q2⟩ := pa_clss gd hsc h.2
      obtain ⟨f, e1⟩ := cls_some h.1
      exact ⟨paM (pa_cons (pe_cls gd hsc h.1) q1 rfl) fun σ H Q q => q, fun c' hc => by
        rcases List.mem_cons.mp hc with rfl | hc
        · exact ⟨x, f, e1⟩
        · exact q2 c' hc⟩
    | _ => cases h
theorem kit_any {K : PySem.W.Frag} {ca : Nat → Addr} {d : Nat} : ∀ {cs : List Nat}, (∀ c ∈ cs, PySem.W.kitOne K (.ref (ca d)) (cvX ca c) = some (isaX d c)) → PySem.W.kitAny K (.ref (ca d)) (cs.map (cvX ca)) = some (cs.any (isaX d))
  | [], _ => rfl
  | c :: cs, h => by
    show (match PySem.W.kitOne K (.ref (ca d)) (cvX ca c) with
      | some true => some true
      | some false => PySem.W.kitAny K (.ref (ca d)) (cs.map (cvX ca))
      | none => none) = some (isaX d c || cs.any (isaX d))
    rw [h c List.mem_cons_self]
    cases isaX d c with
    | true => rfl
    | false => exact kit_any fun c' hc => h c' (List.mem_cons_of_mem _ hc)
theorem paired_cls (ca : Nat → Addr) : ∀ cs : List Nat, Paired ClsV (cs.map (cV ca)) (cs.map (cvX ca))
  | [] => .nil
  | c :: cs => .cons (cV_cls ca c) (paired_cls ca cs)
theorem exs_some {ds cs : List Nat} {o : Option Sl} {b : Bool} (h : exsI ds cs o = some b) : ∃ d nm vs, o = some (.exc (.ins d nm vs)) ∧ d ∈ ds ∧ b = cs.any (isaX d) := by
  unfold exsI at h
  split at h
  · split at h
    · rename_i d nm vs hc
      cases h
      exact ⟨d, nm, vs, rfl, by simpa using hc, rfl⟩
    · cases h
  · cases h
theorem exf_some {ds : List Nat} {g : Str} {o : Option Sl} {v : D} (h : exfD ds g o = some v) : ∃ d, o = some (.exc (.ins d [g] [v])) ∧ d ∈ ds := by
  unfold exfD at h
  split at h
  · split at h
    · rename_i d hh v' hc
      simp only [Bool.and_eq_true, decide_eq_true_eq] at hc
      cases h
      exact ⟨d, by rw [hc.2], by simpa using hc.1⟩
    · cases h
  · cases h
theorem dx_ok {K : PySem.W.Frag} {w : Wd} {c : Cells} {H : Hp} {d : D} (rel : Rel K ca w c H) (h : ExS K ca w d) : EngX.DxOk H ca.xd := by
  cases d with
  | ins cc nm vs =>
    rcases h.2 with ⟨_, _, e⟩ | ⟨dd, fs, e, eS, _⟩
    · rw [e]; exact True.intro
    · rw [e]; exact ⟨fs, rel.same _ _ eS⟩
  | _ => exact h.elim
theorem se_exis {X : Cx} {W : WX} {sc : Scope} {i : Nat} {ds cs : List Nat} {tt : Bool} {x : Str} {ce : Expr} {p px pos : Pos} (gd : Gd ca F T k W X) (hx : F.sx = true) (ho : ownX F ds = true) (hg : Gl X "isinstance")
    (hN : X.N[i]? = some x) (hv : Vis X.env.scope x) (hd : (x == ("__debug__" : Str)) = false) (hcd : (x == ("__classdict__" : Str)) = false) (hsc : X.env.scope = sc) (hc : clsE F sc tt cs ce = true) :
    PE X (.Call (.Name "isinstance" p) [.Name x px, ce] [] pos) (SemN X.K ca H0 W fun ρ c => liftO ((exsI ds cs ρ[i]?).map fun b => (.bl b, false)) c) := by
  obtain ⟨Y, oe, pn, eX, hz, hf⟩ := gd.xs hx
  refine ⟨fun pins s σ H Q I ⟨w, ρ, c, rel, rho, run⟩ => ?_⟩
  dsimp only at run
  cases eb : exsI ds cs ρ[i]? with
  | none => rw [eb] at run; exact (RunT.nope run).elim
  | some b =>
    rw [eb] at run
    have run : Run X.K ca (fun cls dx H' => W cls dx σ H') w c H (some (.ok (D.bl b, false), c)) _ := run
    obtain ⟨d, nm, vs, er, hm, rfl⟩ := exs_some eb
    have hd2 := List.all_eq_true.mp ho d hm
    rw [Bool.and_eq_true, decide_eq_true_eq] at hd2
    obtain ⟨⟨y, f⟩, ed⟩ := Option.isSome_iff_exists.mp hd2.2
    obtain ⟨hσ, hS⟩ := rho.exc i _ er
    obtain ⟨TC, _⟩ := gd.xcs.made d y f ed hd2.1
    have hz' : Zc (.ref (ca.f d)) ca.xd oe := by rw [← hS.1]; exact hz
    have hm' : X.mg "isinstance" = none := gd.blt _ (by simp [bltNames])
    have dx := dx_ok rel hS
    subst eX
    have gsub := gd.xcs.sub d y f
    match tt, cs, ce, hc with
    | false, [cc], .Name z pz, hc =>
      obtain ⟨ff, ez⟩ := cls_some hc
      have q := pe_callB (pos := pos) (p := p) (EngX.call_isX (X := Y) TC hz' hf) hg hm' (by decide +kernel) (pa_cons (pe_var (pos := px) hN hv hd hcd) (pa_cons (pe_cls (p := pz) gd hsc hc) pa_nil rfl) rfl) (by decide) (by decide) rfl rfl
      refine q.run pins s σ H Q I ⟨_, hσ, dx, cV ca.f cc, _, _, rfl, cV_cls _ _, (gsub cc z ff ed hd2.1 ez).1, ?_⟩
      have eb2 : [cc].any (isaX d) = isaX d cc := by simp
      rw [eb2] at run
      exact RunT.now run rel (fun _ z => z) (V.bl (isaX d cc)) (show EV Y.K ca.f w ρ σ (D.bl (isaX d cc)) (V.bl _) from rfl)
    | true, cs, .Tuple es kk pt, hc =>
      have hc : (clsEs F sc cs es && decide (cs.length ≤ 100)) = true := hc
      rw [Bool.and_eq_true, decide_eq_true_eq] at hc
      obtain ⟨qa, hall⟩ := pa_clss gd hsc hc.1
      have q := pe_callB (pos := pos) (p := p) (EngX.call_isXT (X := Y) TC hz' hf) hg hm' (by decide +kernel) (pa_cons (pe_var (pos := px) hN hv hd hcd) (pa_cons (show PE _ (.Tuple es kk pt) _ from pe_tup qa) pa_nil rfl) rfl) (by decide) (by decide) rfl rfl
      refine q.run pins s σ H Q I ⟨_, hσ, by rw [List.length_map, sizeLine_eq]; omega, fun tp htp => ?_⟩
      obtain ⟨rel2, ext2⟩ := rel.grow (o := .tup (cs.map (cV ca.f))) htp (T := H) fun _ z => z
      refine ⟨?_, tp, _, _, _, rfl, upd_same, paired_cls ca.f cs, kit_any fun c' hc' => ?_, ?_⟩
      · revert dx
        generalize ca.xd = dx0
        intro dx
        cases dx0 with
        | none => exact True.intro
        | some dd =>
          obtain ⟨fs, e⟩ := dx
          exact ⟨fs, by rw [upd_ne (ne_of_none e htp)]; exact e⟩
      · obtain ⟨z, ff, ez⟩ := hall c' hc'
        exact (gsub c' z ff ed hd2.1 ez).1
      · exact RunT.ret run w _ rel2 ext2 _ (show EV Y.K ca.f w ρ σ (D.bl _) (V.bl _) from rfl)
theorem se_exfd {X : Cx} {W : WX} {i : Nat} {ds : List Nat} {g x : Str} {px pos : Pos} (gd : Gd ca F T k W X) (hx : F.sx = true) (ho : fldX F g ds = true)
    (hN : X.N[i]? = some x) (hv : Vis X.env.scope x) (hd : (x == ("__debug__" : Str)) = false) (hcd : (x == ("__classdict__" : Str)) = false) :
    PE X (.Attribute (.Name x px) g pos) (SemN X.K ca H0 W fun ρ c => liftO ((exfD ds g ρ[i]?).map fun d => (d, false)) c) := by
  obtain ⟨Y, oe, pn, eX, hz, hf⟩ := gd.xs hx
  refine ⟨fun pins s σ H Q I ⟨w, ρ, c, rel, rho, run⟩ => ?_⟩
  dsimp only at run
  cases eb : exfD ds g ρ[i]? with
  | none => rw [eb] at run; exact (RunT.nope run).elim
  | some v =>
    rw [eb] at run
    have run : Run X.K ca (fun cls dx H' => W cls dx σ H') w c H (some (.ok (v, false), c)) _ := run
    obtain ⟨d, er, hm⟩ := exf_some eb
    have hd2 := List.all_eq_true.mp ho d hm
    rw [Bool.and_eq_true, decide_eq_true_eq] at hd2
    have ed : ∃ y, lookX F.x d = some (y, some g) := by
      have h2 := hd2.2
      split at h2
      · rename_i y h e
        rw [e]
        exact ⟨y, by rw [of_decide_eq_true h2]⟩
      · cases h2
    obtain ⟨y, ed⟩ := ed
    obtain ⟨hσ, hS⟩ := rho.exc i _ er
    obtain ⟨TC, S, TI⟩ := gd.xcs.made d y _ ed hd2.1
    subst eX
    refine (pe_xf (X := Y) (C := ca.f d) TC.x (TI.no g rfl) hz hf (pe_var (pos := px) hN hv hd hcd)).run pins s σ H Q I ⟨_, hσ, rfl, hS.1, ?_⟩
    rcases hS.2 with ⟨z, _⟩ | ⟨dd, fs, e1, e2, e3, e4⟩
    · cases z
    · obtain ⟨u, r, e5, ru, er'⟩ := e4
      match fs, e3, e5, er' with
      | [(h, u')], e3, e5, er' =>
        have eh : h = g := by simpa using e3
        have eu : u' = u := by
          have := (List.cons.inj e5).1
          exact this
        subst eh eu
        refine ⟨dd, _, u', e1, rel.same _ _ e2, by simp [List.lookup], ?_⟩
        exact RunT.now run rel (fun _ z => z) u' ru.ev
theorem pt_false {X : Cx} {W : WX} {e : Expr} : PT X e (SemT X.K ca H0 W fun _ _ => none) := ⟨fun _ _ _ _ _ _ ⟨w, ρ, c, rel, rho, run⟩ => (RunT.nope run).elim⟩
theorem pw_of {X : Cx} {op : BoolOp} {b : Expr} {rest : List Expr} {pos : Pos} {t : TT} (h : PT X (.BoolOp op (b :: rest) pos) t) : PW X (.BoolOp op (b :: rest) pos) t := ⟨fun wh pins s σ H Q I q => h.run pins s σ H Q I q⟩
theorem blk_sc {X : Cx} {scope sc : Scope} (hsc : X.env.scope = sc) (s : Shared) (H : Hp) (C : Addr) (cl : List (Str × Addr)) (fp : List Addr) : (X.blk s H scope (compEnvC scope cl C X.env) fp).env.scope = relS scope sc := by rw [← hsc]; rfl
theorem blk_pg {X : Cx} {W : WX} {N : List Str} {scope sc : Scope} {tg : TG} {te : Expr} (gd : Gd ca F T k W X) (hx : F.sx = false) (hN : X.N = N) (hsc : X.env.scope = sc) (htg : isT scope N tg te = true) (s : Shared) (H : Hp) (C : Addr) (cl : List (Str × Addr)) (fp : List Addr) :
    PG (X.blk s H scope (compEnvC scope cl C X.env) fp) te (gT X.K tg) :=
  pgT (X := X.blk s H scope (compEnvC scope cl C X.env) fp) hN gd.nd (gd.calm hx) (fun x hx => by
    unfold locS at hx
    rw [Bool.or_eq_true] at hx
    rcases hx with hx | hx
    · have e := lookup_relS_keep (sc := sc) (x := x) (k := .local) (by decide) (eq_of_beq hx)
      exact ⟨.inl (by rw [blk_sc hsc s H C cl fp]; exact e), .inr (by rw [blk_sc hsc s H C cl fp]; exact e)⟩
    · have e := lookup_relS_keep (sc := sc) (x := x) (k := .cell) (by decide) (eq_of_beq hx)
      exact ⟨.inr (by rw [blk_sc hsc s H C cl fp]; exact e), .inl hx⟩) tg te htg
theorem pts_abs {X : Cx} {W : WX} {b : Bool} {t : Rho → Cells → Ans Bool} (hif : b = true) : PTs X [] (SemT X.K ca H0 W (if b then fun _ c => some (.ok true, c) else t)) := by
  subst hif
  exact ⟨fun pins s σ H Q I ⟨w, ρ, c, rel, rho, run⟩ => pts_nil.run pins s σ H Q I (RunT.now run rel fun _ z => z)⟩
theorem it_call {sc : Scope} {kd : IK} {te it : Expr} {xs : List Expr} (hk : kd ≠ .seq) (hx : itArgs sc kd te it = xs) (hl : xs.length ≠ 0) : ∃ p pos, it = .Call (.Name (ikN kd) p) xs [] pos ∧ glS sc (ikN kd) = true ∧ itTup kd te = true := by
  have go : ∀ {o : List Expr}, (match (generalizing := false) it with
    | .Call (.Name g _) xs [] _ => if decide (ikN kd = g) && glS sc g && itTup kd te then xs else []
    | _ => []) = o → o.length ≠ 0 → ∃ p pos, it = .Call (.Name (ikN kd) p) o [] pos ∧ glS sc (ikN kd) = true ∧ itTup kd te = true := fun {o} h hl => by
    split at h
    · split at h
      · rename_i hc
        simp only [Bool.and_eq_true, decide_eq_true_eq] at hc
        obtain ⟨⟨rfl, h1⟩, h2⟩ := hc
        subst h
        exact ⟨_, _, rfl, h1, h2⟩
      · subst h; exact absurd rfl hl
    · subst h; exact absurd rfl hl
  cases kd <;> first | exact absurd rfl hk | exact go hx hl
theorem si_all {X : Cx} {W : WX} {sc : Scope} {kd : IK} {te it : Expr} {ms : EXs} (gd : Gd ca F T k W X) (hsc : X.env.scope = sc) (st : (itArgs sc kd te it).all noStar = true ∧ (itArgs sc kd te it).length = lenEX ms) (hlen : lenEX ms = ikL kd)
    (qa : PA X (itArgs sc kd te it) (SemB X.K ca H0 W (evs T ms))) (qs : kd = .seq → ∀ m, ms = .cons m .nil → PE X it (SemN X.K ca H0 W (ev T m))) : PI X te it (SemI X.K ca H0 W (evI kd (evs T ms))) ∧ noSet it = true := by
  by_cases hk : kd = .seq
  · subst hk
    have hn : noSet it = true := by
      cases z : noSet it with
      | true => rfl
      | false =>
        have : itArgs sc .seq te it = [] := by unfold itArgs; simp [z]
        rw [this, hlen] at st
        exact absurd st.2 (by decide)
    match ms, hlen, qs with
    | .cons m .nil, hlen, qs => exact ⟨si_seq (qs rfl m rfl), hn⟩
    | .nil, hlen, _ => cases hlen
    | .cons m (.cons m' r), hlen, _ => exact absurd hlen (by show lenEX r + 1 + 1 ≠ 1; omega)
  · obtain ⟨p, pos, e, hg, ht⟩ := it_call hk (xs := itArgs sc kd te it) rfl (by rw [st.2, hlen]; cases kd <;> decide)
    generalize itArgs sc kd te it = xs at e st qa
    subst e
    rw [hlen] at st
    cases kd with
    | seq => exact absurd rfl hk
    | rng1 =>
      match xs, st, qa with
      | [x], st, qa =>
        have s1 := st.1
        rw [List.all_cons, Bool.and_eq_true] at s1
        exact ⟨si_rng1 (gl_of hsc hg) (gd.blt _ (by decide)) qa (star_cons s1.1), rfl⟩
      | [], st, qa => exact absurd st.2 (by decide)
      | x :: y :: r, st, qa => exact absurd st.2 (by show r.length + 1 + 1 ≠ 1; omega)
    | rng2 =>
      match xs, st, qa with
      | [x, y], st, qa =>
        have s1 := st.1
        rw [List.all_cons, List.all_cons, Bool.and_eq_true, Bool.and_eq_true] at s1
        exact ⟨si_rng2 (gl_of hsc hg) (gd.blt _ (by decide)) qa (by rw [star_cons s1.1, star_cons s1.2.1]; rfl) (by rw [star_cons s1.2.1]; rfl), rfl⟩
      | [], st, qa => exact absurd st.2 (by decide)
      | [x], st, qa => exact absurd st.2 (by show 1 ≠ _; decide)
      | x :: y :: z :: r, st, qa => exact absurd st.2 (by show r.length + 1 + 1 + 1 ≠ 2; omega)
    | rng3 =>
      match xs, st, qa with
      | [x, y, z], st, qa =>
        have s1 := st.1
        rw [List.all_cons, Bool.and_eq_true] at s1
        exact ⟨si_rng3 (gl_of hsc hg) (gd.blt _ (by decide)) qa (star_cons s1.1) (star_any _ _ s1.2), rfl⟩
      | [], st, qa => exact absurd st.2 (by decide)
      | [x], st, qa => exact absurd st.2 (by show 1 ≠ _; decide)
      | [x, y], st, qa => exact absurd st.2 (by show 2 ≠ _; decide)
      | x :: y :: z :: u :: r, st, qa => exact absurd st.2 (by show r.length + 1 + 1 + 1 + 1 ≠ 3; omega)
    | enum =>
      match xs, st, qa with
      | [x], st, qa =>
        have s1 := st.1
        rw [List.all_cons, Bool.and_eq_true] at s1
        cases te with
        | Tuple ts kk tp => exact ⟨si_enum (gl_of hsc hg) (gd.blt _ (by decide)) qa (star_cons s1.1), rfl⟩
        | _ => cases ht
      | [], st, qa => exact absurd st.2 (by decide)
      | x :: y :: r, st, qa => exact absurd st.2 (by show r.length + 1 + 1 ≠ 1; omega)
    | rvs =>
      match xs, st, qa with
      | [x], st, qa =>
        have s1 := st.1
        rw [List.all_cons, Bool.and_eq_true] at s1
        exact ⟨si_rvs (gl_of hsc hg) (gd.blt _ (by decide)) qa (star_cons s1.1), rfl⟩
      | [], st, qa => exact absurd st.2 (by decide)
      | x :: y :: r, st, qa => exact absurd st.2 (by show r.length + 1 + 1 ≠ 1; omega)
    | zip =>
      match xs, st, qa with
      | [x, y], st, qa =>
        have s1 := st.1
        rw [List.all_cons, Bool.and_eq_true] at s1
        cases te with
        | Tuple ts kk tp => exact ⟨si_zip (gl_of hsc hg) (gd.blt _ (by decide)) qa (star_cons s1.1) (star_any _ _ s1.2), rfl⟩
        | _ => cases ht
      | [], st, qa => exact absurd st.2 (by decide)
      | [x], st, qa => exact absurd st.2 (by show 1 ≠ _; decide)
      | x :: y :: z :: r, st, qa => exact absurd st.2 (by show r.length + 1 + 1 + 1 ≠ 2; omega)
theorem lc_ok {X : Cx} {W : WX} {N : List Str} {sc scope : Scope} {own : List (Str × Nat)} {tg : TG} {kd : IK} {te it el : Expr} {ifs : EX} {elt : EX} {fs : List Expr} {ms : EXs} {pos : Pos} (gd : Gd ca F T k W X) (hx : F.sx = false) (hN : X.N = N) (hsc : X.env.scope = sc) (hb : blkC N sc scope own = true)
    (htg : isT scope N tg te = true) (hsl : (slotsT tg).all (fun i => decide (i ∈ own.map (·.2))) = true)
    (he : ∀ (s : Shared) (H : Hp) (C : Addr) (cl : List (Str × Addr)) (fp : List Addr), PE (X.blk s H scope (compEnvC scope cl C X.env) fp) el (SemN X.K ca H0 (fun _ _ _ _ => False) (ev T elt)))
    (ht : ∀ (s : Shared) (H : Hp) (C : Addr) (cl : List (Str × Addr)) (fp : List Addr), PTs (X.blk s H scope (compEnvC scope cl C X.env) fp) fs (SemT X.K ca H0 (fun _ _ _ _ => False) (if isAbs ifs then fun _ c => some (.ok true, c) else evT T ifs)))
    (st : (itArgs sc kd te it).all noStar = true ∧ (itArgs sc kd te it).length = lenEX ms) (hlen : lenEX ms = ikL kd)
    (qa : PA X (itArgs sc kd te it) (SemB X.K ca H0 W (evs T ms))) (qs : kd = .seq → ∀ m, ms = .cons m .nil → PE X it (SemN X.K ca H0 W (ev T m))) :
    PE X (.ListComp el [⟨te, it, fs, 0⟩] scope pos) (SemN X.K ca H0 W (ev T (.lc own elt tg kd ms ifs))) := by
  have hi := si_all gd hsc st hlen qa qs
  have q := se_lc (pos := pos) (gd.calm hx) gd.nd hi.1 (by rw [hN, hsc]; exact blkOk_by hb) (blk_pg gd hx hN hsc htg) ht he (fun i hi => of_decide_eq_true (List.all_eq_true.mp hsl i hi)) (fold_of hi.2 _)
  have e : (fun ρ c => bnd (evI kd (evs T ms) ρ c) fun xs c => bnd (lcGo tg (if isAbs ifs then fun _ c => some (.ok true, c) else evT T ifs) (ev T elt) (wipeR ρ (own.map (·.2))) xs [] c) fun acc c => some (.ok (.lst acc, true), c)) = ev T (.lc own elt tg kd ms ifs) := by
    funext ρ c
    refine (bnd_lift (evs T ms ρ c) (itemsI kd) _).trans ?_
    simp only [ev, evB, byTruth]
    congr 1
    funext a c
    cases itemsI kd a <;> rfl
  rw [e] at q
  exact q
theorem lc2_ok {X : Cx} {W : WX} {N : List Str} {sc scope : Scope} {own : List (Str × Nat)} {tg tg1 : TG} {kd : IK} {te it el te1 i1 : Expr} {elt it1 : EX} {ms : EXs} {pos : Pos} (gd : Gd ca F T k W X) (hx : F.sx = false) (hN : X.N = N) (hsc : X.env.scope = sc) (hb : blkC N sc scope own = true)
    (htg : isT scope N tg te = true) (htg1 : isT scope N tg1 te1 = true) (hsl : (slotsT tg).all (fun i => decide (i ∈ own.map (·.2))) = true) (hsl1 : (slotsT tg1).all (fun i => decide (i ∈ own.map (·.2))) = true)
    (he : ∀ (s : Shared) (H : Hp) (C : Addr) (cl : List (Str × Addr)) (fp : List Addr), PE (X.blk s H scope (compEnvC scope cl C X.env) fp) el (SemN X.K ca H0 (fun _ _ _ _ => False) (ev T elt)))
    (hy : ∀ (s : Shared) (H : Hp) (C : Addr) (cl : List (Str × Addr)) (fp : List Addr), PE (X.blk s H scope (compEnvC scope cl C X.env) fp) i1 (SemN X.K ca H0 (fun _ _ _ _ => False) (ev T it1))) (hns : noSet i1 = true)
    (st : (itArgs sc kd te it).all noStar = true ∧ (itArgs sc kd te it).length = lenEX ms) (hlen : lenEX ms = ikL kd)
    (qa : PA X (itArgs sc kd te it) (SemB X.K ca H0 W (evs T ms))) (qs : kd = .seq → ∀ m, ms = .cons m .nil → PE X it (SemN X.K ca H0 W (ev T m))) :
    PE X (.ListComp el [⟨te, it, [], 0⟩, ⟨te1, i1, [], 0⟩] scope pos) (SemN X.K ca H0 W (ev T (.lc2 own elt tg kd ms tg1 it1))) := by
  have hi := si_all gd hsc st hlen qa qs
  have q := se_lc2 (pos := pos) (gd.calm hx) gd.nd hi.1 (by rw [hN, hsc]; exact blkOk_by hb) (blk_pg gd hx hN hsc htg) (fun s H C cl fp => si_seq (hy s H C cl fp)) (blk_pg gd hx hN hsc htg1) he (fun i hi => of_decide_eq_true (List.all_eq_true.mp hsl i hi)) (fun i hi => of_decide_eq_true (List.all_eq_true.mp hsl1 i hi)) (fold_of hi.2 _) (fun env => fold_of hns env)
  have e : (fun ρ c => bnd (evI kd (evs T ms) ρ c) fun xs c => bnd (lc2Go tg (evI .seq fun ρ c => bnd (fstM (ev T it1 ρ c)) fun d c => some (.ok [d], c)) tg1 (ev T elt) (slotsT tg1) (wipeR ρ (own.map (·.2))) xs [] c) fun acc c => some (.ok (.lst acc, true), c)) = ev T (.lc2 own elt tg kd ms tg1 it1) := by
    funext ρ c
    refine (bnd_lift (evs T ms ρ c) (itemsI kd) _).trans ?_
    simp only [ev, evB, byTruth]
    congr 1
    funext a c
    cases itemsI kd a <;> rfl
  rw [e] at q
  exact q
theorem seq_args {sc : Scope} {te it : Expr} {xs : List Expr} (h : itArgs sc .seq te it = xs) (hl : xs.length = 1) : xs = [it] := by
  unfold itArgs at h
  by_cases z : noSet it = true
  · simp [z] at h; exact h.symm
  · simp [z] at h; subst h; cases hl
set_option maxHeartbeats 2000000
mutual
theorem sndE (hF : ∀ f g, lookN F f = some g → (T f).isSome = true) : ∀ (m : EX) (X : Cx) (W : WX) (N : List Str) (sc : Scope) (e : Expr), Gd ca F T k W X → X.N = N → X.env.scope = sc → isE F N sc m e = true →
    PE X e (SemN X.K ca H0 W (ev T m)) ∧ PT X e (SemT X.K ca H0 W (evT T m))
  | .var i, X, W, N, sc, e, gd, hN, hsc, h => by
    cases e with
    | Name x pos =>
      have h : (decide (N[i]? = some x) && visS sc x && !(x == ("__debug__" : Str)) && !(x == ("__classdict__" : Str))) = true := h
      simp only [Bool.and_eq_true, decide_eq_true_eq, Bool.not_eq_true'] at h
      have q := se_var (ca := ca) (X := X) (H0 := H0) (W := W) (pos := pos) (by rw [hN]; exact h.1.1.1) (vis_of hsc h.1.1.2) h.1.2 h.2
      exact ⟨q, pt_byTruth q fun _ => rfl⟩
    | _ => cases h
  | .int i, X, W, N, sc, e, gd, hN, hsc, h => by
    cases e with
    | Constant v kk pos =>
      cases v with
      | int j =>
        have h : (i == j) = true := h
        obtain rfl := eq_of_beq h
        have q := se_con (ca := ca) (X := X) (H0 := H0) (W := W) (d := .int i) (pe_int (i := i) (j := kk) (pos := pos)) fun w => rfl
        exact ⟨q, pt_byTruth q fun _ => rfl⟩
      | _ => cases h
    | _ => cases h
  | .str i, X, W, N, sc, e, gd, hN, hsc, h => by
    cases e with
    | Constant v kk pos =>
      cases v with
      | str j =>
        have h : (i == j) = true := h
        obtain rfl := eq_of_beq h
        have q := se_con (ca := ca) (X := X) (H0 := H0) (W := W) (d := .str i) (pe_str (x := i) (j := kk) (pos := pos)) fun w => rfl
        exact ⟨q, pt_byTruth q fun _ => rfl⟩
      | _ => cases h
    | _ => cases h
  | .bl i, X, W, N, sc, e, gd, hN, hsc, h => by
    cases e with
    | Constant v kk pos =>
      cases v with
      | bool j =>
        have h : (i == j) = true := h
        obtain rfl := eq_of_beq h
        have q := se_con (ca := ca) (X := X) (H0 := H0) (W := W) (d := .bl i) (pe_bl (b := i) (j := kk) (pos := pos)) fun w => rfl
        exact ⟨q, pt_byTruth q fun _ => rfl⟩
      | _ => cases h
    | _ => cases h
  | .non, X, W, N, sc, e, gd, hN, hsc, h => by
    cases e with
    | Constant v kk pos =>
      cases v with
      | none =>
        have q := se_con (ca := ca) (X := X) (H0 := H0) (W := W) (d := .non) (pe_non (j := kk) (pos := pos)) fun w => rfl
        exact ⟨q, pt_byTruth q fun _ => rfl⟩
      | _ => cases h
    | _ => cases h
  | .glb i, X, W, N, sc, e, gd, hN, hsc, h => by
    cases e with
    | Name x pos =>
      have h : (decide ((lookG F.g i).map (·.1) = some x) && glS sc x && !(x == ("__debug__" : Str))) = true := h
      simp only [Bool.and_eq_true, decide_eq_true_eq, Bool.not_eq_true'] at h
      obtain ⟨⟨h1, h2⟩, h3⟩ := h
      obtain ⟨⟨y, d⟩, e1, rfl⟩ := Option.map_eq_some_iff.mp h1
      obtain ⟨e2, u, v, m, r, rp⟩ := gd.gls i _ d e1
      have q : PE X (.Name y pos) (SemN X.K ca H0 W (ev T (.glb i))) := by
        have e : ev T (.glb i) = fun _ c => some (.ok (d, false), c) := by
          funext ρ c
          show (match T.g i with | some d => some (R.ok (d, false), c) | none => none) = _
          rw [e2]
        rw [e]
        exact se_con (pe_glob (gl_of hsc h2) m r h3) rp
      exact ⟨q, pt_byTruth q fun _ => rfl⟩
    | _ => cases h
  | .lst ms, X, W, N, sc, e, gd, hN, hsc, h => by
    cases e with
    | List xs pos =>
      have q := se_lst (pos := pos) (sndEs hF ms X W N sc xs gd hN hsc h).1
      exact ⟨q, pt_byTruth q fun _ => rfl⟩
    | _ => cases h
  | .tup ms, X, W, N, sc, e, gd, hN, hsc, h => by
    cases e with
    | Tuple xs kk pos =>
      have q := se_tup (pos := pos) (kk := kk) (sndEs hF ms X W N sc xs gd hN hsc h).1
      exact ⟨q, pt_byTruth q fun _ => rfl⟩
    | _ => cases h
  | .bin op a b, X, W, N, sc, e, gd, hN, hsc, h => by
    cases e with
    | BinOp x op' y pos =>
      have h : (decide (op = op') && (binF op).isSome && isE F N sc a x && isE F N sc b y) = true := h
      simp only [Bool.and_eq_true, decide_eq_true_eq] at h
      obtain ⟨⟨⟨rfl, hf⟩, ha⟩, hb⟩ := h
      obtain ⟨f, hf⟩ := Option.isSome_iff_exists.mp hf
      have q := se_bin (pos := pos) hf (sndE hF a X W N sc x gd hN hsc ha).1 (sndE hF b X W N sc y gd hN hsc hb).1
      exact ⟨q, pt_byTruth q fun _ => rfl⟩
    | _ => cases h
  | .neg a, X, W, N, sc, e, gd, hN, hsc, h => by
    cases e with
    | UnaryOp op x pos =>
      cases op with
      | USub =>
        have q := se_neg (pos := pos) (sndE hF a X W N sc x gd hN hsc h).1
        exact ⟨q, pt_byTruth q fun _ => rfl⟩
      | _ => cases h
    | _ => cases h
  | .notE a, X, W, N, sc, e, gd, hN, hsc, h => by
    cases e with
    | UnaryOp op x pos =>
      cases op with
      | Not =>
        have q := sndE hF a X W N sc x gd hN hsc h
        exact ⟨se_not (pos := pos) q.1, se_notT (pos := pos) q.2⟩
      | _ => cases h
    | _ => cases h
  | .cmp op a b, X, W, N, sc, e, gd, hN, hsc, h => by
    have hu : X.A.units + 64 < cLine := by have := gd.units; omega
    cases e with
    | Compare x ops ys pos =>
      match ops, ys, h with
      | [op'], [y], h =>
        have h : (decide (op = op') && isE F N sc a x && isE F N sc b y && !behindInMarks op y) = true := h
        simp only [Bool.and_eq_true, decide_eq_true_eq, Bool.not_eq_true'] at h
        obtain ⟨⟨⟨rfl, ha⟩, hb⟩, hm⟩ := h
        have qa := (sndE hF a X W N sc x gd hN hsc ha).1
        have qb := (sndE hF b X W N sc y gd hN hsc hb).1
        exact ⟨se_cmp (pos := pos) hu qa qb hm, se_cmpT (pos := pos) hu qa qb hm⟩
    | _ => cases h
  | .chain o1 o2 a b c, X, W, N, sc, e, gd, hN, hsc, h => by
    have hu : X.A.units + 64 < cLine := by have := gd.units; omega
    cases e with
    | Compare x ops ys pos =>
      match ops, ys, h with
      | [p1, p2], [y, z], h =>
        have h : (decide (o1 = p1) && decide (o2 = p2) && isE F N sc a x && isE F N sc b y && isE F N sc c z && !behindInMarks o2 z) = true := h
        simp only [Bool.and_eq_true, decide_eq_true_eq, Bool.not_eq_true'] at h
        obtain ⟨⟨⟨⟨⟨rfl, rfl⟩, ha⟩, hb⟩, hc⟩, hm⟩ := h
        have qa := (sndE hF a X W N sc x gd hN hsc ha).1
        have qb := (sndE hF b X W N sc y gd hN hsc hb).1
        have qc := (sndE hF c X W N sc z gd hN hsc hc).1
        exact ⟨se_chain (pos := pos) hu qa qb qc hm, se_chainT (pos := pos) hu qa qb qc hm⟩
    | _ => cases h
  | .andE a b, X, W, N, sc, e, gd, hN, hsc, h => by
    cases e with
    | BoolOp op vs pos =>
      match op, vs, h with
      | .And, x :: y :: [], h =>
        have h : (isE F N sc a x && isE F N sc b y) = true := h
        rw [Bool.and_eq_true] at h
        have qa := sndE hF a X W N sc x gd hN hsc h.1
        have qb := sndE hF b X W N sc y gd hN hsc h.2
        exact ⟨se_and qa.1 (pe_one qb.1), (se_andT qa.2 (pw_and1 qb.2)).pt⟩
      | .And, x :: y :: z :: rest, h =>
        have h : (isE F N sc a x && isE F N sc b (.BoolOp .And (y :: z :: rest) pos)) = true := h
        rw [Bool.and_eq_true] at h
        have qa := sndE hF a X W N sc x gd hN hsc h.1
        have qb := sndE hF b X W N sc _ gd hN hsc h.2
        exact ⟨se_and qa.1 qb.1, (se_andT qa.2 (pw_of qb.2)).pt⟩
    | _ => cases h
  | .orE a b, X, W, N, sc, e, gd, hN, hsc, h => by
    cases e with
    | BoolOp op vs pos =>
      match op, vs, h with
      | .Or, x :: y :: [], h =>
        have h : (isE F N sc a x && isE F N sc b y) = true := h
        rw [Bool.and_eq_true] at h
        have qa := sndE hF a X W N sc x gd hN hsc h.1
        have qb := sndE hF b X W N sc y gd hN hsc h.2
        exact ⟨se_or qa.1 (pe_one qb.1), (se_orT qa.2 (pw_or1 qb.2)).pt⟩
      | .Or, x :: y :: z :: rest, h =>
        have h : (isE F N sc a x && isE F N sc b (.BoolOp .Or (y :: z :: rest) pos)) = true := h
        rw [Bool.and_eq_true] at h
        have qa := sndE hF a X W N sc x gd hN hsc h.1
        have qb := sndE hF b X W N sc _ gd hN hsc h.2
        exact ⟨se_or qa.1 qb.1, (se_orT qa.2 (pw_of qb.2)).pt⟩
    | _ => cases h
  | .ife t a b, X, W, N, sc, e, gd, hN, hsc, h => by
    cases e with
    | IfExp t' a' b' pos =>
      have h : (isE F N sc t t' && isE F N sc a a' && isE F N sc b b') = true := h
      rw [Bool.and_eq_true, Bool.and_eq_true] at h
      exact ⟨se_ife (pos := pos) (sndE hF t X W N sc t' gd hN hsc h.1.1).2 (sndE hF a X W N sc a' gd hN hsc h.1.2).1 (sndE hF b X W N sc b' gd hN hsc h.2).1, pt_false⟩
    | _ => cases h
  | .ix a b, X, W, N, sc, e, gd, hN, hsc, h => by
    have hu : X.A.units + 64 < cLine := by have := gd.units; omega
    cases e with
    | Subscript x y pos =>
      have h : (noSl y && isE F N sc a x && isE F N sc b y) = true := h
      rw [Bool.and_eq_true, Bool.and_eq_true] at h
      have q := se_ix (pos := pos) hu (sndE hF a X W N sc x gd hN hsc h.1.2).1 (sndE hF b X W N sc y gd hN hsc h.2).1 (plain_of h.1.1)
      exact ⟨q, pt_byTruth q fun _ => rfl⟩
    | _ => cases h
  | .sl a lo hi, X, W, N, sc, e, gd, hN, hsc, h => by
    cases e with
    | Subscript x y pos =>
      cases y with
      | Slice l u st p2 =>
        cases st with
        | none =>
          have h : (isE F N sc a x && (match (generalizing := false) l with | none => isAbs lo | some e => !isAbs lo && isE F N sc lo e) && (match (generalizing := false) u with | none => isAbs hi | some e => !isAbs hi && isE F N sc hi e)) = true := h
          rw [Bool.and_eq_true, Bool.and_eq_true] at h
          have qa := (sndE hF a X W N sc x gd hN hsc h.1.1).1
          have ql : match (generalizing := false) l with | none => isAbs lo = true | some e => isAbs lo = false ∧ PE X e (SemN X.K ca H0 W (ev T lo)) := by
            cases l with
            | none => exact h.1.2
            | some e =>
              have h2 : (!isAbs lo && isE F N sc lo e) = true := h.1.2
              rw [Bool.and_eq_true, Bool.not_eq_true'] at h2
              exact ⟨h2.1, (sndE hF lo X W N sc e gd hN hsc h2.2).1⟩
          have qh : match (generalizing := false) u with | none => isAbs hi = true | some e => isAbs hi = false ∧ PE X e (SemN X.K ca H0 W (ev T hi)) := by
            cases u with
            | none => exact h.2
            | some e =>
              have h2 : (!isAbs hi && isE F N sc hi e) = true := h.2
              rw [Bool.and_eq_true, Bool.not_eq_true'] at h2
              exact ⟨h2.1, (sndE hF hi X W N sc e gd hN hsc h2.2).1⟩
          have q := se_sl (pos := pos) (p2 := p2) qa ql qh
          exact ⟨q, pt_byTruth q fun _ => rfl⟩
        | some st => cases h
      | _ => cases h
    | _ => cases h
  | .rev a, X, W, N, sc, e, gd, hN, hsc, h => by
    cases e with
    | Subscript x y pos =>
      match y, h with
      | .Slice none none (some (.UnaryOp .USub (.Constant (.int 1) k1 p1) p2)) p3, h =>
        have q := se_rev (pos := pos) (k1 := k1) (p1 := p1) (p2 := p2) (p3 := p3) (sndE hF a X W N sc x gd hN hsc h).1
        exact ⟨q, pt_byTruth q fun _ => rfl⟩
    | _ => cases h
  | .call f ms, X, W, N, sc, e, gd, hN, hsc, h => by
    cases e with
    | Call fe xs kws pos =>
      match fe, kws, h with
      | .Name g p, [], h =>
        have h : (!F.sx && decide (lookN F f = some g) && glS sc g && !(g == ("__debug__" : Str)) && !isNil ms && isEs F N sc ms xs) = true := h
        simp only [Bool.and_eq_true, decide_eq_true_eq, Bool.not_eq_true'] at h
        obtain ⟨⟨⟨⟨⟨hx, hf⟩, hg⟩, hd⟩, hn⟩, hs⟩ := h
        have qa := (sndEs hF ms X W N sc xs gd hN hsc hs).1
        have st := isEs_star hs
        cases xs with
        | nil =>
          cases ms with
          | nil => cases hn
          | cons m r => cases hs
        | cons x xs =>
          have s1 := st.1
          rw [List.all_cons, Bool.and_eq_true] at s1
          have q := se_call (pos := pos) (p := p) gd hx (hF f g hf) hf qa (gl_of hsc hg) hd (star_cons s1.1) (star_any _ _ s1.2)
          exact ⟨q, pt_byTruth q fun _ => rfl⟩
    | _ => cases h
  | .box m, X, W, N, sc, e, gd, hN, hsc, h => by
    cases e with
    | Call fe xs kws pos =>
      have h : isE F N sc m (.Call fe xs kws pos) = true := h
      have q := se_box (sndE hF m X W N sc (.Call fe xs kws pos) gd hN hsc h).1
      exact ⟨q, pt_byTruth q fun _ => rfl⟩
    | Subscript x y pos =>
      have h : isE F N sc m (.Subscript x y pos) = true := h
      have q := se_box (sndE hF m X W N sc (.Subscript x y pos) gd hN hsc h).1
      exact ⟨q, pt_byTruth q fun _ => rfl⟩
    | _ => cases h
  | .lend f ms, X, W, N, sc, e, gd, hN, hsc, h => by
    cases e with
    | Call fe xs kws pos =>
      match fe, kws, h with
      | .Name g p, [], h =>
        have h : (!F.sx && decide (lookN F f = some g) && glS sc g && !(g == ("__debug__" : Str)) && !isNil ms && isEs F N sc ms xs) = true := h
        simp only [Bool.and_eq_true, decide_eq_true_eq, Bool.not_eq_true'] at h
        obtain ⟨⟨⟨⟨⟨hx, hf⟩, hg⟩, hd⟩, hn⟩, hs⟩ := h
        have qa := (sndEs hF ms X W N sc xs gd hN hsc hs).1
        have st := isEs_star hs
        cases xs with
        | nil =>
          cases ms with
          | nil => cases hn
          | cons m r => cases hs
        | cons x xs =>
          have s1 := st.1
          rw [List.all_cons, Bool.and_eq_true] at s1
          have q := se_lend (pos := pos) (p := p) gd hx (hF f g hf) hf qa (gl_of hsc hg) hd (star_cons s1.1) (star_any _ _ s1.2)
          exact ⟨q, pt_byTruth q fun _ => rfl⟩
    | _ => cases h
  | .blt f ms, X, W, N, sc, e, gd, hN, hsc, h => by
    cases e with
    | Call fe xs kws pos =>
      match fe, kws, h with
      | .Name g p, [], h =>
        have h : ((!F.sx || coolB f) && decide (bfN f = g) && glS sc g && !isNil ms && isEs F N sc ms xs) = true := h
        simp only [Bool.and_eq_true, decide_eq_true_eq] at h
        obtain ⟨⟨⟨⟨hx, rfl⟩, hg⟩, hn⟩, hs⟩ := h
        have qa := (sndEs hF ms X W N sc xs gd hN hsc hs).1
        have st := isEs_star hs
        cases xs with
        | nil =>
          cases ms with
          | nil => cases hn
          | cons m r => cases hs
        | cons x xs =>
          have s1 := st.1
          rw [List.all_cons, Bool.and_eq_true] at s1
          have q := se_bf (pos := pos) (p := p) gd hx (gl_of hsc hg) qa (star_cons s1.1) (star_any _ _ s1.2)
          exact ⟨q, pt_byTruth q fun _ => rfl⟩
    | _ => cases h
  | .meth m o ms, X, W, N, sc, e, gd, hN, hsc, h => by
    cases e with
    | Call fe xs kws pos =>
      match fe, kws, h with
      | .Attribute x n ap, [], h =>
        have h : (decide (mkN m = n) && noSup x && (ap.endLine == pos.line) && decide (xs.length < 29) && !isNil ms && isE F N sc o x && isEs F N sc ms xs) = true := h
        simp only [Bool.and_eq_true, decide_eq_true_eq, Bool.not_eq_true'] at h
        obtain ⟨⟨⟨⟨⟨⟨rfl, hsu⟩, hl⟩, hlen⟩, hn⟩, ho⟩, hs⟩ := h
        have qo := (sndE hF o X W N sc x gd hN hsc ho).1
        have qa := (sndEs hF ms X W N sc xs gd hN hsc hs).1
        have st := isEs_star hs
        cases xs with
        | nil =>
          cases ms with
          | nil => cases hn
          | cons m r => cases hs
        | cons x0 xs =>
          have q : PE X (.Call (.Attribute x (mkN m) ap) (x0 :: xs) [] pos) (SemN X.K ca H0 W (ev T (.meth m o ms))) := by
            cases m with
            | lindex => exact se_meth (m := .lindex) PySem.F.plainAttrs_list PySem.F.slot_list_index PySem.F.type_list_index pr_lindex (fun w H d v hd ht => by
                cases d with
                | lst ds =>
                  obtain ⟨a, vs, rfl, hs, _⟩ := hd
                  exact .inl ⟨rfl, vs, SqL.of hs⟩
                | _ => cases ht) qo qa hsu st.1 hlen hl
            | lcount => exact se_meth (m := .lcount) PySem.F.plainAttrs_list PySem.F.slot_list_count PySem.F.type_list_count pr_lcount (fun w H d v hd ht => by
                cases d with
                | lst ds =>
                  obtain ⟨a, vs, rfl, hs, _⟩ := hd
                  exact .inl ⟨rfl, vs, SqL.of hs⟩
                | _ => cases ht) qo qa hsu st.1 hlen hl
            | join => exact se_meth (m := .join) PySem.F.plainAttrs_str PySem.F.slot_str_join PySem.F.type_str_join pr_join (fun w H d v hd ht => by
                cases d with
                | str x =>
                  obtain rfl : v = .str x := hd
                  rfl
                | _ => cases ht) qo qa hsu st.1 hlen hl
          exact ⟨q, pt_byTruth q fun _ => rfl⟩
    | _ => cases h
  | .dsp kvs, X, W, N, sc, e, gd, hN, hsc, h => by
    cases e with
    | Dict ks vs pos =>
      have h : (!isNil kvs && decide (ks.length ≤ 15) && (match interE ks vs with | some es => isEs F N sc kvs es | none => false)) = true := h
      simp only [Bool.and_eq_true, decide_eq_true_eq, Bool.not_eq_true'] at h
      obtain ⟨⟨h1, h2⟩, h3⟩ := h
      split at h3
      · rename_i es he
        have q := se_dsp (pos := pos) he (sndEs hF kvs X W N sc es gd hN hsc h3).2.2 h1 (isEs_star h3).2.symm h2
        exact ⟨q, pt_byTruth q fun _ => rfl⟩
      · cases h3
    | _ => cases h
  | .dct kb, X, W, N, sc, e, gd, hN, hsc, h => by
    cases e with
    | Dict ks vs pos =>
      match ks, vs, h with
      | [], [], h =>
        have q := se_dct (ca := ca) (X := X) (H0 := H0) (W := W) (k := kb) (pos := pos)
        exact ⟨q, pt_byTruth q fun _ => rfl⟩
    | _ => cases h
  | .isi a ty, X, W, N, sc, e, gd, hN, hsc, h => by
    cases e with
    | Call fe xs kws pos =>
      match fe, xs, kws, h with
      | .Name g p, [x, .Name y p2], [], h =>
        have h : (decide (g = "isinstance") && glS sc g && decide (tyN ty = y) && decide (ty ≠ .non) && glS sc y && noStar x && isE F N sc a x) = true := h
        simp only [Bool.and_eq_true, decide_eq_true_eq] at h
        obtain ⟨⟨⟨⟨⟨⟨rfl, hg⟩, rfl⟩, hy⟩, hg2⟩, hst⟩, ha⟩ := h
        have q := se_isi (pos := pos) (p := p) (p2 := p2) hy (sndE hF a X W N sc x gd hN hsc ha).1 (gl_of hsc hg) (gd.blt _ (by simp [bltNames])) (gl_of hsc hg2) (gd.blt _ (by cases ty <;> first | exact absurd rfl hy | simp [bltNames, tyN])) (star_cons hst) (star_any _ _ rfl)
        exact ⟨q, pt_byTruth q fun _ => rfl⟩
    | _ => cases h
  | .ofset f a, X, W, N, sc, e, gd, hN, hsc, h => by
    cases e with
    | Call fe xs kws pos =>
      match fe, xs, kws, h with
      | .Name g p, [.Call (.Name y p2) [x] [] qq], [], h =>
        have h : (!F.sx && decide (sfN f = g) && glS sc g && decide (y = sfI f) && glS sc y && noStar x && isE F N sc a x) = true := h
        simp only [Bool.and_eq_true, decide_eq_true_eq, Bool.not_eq_true'] at h
        obtain ⟨⟨⟨⟨⟨⟨hx, rfl⟩, hg⟩, rfl⟩, hg2⟩, hst⟩, ha⟩ := h
        have q := se_sf (pos := pos) (p := p) (p2 := p2) (qq := qq) gd hx (f := f) (gl_of hsc hg) (gl_of hsc hg2) (sndE hF a X W N sc x gd hN hsc ha).1 (star_cons hst)
        exact ⟨q, pt_byTruth q fun _ => rfl⟩
    | _ => cases h
  | .dget o kk z, X, W, N, sc, e, gd, hN, hsc, h => by
    cases e with
    | Call fe xs kws pos =>
      match fe, xs, kws, h with
      | .Attribute x n ap, [u, v], [], h =>
        have h : (decide (n = "get") && noSup x && (ap.endLine == pos.line) && noStar u && noStar v && isE F N sc o x && isE F N sc kk u && isE F N sc z v) = true := h
        simp only [Bool.and_eq_true, decide_eq_true_eq] at h
        obtain ⟨⟨⟨⟨⟨⟨⟨rfl, hsu⟩, hl⟩, h1⟩, h2⟩, h3⟩, h4⟩, h5⟩ := h
        have q := se_dget (pos := pos) (ap := ap) (by have := gd.units; omega) (sndE hF o X W N sc x gd hN hsc h3).1 (sndE hF kk X W N sc u gd hN hsc h4).1 (sndE hF z X W N sc v gd hN hsc h5).1 hsu (by rw [List.all_cons, h1, List.all_cons, h2]; rfl) hl
        exact ⟨q, pt_byTruth q fun _ => rfl⟩
    | _ => cases h
  | .lc own elt tg kd its ifs, X, W, N, sc, e, gd, hN, hsc, h => by
    cases e with
    | ListComp el gens scope pos =>
      match gens, h with
      | [⟨te, it, fs, 0⟩], h =>
        have h : (!F.sx && blkC N sc scope own && isE F N (relS scope sc) elt el && isT scope N tg te && (slotsT tg).all (fun i => decide (i ∈ own.map (·.2))) &&
          (match (generalizing := false) fs with | [] => isAbs ifs | [f] => !isAbs ifs && isE F N (relS scope sc) ifs f | _ => false) && decide (lenEX its = ikL kd) && isEs F N sc its (itArgs sc kd te it)) = true := h
        simp only [Bool.and_eq_true, decide_eq_true_eq, Bool.not_eq_true'] at h
        obtain ⟨⟨⟨⟨⟨⟨⟨hx, hb⟩, hel⟩, htg⟩, hsl⟩, hif⟩, hlen⟩, hit⟩ := h
        have he := fun (s : Shared) (H : Hp) (C : Addr) (cl : List (Str × Addr)) (fp : List Addr) => (sndE hF elt (X.blk s H scope (compEnvC scope cl C X.env) fp) _ N (relS scope sc) el (gd.blk hx s H scope _ fp) hN (blk_sc hsc s H C cl fp) hel).1
        have ht : ∀ (s : Shared) (H : Hp) (C : Addr) (cl : List (Str × Addr)) (fp : List Addr), PTs (X.blk s H scope (compEnvC scope cl C X.env) fp) fs (SemT X.K ca H0 (fun _ _ _ _ => False) (if isAbs ifs then fun _ c => some (.ok true, c) else evT T ifs)) := fun s H C cl fp => by
          match fs, hif with
          | [], hif => exact pts_abs hif
          | [f], hif =>
            have hif : (!isAbs ifs && isE F N (relS scope sc) ifs f) = true := hif
            rw [Bool.and_eq_true, Bool.not_eq_true'] at hif
            rw [hif.1]
            exact pts_one (sndE hF ifs (X.blk s H scope (compEnvC scope cl C X.env) fp) _ N (relS scope sc) f (gd.blk hx s H scope _ fp) hN (blk_sc hsc s H C cl fp) hif.2).2
        have q := lc_ok (pos := pos) gd hx hN hsc hb htg hsl he ht (isEs_star hit) hlen (sndEs hF its X W N sc _ gd hN hsc hit).1 (fun hk m hm => by
          subst hk
          exact (sndEs hF its X W N sc _ gd hN hsc hit).2.1 m it hm (seq_args rfl (by rw [(isEs_star hit).2, hlen]; rfl)))
        exact ⟨q, pt_byTruth q fun _ => rfl⟩
    | _ => cases h
  | .dsp1 kk vv, X, W, N, sc, e, gd, hN, hsc, h => by
    cases e with
    | Dict ks vs pos =>
      match ks, vs, h with
      | [some x], [y], h =>
        have h : (isE F N sc kk x && isE F N sc vv y) = true := h
        rw [Bool.and_eq_true] at h
        have q := se_dsp1 (pos := pos) (by have := gd.units; omega) (sndE hF kk X W N sc x gd hN hsc h.1).1 (sndE hF vv X W N sc y gd hN hsc h.2).1
        exact ⟨q, pt_byTruth q fun _ => rfl⟩
    | _ => cases h
  | .lc2 own elt tg kd its tg1 it1, X, W, N, sc, e, gd, hN, hsc, h => by
    cases e with
    | ListComp el gens scope pos =>
      match gens, h with
      | [⟨te, it, [], 0⟩, ⟨te1, i1, [], 0⟩], h =>
        have h : (!F.sx && blkC N sc scope own && isE F N (relS scope sc) elt el && isT scope N tg te && isT scope N tg1 te1 && (slotsT tg).all (fun i => decide (i ∈ own.map (·.2))) && (slotsT tg1).all (fun i => decide (i ∈ own.map (·.2))) &&
          decide (lenEX its = ikL kd) && isEs F N sc its (itArgs sc kd te it) && noSet i1 && isE F N (relS scope sc) it1 i1) = true := h
        simp only [Bool.and_eq_true, decide_eq_true_eq, Bool.not_eq_true'] at h
        obtain ⟨⟨⟨⟨⟨⟨⟨⟨⟨⟨hx, hb⟩, hel⟩, htg⟩, htg1⟩, hsl⟩, hsl1⟩, hlen⟩, hit⟩, hns⟩, hi1⟩ := h
        have he := fun (s : Shared) (H : Hp) (C : Addr) (cl : List (Str × Addr)) (fp : List Addr) => (sndE hF elt (X.blk s H scope (compEnvC scope cl C X.env) fp) _ N (relS scope sc) el (gd.blk hx s H scope _ fp) hN (blk_sc hsc s H C cl fp) hel).1
        have hy := fun (s : Shared) (H : Hp) (C : Addr) (cl : List (Str × Addr)) (fp : List Addr) => (sndE hF it1 (X.blk s H scope (compEnvC scope cl C X.env) fp) _ N (relS scope sc) i1 (gd.blk hx s H scope _ fp) hN (blk_sc hsc s H C cl fp) hi1).1
        have q := lc2_ok (pos := pos) gd hx hN hsc hb htg htg1 hsl hsl1 he hy hns (isEs_star hit) hlen (sndEs hF its X W N sc _ gd hN hsc hit).1 (fun hk m hm => by
          subst hk
          exact (sndEs hF its X W N sc _ gd hN hsc hit).2.1 m it hm (seq_args rfl (by rw [(isEs_star hit).2, hlen]; rfl)))
        exact ⟨q, pt_byTruth q fun _ => rfl⟩
    | _ => cases h
  | .exis i ds cs tt, X, W, N, sc, e, gd, hN, hsc, h => by
    cases e with
    | Call fe xs kws pos =>
      match fe, xs, kws, h with
      | .Name g p, [.Name x px, ce], [], h =>
        have h : (F.sx && ownX F ds && decide (g = "isinstance") && glS sc g && decide (N[i]? = some x) && visS sc x && !(x == ("__debug__" : Str)) && !(x == ("__classdict__" : Str)) && clsE F sc tt cs ce) = true := h
        simp only [Bool.and_eq_true, decide_eq_true_eq, Bool.not_eq_true'] at h
        obtain ⟨⟨⟨⟨⟨⟨⟨⟨hx, ho⟩, rfl⟩, hg⟩, hi⟩, hv⟩, hd⟩, hcd⟩, hc⟩ := h
        have q := se_exis (H0 := H0) (pos := pos) (p := p) (px := px) gd hx ho (gl_of hsc hg) (by rw [hN]; exact hi) (vis_of hsc hv) hd hcd hsc hc
        exact ⟨q, pt_byTruth q fun _ => rfl⟩
    | _ => cases h
  | .exfd i ds g, X, W, N, sc, e, gd, hN, hsc, h => by
    cases e with
    | Attribute o n pos =>
      match o, h with
      | .Name x px, h =>
        have h : (F.sx && fldX F g ds && decide (g = n) && decide (N[i]? = some x) && visS sc x && !(x == ("__debug__" : Str)) && !(x == ("__classdict__" : Str))) = true := h
        simp only [Bool.and_eq_true, decide_eq_true_eq, Bool.not_eq_true'] at h
        obtain ⟨⟨⟨⟨⟨⟨hx, ho⟩, rfl⟩, hi⟩, hv⟩, hd⟩, hcd⟩ := h
        have q := se_exfd (H0 := H0) (pos := pos) (px := px) gd hx ho (by rw [hN]; exact hi) (vis_of hsc hv) hd hcd
        exact ⟨q, pt_byTruth q fun _ => rfl⟩
    | _ => cases h
  | .absent, X, W, N, sc, e, gd, hN, hsc, h => by cases e <;> cases h
theorem sndEs (hF : ∀ f g, lookN F f = some g → (T f).isSome = true) : ∀ (ms : EXs) (X : Cx) (W : WX) (N : List Str) (sc : Scope) (es : List Expr), Gd ca F T k W X → X.N = N → X.env.scope = sc → isEs F N sc ms es = true → PA X es (SemB X.K ca H0 W (evs T ms)) ∧ (∀ m e, ms = .cons m .nil → es = [e] → PE X e (SemN X.K ca H0 W (ev T m))) ∧ pesE X ca H0 W T ms es
  | .nil, X, W, N, sc, es, gd, hN, hsc, h => by
    cases es with
    | nil => exact ⟨sa_nil, fun m e z => (by cases z), True.intro⟩
    | cons e es => cases h
  | .cons m r, X, W, N, sc, es, gd, hN, hsc, h => by
    cases es with
    | nil => cases h
    | cons e es =>
      have h : (noStar e && isE F N sc m e && isEs F N sc r es) = true := h
      rw [Bool.and_eq_true, Bool.and_eq_true] at h
      have q := (sndE hF m X W N sc e gd hN hsc h.1.2).1
      have qs := sndEs hF r X W N sc es gd hN hsc h.2
      exact ⟨sa_cons q qs.1 (star_cons h.1.1), fun m' e' z1 z2 => (by cases z1; cases z2; exact q), q, qs.2.2⟩
end
end
end Eng

/-! Eng16: statements of the small language -/
namespace Eng
open PySem PySem.Spec PyProof.Rows L2

/-- methods that change their object -/
inductive MM where
  | append | reverse | extend | insert | clear | pop
  deriving DecidableEq
mutual
inductive ST where
  | asg (tg : TG) (e : EX)
  | star (ts : TGs) (e : EX)
  | own (i : Nat) (e : EX)
  | cell (i : Nat) (e : EX)
  | par (i j : Nat) (a b : EX)
  | parA (i j : Nat) (es : EXs)
  | parB (i j l : Nat) (es : EXs)
  | aug (i : Nat) (op : Operator) (e : EX)
  | mut (m : MM) (o : EX) (es : EXs)
  | sset (o k v : EX)
  | saug (o k : EX) (op : Operator) (v : EX)
  | expr (e : EX)
  | ifs (t : EX) (a b : STs)
  | forS (tg : TG) (k : IK) (its : EXs) (body : STs)
  | forC (tg : TG) (e : EX) (body : STs)
  | whl (t : EX) (body : STs)
  | ret (e : EX)
  | retN | brk | cnt | pass | never
  | raise (c : Nat) (g : Option Str) (es : EXs)
  | tryS (body : STs) (ds : List Nat) (c : Nat) (i : Option Nat) (suite : STs)
inductive STs where
  | nil
  | cons (s : ST) (r : STs)
  | frz (i : Nat) (r : STs)
end
def stB {α : Type} (m : Ans α) (ρ : Rho) (k : α → Cells → AnsS) : AnsS :=
  match m with
  | none => none
  | some (.ok a, c) => k a c
  | some (.ex x, c) => some (.ex x, ρ, c)
@[simp] theorem stB_ok {α : Type} (a : α) (c : Cells) (ρ : Rho) (k : α → Cells → AnsS) : stB (some (.ok a, c)) ρ k = k a c := rfl
@[simp] theorem stB_none {α : Type} (ρ : Rho) (k : α → Cells → AnsS) : stB (none : Ans α) ρ k = none := rfl
@[simp] theorem stB_ex {α : Type} (x : D) (c : Cells) (ρ : Rho) (k : α → Cells → AnsS) : stB (some (.ex x, c) : Ans α) ρ k = some (.ex x, ρ, c) := rfl
def putL (x d : D) (ρ : Rho) (c : Cells) : AnsS :=
  match x with
  | .slot i => some (.nx, ρ.set i (.own d), c)
  | .cell n => some (.nx, ρ, c.set n (some d))
  | _ => none
def mutF : MM → D → List D → Option D
  | .append, .lst xs, [d] => if xs.length < sizeLine then some (.lst (xs ++ [d])) else none
  | .extend, .lst xs, [.lst ys] => if xs.length + ys.length ≤ sizeLine then some (.lst (xs ++ ys)) else none
  | .insert, .lst xs, [.int i, d] => if xs.length < sizeLine ∧ 0 ≤ i ∧ i < 9223372036854775808 then some (.lst (xs.take i.toNat ++ [d] ++ xs.drop i.toNat)) else none
  | .reverse, .lst xs, [] => some (.lst xs.reverse)
  | .clear, .lst _, [] => some (.lst [])
  | .pop, .lst xs, [] => if xs.length = 0 then none else some (.lst xs.dropLast)
  | _, _, _ => none
def setF : D → D → D → Option D
  | .lst xs, .int i, v => (ixN xs.length i).map fun j => .lst (xs.set j v)
  | .dK ks vs, k, v => if ks.length < sizeLine then (keyD k).map fun k => .dK (dputK ks k) (dputV ks vs k v) else none
  | .dT ks vs, .tup k, v => if ks.length < sizeLine then (keysD k).map fun k => .dT (dputK ks k) (dputV ks vs k v) else none
  | _, _, _ => none
def getF : D → D → Option D
  | .lst xs, .int i => atI xs i
  | .dK ks vs, k => (keyD k).bind (dget ks vs)
  | .dT ks vs, .tup k => (keysD k).bind (dget ks vs)
  | _, _ => none
def getO (a b : Option D) : Option D := match a, b with
  | some d, some q => getF d q
  | _, _ => none
def ipF : Operator → D → D → Option D
  | .Add, .int i, .int j => some (.int (i + j))
  | .Sub, .int i, .int j => some (.int (i - j))
  | _, _, _ => none
def valR (ρ : Rho) (i : Nat) : Option D := match ρ[i]? with
  | some (.val d) => some d
  | _ => none
def ownR (ρ : Rho) (i : Nat) : Option D := match ρ[i]? with
  | some (.own d) => some d
  | _ => none
def bindS (tg : TG) (d : D) (ρ : Rho) (c : Cells) : AnsS := match bindT tg d ρ with
  | some ρ' => some (.nx, ρ', c)
  | none => none
/-- a new object is the slot's own, any other value a value -/
def ownF (i : Nat) (d : D × Bool) (ρ : Rho) (c : Cells) : AnsS :=
  if decide (i < ρ.length) then (if d.2 && isObjD d.1 then some (.nx, ρ.set i (.own d.1), c) else if sol d.1 then some (.nx, ρ.set i (.val d.1), c) else none) else none
def cellF (i : Nat) (d : D × Bool) (ρ : Rho) (c : Cells) : AnsS :=
  if d.2 && decide (i < ρ.length) && isObjD d.1 then some (.nx, ρ.set i (.val (.cell c.length)), c ++ [some d.1]) else none
def parF (i j : Nat) : List D → Rho → Cells → AnsS
  | [x, y], ρ, c => if sol x && sol y && decide (i < ρ.length) && decide (j < ρ.length) then some (.nx, (ρ.set i (.val x)).set j (.val y), c) else none
  | _, _, _ => none
/-- what a row of targets is given: own objects and values -/
def nrmD (d : D × Bool) : Option (D × Bool) := if d.2 && isObjD d.1 then some (d.1, true) else if sol d.1 then some (d.1, false) else none
def evsO (T : FT) : EXs → Rho → Cells → Ans (List (D × Bool))
  | .nil, _, c => some (.ok [], c)
  | .cons e r, ρ, c => bnd (ev T e ρ c) fun d c => bnd (liftO (nrmD d) c) fun x c => bnd (evsO T r ρ c) fun xs c => some (.ok (x :: xs), c)
def putO : D × Bool → Sl
  | (d, true) => .own d
  | (d, false) => .val d
def putN : List Nat → List (D × Bool) → Rho → Option Rho
  | [], [], ρ => some ρ
  | i :: is, d :: ds, ρ => if i < ρ.length then putN is ds (ρ.set i (putO d)) else none
  | _, _, _ => none
def parG (is : List Nat) (ds : List (D × Bool)) (ρ : Rho) (c : Cells) : AnsS := match putN is ds ρ with
  | some ρ' => some (.nx, ρ', c)
  | none => none
/-- what a turn of a loop leads to -/
def turnS (r : AnsS) (next : Rho → Cells → AnsS) : AnsS := match r with
  | some (.nx, ρ, c) => next ρ c
  | some (.ct, ρ, c) => next ρ c
  | some (.bk, ρ, c) => some (.nx, ρ, c)
  | r => r
def forL (tg : TG) (body : Rho → Cells → AnsS) : List D → Rho → Cells → AnsS
  | [], ρ, c => some (.nx, ρ, c)
  | x :: xs, ρ, c => match bindT tg x ρ with
    | none => none
    | some ρ1 => turnS (body ρ1 c) (forL tg body xs)
/-- over a shared list, as it stands at each turn -/
def forC (tg : TG) (body : Rho → Cells → AnsS) (n : Nat) : Nat → Nat → Rho → Cells → AnsS
  | 0, _, _, _ => none
  | m + 1, i, ρ, c => match c[n]? with
    | some (some (.lst ys)) => match ys[i]? with
      | none => some (.nx, ρ, c)
      | some x => match bindT tg x ρ with
        | none => none
        | some ρ1 => turnS (body ρ1 c) (forC tg body n m (i + 1))
    | _ => none
def whlL (test : Rho → Cells → Ans Bool) (body : Rho → Cells → AnsS) : Nat → Rho → Cells → AnsS
  | 0, _, _ => none
  | n + 1, ρ, c => stB (test ρ c) ρ fun k c => if k then turnS (body ρ c) (whlL test body n) else some (.nx, ρ, c)
def seqS (r : AnsS) (next : Rho → Cells → AnsS) : AnsS := match r with
  | some (.nx, ρ, c) => next ρ c
  | r => r
def retS (d : D) (fr : Bool) (ρ : Rho) (c : Cells) : AnsS := match d with
  | .slot i => match ρ[i]? with
    | some (.own d) => some (.rt d true, ρ, c)
    | _ => none
  | d => some (.rt d fr, ρ, c)
def wfuel : Nat := 1000000000
def forD (tg : TG) (body : Rho → Cells → AnsS) (d : D) (ρ : Rho) (c : Cells) : AnsS := match d with
  | .cell n => forC tg body n wfuel 0 ρ c
  | _ => none
def frzR (ρ : Rho) (i : Nat) : Rho := match ρ[i]? with
  | some (.own d) => ρ.set i (.val d)
  | _ => ρ

/-- n names, and a list of what is left of a tuple -/
def starT (ts : TGs) (d : D) (ρ : Rho) : Option Rho := match d with
  | .tup ds => if numT ts - 1 ≤ ds.length ∧ ds.length ≤ 16384 then bindTs ts (ds.take (numT ts - 1) ++ [.lst (ds.drop (numT ts - 1))]) ρ else none
  | _ => none
def starS (ts : TGs) (d : D) (ρ : Rho) (c : Cells) : AnsS := match starT ts d ρ with
  | some ρ' => some (.nx, ρ', c)
  | none => none
/-- no slot holds what a suite holds -/
def noX (ρ : Rho) : Bool := ρ.all fun s => match s with
  | .exc _ => false
  | _ => true
def nmL : Option Str → List Str
  | some g => [g]
  | none => []
def raiseF (c : Nat) (g : Option Str) (ds : List D) (ρ : Rho) (k : Cells) : AnsS := if solL ds && decide (ds.length = (nmL g).length) then some (.ex (.ins c (nmL g) ds), ρ, k) else none
/-- the slot of the clause's name -/
def inX (i : Option Nat) (x : D) (ρ : Rho) : Rho := match i with
  | some i => ρ.set i (.exc x)
  | none => ρ
def outX (i : Option Nat) (ρ : Rho) : Rho := match i with
  | some i => ρ.set i .non
  | none => ρ
def endX (i : Option Nat) : AnsS → AnsS
  | none => none
  | some (.ex _, _, _) => none
  | some (fl, ρ, c) => if noX (outX i ρ) then some (fl, outX i ρ, c) else none
def tryF (ds : List Nat) (cl : Nat) (i : Option Nat) (suite : Rho → Cells → AnsS) : AnsS → AnsS
  | some (.ex (.ins d nm vs), ρ, c) => if ds.contains d then (if isaX d cl then (if noX ρ then endX i (suite (inX i (.ins d nm vs) ρ) c) else none) else some (.ex (.ins d nm vs), ρ, c)) else none
  | some (.ex _, _, _) => none
  | r => r
mutual
def exS (T : FT) : ST → Rho → Cells → AnsS
  | .asg tg e, ρ, c => stB (fstM (ev T e ρ c)) ρ fun d c => bindS tg d ρ c
  | .star ts e, ρ, c => stB (fstM (ev T e ρ c)) ρ fun d c => starS ts d ρ c
  | .own i e, ρ, c => stB (ev T e ρ c) ρ fun d c => ownF i d ρ c
  | .cell i e, ρ, c => stB (ev T e ρ c) ρ fun d c => cellF i d ρ c
  | .par i j a b, ρ, c => stB (evs T (.cons a (.cons b .nil)) ρ c) ρ fun ds c => parF i j ds ρ c
  | .parA i j es, ρ, c => stB (evsO T es ρ c) ρ fun ds c => parG [i, j] ds ρ c
  | .parB i j l es, ρ, c => stB (evsO T es ρ c) ρ fun ds c => parG [i, j, l] ds ρ c
  | .aug i op e, ρ, c => match valR ρ i with
    | some x => stB (fstM (ev T e ρ c)) ρ fun y c => match ipF op x y with
      | some z => some (.nx, ρ.set i (.val z), c)
      | none => none
    | none => none
  | .mut m o es, ρ, c => stB (fstM (ev T o ρ c)) ρ fun x c => match derS ρ c x with
    | some (.lst _) => stB (evs T es ρ c) ρ fun ds c => if solL ds then match derS ρ c x with
      | some d => match mutF m d ds with
        | some d' => putL x d' ρ c
        | none => none
      | none => none
      else none
    | _ => none
  | .sset o k v, ρ, c => stB (fstM (ev T v ρ c)) ρ fun y c => stB (fstM (ev T o ρ c)) ρ fun x c => stB (fstM (ev T k ρ c)) ρ fun z c => if sol y then match derS ρ c x, derS ρ c z with
    | some d, some q => match setF d q y with
      | some d' => putL x d' ρ c
      | none => none
    | _, _ => none
    else none
  | .saug o k op v, ρ, c => stB (fstM (ev T o ρ c)) ρ fun x c => stB (fstM (ev T k ρ c)) ρ fun z c => match getO (derS ρ c x) (derS ρ c z) with
    | some old => stB (fstM (ev T v ρ c)) ρ fun y c => match ipF op old y, derS ρ c x, derS ρ c z with
      | some u, some d, some q => match setF d q u with
        | some d' => putL x d' ρ c
        | none => none
      | _, _, _ => none
    | none => none
  | .expr e, ρ, c => stB (fstM (ev T e ρ c)) ρ fun _ c => some (.nx, ρ, c)
  | .ifs t a b, ρ, c => stB (evT T t ρ c) ρ fun k c => if k then exSs T a ρ c else exSs T b ρ c
  | .forS tg k its body, ρ, c => stB (evI k (evs T its) ρ c) ρ fun xs c => forL tg (exSs T body) xs ρ c
  | .forC tg e body, ρ, c => stB (fstM (ev T e ρ c)) ρ fun d c => forD tg (exSs T body) d ρ c
  | .whl t body, ρ, c => whlL (evT T t) (exSs T body) wfuel ρ c
  | .ret e, ρ, c => stB (ev T e ρ c) ρ fun d c => retS d.1 d.2 ρ c
  | .retN, ρ, c => some (.rt .non false, ρ, c)
  | .brk, ρ, c => some (.bk, ρ, c)
  | .cnt, ρ, c => some (.ct, ρ, c)
  | .pass, ρ, c => some (.nx, ρ, c)
  | .never, _, _ => none
  | .raise cl g es, ρ, c => stB (evs T es ρ c) ρ fun ds c => raiseF cl g ds ρ c
  | .tryS body ds cl i suite, ρ, c => tryF ds cl i (exSs T suite) (exSs T body ρ c)
def exSs (T : FT) : STs → Rho → Cells → AnsS
  | .nil, ρ, c => some (.nx, ρ, c)
  | .cons s r, ρ, c => seqS (exS T s ρ c) fun ρ c => exSs T r ρ c
  | .frz i r, ρ, c => exSs T r (frzR ρ i) c
end

/-! ### which Python -/
def mmN : MM → Str
  | .append => "append" | .reverse => "reverse" | .extend => "extend" | .insert => "insert" | .clear => "clear" | .pop => "pop"
def mmA : MM → Nat
  | .append => 1 | .reverse => 0 | .extend => 1 | .insert => 2 | .clear => 0 | .pop => 0
def noComp : Expr → Bool
  | .ListComp .. => false
  | .SetComp .. => false
  | .DictComp .. => false
  | _ => true
/-- no pair on both sides -/
def noPair (sc : Scope) (t v : Expr) : Bool := match t, v with
  | .Tuple ts _ _, .Tuple _ _ _ => ts.any fun e => match e with
    | .Name y _ => !(sc.names.lookup y == some .local)
    | _ => true
  | .List _ _, .Tuple _ _ _ => false
  | _, _ => true
/-- the value is stored in a plain name -/
def compOk (sc : Scope) (v : Expr) : Bool := match v with
  | .ListComp .. => sc.kind == .function
  | v => noComp v
def parC (sc : Scope) (x y : Str) (px py : Pos) (a b : Expr) : Bool :=
  (sc.kind == .function) && (sc.names.lookup x == some .local) && (sc.names.lookup y == some .local) && (py.line == px.line) && !(x == y) && noStar a && noStar b && !([a, b].all (foldedForSure 8)) && !([a, b].all (constantsAlone 8))
def parC3 (sc : Scope) (x y z : Str) (px py pz : Pos) (a b c : Expr) : Bool :=
  (sc.kind == .function) && (sc.names.lookup x == some .local) && (sc.names.lookup y == some .local) && (sc.names.lookup z == some .local) && (py.line == px.line) && (pz.line == px.line) && !(x == y) && !(x == z) && !(y == z) && noStar a && noStar b && noStar c && !([a, b, c].all (foldedForSure 8)) && !([a, b, c].all (constantsAlone 8))
def noTupE : Expr → Bool
  | .Tuple _ _ _ => false
  | _ => true
def clsX (F : FN) (sc : Scope) (c : Nat) (g : Option Str) (x : Str) : Bool := decide (2 ≤ c) && decide (lookX F.x c = some (x, g)) && glS sc x && !(x == ("__debug__" : Str))
def excN (N : List Str) (sc : Scope) : Option Nat → Option Str → Bool
  | some i, some n => decide (N[i]? = some n) && (sc.names.lookup n == some .local)
  | none, none => true
  | _, _ => false
mutual
def isS (F : FN) (N : List Str) (sc : Scope) : ST → Stmt → Bool
  | .asg tg e, .Assign [t] v _ => isT sc N tg t && isE F N sc e v && (match tg with | .nm _ => compOk sc v | .tp _ => !F.sx && noComp v && noPair sc t v)
  | .star ts e, .Assign [.Tuple es _ _] v _ => !F.sx && (match unStar es with | some fs => isTs sc N ts fs | none => false) && isE F N sc e v && noComp v && noTupE v
  | .own i e, .Assign [t] v _ => isT sc N (.nm i) t && isE F N sc e v && compOk sc v
  | .cell i e, .Assign [t] v _ => isT sc N (.nm i) t && isE F N sc e v && compOk sc v
  | .par i j a b, .Assign [.Tuple [.Name x px, .Name y py] _ _] (.Tuple [u, v] _ _) _ => !F.sx && decide (N[i]? = some x) && decide (N[j]? = some y) && !(i == j) && isEs F N sc (.cons a (.cons b .nil)) [u, v] && parC sc x y px py u v
  | .parA i j es, .Assign [.Tuple [.Name x px, .Name y py] _ _] (.Tuple [u, v] _ _) _ => !F.sx && decide (N[i]? = some x) && decide (N[j]? = some y) && !(i == j) && isEs F N sc es [u, v] && parC sc x y px py u v
  | .parB i j l es, .Assign [.Tuple [.Name x px, .Name y py, .Name z pz] _ _] (.Tuple [u, v, t] _ _) _ => !F.sx && decide (N[i]? = some x) && decide (N[j]? = some y) && decide (N[l]? = some z) && !(i == j) && !(i == l) && !(j == l) && isEs F N sc es [u, v, t] && parC3 sc x y z px py pz u v t
  | .aug i op e, .AugAssign (.Name x _) op' v _ => decide (N[i]? = some x) && locS sc x && decide (op = op') && (decide (op = .Add) || decide (op = .Sub)) && isE F N sc e v
  | .mut m o es, .Expr (.Call (.Attribute x n ap) xs [] cp) _ => decide (mmN m = n) && noSup x && (ap.endLine == cp.line) && decide (xs.length < 29) && decide (lenEX es = mmA m) && isE F N sc o x && isEs F N sc es xs
  | .sset o k v, .Assign [.Subscript x y _] z _ => isE F N sc o x && isE F N sc k y && isE F N sc v z && noSl y && noComp z
  | .saug o k op v, .AugAssign (.Subscript x y _) op' z _ => decide (op = op') && (decide (op = .Add) || decide (op = .Sub)) && isE F N sc o x && isE F N sc k y && isE F N sc v z && noSl y
  | .expr e, .Expr v _ => isE F N sc e v && noComp v
  | .ifs t a b, .If c x y _ => isE F N sc t c && isSs F N sc a x && isSs F N sc b y
  | .forS tg k its body, .For t it x [] _ => !F.sx && isT sc N tg t && decide (lenEX its = ikL k) && isEs F N sc its (itArgs sc k t it) && isSs F N sc body x
  | .forC tg e body, .For t it x [] _ => !F.sx && isT sc N tg t && noSet it && isE F N sc e it && isSs F N sc body x
  | .whl t body, .While c x [] _ => isE F N sc t c && isSs F N sc body x
  | .ret e, .Return (some v) _ => isE F N sc e v
  | .retN, .Return none _ => true
  | .brk, .Break _ => true
  | .cnt, .Continue _ => true
  | .pass, .Pass _ => true
  | .never, _ => true
  | .raise c g es, .Raise (some (.Call (.Name x _) xs [] _)) none _ => !F.sx && clsX F sc c g x && decide (lenEX es = (nmL g).length) && isEs F N sc es xs
  | .tryS body ds c i suite, .Try b [.ExceptHandler (some (.Name x _)) n (st :: sts) _] [] [] _ => !F.sx && clsN F sc c x && ownX F ds && excN N sc i n && isSs F N sc body b && isSs F.hot N sc suite (st :: sts)
  | _, _ => false
def isSs (F : FN) (N : List Str) (sc : Scope) : STs → List Stmt → Bool
  | .nil, [] => true
  | .cons s r, st :: sts => isS F N sc s st && isSs F N sc r sts
  | .frz _ r, sts => isSs F N sc r sts
  | _, _ => false
end
end Eng

/-! Eng17: statements compute what the small machine computes: the parts -/
namespace Eng
open PySem PySem.Spec PyProof.Rows L2
section
variable {K : PySem.W.Frag} {ca : CA} {w w1 w2 w' : Wd} {c c1 c2 c' : Cells} {T H0 H H1 H2 H' : Hp} {ρ ρ' : Rho} {σ σ' : L2.St} {W : WQ} {α : Type} {Dn : Ends}
theorem RunS.bnd {m : Ans α} {k : α → Cells → AnsS} (rho : RhoR K ca w c H0 H ρ σ) (run : RunS K ca H0 W w c H (stB m ρ k) Dn) :
    Run K ca (fun cls dx H' => W cls dx σ H') w c H m fun a w1 c1 H1 => Ext H w c H w1 c1 H1 → RunS K ca H0 W w1 c1 H1 (k a c1) Dn := by
  obtain ⟨fl, ρ', c', e, h⟩ := run
  rcases m with _ | ⟨⟨a⟩ | ⟨x⟩, c1⟩
  · cases e
  · refine ⟨_, _, rfl, fun a' ea w1 H1 rel ext ext' => ?_, fun x z => (by cases z)⟩
    cases ea
    exact ⟨fl, ρ', c', e, fun w2 H2 σ2 rel2 ext2 rho2 => h w2 H2 σ2 rel2 ((ext.wk rho.trk).trans ext2 fun _ z => z) rho2⟩
  · cases e
    refine ⟨_, _, rfl, fun a z => (by cases z), fun x' ex cls dx w' H' rel ext exr => ?_⟩
    cases ex
    exact h w' H' σ rel (ext.wk rho.trk) (rho.ext ext) cls dx (exr.mono rho.trk)
theorem RunS.step {res : AnsS} (run : RunS K ca H0 W w c H res Dn) (x : Ext H0 w c H w1 c1 H1) : RunS K ca H0 W w1 c1 H1 res Dn := by
  obtain ⟨fl, ρ', c', e, h⟩ := run
  exact ⟨fl, ρ', c', e, fun w2 H2 σ2 rel2 ext2 rho2 => h w2 H2 σ2 rel2 (x.trans ext2 fun _ z => z) rho2⟩
theorem RunS.now {fl : Fl} (run : RunS K ca H0 W w c H (some (fl, ρ', c')) Dn) (rel : Rel K ca w' c' H') (ext : Ext H0 w c H w' c' H') (rho : RhoR K ca w' c' H0 H' ρ' σ') : FlQ K ca H0 W Dn w' c' H' σ' fl := by
  obtain ⟨fl, ρ', c', e, h⟩ := run
  cases e
  exact h w' H' σ' rel ext rho
theorem RunS.here {fl : Fl} (run : RunS K ca H0 W w c H (some (fl, ρ', c)) Dn) (rel : Rel K ca w c H) (rho : RhoR K ca w c H0 H ρ' σ') : FlQ K ca H0 W Dn w c H σ' fl := run.now rel (.refl rel rho.trk) rho
theorem RunS.nope (run : RunS K ca H0 W w c H none Dn) : False := by
  obtain ⟨fl, ρ', c', e, h⟩ := run
  cases e
theorem RunS.turn {r : AnsS} {next : Rho → Cells → AnsS} {N : L2.St → Hp → Prop} (run : RunS K ca H0 W w c H (turnS r next) Dn)
    (hN : ∀ w' c' H' ρ' σ', Rel K ca w' c' H' → Ext H0 w c H w' c' H' → RhoR K ca w' c' H0 H' ρ' σ' → RunS K ca H0 W w' c' H' (next ρ' c') Dn → N σ' H') : RunS K ca H0 W w c H r { Dn with nx := N, ct := N, bk := Dn.nx } := by
  rcases r with _ | ⟨fl, ρ', c'⟩
  · exact run.nope.elim
  · refine ⟨fl, ρ', c', rfl, fun w' H' σ' rel ext rho => ?_⟩
    cases fl with
    | nx => exact hN w' c' H' ρ' σ' rel ext rho (RunS.step run ext)
    | ct => exact hN w' c' H' ρ' σ' rel ext rho (RunS.step run ext)
    | bk => exact RunS.now (fl := .nx) run rel ext rho
    | rt d fr => exact (show FlQ K ca H0 W Dn w' c' H' σ' (.rt d fr) from RunS.now (fl := .rt d fr) run rel ext rho)
    | ex x => exact (show FlQ K ca H0 W Dn w' c' H' σ' (.ex x) from RunS.now (fl := .ex x) run rel ext rho)
theorem RunS.seq {r : AnsS} {next : Rho → Cells → AnsS} {N : L2.St → Hp → Prop} (run : RunS K ca H0 W w c H (seqS r next) Dn)
    (hN : ∀ w' c' H' ρ' σ', Rel K ca w' c' H' → Ext H0 w c H w' c' H' → RhoR K ca w' c' H0 H' ρ' σ' → RunS K ca H0 W w' c' H' (next ρ' c') Dn → N σ' H') : RunS K ca H0 W w c H r { Dn with nx := N } := by
  rcases r with _ | ⟨fl, ρ', c'⟩
  · exact run.nope.elim
  · refine ⟨fl, ρ', c', rfl, fun w' H' σ' rel ext rho => ?_⟩
    cases fl with
    | nx => exact hN w' c' H' ρ' σ' rel ext rho (RunS.step run ext)
    | ct => exact (show FlQ K ca H0 W Dn w' c' H' σ' (.ct) from RunS.now (fl := .ct) run rel ext rho)
    | bk => exact (show FlQ K ca H0 W Dn w' c' H' σ' (.bk) from RunS.now (fl := .bk) run rel ext rho)
    | rt d fr => exact (show FlQ K ca H0 W Dn w' c' H' σ' (.rt d fr) from RunS.now (fl := .rt d fr) run rel ext rho)
    | ex x => exact (show FlQ K ca H0 W Dn w' c' H' σ' (.ex x) from RunS.now (fl := .ex x) run rel ext rho)
/-- a name's new object -/
theorem RhoR.setOwn (h : RhoR K ca w c H0 H ρ σ) (x : Ext H w c H w1 c1 H1) {i : Nat} {d : D} {v : V} (hi : i < ρ.length) (n : New K ca H w1 c1 H1 d v) : RhoR K ca w1 c1 H0 H1 (ρ.set i (.own d)) (σ.set i (some v)) := by
  obtain ⟨p, o, rfl, hp, ro, hS, hT, hc⟩ := n
  have h' := h.ext x
  have hσ : i < σ.length := by rw [← h.len]; exact hi
  have other : ∀ {j : Nat} {e : D}, ρ[j]? = some (.own e) → σ[j]? ≠ some (some (V.ref p)) := fun {j e} hj z => by
    obtain ⟨a, o', q1, q2, _⟩ := h.own j e hj
    rw [z] at q1
    have : p = a := by simpa using q1
    rw [← this, hT] at q2; cases q2
  refine ⟨by rw [List.length_set, List.length_set]; exact h.len, fun j e hj => ?_, fun j e hj => ?_, fun j k e f a hj hk sj sk => ?_, h'.trk, fun j e hj => ?_⟩
  · by_cases hij : i = j
    · subst hij
      rw [List.getElem?_set_self hi] at hj; cases hj
    · rw [List.getElem?_set_ne hij] at hj ⊢
      exact h'.val j e hj
  · by_cases hij : i = j
    · subst hij
      rw [List.getElem?_set_self hi] at hj
      have : d = e := by simpa using hj
      subst this
      refine ⟨p, o, List.getElem?_set_self hσ, hp, ro, hS, ?_, hc⟩
      cases q : H0 p with
      | none => rfl
      | some o' => exact absurd hT (h.trk p (by rw [q]; simp))
    · rw [List.getElem?_set_ne hij] at hj ⊢
      exact h'.own j e hj
  · by_cases hij : i = j
    · by_cases hik : i = k
      · exact hij.symm.trans hik
      · subst hij
        rw [List.getElem?_set_self hσ] at sj
        have : V.ref p = V.ref a := by simpa using sj
        rw [← this] at sk
        rw [List.getElem?_set_ne hik] at hk sk
        exact absurd sk (other hk)
    · by_cases hik : i = k
      · subst hik
        rw [List.getElem?_set_self hσ] at sk
        have : V.ref p = V.ref a := by simpa using sk
        rw [← this] at sj
        rw [List.getElem?_set_ne hij] at hj sj
        exact absurd sj (other hj)
      · rw [List.getElem?_set_ne hij] at hj sj
        rw [List.getElem?_set_ne hik] at hk sk
        exact h'.dis j k e f a hj hk sj sk
  · by_cases hij : i = j
    · subst hij
      rw [List.getElem?_set_self hi] at hj; cases hj
    · rw [List.getElem?_set_ne hij] at hj ⊢
      exact h'.exc j e hj
theorem RpL.set : ∀ {ds : List D} {vs : List V} {j : Nat} {d : D} {v : V}, RpL K ca w ds vs → Rp K ca w d v → RpL K ca w (ds.set j d) (vs.set j v)
  | [], _, _, _, _, h, _ => by cases h; rfl
  | d :: ds, vs, j, d', v', h, r => by
    obtain ⟨v, us, rfl, h1, h2⟩ := h
    cases j with
    | zero => exact ⟨v', us, rfl, r, h2⟩
    | succ j => exact ⟨v, us.set j v', rfl, h1, RpL.set h2 r⟩
/-- a change of what a slot, a cell holds -/
theorem put_ok {x d d' : D} {v : V} {o' : HO} (rel : Rel K ca w c H) (rho : RhoR K ca w c H0 H ρ σ) (ev : EV K ca w ρ σ x v) (hd : derS ρ c x = some d) (run : RunS K ca H0 W w c H (putL x d' ρ c) Dn) (hd' : RpO K ca w d' o') :
    ∃ a, v = .ref a ∧ Dn.nx σ (upd H a o') := by
  cases x with
  | slot i =>
    obtain ⟨⟨d0, hi⟩, hv⟩ := ev
    obtain ⟨a, o, q, ho, r, hS, h0, hc⟩ := rho.own i d0 hi
    rw [hv] at q; cases q
    refine ⟨a, rfl, ?_⟩
    have run : RunS K ca H0 W w c H (some (.nx, ρ.set i (.own d'), c)) Dn := run
    have hil : i < ρ.length := (List.getElem?_eq_some_iff.mp hi).1
    refine RunS.now (σ' := σ) run (rel.touch hS hc) ((Ext.refl rel rho.trk).touch h0) ⟨by rw [List.length_set]; exact rho.len, fun j e hj => ?_, fun j e hj => ?_, fun j k e f b hj hk sj sk => ?_, fun b hb => ?_, fun j e hj => ?_⟩
    · by_cases hij : i = j
      · subst hij
        rw [List.getElem?_set_self hil] at hj; cases hj
      · rw [List.getElem?_set_ne hij] at hj
        exact rho.val j e hj
    · by_cases hij : i = j
      · subst hij
        rw [List.getElem?_set_self hil] at hj
        have : d' = e := by simpa using hj
        subst this
        exact ⟨a, o', hv, upd_same, hd', hS, h0, hc⟩
      · rw [List.getElem?_set_ne hij] at hj
        obtain ⟨b, u, q1, q2, q3, q4, q5, q6⟩ := rho.own j e hj
        have ne : b ≠ a := fun z => hij (rho.dis i j d0 e a hi hj hv (by rw [q1, z]))
        exact ⟨b, u, q1, by rw [upd_ne ne]; exact q2, q3, q4, q5, q6⟩
    · have old : ∀ {j : Nat} {e : D}, (ρ.set i (.own d'))[j]? = some (.own e) → ∃ e', ρ[j]? = some (.own e') := fun {j e} hj => by
        by_cases hij : i = j
        · subst hij; exact ⟨d0, hi⟩
        · rw [List.getElem?_set_ne hij] at hj; exact ⟨e, hj⟩
      obtain ⟨e', hj'⟩ := old hj
      obtain ⟨f', hk'⟩ := old hk
      exact rho.dis j k e' f' b hj' hk' sj sk
    · by_cases hb' : b = a
      · subst hb'; rw [upd_same]; simp
      · rw [upd_ne hb']; exact rho.trk b hb
    · by_cases hij : i = j
      · subst hij
        rw [List.getElem?_set_self hil] at hj; cases hj
      · rw [List.getElem?_set_ne hij] at hj
        exact rho.exc j e hj
  | cell n =>
    obtain ⟨rfl, hn⟩ := (show v = .ref (w.al n) ∧ n < w.n from ev)
    have hl : Live c n := by
      have hd : derC c (.cell n) = some d := hd
      unfold derC at hd
      simp only at hd
      rcases q : c[n]? with _ | _ | d0
      · rw [q] at hd; cases hd
      · rw [q] at hd; cases hd
      · exact ⟨d0, q⟩
    refine ⟨_, rfl, ?_⟩
    have run : RunS K ca H0 W w c H (some (.nx, ρ, c.set n (some d'))) Dn := run
    obtain ⟨r', x'⟩ := rel.put hl hd' (T := H0) rho.trk
    refine RunS.now (σ' := σ) run r' x' ⟨rho.len, rho.val, fun j e hj => ?_, rho.dis, fun b hb => x'.trk b (rho.trk b hb), rho.exc⟩
    obtain ⟨b, u, q1, q2, q3, q4, q5, q6⟩ := rho.own j e hj
    refine ⟨b, u, q1, by rw [upd_ne (fun z => q6 n hl z.symm)]; exact q2, q3, q4, q5, fun m hm => q6 m ?_⟩
    by_cases hmn : n = m
    · subst hmn; exact hl
    · obtain ⟨z, hz⟩ := hm
      rw [List.getElem?_set_ne hmn] at hz; exact ⟨z, hz⟩
  | _ => exact run.nope.elim
/-- what is a list at the place -/
theorem ev_obj {x d : D} {v : V} {a : Addr} (rel : Rel K ca w c H) (rho : RhoR K ca w c H0 H ρ σ) (ev : EV K ca w ρ σ x v) (hd : derS ρ c x = some d) : At K ca w H d v := ev_at rel rho ev hd
end
end Eng

/-! Eng18: each statement -/
namespace Eng
open PySem PySem.Spec PyProof.Rows L2
section
variable {ca : CA} {X : Cx} {H0 : Hp} {W : WX} {f g h : Rho → Cells → Ans (D × Bool)} {fs : Rho → Cells → Ans (List D)} {pos p tpos : Pos} {F : FN} {T : FT} {k : Nat}
theorem bindT_sol : ∀ {tg : TG} {d : D} {ρ ρ' : Rho}, bindT tg d ρ = some ρ' → sol d = true
  | .nm i, d, ρ, ρ', h => by
    have h : (if (sol d && decide (i < ρ.length)) = true then some (ρ.set i (.val d)) else none) = some ρ' := h
    split at h
    · rename_i z; rw [Bool.and_eq_true] at z; exact z.1
    · cases h
  | .tp ts, d, ρ, ρ', h => by cases d <;> first | rfl | cases h
/-- target = value -/
theorem asg_run {tg : TG} {Dn : Ends} {σ : L2.St} {H : Hp} (q : SemS X.K ca H0 W (fun ρ c => stB (fstM (f ρ c)) ρ fun d c => bindS tg d ρ c) Dn σ H) : tAsg (SemE X.K ca H0 W (fE f)) (gT X.K tg) Dn σ H := by
  obtain ⟨w, ρ, c, rel, rho, run⟩ := q
  refine ⟨w, ρ, c, rel, rho, (RunS.bnd rho run).mono fun d w1 c1 H1 rel1 ext1 k v ev => ?_⟩
  have k := k ext1
  unfold bindS at k
  cases e : bindT tg d ρ with
  | none => rw [e] at k; exact k.nope.elim
  | some ρ' =>
    rw [e] at k
    exact bindT_ok rel1 tg d v ρ ρ' σ e (ev.rp (bindT_sol e)) (rho.ext ext1) fun σ' rho' _ => RunS.here k rel1 rho'
theorem star_run {ts : TGs} {n : Nat} (hn : numT ts = n + 1) {Dn : Ends} {σ : L2.St} {H : Hp} (q : SemS X.K ca H0 W (fun ρ c => stB (fstM (f ρ c)) ρ fun d c => starS ts d ρ c) Dn σ H) : tAsg (SemE X.K ca H0 W (fE f)) (gStar X.K n (gTs X.K ts)) Dn σ H := by
  obtain ⟨w, ρ, c, rel, rho, run⟩ := q
  refine ⟨w, ρ, c, rel, rho, (RunS.bnd rho run).mono fun d w1 c1 H1 rel1 ext1 k v ev => ?_⟩
  replace k := k ext1
  unfold starS at k
  cases e : starT ts d ρ with
  | none => rw [e] at k; exact k.nope.elim
  | some ρ' =>
    rw [e] at k
    cases d with
    | tup ds =>
      have e : (if numT ts - 1 ≤ ds.length ∧ ds.length ≤ 16384 then bindTs ts (ds.take (numT ts - 1) ++ [.lst (ds.drop (numT ts - 1))]) ρ else none) = some ρ' := e
      rw [hn, Nat.add_sub_cancel] at e
      by_cases hl : n ≤ ds.length ∧ ds.length ≤ 16384
      · rw [if_pos hl] at e
        obtain ⟨a, vs, rfl, hs, rp⟩ := ev.rp (show sol (.tup ds) = true from rfl)
        have hlen := rp.length
        refine ⟨a, vs, rfl, SqT.of (rel1.same _ _ hs), by omega, by omega, fun p hp => ?_⟩
        obtain ⟨rel2, ext2⟩ := rel1.lay (o := .lst (vs.drop n)) hp (T := H1) fun _ z => z
        have ext3 := ext1.trans ext2 ext1.trk
        have rpo : Rp X.K ca { w1 with S := upd w1.S p (.lst (vs.drop n)) } (.lst (ds.drop n)) (.ref p) := ⟨p, _, rfl, (by show upd w1.S p _ p = _; exact upd_same), ext2.rpl (rp.drop n)⟩
        have k2 := RunS.step k (ext2.wk (rho.ext ext1).trk)
        exact bindTs_ok rel2 ts _ _ ρ ρ' σ e ((ext2.rpl (rp.take n)).append (.one rpo)) (rho.ext ext3) fun σ' rho' _ => RunS.here k2 rel2 rho'
      · rw [if_neg hl] at e; cases e
    | _ => cases e
theorem own_run {i : Nat} {Dn : Ends} {σ : L2.St} {H : Hp} (q : SemS X.K ca H0 W (fun ρ c => stB (f ρ c) ρ fun d c => ownF i d ρ c) Dn σ H) : tAsg (SemN X.K ca H0 W f) (gName i) Dn σ H := by
  obtain ⟨w, ρ, c, rel, rho, run⟩ := q
  refine ⟨w, ρ, c, rel, rho, (RunS.bnd rho run).mono fun d w1 c1 H1 rel1 ext1 k v nv => ?_⟩
  have k := k ext1
  unfold ownF at k
  by_cases hi : decide (i < ρ.length) = true
  · rw [if_pos hi] at k
    have hi := of_decide_eq_true hi
    by_cases hc : (d.2 && isObjD d.1) = true
    · rw [if_pos hc] at k
      rw [Bool.and_eq_true] at hc
      obtain ⟨d, fr⟩ := d
      obtain rfl : fr = true := hc.1
      exact RunS.here (σ' := σ.set i (some v)) k rel1 (rho.setOwn ext1 hi nv)
    · rw [if_neg hc] at k
      by_cases hs : sol d.1 = true
      · rw [if_pos hs] at k
        obtain ⟨w2, rel2, ext2, ev⟩ := nv.keep rel1 ext1.trk
        have ext3 := ext1.trans ext2 fun _ z => z
        exact RunS.here (σ' := σ.set i (some v)) (RunS.step k (ext2.wk rho.trk)) rel2 ((rho.ext ext3).set (ev.rp hs))
      · rw [if_neg hs] at k; exact k.nope.elim
  · rw [if_neg hi] at k; exact k.nope.elim
/-- an own object comes to be a cell -/
theorem cell_run {i : Nat} {Dn : Ends} {σ : L2.St} {H : Hp} (q : SemS X.K ca H0 W (fun ρ c => stB (f ρ c) ρ fun d c => cellF i d ρ c) Dn σ H) : tAsg (SemN X.K ca H0 W f) (gName i) Dn σ H := by
  obtain ⟨w, ρ, c, rel, rho, run⟩ := q
  refine ⟨w, ρ, c, rel, rho, (RunS.bnd rho run).mono fun d w1 c1 H1 rel1 ext1 k v nv => ?_⟩
  have k := k ext1
  unfold cellF at k
  by_cases hc : (d.2 && decide (i < ρ.length) && isObjD d.1) = true
  · rw [if_pos hc] at k
    rw [Bool.and_eq_true, Bool.and_eq_true, decide_eq_true_eq] at hc
    obtain ⟨d, fr⟩ := d
    obtain rfl : fr = true := hc.1.1
    obtain ⟨p, o, rfl, hp, ro, hS, hT, hcl⟩ := nv
    have rho1 := rho.ext ext1
    have h0 : H0 p = none := by
      cases q : H0 p with
      | none => rfl
      | some o' => exact absurd hT (rho.trk p (by rw [q]; simp))
    obtain ⟨r', x'⟩ := rel1.tocell (T := H0) hp hS hcl ro h0 rho1.trk (.refl rel1 rho1.trk)
    have num : w1.n = c1.length := rel1.num
    have rho2 : RhoR X.K ca { w1 with al := fun n => if n = w1.n then p else w1.al n, n := w1.n + 1 } (c1 ++ [some d]) H0 H1 ρ σ := by
      refine ⟨rho1.len, fun j e hj => ?_, fun j e hj => ?_, rho1.dis, rho1.trk, fun j e hj => ⟨(rho1.exc j e hj).1, (rho1.exc j e hj).2.ext x'⟩⟩
      · obtain ⟨u, z1, z2⟩ := rho1.val j e hj
        exact ⟨u, z1, x'.rp z2⟩
      · obtain ⟨a, u, z1, z2, z3, z4, z5, z6⟩ := rho1.own j e hj
        refine ⟨a, u, z1, z2, x'.rpo z3, z4, z5, fun n hn => ?_⟩
        show (if n = w1.n then p else w1.al n) ≠ a
        by_cases e1 : n = w1.n
        · rw [if_pos e1]
          intro z
          obtain ⟨a', u', y1, y2, _⟩ := rho.own j e hj
          rw [y1] at z1
          have : a' = a := by simpa using z1
          rw [← z] at this
          rw [this, hT] at y2; cases y2
        · rw [if_neg e1]
          refine z6 n ?_
          obtain ⟨d', hd'⟩ := hn
          have : n < (c1 ++ [some d]).length := (List.getElem?_eq_some_iff.mp hd').1
          rw [List.length_append, List.length_singleton] at this
          rw [List.getElem?_append_left (by omega)] at hd'
          exact ⟨d', hd'⟩
    refine RunS.now (σ' := σ.set i (some (.ref p))) k r' x' (rho2.set ⟨?_, ?_⟩)
    · show V.ref p = V.ref (if c1.length = w1.n then p else _)
      rw [if_pos num.symm]
    · show c1.length < w1.n + 1
      omega
  · rw [if_neg hc] at k; exact k.nope.elim
theorem par_run {i j : Nat} {Dn : Ends} {σ : L2.St} {H : Hp} (q : SemS X.K ca H0 W (fun ρ c => stB (fs ρ c) ρ fun ds c => parF i j ds ρ c) Dn σ H) : tPar i j (SemB X.K ca H0 W fs) Dn σ H := by
  obtain ⟨w, ρ, c, rel, rho, run⟩ := q
  refine ⟨w, ρ, c, rel, rho, (RunS.bnd rho run).mono fun ds w1 c1 H1 rel1 ext1 k vs ev => ?_⟩
  have k := k ext1
  unfold parF at k
  split at k
  · rename_i x y
    split at k
    · rename_i hc
      simp only [Bool.and_eq_true, decide_eq_true_eq] at hc
      obtain ⟨v, u, rfl, hv, hu⟩ := EVL.of2 ev
      exact ⟨v, u, rfl, RunS.here k rel1 (((rho.ext ext1).set (hv.rp hc.1.1.1)).set (hu.rp hc.1.1.2))⟩
    · exact k.nope.elim
  · exact k.nope.elim
theorem valR_some {ρ : Rho} {i : Nat} {d : D} (h : valR ρ i = some d) : ρ[i]? = some (.val d) := by
  unfold valR at h
  rcases e : ρ[i]? with _ | _ | d' | d' | d'
  · rw [e] at h; cases h
  · rw [e] at h; cases h
  · rw [e] at h; cases h; rfl
  · rw [e] at h; cases h
  · rw [e] at h; cases h
def ipZ : Operator → Int → Int → Int
  | .Sub => fun i j => i - j
  | _ => fun i j => i + j
theorem ip_op {op : Operator} (h : (decide (op = .Add) || decide (op = .Sub)) = true) : PIp X op (ipI (ipZ op)) := by
  rw [Bool.or_eq_true, decide_eq_true_eq, decide_eq_true_eq] at h
  rcases h with rfl | rfl
  · exact ip_add
  · exact ip_sub
theorem ipF_some {op : Operator} {x y z : D} (h : ipF op x y = some z) : ∃ i j, x = .int i ∧ y = .int j ∧ z = .int (ipZ op i j) := by
  unfold ipF at h
  split at h <;> first | (cases h; done) | (cases h; exact ⟨_, _, rfl, rfl, rfl⟩)
theorem aug_run {i : Nat} {op : Operator} {Dn : Ends} {σ : L2.St} {H : Hp} (q : SemS X.K ca H0 W (fun ρ c => match valR ρ i with
    | some x => stB (fstM (f ρ c)) ρ fun y c => match ipF op x y with
      | some z => some (.nx, ρ.set i (.val z), c)
      | none => none
    | none => none) Dn σ H) : tAug i (SemE X.K ca H0 W (fE f)) (ipI (ipZ op)) Dn σ H := by
  obtain ⟨w, ρ, c, rel, rho, run⟩ := q
  simp only at run
  cases e : valR ρ i with
  | none => rw [e] at run; exact run.nope.elim
  | some x =>
    rw [e] at run
    simp only at run
    obtain ⟨v, hv, rv⟩ := rho.val i x (valR_some e)
    refine ⟨v, hv, w, ρ, c, rel, rho, (RunS.bnd rho run).mono fun y w1 c1 H1 rel1 ext1 k u ev => ?_⟩
    have k := k ext1
    cases e2 : ipF op x y with
    | none => rw [e2] at k; exact k.nope.elim
    | some z =>
      rw [e2] at k
      obtain ⟨a, b, rfl, rfl, rfl⟩ := ipF_some e2
      exact ⟨a, b, rv, ev, RunS.here k rel1 ((rho.ext ext1).set (v := .int (ipZ op a b)) rfl)⟩
theorem expr_run {Dn : Ends} {σ : L2.St} {H : Hp} (q : SemS X.K ca H0 W (fun ρ c => stB (fstM (f ρ c)) ρ fun _ c => some (.nx, ρ, c)) Dn σ H) : tDrop (SemE X.K ca H0 W (fE f)) Dn σ H := by
  obtain ⟨w, ρ, c, rel, rho, run⟩ := q
  exact ⟨w, ρ, c, rel, rho, (RunS.bnd rho run).mono fun y w1 c1 H1 rel1 ext1 k u ev => RunS.here (k ext1) rel1 (rho.ext ext1)⟩
theorem ret_run {Dn : Ends} {σ : L2.St} {H : Hp} (q : SemS X.K ca H0 W (fun ρ c => stB (f ρ c) ρ fun d c => retS d.1 d.2 ρ c) Dn σ H) : tRet (SemN X.K ca H0 W f) Dn σ H := by
  obtain ⟨w, ρ, c, rel, rho, run⟩ := q
  refine ⟨w, ρ, c, rel, rho, (RunS.bnd rho run).mono fun d w1 c1 H1 rel1 ext1 k v nv => ?_⟩
  have k := k ext1
  have rho1 := rho.ext ext1
  obtain ⟨d, fr⟩ := d
  have wk : ∀ {d : D}, New X.K ca H w1 c1 H1 d v → New X.K ca H0 w1 c1 H1 d v := fun ⟨p, o, e, h1, h2, h3, h4, h5⟩ => ⟨p, o, e, h1, h2, h3, by
    cases q : H0 p with
    | none => rfl
    | some o' => exact absurd h4 (rho.trk p (by rw [q]; simp)), h5⟩
  cases d with
  | slot i =>
    cases fr with
    | true =>
      obtain ⟨p, o, _, _, z, _⟩ := nv
      exact z.elim
    | false =>
      obtain ⟨⟨d, hd⟩, hv⟩ := nv
      have k : RunS X.K ca H0 W w1 c1 H1 (match (ρ[i]? : Option Sl) with | some (.own d) => some (.rt d true, ρ, c1) | _ => none) Dn := k
      rw [hd] at k
      obtain ⟨a, o, q1, q2, q3, q4, q5, q6⟩ := rho1.own i d hd
      rw [hv] at q1; cases q1
      exact RunS.here (σ' := σ) k rel1 rho1 _ ⟨a, o, rfl, q2, q3, q4, q5, q6⟩
  | _ =>
    cases fr with
    | true => exact RunS.here (fl := .rt _ true) (σ' := σ) k rel1 rho1 _ (wk nv)
    | false => exact RunS.here (fl := .rt _ false) (σ' := σ) k rel1 rho1 _ nv
theorem if_run {t : Rho → Cells → Ans Bool} {a b : Rho → Cells → AnsS} {Dn : Ends} {σ : L2.St} {H : Hp} (q : SemS X.K ca H0 W (fun ρ c => stB (t ρ c) ρ fun k c => if k then a ρ c else b ρ c) Dn σ H) :
    tIfS (SemT X.K ca H0 W t) (SemS X.K ca H0 W a) (SemS X.K ca H0 W b) Dn σ H := by
  obtain ⟨w, ρ, c, rel, rho, run⟩ := q
  refine ⟨w, ρ, c, rel, rho, (RunS.bnd rho run).mono fun y w1 c1 H1 rel1 ext1 k => ?_⟩
  have k := k ext1
  cases y with
  | true => exact ⟨w1, ρ, c1, rel1, rho.ext ext1, k⟩
  | false => exact ⟨w1, ρ, c1, rel1, rho.ext ext1, k⟩
theorem seq_run {a b : Rho → Cells → AnsS} {Dn : Ends} {σ : L2.St} {H : Hp} (q : SemS X.K ca H0 W (fun ρ c => seqS (a ρ c) b) Dn σ H) : tSeq (SemS X.K ca H0 W a) (SemS X.K ca H0 W b) Dn σ H := by
  obtain ⟨w, ρ, c, rel, rho, run⟩ := q
  exact ⟨w, ρ, c, rel, rho, run.seq fun w' c' H' ρ' σ' rel' ext' rho' r => ⟨w', ρ', c', rel', rho', r⟩⟩
theorem while_run {t : Rho → Cells → Ans Bool} {b : Rho → Cells → AnsS} {n : Nat} {Dn : Ends} {σ : L2.St} {H : Hp} (q : SemS X.K ca H0 W (fun ρ c => whlL t b n ρ c) Dn σ H) : tWhile (SemT X.K ca H0 W t) (SemS X.K ca H0 W b) Dn σ H := by
  refine ⟨fun n σ H => SemS X.K ca H0 W (fun ρ c => whlL t b n ρ c) Dn σ H, ⟨n, q⟩, fun m σ H ⟨w, ρ, c, rel, rho, run⟩ => ?_⟩
  cases m with
  | zero => exact run.nope.elim
  | succ n =>
    have run : RunS X.K ca H0 W w c H (stB (t ρ c) ρ fun k c => if k then turnS (b ρ c) (whlL t b n) else some (.nx, ρ, c)) Dn := run
    refine ⟨w, ρ, c, rel, rho, (RunS.bnd rho run).mono fun y w1 c1 H1 rel1 ext1 k => ?_⟩
    have k := k ext1
    cases y with
    | false => exact RunS.here k rel1 (rho.ext ext1)
    | true => exact ⟨fun σ' H' => SemS X.K ca H0 W (fun ρ c => whlL t b n ρ c) Dn σ' H', fun σ' H' z => ⟨n, Nat.lt_succ_self n, z⟩, w1, ρ, c1, rel1, rho.ext ext1, RunS.turn k fun w' c' H' ρ' σ' rel' ext' rho' r => ⟨w', ρ', c', rel', rho', r⟩⟩
theorem for_run {tg : TG} {b : Rho → Cells → AnsS} {Dn : Ends} {σ : L2.St} {H : Hp} (q : SemS X.K ca H0 W (fun ρ c => stB (fs ρ c) ρ fun xs c => forL tg b xs ρ c) Dn σ H) : tFor (SemI X.K ca H0 W fs) (gT X.K tg) (SemS X.K ca H0 W b) Dn σ H := by
  obtain ⟨w, ρ, c, rel, rho, run⟩ := q
  refine ⟨w, ρ, c, rel, rho, (RunS.bnd rho run).mono fun its w1 c1 H1 rel1 ext1 k J hJ => ?_⟩
  have k := k ext1
  refine ⟨fun i m σ H => m = its.length - i ∧ i ≤ its.length ∧ ∃ w2 c2 ρ2, Rel X.K ca w2 c2 H ∧ Le w1 w2 ∧ RhoR X.K ca w2 c2 H0 H ρ2 σ ∧ RunS X.K ca H0 W w2 c2 H (forL tg b (its.drop i) ρ2 c2) Dn, ⟨its.length, by simp, Nat.zero_le _, w1, c1, ρ, rel1, Le.refl, rho.ext ext1, k⟩, fun i m σ H hW => ?_⟩
  obtain ⟨rfl, hil, w2, c2, ρ2, rel2, le2, rho2, run2⟩ := hW
  have it := hJ w2 c2 H rel2 le2 i
  by_cases hlt : i < its.length
  · refine .inr ?_
    have hd : its[i]? = some its[i] := List.getElem?_eq_getElem hlt
    obtain ⟨go, yl⟩ := it.1 _ hd
    rw [List.drop_eq_getElem_cons hlt] at run2
    unfold forL at run2
    refine ⟨go, fun σ' H' => ∃ m', m' < its.length - i ∧ (m' = its.length - (i + 1) ∧ i + 1 ≤ its.length ∧ ∃ w2 c2 ρ2, Rel X.K ca w2 c2 H' ∧ Le w1 w2 ∧ RhoR X.K ca w2 c2 H0 H' ρ2 σ' ∧ RunS X.K ca H0 W w2 c2 H' (forL tg b (its.drop (i + 1)) ρ2 c2) Dn), fun σ' H' z => z, fun x H3 hy => ?_⟩
    obtain ⟨w3, rel3, ext3, rx⟩ := yl x H3 hy
    cases e : bindT tg its[i] ρ2 with
    | none => rw [e] at run2; exact run2.nope.elim
    | some ρ3 =>
      rw [e] at run2
      refine bindT_ok rel3 tg _ x ρ2 ρ3 σ e rx (rho2.ext ext3) fun σ' rho' _ => ⟨w3, ρ3, c2, rel3, rho', ?_⟩
      have run3 := RunS.step run2 (ext3.wk rho2.trk)
      exact RunS.turn run3 fun w' c' H' ρ' σ' rel' ext' rho' r => ⟨_, by omega, rfl, hlt, w', c', ρ', rel', (le2.trans ext3.le).trans ext'.le, rho', r⟩
  · have ei : i = its.length := by omega
    subst ei
    refine .inl ⟨it.2 (Nat.le_refl _), ?_⟩
    rw [List.drop_length] at run2
    exact RunS.here (fl := .nx) run2 rel2 rho2
theorem forC_run {tg : TG} {b : Rho → Cells → AnsS} {f : Rho → Cells → Ans (D × Bool)} {Dn : Ends} {σ : L2.St} {H : Hp} (q : SemS X.K ca H0 W (fun ρ c => stB (fstM (f ρ c)) ρ fun d c => forD tg b d ρ c) Dn σ H) :
    tFor (iList X.K (SemE X.K ca H0 W fun ρ c => fstM (f ρ c))) (gT X.K tg) (SemS X.K ca H0 W b) Dn σ H := by
  obtain ⟨w, ρ, c, rel, rho, run⟩ := q
  refine ⟨w, ρ, c, rel, rho, (RunS.bnd rho run).mono fun d w1 c1 H1 rel1 ext1 k v ev => ?_⟩
  have k := k ext1
  cases d with
  | cell n =>
    obtain ⟨rfl, hn⟩ : v = .ref (w1.al n) ∧ n < w1.n := ev
    have k : RunS X.K ca H0 W w1 c1 H1 (forC tg b n wfuel 0 ρ c1) Dn := k
    -- what stands there at a turn
    have at' : ∀ {w2 : Wd} {c2 : Cells} {H2 : Hp} {ρ2 : Rho} {m i : Nat}, Rel X.K ca w2 c2 H2 → Le w1 w2 → RunS X.K ca H0 W w2 c2 H2 (forC tg b n m i ρ2 c2) Dn → ∃ m' ys vs, m = m' + 1 ∧ H2 (w1.al n) = some (.lst vs) ∧ RpL X.K ca w2 ys vs ∧
        RunS X.K ca H0 W w2 c2 H2 (match ys[i]? with
          | none => some (.nx, ρ2, c2)
          | some x => match bindT tg x ρ2 with
            | none => none
            | some ρ1 => turnS (b ρ1 c2) (forC tg b n m' (i + 1))) Dn := by
      intro w2 c2 H2 ρ2 m i rel2 le2 run2
      cases m with
      | zero => exact run2.nope.elim
      | succ m =>
        unfold forC at run2
        split at run2
        · rename_i ys e
          obtain ⟨⟨o, q, r⟩, _⟩ := rel2.cell n _ e
          obtain ⟨vs, rfl, r⟩ := r
          rw [le2.al n hn] at q
          exact ⟨m, ys, vs, rfl, q, r, run2⟩
        · exact run2.nope.elim
    obtain ⟨m0, ys0, vs0, em, h0, r0, _⟩ := at' rel1 Le.refl k
    refine ⟨_, rfl, ⟨vs0, SqL.of h0⟩, fun i m σ H => ∃ w2 c2 ρ2, Rel X.K ca w2 c2 H ∧ Le w1 w2 ∧ RhoR X.K ca w2 c2 H0 H ρ2 σ ∧ RunS X.K ca H0 W w2 c2 H (forC tg b n m i ρ2 c2) Dn, ⟨wfuel, w1, c1, ρ, rel1, Le.refl, rho.ext ext1, k⟩, fun i m σ H hW => ?_⟩
    obtain ⟨w2, c2, ρ2, rel2, le2, rho2, run2⟩ := hW
    obtain ⟨m', ys, vs, rfl, hq, r, run3⟩ := at' rel2 le2 run2
    cases hi : ys[i]? with
    | none =>
      rw [hi] at run3
      refine .inl ⟨⟨vs, SqL.of hq, ?_⟩, RunS.here (fl := .nx) run3 rel2 rho2⟩
      rw [← r.length]
      exact List.getElem?_eq_none_iff.mp hi
    | some d =>
      rw [hi] at run3
      obtain ⟨u, eu, ru⟩ := r.get hi
      refine .inr ⟨⟨vs, u, SqL.of hq, eu⟩, fun σ' H' => ∃ m'', m'' < m' + 1 ∧ ∃ w2 c2 ρ2, Rel X.K ca w2 c2 H' ∧ Le w1 w2 ∧ RhoR X.K ca w2 c2 H0 H' ρ2 σ' ∧ RunS X.K ca H0 W w2 c2 H' (forC tg b n m'' (i + 1) ρ2 c2) Dn, fun σ' H' z => z, fun x H3 hy => ?_⟩
      obtain ⟨rfl, hx⟩ := hy
      have ex := hx vs (SqL.of hq)
      rw [eu] at ex
      cases ex
      cases e : bindT tg d ρ2 with
      | none => simp only [e] at run3; exact run3.nope.elim
      | some ρ3 =>
        simp only [e] at run3
        refine bindT_ok rel2 tg _ u ρ2 ρ3 σ e ru rho2 fun σ' rho' _ => ⟨w2, ρ3, c2, rel2, rho', ?_⟩
        exact RunS.turn run3 fun w' c' H' ρ' σ' rel' ext' rho' r => ⟨_, Nat.lt_succ_self _, w', c', ρ', rel', le2.trans ext'.le, rho', r⟩
  | _ => exact RunS.nope k |>.elim
/-! ### changes -/
def rSetO (X : Cx) : TSet := fun o i v H Q => rSetL o i v H Q ∨ ∃ a H', o = .ref a ∧ DPut H a i v H' ∧ Q H'
theorem set_any (hu : X.A.units + 1 < cLine) : PSet X (rSetO X) := by
  intro pins s σ H o i v ov iv u Q I r1 r2 r3 q
  rcases q with q | ⟨a, H', rfl, g, q⟩
  · exact set_list pins s σ H o i v ov iv u Q I r1 r2 r3 q
  · cases r1
    exact d_setItem hu I g r2 r3 fun s' I' => ⟨H', I', q⟩
theorem set_ok {w : Wd} {c : Cells} {H : Hp} {ρ : Rho} {σ : L2.St} {x z y d q d' : D} {v i u : V} {Dn : Ends} (rel : Rel X.K ca w c H) (rho : RhoR X.K ca w c H0 H ρ σ) (ev : EV X.K ca w ρ σ x v) (hd : derS ρ c x = some d) (ei : EV X.K ca w ρ σ z i) (hq : derS ρ c z = some q)
    (ru : Rp X.K ca w y u) (hs : setF d q y = some d') (run : RunS X.K ca H0 W w c H (putL x d' ρ c) Dn) : rSetO X v i u H fun H' => Dn.nx σ H' := by
  have at1 := ev_at rel rho ev hd
  have at2 := ev_at rel rho ei hq
  unfold setF at hs
  split at hs
  · rename_i xs n
    obtain ⟨j, hj, rfl⟩ := Option.map_eq_some_iff.mp hs
    obtain ⟨a, vs, rfl, ha, r⟩ := at1
    obtain rfl : i = .int n := at2
    obtain ⟨b, eb, q⟩ := put_ok (o' := .lst (vs.set j u)) rel rho ev hd run ⟨_, rfl, r.set ru⟩
    cases eb
    exact .inl ⟨a, vs, n, j, rfl, rfl, ha, by rw [← r.length]; exact hj, q⟩
  · rename_i ks vs
    split at hs
    · rename_i hl
      obtain ⟨kk, hk, rfl⟩ := Option.map_eq_some_iff.mp hs
      obtain ⟨a, kvs, rfl, ha, rk, r⟩ := at1
      obtain rfl := keyD_at hk at2
      subst rk
      obtain ⟨b, eb, q⟩ := put_ok (o' := .dK (putK kvs kk u)) rel rho ev hd run ⟨_, rfl, dput_keys kvs kk u, dput_vals r ru⟩
      cases eb
      exact .inr ⟨a, _, rfl, DPut.k ha (by simpa using hl), q⟩
    · cases hs
  · rename_i ks vs qs
    split at hs
    · rename_i hl
      obtain ⟨kk, hk, rfl⟩ := Option.map_eq_some_iff.mp hs
      obtain ⟨a, kvs, rfl, ha, rk, r⟩ := at1
      obtain ⟨b, us, rfl, hb, rb⟩ := at2
      obtain rfl := keysD_v hk rb
      subst rk
      obtain ⟨b', eb, q⟩ := put_ok (o' := .dT (putK kvs kk u)) rel rho ev hd run ⟨_, rfl, dput_keys kvs kk u, dput_vals r ru⟩
      cases eb
      exact .inr ⟨a, _, rfl, DPut.t ha hb (by simpa using hl), q⟩
    · cases hs
  · cases hs
theorem sset_run {Dn : Ends} {σ : L2.St} {H : Hp} (q : SemS X.K ca H0 W (fun ρ c => stB (fstM (h ρ c)) ρ fun y c => stB (fstM (f ρ c)) ρ fun x c => stB (fstM (g ρ c)) ρ fun z c => if sol y then match derS ρ c x, derS ρ c z with
    | some d, some q => match setF d q y with
      | some d' => putL x d' ρ c
      | none => none
    | _, _ => none
    else none) Dn σ H) : tAsg (SemE X.K ca H0 W (fE h)) (gSub (SemE X.K ca H0 W (fE f)) (SemE X.K ca H0 W (fE g)) (rSetO X)) Dn σ H := by
  obtain ⟨w, ρ, c, rel, rho, run⟩ := q
  refine ⟨w, ρ, c, rel, rho, (RunS.bnd rho run).mono fun y w1 c1 H1 rel1 ext1 k1 u eu => ⟨w1, ρ, c1, rel1, rho.ext ext1, (RunS.bnd (rho.ext ext1) (k1 ext1)).mono fun x w2 c2 H2 rel2 ext2 k2 v ev => ?_⟩⟩
  have rho2 := (rho.ext ext1).ext ext2
  refine ⟨w2, ρ, c2, rel2, rho2, (RunS.bnd rho2 (k2 ext2)).mono fun z w3 c3 H3 rel3 ext3 k3 i ei => ?_⟩
  have k3 := k3 ext3
  split at k3
  · rename_i hy
    split at k3
    · rename_i d q e1 e2
      split at k3
      · rename_i d' e3
        exact set_ok rel3 (rho2.ext ext3) (ev.ext ext3) e1 ei e2 (((eu.rp hy).ev (ρ := ρ) (σ := σ)).ext (ext2.tr ext3) |>.rp hy) e3 k3
      · exact k3.nope.elim
    · exact k3.nope.elim
  · exact k3.nope.elim
def mutR : MM → V → List V → Hp → VK → Prop
  | .append => rAppend
  | .extend => rExtend
  | .insert => fun x vs H Q => ∃ (l : Addr) (xs : List V) (i : Int) (y : V), x = .ref l ∧ vs = [.int i, y] ∧ H l = some (.lst xs) ∧ xs.length < sizeLine ∧ 0 ≤ i ∧ i < 2 ^ 63 ∧ Q .non (upd H l (.lst (xs.take i.toNat ++ [y] ++ xs.drop i.toNat)))
  | .reverse => rReverse
  | .clear => rClear
  | .pop => rPop
theorem mutR_ok {m : MM} {w : Wd} {c : Cells} {H : Hp} {ρ : Rho} {σ : L2.St} {Dn : Ends} {x d d' : D} {v : V} {ds : List D} {us : List V} (rel : Rel X.K ca w c H) (rho : RhoR X.K ca w c H0 H ρ σ) (ev : EV X.K ca w ρ σ x v) (e2 : derS ρ c x = some d) (eus : EVL X.K ca w ρ σ ds us)
    (hso : solL ds = true) (e3 : mutF m d ds = some d') (k2 : RunS X.K ca H0 W w c H (putL x d' ρ c) Dn) : mutR m v us H fun _ H' => Dn.nx σ H' := by
  unfold mutF at e3
  split at e3
  · rename_i xs' d0
    split at e3
    · rename_i hl
      cases e3
      obtain ⟨b, vs', rfl, hb, r'⟩ := ev_at rel rho ev e2
      obtain ⟨u, rfl, hu⟩ := EVL.of1 eus
      have hs0 : sol d0 = true := by
        have : (sol d0 && solL []) = true := hso
        rw [Bool.and_eq_true] at this; exact this.1
      obtain ⟨b', eb', q⟩ := put_ok (o' := .lst (vs' ++ [u])) rel rho ev e2 k2 ⟨_, rfl, r'.append (RpL.one (hu.rp hs0))⟩
      cases eb'
      exact ⟨b, vs', u, rfl, rfl, hb, by rw [← r'.length]; exact hl, q⟩
    · cases e3
  · rename_i xs' ys'
    split at e3
    · rename_i hl
      cases e3
      obtain ⟨b, vs', rfl, hb, r'⟩ := ev_at rel rho ev e2
      obtain ⟨u, rfl, hu⟩ := EVL.of1 eus
      obtain ⟨b2, vs2, rfl, hb2, r2⟩ := hu.rp rfl
      obtain ⟨b', eb', q⟩ := put_ok (o' := .lst (vs' ++ vs2)) rel rho ev e2 k2 ⟨_, rfl, r'.append r2⟩
      cases eb'
      exact ⟨b, b2, vs', vs2, rfl, rfl, hb, rel.same _ _ hb2, by rw [← r'.length, ← r2.length]; exact hl, q⟩
    · cases e3
  · rename_i xs' i d0
    split at e3
    · rename_i hl
      cases e3
      obtain ⟨b, vs', rfl, hb, r'⟩ := ev_at rel rho ev e2
      obtain ⟨u1, u2, rfl, hu1, hu2⟩ := EVL.of2 eus
      obtain rfl : u1 = .int i := hu1
      have hs0 : sol d0 = true := by
        have : (sol (.int i) && (sol d0 && solL [])) = true := hso
        rw [Bool.and_eq_true, Bool.and_eq_true] at this; exact this.2.1
      obtain ⟨b', eb', q⟩ := put_ok (o' := .lst (vs'.take i.toNat ++ [u2] ++ vs'.drop i.toNat)) rel rho ev e2 k2 ⟨_, rfl, ((r'.take i.toNat).append (RpL.one (hu2.rp hs0))).append (r'.drop i.toNat)⟩
      cases eb'
      exact ⟨b, vs', i, u2, rfl, rfl, hb, by rw [← r'.length]; exact hl.1, hl.2.1, hl.2.2, q⟩
    · cases e3
  · rename_i xs'
    cases e3
    obtain ⟨b, vs', rfl, hb, r'⟩ := ev_at rel rho ev e2
    obtain rfl : us = [] := eus
    obtain ⟨b', eb', q⟩ := put_ok (o' := .lst vs'.reverse) rel rho ev e2 k2 ⟨_, rfl, r'.reverse⟩
    cases eb'
    exact ⟨b, vs', rfl, rfl, hb, q⟩
  · rename_i xs'
    cases e3
    obtain ⟨b, vs', rfl, hb, r'⟩ := ev_at rel rho ev e2
    obtain rfl : us = [] := eus
    obtain ⟨b', eb', q⟩ := put_ok (o' := .lst []) rel rho ev e2 k2 ⟨[], rfl, rfl⟩
    cases eb'
    exact ⟨b, vs', rfl, rfl, hb, q⟩
  · rename_i xs'
    split at e3
    · cases e3
    · rename_i hn
      cases e3
      obtain ⟨b, vs', rfl, hb, r'⟩ := ev_at rel rho ev e2
      obtain rfl : us = [] := eus
      obtain ⟨b', eb', q⟩ := put_ok (o' := .lst vs'.dropLast) rel rho ev e2 k2 ⟨_, rfl, by rw [List.dropLast_eq_take, List.dropLast_eq_take, ← r'.length]; exact r'.take _⟩
      cases eb'
      have hl := r'.length
      exact ⟨b, vs', vs'[vs'.length - 1]'(by omega), rfl, rfl, hb, List.getElem?_eq_getElem _, q⟩
  · cases e3
theorem mut_run {m : MM} {Dn : Ends} {σ : L2.St} {H : Hp} (q : SemS X.K ca H0 W (fun ρ c => stB (fstM (f ρ c)) ρ fun x c => match derS ρ c x with
    | some (.lst _) => stB (fs ρ c) ρ fun ds c => if solL ds then match derS ρ c x with
      | some d => match mutF m d ds with
        | some d' => putL x d' ρ c
        | none => none
      | none => none
      else none
    | _ => none) Dn σ H) : tDrop (tBM X.K "list" (mutR m) (SemE X.K ca H0 W (fE f)) (SemB X.K ca H0 W fs)) Dn σ H := by
  obtain ⟨w, ρ, c, rel, rho, run⟩ := q
  refine ⟨w, ρ, c, rel, rho, (RunS.bnd rho run).mono fun x w1 c1 H1 rel1 ext1 k1 v ev => ?_⟩
  have k1 := k1 ext1
  have rho1 := rho.ext ext1
  split at k1
  · rename_i xs e1
    obtain ⟨a, vs, rfl, ha, r⟩ := ev_at rel1 rho1 ev e1
    refine ⟨.inl ⟨rfl, vs, SqL.of ha⟩, w1, ρ, c1, rel1, rho1, (RunS.bnd rho1 k1).mono fun ds w2 c2 H2 rel2 ext2 k2 us eus => ?_⟩
    have k2 := k2 ext2
    split at k2
    · rename_i hso
      split at k2
      · rename_i d e2
        split at k2
        · rename_i d' e3
          exact mutR_ok rel2 (rho1.ext ext2) (ev.ext ext2) e2 eus hso e3 k2
        · exact k2.nope.elim
      · exact k2.nope.elim
    · exact k2.nope.elim
  · exact k1.nope.elim
theorem mut_run0 {m : MM} {Dn : Ends} {σ : L2.St} {H : Hp} (q : SemS X.K ca H0 W (fun ρ c => stB (fstM (f ρ c)) ρ fun x c => match derS ρ c x with
    | some (.lst _) => stB (some (.ok [], c)) ρ fun ds c => if solL ds then match derS ρ c x with
      | some d => match mutF m d ds with
        | some d' => putL x d' ρ c
        | none => none
      | none => none
      else none
    | _ => none) Dn σ H) : tDrop (tBM0 X.K "list" (mutR m) (SemE X.K ca H0 W (fE f))) Dn σ H := by
  obtain ⟨w, ρ, c, rel, rho, run⟩ := q
  refine ⟨w, ρ, c, rel, rho, (RunS.bnd rho run).mono fun x w1 c1 H1 rel1 ext1 k1 v ev => ?_⟩
  have k1 := k1 ext1
  have rho1 := rho.ext ext1
  split at k1
  · rename_i xs e1
    obtain ⟨a, vs, rfl, ha, r⟩ := ev_at rel1 rho1 ev e1
    refine ⟨.inl ⟨rfl, vs, SqL.of ha⟩, ?_⟩
    have k1 : RunS X.K ca H0 W w1 c1 H1 (match derS ρ c1 x with
      | some d => match mutF m d [] with
        | some d' => putL x d' ρ c1
        | none => none
      | none => none) Dn := k1
    split at k1
    · rename_i d e2
      split at k1
      · rename_i d' e3
        exact mutR_ok (ds := []) (us := []) rel1 rho1 ev e2 rfl rfl e3 k1
      · exact k1.nope.elim
    · exact k1.nope.elim
  · exact k1.nope.elim
theorem getO_some {a b : Option D} {z : D} (h : getO a b = some z) : ∃ d q, a = some d ∧ b = some q ∧ getF d q = some z := by
  cases a with
  | none => cases h
  | some d =>
    cases b with
    | none => cases h
    | some q => exact ⟨d, q, rfl, rfl, h⟩
def rGetO (X : Cx) : V → V → Hp → VK → Prop := fun x y H Q => rIxL X.K x y H Q ∨ ∃ a v, x = .ref a ∧ DGet H a y (some v) ∧ Q v H
theorem get_any (hu : X.A.units + 1 < cLine) : PGet X (rGetO X) := by
  intro pins s σ H x y v u Q I rx ry h
  rcases h with ⟨p, xs, i, z, rfl, rfl, hq, he, q⟩ | ⟨a, z, rfl, g, q⟩
  · cases rx
    obtain ⟨t, rfl⟩ := ry
    obtain ⟨its, r, pl, hz⟩ := I.list hq
    obtain ⟨j, h1, h2, h3, h4, h5⟩ := atI_get he
    obtain ⟨w, ew, rw'⟩ := r.get h2
    have hl := r.length
    have hn := line63
    have fin : EP X pins σ Q w s := ⟨z, H, I, rw', q⟩
    by_cases h0 : 0 ≤ i
    · have hj : i.toNat = j := by
        rw [seqIndex_of h0 h5] at h1
        exact Option.some.inj h1
      exact getItem_listL pl.isList h0 (by omega) (by rw [hj]; exact ew) fin
    · have hj : (i + (its.toArray.size : Int)).toNat = j := by
        rw [seqIndex_neg (by omega) h4] at h1
        rw [List.size_toArray, ← hl]
        exact Option.some.inj h1
      exact wpAny_getItem_list_neg pl.isList (by omega) (by rw [List.size_toArray] <;> omega) (by omega) (by rw [hj]; simpa using ew) fin
  · cases rx
    exact d_getItem hu I g ry fun w' s' I' rv => ⟨z, H, I', rv, q⟩
theorem get_ok {w : Wd} {c : Cells} {H : Hp} {v i : V} {d q z : D} {Q : VK} (at1 : At X.K ca w H d v) (at2 : At X.K ca w H q i) (h : getF d q = some z) (hQ : ∀ u, Rp X.K ca w z u → Q u H) : rGetO X v i H Q := by
  unfold getF at h
  split at h
  · obtain ⟨a, vs, rfl, ha, r⟩ := at1
    obtain rfl := at2
    obtain ⟨p, ep, rp⟩ := r.atI h
    exact .inl ⟨a, vs, _, p, rfl, rfl, SqL.of ha, ep, hQ p rp⟩
  · obtain ⟨kk, hk, h⟩ := Option.bind_eq_some_iff.mp h
    obtain ⟨a, kvs, rfl, ha, rk, r⟩ := at1
    obtain rfl := keyD_at hk at2
    have := dget_val (K := X.K) (ca := ca) (w := w) kk r
    rw [rk, h] at this
    obtain ⟨p, ep, rp⟩ := this
    exact .inr ⟨a, p, rfl, by rw [← ep]; exact DGet.k ha, hQ p rp⟩
  · obtain ⟨kk, hk, h⟩ := Option.bind_eq_some_iff.mp h
    obtain ⟨a, kvs, rfl, ha, rk, r⟩ := at1
    obtain ⟨b, us, rfl, hb, rb⟩ := at2
    obtain rfl := keysD_v hk rb
    have := dget_val (K := X.K) (ca := ca) (w := w) kk r
    rw [rk, h] at this
    obtain ⟨p, ep, rp⟩ := this
    exact .inr ⟨a, p, rfl, by rw [← ep]; exact DGet.t ha hb, hQ p rp⟩
  · cases h
theorem saug_run {op : Operator} {Dn : Ends} {σ : L2.St} {H : Hp} (q : SemS X.K ca H0 W (fun ρ c => stB (fstM (f ρ c)) ρ fun x c => stB (fstM (g ρ c)) ρ fun z c => match getO (derS ρ c x) (derS ρ c z) with
    | some old => stB (fstM (h ρ c)) ρ fun y c => match ipF op old y, derS ρ c x, derS ρ c z with
      | some u, some d, some q => match setF d q u with
        | some d' => putL x d' ρ c
        | none => none
      | _, _, _ => none
    | none => none) Dn σ H) : tAugS (SemE X.K ca H0 W (fE f)) (SemE X.K ca H0 W (fE g)) (SemE X.K ca H0 W (fE h)) (rGetO X) (ipI (ipZ op)) (rSetO X) Dn σ H := by
  obtain ⟨w, ρ, c, rel, rho, run⟩ := q
  refine ⟨w, ρ, c, rel, rho, (RunS.bnd rho run).mono fun x w1 c1 H1 rel1 ext1 k1 v ev => ⟨w1, ρ, c1, rel1, rho.ext ext1, (RunS.bnd (rho.ext ext1) (k1 ext1)).mono fun z w2 c2 H2 rel2 ext2 k2 i ei => ?_⟩⟩
  have rho2 := (rho.ext ext1).ext ext2
  have k2 := k2 ext2
  cases e : getO (derS ρ c2 x) (derS ρ c2 z) with
  | none => rw [e] at k2; exact k2.nope.elim
  | some old =>
    rw [e] at k2
    obtain ⟨d, q, e1, e2, e3⟩ := getO_some e
    have ev2 := ev.ext ext2
    refine get_ok (c := c2) (ev_at rel2 rho2 ev2 e1) (ev_at rel2 rho2 ei e2) e3 fun u ru => ⟨w2, ρ, c2, rel2, rho2, (RunS.bnd rho2 k2).mono fun y w3 c3 H3 rel3 ext3 k3 b eb => ?_⟩
    replace k3 := k3 ext3
    split at k3
    · rename_i z' d' q' f1 f2 f3
      split at k3
      · rename_i d'' f4
        obtain ⟨m, n, rfl, rfl, rfl⟩ := ipF_some f1
        exact ⟨m, n, ru, eb, set_ok rel3 (rho2.ext ext3) (ev2.ext ext3) f2 (ei.ext ext3) f3 (y := .int (ipZ op m n)) (u := .int (ipZ op m n)) rfl f4 k3⟩
      · exact k3.nope.elim
    · exact k3.nope.elim
end
/-! ### rows of targets -/
section
variable {K : PySem.W.Frag} {ca : CA} {w w1 : Wd} {c c1 : Cells} {H0 H H1 : Hp} {ρ : Rho} {σ : L2.St}
def PNL (K : PySem.W.Frag) (ca : CA) : Hp → Wd → Cells → Hp → List (D × Bool) → List V → Prop
  | _, _, _, _, [], vs => vs = []
  | T, w, c, H, x :: ds, vs => ∃ (v : V) (r : List V) (T1 : Hp), vs = v :: r ∧ (∀ a, T a ≠ none → T1 a ≠ none) ∧ (∀ a, T1 a ≠ none → H a ≠ none) ∧
      ((x.2 = true ∧ New K ca T w c H x.1 v ∧ ∀ p, v = .ref p → T1 p ≠ none) ∨ (x.2 = false ∧ Rp K ca w x.1 v)) ∧ PNL K ca T1 w c H ds r
theorem New.ext {T : Hp} {d : D} {v : V} (x : Ext H w c H w1 c1 H1) (n : New K ca T w c H d v) : New K ca T w1 c1 H1 d v := by
  obtain ⟨p, o, e, hp, ro, hS, hT, hc⟩ := n
  obtain ⟨h1, h2, h3⟩ := x.still hp hS hc
  exact ⟨p, o, e, h1, x.rpo ro, h2, hT, h3⟩
theorem PNL.back {T T0 : Hp} {ds : List (D × Bool)} {vs : List V} (h : PNL K ca T w c H ds vs) (hT : ∀ a, T0 a ≠ none → T a ≠ none) : PNL K ca T0 w c H ds vs := by
  cases ds with
  | nil => exact h
  | cons x ds =>
    obtain ⟨v, r, T1, e, h1, h2, h3, h4⟩ := h
    refine ⟨v, r, T1, e, fun a q => h1 a (hT a q), h2, ?_, h4⟩
    rcases h3 with ⟨z1, ⟨p, o, e2, hp, ro, hS, hTp, hc⟩, z3⟩ | z
    · refine .inl ⟨z1, ⟨p, o, e2, hp, ro, hS, ?_, hc⟩, z3⟩
      cases q : T0 p with
      | none => rfl
      | some u => exact absurd hTp (hT p (by rw [q]; simp))
    · exact .inr z
/-- the slots are given -/
theorem put_all : ∀ (is : List Nat) (ds : List (D × Bool)) (vs : List V) (ρ ρ' : Rho) (σ : L2.St) (T : Hp), putN is ds ρ = some ρ' → PNL K ca T w c H ds vs → (∀ a, H0 a ≠ none → T a ≠ none) →
    (∀ (j : Nat) (d : D) (a : Addr), ρ[j]? = some (.own d) → σ[j]? = some (some (V.ref a)) → T a ≠ none) → RhoR K ca w c H0 H ρ σ →
    RhoR K ca w c H0 H ρ' ((is.zip vs).foldl (fun s p => s.set p.1 (some p.2)) σ) ∧ is.length = vs.length
  | [], [], vs, ρ, ρ', σ, T, e, pn, _, _, rho => by
    cases e
    obtain rfl : vs = [] := pn
    exact ⟨rho, rfl⟩
  | [], _ :: _, vs, ρ, ρ', σ, T, e, pn, _, _, rho => by cases e
  | _ :: _, [], vs, ρ, ρ', σ, T, e, pn, _, _, rho => by cases e
  | i :: is, x :: ds, vs, ρ, ρ', σ, T, e, pn, h0, hin, rho => by
    unfold putN at e
    by_cases hi : i < ρ.length
    · rw [if_pos hi] at e
      obtain ⟨v, r, T1, rfl, h1, h2, h3, h4⟩ := pn
      have hσ : i < σ.length := by rw [← rho.len]; exact hi
      rcases h3 with ⟨z1, ⟨p, o, rfl, hp, ro, hS, hTp, hc⟩, z3⟩ | ⟨z1, z2⟩
      · obtain ⟨d, fr⟩ := x
        cases z1
        have other : ∀ {j : Nat} {f : D}, ρ[j]? = some (.own f) → σ[j]? ≠ some (some (V.ref p)) := fun {j f} hj z => hin j f p hj z hTp
        have rho2 : RhoR K ca w c H0 H (ρ.set i (.own d)) (σ.set i (some (.ref p))) := by
          refine ⟨by rw [List.length_set, List.length_set]; exact rho.len, fun j e hj => ?_, fun j e hj => ?_, fun j k e f a hj hk sj sk => ?_, rho.trk, fun j e hj => ?_⟩
          · by_cases hij : i = j
            · subst hij
              rw [List.getElem?_set_self hi] at hj; cases hj
            · rw [List.getElem?_set_ne hij] at hj ⊢
              exact rho.val j e hj
          · by_cases hij : i = j
            · subst hij
              rw [List.getElem?_set_self hi] at hj
              have : d = e := by simpa using hj
              subst this
              refine ⟨p, o, List.getElem?_set_self hσ, hp, ro, hS, ?_, hc⟩
              cases q : H0 p with
              | none => rfl
              | some o' => exact absurd hTp (h0 p (by rw [q]; simp))
            · rw [List.getElem?_set_ne hij] at hj ⊢
              exact rho.own j e hj
          · by_cases hij : i = j
            · subst hij
              by_cases hik : i = k
              · exact hik
              · rw [List.getElem?_set_self hσ] at sj
                rw [List.getElem?_set_ne hik] at hk sk
                have : p = a := by simpa using sj
                subst this
                exact absurd sk (other hk)
            · rw [List.getElem?_set_ne hij] at hj sj
              by_cases hik : i = k
              · subst hik
                rw [List.getElem?_set_self hσ] at sk
                have : p = a := by simpa using sk
                subst this
                exact absurd sj (other hj)
              · rw [List.getElem?_set_ne hik] at hk sk
                exact rho.dis j k e f a hj hk sj sk
          · by_cases hij : i = j
            · subst hij
              rw [List.getElem?_set_self hi] at hj; cases hj
            · rw [List.getElem?_set_ne hij] at hj ⊢
              exact rho.exc j e hj
        obtain ⟨g1, g2⟩ := put_all is ds r _ ρ' _ T1 e h4 (fun a q => h1 a (h0 a q)) (fun j f a hj sj => by
          by_cases hij : i = j
          · subst hij
            rw [List.getElem?_set_self hσ] at sj
            have : p = a := by simpa using sj
            subst this
            exact z3 _ rfl
          · rw [List.getElem?_set_ne hij] at sj
            have hj : (ρ.set i (.own d))[j]? = some (.own f) := hj
            rw [List.getElem?_set_ne hij] at hj
            exact h1 a (hin j f a hj sj)) rho2
        exact ⟨g1, by rw [List.length_cons, List.length_cons, g2]⟩
      · obtain ⟨d, fr⟩ := x
        cases z1
        obtain ⟨g1, g2⟩ := put_all is ds r _ ρ' _ T1 e h4 (fun a q => h1 a (h0 a q)) (fun j f a hj sj => by
          by_cases hij : i = j
          · subst hij
            have hj : (ρ.set i (.val d))[i]? = some (.own f) := hj
            rw [List.getElem?_set_self hi] at hj; cases hj
          · rw [List.getElem?_set_ne hij] at sj
            have hj : (ρ.set i (.val d))[j]? = some (.own f) := hj
            rw [List.getElem?_set_ne hij] at hj
            exact h1 a (hin j f a hj sj)) (rho.set z2)
        exact ⟨g1, by rw [List.length_cons, List.length_cons, g2]⟩
    · rw [if_neg hi] at e; cases e
end
section
variable {X : Cx} {ca : CA} {H0 : Hp} {W : WX} {T : FT}
def tChn (X : Cx) (ca : CA) (H0 : Hp) (W : WX) (T : FT) : EXs → TA
  | .nil => tNil
  | .cons m r => tCons (SemN X.K ca H0 W (ev T m)) (tChn X ca H0 W T r)
theorem RunT.stp {α : Type} {K : PySem.W.Frag} {ca : CA} {T : Hp} {W : XK} {w w1 : Wd} {c : Cells} {H : Hp} {m : Ans α} {P : α → Wd → Cells → Hp → Prop} (r : RunT K ca T W w c H m P) (x : Ext T w c H w1 c H) : RunT K ca T W w1 c H m P := by
  obtain ⟨r, c', e, h1, h2⟩ := r
  exact ⟨r, c', e, fun a ea w2 H2 rel2 ext2 => h1 a ea w2 H2 rel2 (x.trans ext2 fun _ z => z), fun q ex cls dx w2 H2 rel2 ext2 exr => h2 q ex cls dx w2 H2 rel2 (x.trans ext2 fun _ z => z) exr⟩
theorem chn_run : ∀ (es : EXs) (σ : L2.St) (T0 H : Hp) (Q : List V → Hp → Prop) (w : Wd) (ρ : Rho) (c : Cells), Rel X.K ca w c H → RhoR X.K ca w c H0 H ρ σ → (∀ a, T0 a ≠ none → H a ≠ none) →
    RunT X.K ca T0 (fun cls dx H' => W cls dx σ H') w c H (evsO T es ρ c) (fun ds w' c' H' => Ext T0 w c H w' c' H' → Rel X.K ca w' c' H' → ∀ vs, PNL X.K ca T0 w' c' H' ds vs → Q vs H') → tChn X ca H0 W T es σ H Q
  | .nil, σ, T0, H, Q, w, ρ, c, rel, rho, hT, run => RunT.now run rel hT (.refl rel hT) rel [] rfl
  | .cons m r, σ, T0, H, Q, w, ρ, c, rel, rho, hT, run => by
    refine ⟨w, ρ, c, rel, rho, ((RunT.bnd run).wk hT).mono fun d w1 c1 H1 rel1 ext1 k v nv => ?_⟩
    unfold nrmD at k
    obtain ⟨d, fr⟩ := d
    by_cases hc : (fr && isObjD d) = true
    · rw [Bool.and_eq_true] at hc
      obtain rfl : fr = true := hc.1
      have k := k H1 (fun a q => ext1.trk a (hT a q)) (fun _ z => z)
      rw [if_pos (by rw [hc.2]; rfl)] at k
      have k : RunT X.K ca H1 _ w1 c1 H1 (bnd (evsO T r ρ c1) fun xs c => some (.ok ((d, true) :: xs), c)) _ := k
      refine chn_run r σ H1 H1 _ w1 ρ c1 rel1 (rho.ext ext1) (fun _ z => z) ((RunT.bnd k).mono fun ds w2 c2 H2 rel2 ext2 k2 _ _ vs pn => ?_)
      have n1 : New X.K ca H w1 c1 H1 d v := nv
      have ext3 := (ext1.wk hT).trans ext2 fun a q => ext1.trk a (hT a q)
      have hp : ∀ q, v = .ref q → H1 q ≠ none := fun q e => by
        obtain ⟨p, o, e2, hp, _⟩ := id n1
        rw [e] at e2; cases e2
        rw [hp]; simp
      exact RunT.now (k2 H1 (fun _ z => z) ext2.trk) rel2 ext2.trk ext2 ext3 ext3 rel2 (v :: vs) ⟨v, vs, H1, rfl, fun a q => ext1.trk a (hT a q), ext2.trk, .inl ⟨rfl, by
        obtain ⟨p, o, e, q1, q2, q3, q4, q5⟩ := n1.ext ext2
        refine ⟨p, o, e, q1, q2, q3, ?_, q5⟩
        cases z : T0 p with
        | none => rfl
        | some u => exact absurd q4 (hT p (by rw [z]; simp)), hp⟩, pn⟩
    · have k := k H hT ext1.trk
      rw [if_neg hc] at k
      by_cases hs : sol d = true
      · rw [if_pos hs] at k
        have k : RunT X.K ca H _ w1 c1 H1 (bnd (evsO T r ρ c1) fun xs c => some (.ok ((d, false) :: xs), c)) _ := k
        obtain ⟨w2, rel2, ext2, ev⟩ := nv.keep rel1 ext1.trk
        have ev := ev.rp hs
        have ext12 := ext1.trans ext2 fun _ z => z
        refine chn_run r σ H H1 _ w2 ρ c1 rel2 (rho.ext ext12) ext1.trk ((RunT.bnd (k.stp ext2)).mono fun ds w3 c3 H3 rel3 ext3 k3 _ _ vs pn => ?_)
        have ext4 := (ext12.trans ext3 fun _ z => z)
        exact RunT.now (k3 H (fun _ z => z) ext4.trk) rel3 ext4.trk ext3 (ext4.wk hT) (ext4.wk hT) rel3 (v :: vs) ⟨v, vs, H, rfl, hT, ext4.trk, .inr ⟨rfl, ext3.rp ev⟩, pn⟩
      · rw [if_neg hs] at k; exact k.nope.elim
theorem pa_chn {F : FN} {N : List Str} {sc : Scope} : ∀ (es : EXs) (us : List Expr), isEs F N sc es us = true → pesE X ca H0 W T es us → PA X us (tChn X ca H0 W T es)
  | .nil, [], _, _ => pa_nil
  | .nil, _ :: _, h, _ => by cases h
  | .cons m r, [], h, _ => by cases h
  | .cons m r, u :: us, h, p => by
    have h : (noStar u && isE F N sc m u && isEs F N sc r us) = true := h
    rw [Bool.and_eq_true, Bool.and_eq_true] at h
    exact pa_cons p.1 (pa_chn r us h.2 p.2) (star_cons h.1.1)
theorem tChn_mono : ∀ (es : EXs) (σ : L2.St) (H : Hp) (Q Q' : List V → Hp → Prop), tChn X ca H0 W T es σ H Q → (∀ vs H, Q vs H → Q' vs H) → tChn X ca H0 W T es σ H Q'
  | .nil, σ, H, Q, Q', q, h => h _ _ q
  | .cons m r, σ, H, Q, Q', ⟨w, ρ, c, rel, rho, run⟩, h => ⟨w, ρ, c, rel, rho, RunT.mono run fun d w1 c1 H1 rel1 ext1 k v nv => tChn_mono r σ H1 _ _ (k v nv) fun vs H2 z => h _ _ z⟩
theorem parN_run {is : List Nat} {es : EXs} {Dn : Ends} {σ : L2.St} {H : Hp} (q : SemS X.K ca H0 W (fun ρ c => stB (evsO T es ρ c) ρ fun ds c => parG is ds ρ c) Dn σ H) :
    tChn X ca H0 W T es σ H fun vs H1 => is.length = vs.length ∧ Dn.nx ((is.zip vs).foldl (fun s p => s.set p.1 (some p.2)) σ) H1 := by
  obtain ⟨w, ρ, c, rel, rho, run⟩ := q
  refine chn_run es σ H H _ w ρ c rel rho (fun _ z => z) ((RunS.bnd rho run).mono fun ds w1 c1 H1 rel1 ext1 k _ _ vs pn => ?_)
  have k := k ext1
  unfold parG at k
  cases e : putN is ds ρ with
  | none => rw [e] at k; exact k.nope.elim
  | some ρ' =>
    rw [e] at k
    obtain ⟨g1, g2⟩ := put_all (H0 := H0) is ds vs ρ ρ' σ H e pn rho.trk (fun j d a hj sj => by
      obtain ⟨a', o, q1, q2, _⟩ := rho.own j d hj
      rw [q1] at sj
      have : a' = a := by simpa using sj
      subst this
      rw [q2]; simp) (rho.ext ext1)
    exact ⟨g2, RunS.here k rel1 g1⟩
end
end Eng

/-! Eng19: statements compute what the small machine computes -/
namespace Eng
open PySem PySem.Spec PyProof.Rows L2
section
variable {ca : CA} {H0 : Hp} {T : FT} {k : Nat} {F : FN}
def swV (sc : Scope) (y : Str) (py : Pos) (s : Scope) (p : Pos) : Bool := sc.names.lookup y == some .local && py.line == p.line && !(s.names.any fun (n, k) => n == y && (k == .local || k == .cell))
theorem sw_val {X : Cx} {sc : Scope} (hsc : X.env.scope = sc) (hk : (sc.kind == .function) = true) {el : Expr} {gs : List Comprehension} {s : Scope} {p py : Pos} {y : Str} {l : Nat} : swapsWith (.ListComp el gs s p) (some (.Name y py)) l X.env = pure (swV sc y py s p) := by
  have hk' : X.env.scope.kind = .function := by rw [hsc]; exact eq_of_beq hk
  have hb : X.env.blockKind = .function := by unfold Env.blockKind; rw [hk']; rfl
  have ky : X.env.kindOf y = sc.names.lookup y := by unfold Env.kindOf; rw [hsc]
  unfold swapsWith swV
  simp only [hb, ky, Expr.pos]
  rfl
theorem sw_no {X : Cx} {v : Expr} {t : Option Expr} {l : Nat} (h : noComp v = true) : swapsWith v t l X.env = pure false := by
  cases v <;> first | rfl | cases h
theorem sw_sole {t v : Expr} {l : Nat} {env : PySem.Env} : swapsWithSole [t] v l env = swapsWith v (some t) l env := rfl
/-- what is known of the def's place -/
structure Top (X : Cx) : Prop where
  fn : ∀ x, X.fn x = true
  st : X.stack = X.env :: X.outer
  fr : X.env.frame = some X.env.locals
/-- a comprehension's list in a plain name -/
theorem lc_asg (hF : ∀ f g, lookN F f = some g → (T f).isSome = true) {own : List (Str × Nat)} {elt : EX} {tg : TG} {kd : IK} {its : EXs} {ifs : EX} {X : Cx} {W : WX} {N : List Str} {sc : Scope} {el : Expr} {gens : List Comprehension} {scope : Scope} {pos : Pos}
    (gd : Gd ca F T k W X) (hN : X.N = N) (hsc : X.env.scope = sc) (h : isE F N sc (.lc own elt tg kd its ifs) (.ListComp el gens scope pos) = true) {i : Nat} {y : Str} {py spos : Pos} (hy : N[i]? = some y) (hyl : sc.names.lookup y = some .local)
    (hsw : swapsWith (.ListComp el gens scope pos) (some (.Name y py)) spos.line X.env = pure true) :
    PS X (.Assign [.Name y py] (.ListComp el gens scope pos) spos) (tAsg (SemN X.K ca H0 W (ev T (.lc own elt tg kd its ifs))) (gName i)) := by
  match gens, h with
  | [⟨te, it, fs, 0⟩], h =>
    have h : (!F.sx && blkC N sc scope own && isE F N (relS scope sc) elt el && isT scope N tg te && (slotsT tg).all (fun i => decide (i ∈ own.map (·.2))) &&
      (match (generalizing := false) fs with | [] => isAbs ifs | [f] => !isAbs ifs && isE F N (relS scope sc) ifs f | _ => false) && decide (lenEX its = ikL kd) && isEs F N sc its (itArgs sc kd te it)) = true := h
    simp only [Bool.and_eq_true, decide_eq_true_eq, Bool.not_eq_true'] at h
    obtain ⟨⟨⟨⟨⟨⟨⟨hx, hb⟩, hel⟩, htg⟩, hsl⟩, hif⟩, hlen⟩, hit⟩ := h
    have he := fun (s : Shared) (H : Hp) (C : Addr) (cl : List (Str × Addr)) (fp : List Addr) => (sndE (H0 := H0) hF elt (X.blk s H scope (compEnvC scope cl C X.env) fp) _ N (relS scope sc) el (gd.blk hx s H scope _ fp) hN (blk_sc hsc s H C cl fp) hel).1
    have ht : ∀ (s : Shared) (H : Hp) (C : Addr) (cl : List (Str × Addr)) (fp : List Addr), PTs (X.blk s H scope (compEnvC scope cl C X.env) fp) fs (SemT X.K ca H0 (fun _ _ _ _ => False) (if isAbs ifs then fun _ c => some (.ok true, c) else evT T ifs)) := fun s H C cl fp => by
      match fs, hif with
      | [], hif => exact pts_abs hif
      | [f], hif =>
        have hif : (!isAbs ifs && isE F N (relS scope sc) ifs f) = true := hif
        rw [Bool.and_eq_true, Bool.not_eq_true'] at hif
        rw [hif.1]
        exact pts_one (sndE hF ifs (X.blk s H scope (compEnvC scope cl C X.env) fp) _ N (relS scope sc) f (gd.blk hx s H scope _ fp) hN (blk_sc hsc s H C cl fp) hif.2).2
    have qa := (sndEs (H0 := H0) hF its X W N sc _ gd hN hsc hit).1
    have hi := si_all (T := T) (ms := its) gd hsc (isEs_star hit) hlen qa (fun hk m hm => by
      subst hk
      exact (sndEs (H0 := H0) hF its X W N sc _ gd hN hsc hit).2.1 m it hm (seq_args rfl (by rw [(isEs_star hit).2, hlen]; rfl)))
    have e : (fun ρ c => bnd (evI kd (evs T its) ρ c) fun xs c => bnd (lcGo tg (if isAbs ifs then fun _ c => some (.ok true, c) else evT T ifs) (ev T elt) (wipeR ρ (own.map (·.2))) xs [] c) fun acc c => some (.ok (.lst acc, true), c)) = ev T (.lc own elt tg kd its ifs) := by
      funext ρ c
      refine (bnd_lift (evs T its ρ c) (itemsI kd) _).trans ?_
      simp only [ev, evB, byTruth]
      congr 1
      funext a c
      cases itemsI kd a <;> rfl
    rw [← e]
    exact psM (ps_setLc (te := SemE X.K ca H0 (fun _ _ _ _ => False) (fE (ev T elt))) (gd.calm hx) gd.nd (by rw [hN]; exact hy) (by rw [hsc]; exact hyl) hsw hi.1 (by rw [hN, hsc]; exact blkOk_by hb) (blk_pg gd hx hN hsc htg) ht (fun s H C cl fp => semE_of (he s H C cl fp)) (fold_of hi.2 _))
      fun D σ H q => lc_tLc (fun i hi => of_decide_eq_true (List.all_eq_true.mp hsl i hi)) σ H _ q
theorem lc2_asg (hF : ∀ f g, lookN F f = some g → (T f).isSome = true) {own : List (Str × Nat)} {elt it1 : EX} {tg tg1 : TG} {kd : IK} {its : EXs} {X : Cx} {W : WX} {N : List Str} {sc : Scope} {el : Expr} {gens : List Comprehension} {scope : Scope} {pos : Pos}
    (gd : Gd ca F T k W X) (hN : X.N = N) (hsc : X.env.scope = sc) (h : isE F N sc (.lc2 own elt tg kd its tg1 it1) (.ListComp el gens scope pos) = true) {i : Nat} {y : Str} {py spos : Pos} (hy : N[i]? = some y) (hyl : sc.names.lookup y = some .local)
    (hsw : swapsWith (.ListComp el gens scope pos) (some (.Name y py)) spos.line X.env = pure true) :
    PS X (.Assign [.Name y py] (.ListComp el gens scope pos) spos) (tAsg (SemN X.K ca H0 W (ev T (.lc2 own elt tg kd its tg1 it1))) (gName i)) := by
  match gens, h with
  | [⟨te, it, [], 0⟩, ⟨te1, i1, [], 0⟩], h =>
    have h : (!F.sx && blkC N sc scope own && isE F N (relS scope sc) elt el && isT scope N tg te && isT scope N tg1 te1 && (slotsT tg).all (fun i => decide (i ∈ own.map (·.2))) && (slotsT tg1).all (fun i => decide (i ∈ own.map (·.2))) &&
      decide (lenEX its = ikL kd) && isEs F N sc its (itArgs sc kd te it) && noSet i1 && isE F N (relS scope sc) it1 i1) = true := h
    simp only [Bool.and_eq_true, decide_eq_true_eq, Bool.not_eq_true'] at h
    obtain ⟨⟨⟨⟨⟨⟨⟨⟨⟨⟨hx, hb⟩, hel⟩, htg⟩, htg1⟩, hsl⟩, hsl1⟩, hlen⟩, hit⟩, hns⟩, hi1⟩ := h
    have he := fun (s : Shared) (H : Hp) (C : Addr) (cl : List (Str × Addr)) (fp : List Addr) => (sndE (H0 := H0) hF elt (X.blk s H scope (compEnvC scope cl C X.env) fp) (fun _ _ _ _ => False) N (relS scope sc) el (gd.blk hx s H scope _ fp) hN (blk_sc hsc s H C cl fp) hel).1
    have hyy := fun (s : Shared) (H : Hp) (C : Addr) (cl : List (Str × Addr)) (fp : List Addr) => (sndE (H0 := H0) hF it1 (X.blk s H scope (compEnvC scope cl C X.env) fp) (fun _ _ _ _ => False) N (relS scope sc) i1 (gd.blk hx s H scope _ fp) hN (blk_sc hsc s H C cl fp) hi1).1
    have qa := (sndEs (H0 := H0) hF its X W N sc _ gd hN hsc hit).1
    have hi := si_all (T := T) (ms := its) gd hsc (isEs_star hit) hlen qa (fun hk m hm => by
      subst hk
      exact (sndEs (H0 := H0) hF its X W N sc _ gd hN hsc hit).2.1 m it hm (seq_args rfl (by rw [(isEs_star hit).2, hlen]; rfl)))
    have e : (fun ρ c => bnd (evI kd (evs T its) ρ c) fun xs c => bnd (lc2Go tg (evI .seq fun ρ c => bnd (fstM (ev T it1 ρ c)) fun d c => some (.ok [d], c)) tg1 (ev T elt) (slotsT tg1) (wipeR ρ (own.map (·.2))) xs [] c) fun acc c => some (.ok (.lst acc, true), c)) = ev T (.lc2 own elt tg kd its tg1 it1) := by
      funext ρ c
      refine (bnd_lift (evs T its ρ c) (itemsI kd) _).trans ?_
      simp only [ev, evB, byTruth]
      congr 1
      funext a c
      cases itemsI kd a <;> rfl
    rw [← e]
    exact psM (ps_setLc2 (te := SemE X.K ca H0 (fun _ _ _ _ => False) (fE (ev T elt))) (gd.calm hx) gd.nd (by rw [hN]; exact hy) (by rw [hsc]; exact hyl) hsw hi.1 (by rw [hN, hsc]; exact blkOk_by hb) (fun i hi => of_decide_eq_true (List.all_eq_true.mp hsl1 i hi)) (blk_pg gd hx hN hsc htg) (fun s H C cl fp => pts_tt) (fun s H C cl fp => si_seq (hyy s H C cl fp)) (blk_pg gd hx hN hsc htg1) (fun s H C cl fp => pts_tt) (fun s H C cl fp => semE_of (he s H C cl fp)) (fold_of hi.2 _) (fun env => fold_of hns env))
      fun D σ H q => lc2_tLc2 (fun i hi => of_decide_eq_true (List.all_eq_true.mp hsl i hi)) σ H _ q
theorem loc_of {X : Cx} {sc : Scope} {x : Str} (hs : X.env.scope = sc) (h : locS sc x = true) : Loc X.env.scope x := by
  rw [hs]
  unfold locS at h
  rw [Bool.or_eq_true] at h
  rcases h with h | h
  · exact .inl (eq_of_beq h)
  · exact .inr (eq_of_beq h)
/-- a value in a plain name -/
theorem name_asg (hF : ∀ f g, lookN F f = some g → (T f).isSome = true) {m : EX} {X : Cx} {W : WX} {N : List Str} {sc : Scope} {v : Expr} {i : Nat} {y : Str} {py spos : Pos} (gd : Gd ca F T k W X) (hN : X.N = N) (hsc : X.env.scope = sc) (hfn : Top X)
    (h : isE F N sc m v = true) (hc : compOk sc v = true) (hy : N[i]? = some y) (hl : locS sc y = true) : PS X (.Assign [.Name y py] v spos) (tAsg (SemN X.K ca H0 W (ev T m)) (gName i)) := by
  have q := (sndE (H0 := H0) hF m X W N sc v gd hN hsc h).1
  have pl : swapsWith v (some (.Name y py)) spos.line X.env = pure false → PS X (.Assign [.Name y py] v spos) (tAsg (SemN X.K ca H0 W (ev T m)) (gName i)) := fun hs => ps_set gd.nd (by rw [hN]; exact hy) (loc_of hsc hl) q hs (.inl (hfn.fn y))
  by_cases hn : noComp v = true
  · exact pl (sw_no hn)
  · cases v with
    | ListComp el gens s p =>
      have sw := sw_val (l := spos.line) (gs := gens) (s := s) (p := p) (py := py) (y := y) (el := el) hsc hc
      cases hb : swV sc y py s p with
      | false => exact pl (by rw [sw, hb])
      | true =>
        cases m with
        | lc own elt tg kd its ifs =>
          have hl : sc.names.lookup y = some .local := by
            unfold swV at hb
            simp only [Bool.and_eq_true] at hb
            exact eq_of_beq hb.1.1
          exact lc_asg hF gd hN hsc h hy hl (by rw [sw, hb])
        | lc2 own elt tg kd its tg1 it1 =>
          have hl : sc.names.lookup y = some .local := by
            unfold swV at hb
            simp only [Bool.and_eq_true] at hb
            exact eq_of_beq hb.1.1
          exact lc2_asg hF gd hN hsc h hy hl (by rw [sw, hb])
        | _ => cases h
    | _ => first | exact absurd rfl hn | cases hc
theorem noPair_of {sc : Scope} {t v : Expr} (h : noTupE v = true) : noPair sc t v = true := by
  cases v <;> first | (cases h; done) | (cases t <;> rfl)
theorem pair_none {X : Cx} {sc : Scope} (hsc : X.env.scope = sc) {t v : Expr} (h : noPair sc t v = true) (ht : isTup t = true) : swappedStores [t] v X.env = pure none := by
  cases t with
  | Tuple ts kk tp =>
    cases v with
    | Tuple vs k2 vp =>
      have h : (ts.any fun e => match e with
        | .Name y _ => !(sc.names.lookup y == some .local)
        | _ => true) = true := h
      have hlen : (ts.filterMap fun e => match e with
          | .Name id pos => if X.env.kindOf id == some .local && pos.line == ((ts.head?.map (·.pos.line)).getD 0) then some id else none
          | _ => none).length ≠ ts.length := by
        generalize ((ts.head?.map (·.pos.line)).getD 0) = ln
        intro z
        have key : ∀ ts : List Expr, (ts.filterMap fun e => match e with
          | .Name id pos => if X.env.kindOf id == some .local && pos.line == ln then some id else none
          | _ => none).length = ts.length → (ts.any fun e => match e with
        | .Name y _ => !(sc.names.lookup y == some .local)
        | _ => true) = false := fun ts => by
          induction ts with
          | nil => intro _; rfl
          | cons e ts ih =>
            intro z
            have le : (ts.filterMap fun e => match e with
          | .Name id pos => if X.env.kindOf id == some .local && pos.line == ln then some id else none
          | _ => none).length ≤ ts.length := List.length_filterMap_le _ _
            rw [List.filterMap_cons] at z
            split at z
            · rw [List.length_cons] at z
              omega
            · rename_i b eb
              rw [List.length_cons, List.length_cons] at z
              rw [List.any_cons, ih (by omega), Bool.or_false]
              split at eb
              · split at eb
                · rename_i q
                  rw [Bool.and_eq_true] at q
                  have ky : ∀ y, X.env.kindOf y = sc.names.lookup y := fun y => by unfold Env.kindOf; rw [hsc]
                  rw [ky] at q
                  simp [q.1]
                · cases eb
              · cases eb
        rw [key ts z] at h
        cases h
      unfold swappedStores
      simp only [pure_bind]
      split
      · rfl
      · split
        · rfl
        · split
          · rfl
          · rename_i q
            exact absurd (by
              rw [Bool.or_eq_true]
              exact .inl (bne_iff_ne.mpr hlen)) q
    | _ => rfl
  | _ => cases ht
theorem frz_run {X : Cx} {W : WX} {i : Nat} {b : Rho → Cells → AnsS} {Dn : Ends} {σ : L2.St} {H : Hp} (q : SemS X.K ca H0 W (fun ρ c => b (frzR ρ i) c) Dn σ H) : SemS X.K ca H0 W b Dn σ H := by
  obtain ⟨w, ρ, c, rel, rho, run⟩ := q
  have same : ∀ {s : Option Sl}, ρ[i]? = s → (∀ d, s ≠ some (.own d)) → SemS X.K ca H0 W b Dn σ H := fun {s} e hs => by
    have : frzR ρ i = ρ := by
      unfold frzR
      rw [e]
      rcases s with _ | _ | d | d | d
      · rfl
      · rfl
      · rfl
      · exact absurd rfl (hs d)
      · rfl
    simp only [this] at run
    exact ⟨w, ρ, c, rel, rho, run⟩
  rcases e : ρ[i]? with _ | _ | d | d | d
  · exact same e fun d z => by cases z
  · exact same e fun d z => by cases z
  · exact same e fun d z => by cases z
  rotate_left
  · exact same e fun d z => by cases z
  · have : frzR ρ i = ρ.set i (.val d) := by unfold frzR; rw [e]
    simp only [this] at run
    obtain ⟨a, o, q1, q2, q3, q4, q5, q6⟩ := rho.own i d e
    have hi : i < ρ.length := (List.getElem?_eq_some_iff.mp e).1
    obtain ⟨r', x'⟩ := rel.keep q2 q4 q6 (T := H0) rho.trk q5
    have old : ∀ {j : Nat} {f : D}, (ρ.set i (.val d))[j]? = some (.own f) → i ≠ j ∧ ρ[j]? = some (.own f) := fun {j f} hj => by
      by_cases hij : i = j
      · subst hij
        rw [List.getElem?_set_self hi] at hj; cases hj
      · rw [List.getElem?_set_ne hij] at hj; exact ⟨hij, hj⟩
    refine ⟨_, _, c, r', ⟨by rw [List.length_set]; exact rho.len, fun j f hj => ?_, fun j f hj => ?_, fun j k f g b hj hk sj sk => rho.dis j k f g b (old hj).2 (old hk).2 sj sk, rho.trk, fun j f hj => ?_⟩, RunS.step run x'⟩
    · by_cases hij : i = j
      · subst hij
        rw [List.getElem?_set_self hi] at hj
        have : d = f := by simpa using hj
        subst this
        exact ⟨_, q1, (x'.rpo q3).rp (by show upd w.S a o a = _; exact upd_same)⟩
      · rw [List.getElem?_set_ne hij] at hj
        obtain ⟨v, z1, z2⟩ := rho.val j f hj
        exact ⟨v, z1, x'.rp z2⟩
    · obtain ⟨hij, hj⟩ := old hj
      obtain ⟨b', u, z1, z2, z3, z4, z5, z6⟩ := rho.own j f hj
      have ne : b' ≠ a := fun z => hij (rho.dis i j d f a e hj q1 (by rw [z1, z]))
      exact ⟨b', u, z1, z2, x'.rpo z3, by show upd w.S a o b' = _; rw [upd_ne ne]; exact z4, z5, z6⟩
    · have nj : i ≠ j := fun z => by
        subst z
        rw [List.getElem?_set_self hi] at hj; cases hj
      rw [List.getElem?_set_ne nj] at hj
      exact ⟨(rho.exc j f hj).1, (rho.exc j f hj).2.ext x'⟩
theorem par_some {X : Cx} {sc : Scope} {x y : Str} {px py pt pt2 : Pos} {kt k2 : Nat} {u v : Expr} (hsc : X.env.scope = sc) (h : parC sc x y px py u v = true) :
    swappedStores [.Tuple [.Name x px, .Name y py] kt pt] (.Tuple [u, v] k2 pt2) X.env = pure (some [x, y]) ∧ sc.names.lookup x = some .local ∧ sc.names.lookup y = some .local := by
  unfold parC at h
  simp only [Bool.and_eq_true, Bool.not_eq_true', beq_iff_eq] at h
  obtain ⟨⟨⟨⟨⟨⟨⟨⟨hk, h1⟩, h2⟩, h3⟩, h4⟩, h5⟩, h6⟩, h7⟩, h8⟩ := h
  have hb : X.env.blockKind = .function := by unfold Env.blockKind; rw [hsc, hk]; rfl
  have ky : ∀ y, X.env.kindOf y = sc.names.lookup y := fun y => by unfold Env.kindOf; rw [hsc]
  refine ⟨?_, h1, h2⟩
  have n1 : (match (generalizing := false) u with | .Starred .. => true | _ => false) = false := by cases u <;> first | rfl | cases h5
  have n2 : (match (generalizing := false) v with | .Starred .. => true | _ => false) = false := by cases v <;> first | rfl | cases h6
  have hne : (x == y) = false := h4
  unfold swappedStores
  simp only [pure_bind, hb, ky, h1, h2, h3, List.any_cons, List.any_nil, List.head?_cons, Option.map_some, Option.getD_some, Expr.pos, List.filterMap_cons, List.filterMap_nil, BEq.rfl, Bool.and_true, Bool.true_and, if_true]
  have e7 : ([u, v].all (foldedForSure 8)) = false := h7
  have e8 : ([u, v].all (constantsAlone 8)) = false := h8
  have hyx : (y == x) = false := by
    rw [beq_eq_false_iff_ne] at hne ⊢
    exact Ne.symm hne
  have ed : [x, y].eraseDups.length = 2 := by simp [List.eraseDups_cons, hyx]
  refine (if_neg Bool.false_ne_true).trans ?_
  refine (if_neg fun q => ?_).trans ?_
  · rw [Bool.or_eq_true, Bool.or_eq_true] at q
    rcases q with q | q | q
    · cases u <;> first | (cases q; done) | (cases h5; done)
    · cases v <;> first | (cases q; done) | (cases h6; done)
    · cases q
  refine (if_neg (by rw [ed]; exact Bool.false_ne_true)).trans ?_
  rw [e7, e8]
  rfl
theorem par_some3 {X : Cx} {sc : Scope} {x y z : Str} {px py pz pt pt2 : Pos} {kt k2 : Nat} {u v t : Expr} (hsc : X.env.scope = sc) (h : parC3 sc x y z px py pz u v t = true) :
    swappedStores [.Tuple [.Name x px, .Name y py, .Name z pz] kt pt] (.Tuple [u, v, t] k2 pt2) X.env = pure (some [x, y, z]) ∧ sc.names.lookup x = some .local ∧ sc.names.lookup y = some .local ∧ sc.names.lookup z = some .local := by
  unfold parC3 at h
  simp only [Bool.and_eq_true, Bool.not_eq_true', beq_iff_eq] at h
  obtain ⟨⟨⟨⟨⟨⟨⟨⟨⟨⟨⟨⟨⟨hk, h1⟩, h2⟩, h2z⟩, h3⟩, h3z⟩, h4⟩, h4a⟩, h4b⟩, h5⟩, h6⟩, h6t⟩, h7⟩, h8⟩ := h
  have hb : X.env.blockKind = .function := by unfold Env.blockKind; rw [hsc, hk]; rfl
  have ky : ∀ y, X.env.kindOf y = sc.names.lookup y := fun y => by unfold Env.kindOf; rw [hsc]
  refine ⟨?_, h1, h2, h2z⟩
  have sw : ∀ {a b : Str}, (a == b) = false → (b == a) = false := fun {a b} q => by
    rw [beq_eq_false_iff_ne] at q ⊢
    exact Ne.symm q
  have hxy : (x == y) = false := h4
  have hxz : (x == z) = false := h4a
  have hyz : (y == z) = false := h4b
  unfold swappedStores
  simp only [pure_bind, hb, ky, h1, h2, h2z, h3, h3z, List.any_cons, List.any_nil, List.head?_cons, Option.map_some, Option.getD_some, Expr.pos, List.filterMap_cons, List.filterMap_nil, BEq.rfl, Bool.and_true, Bool.true_and, if_true]
  have e7 : ([u, v, t].all (foldedForSure 8)) = false := h7
  have e8 : ([u, v, t].all (constantsAlone 8)) = false := h8
  have ed : [x, y, z].eraseDups.length = 3 := by simp [List.eraseDups_cons, sw hxy, sw hxz, sw hyz]
  refine (if_neg Bool.false_ne_true).trans ?_
  refine (if_neg fun q => ?_).trans ?_
  · simp only [Bool.or_eq_true] at q
    rcases q with q | q | q | q
    · cases u <;> first | (cases q; done) | (cases h5; done)
    · cases v <;> first | (cases q; done) | (cases h6; done)
    · cases t <;> first | (cases q; done) | (cases h6t; done)
    · cases q
  refine (if_neg (by rw [ed]; exact Bool.false_ne_true)).trans ?_
  rw [e7, e8]
  rfl
section
set_option maxHeartbeats 4000000

/-! ### raise, try -/
section
variable {K : PySem.W.Frag} {ca1 ca2 : CA} {w w1 : Wd} {c c1 : Cells} {H H1 : Hp} {ρ : Rho} {σ : L2.St} {W : WQ} {Dn : Ends}
theorem noX_no {i : Nat} {d : D} (h : noX ρ = true) (e : ρ[i]? = some (.exc d)) : False := by
  have := List.all_eq_true.mp h _ (List.mem_of_getElem? e)
  cases this
theorem RhoR.conv (h : RhoR K ca1 w c H0 H ρ σ) (e : ca1.f = ca2.f) (hx : noX ρ = true) : RhoR K ca2 w c H0 H ρ σ := by
  obtain ⟨f, a1, b1, c1⟩ := ca1
  obtain ⟨f2, a2, b2, c2⟩ := ca2
  cases e
  exact ⟨h.len, h.val, h.own, h.dis, h.trk, fun i d z => (noX_no hx z).elim⟩
theorem RhoR.setX (h : RhoR K ca1 w c H0 H ρ σ) {i : Nat} {x : D} (es : ExS K ca1 w x) : RhoR K ca1 w c H0 H (ρ.set i (.exc x)) (σ.set i (some (.ref ca1.xa))) := by
  have ne : ∀ {j : Nat} {s : Sl}, (ρ.set i (.exc x))[j]? = some s → (∀ d, s ≠ .exc d) → i ≠ j := fun {j s} hj hs z => by
    subst z
    by_cases hi : i < ρ.length
    · rw [List.getElem?_set_self hi] at hj; cases hj; exact hs _ rfl
    · rw [List.getElem?_eq_none (by simpa using hi)] at hj; cases hj
  refine ⟨by rw [List.length_set, List.length_set]; exact h.len, fun j e hj => ?_, fun j e hj => ?_, fun j k e f a hj hk sj sk => ?_, h.trk, fun j e hj => ?_⟩
  · have nj := ne hj (by simp)
    rw [List.getElem?_set_ne nj] at hj ⊢
    exact h.val j e hj
  · have nj := ne hj (by simp)
    rw [List.getElem?_set_ne nj] at hj ⊢
    exact h.own j e hj
  · have nj := ne hj (by simp)
    have nk := ne hk (by simp)
    rw [List.getElem?_set_ne nj] at hj sj
    rw [List.getElem?_set_ne nk] at hk sk
    exact h.dis j k e f a hj hk sj sk
  · by_cases hij : i = j
    · subst hij
      by_cases hi : i < ρ.length
      · rw [List.getElem?_set_self hi] at hj
        cases hj
        exact ⟨List.getElem?_set_self (by rw [← h.len]; exact hi), es⟩
      · rw [List.getElem?_eq_none (by simpa using hi)] at hj; cases hj
    · rw [List.getElem?_set_ne hij] at hj ⊢
      exact h.exc j e hj
theorem raise_run {X : Cx} {W : WX} {fs : Rho → Cells → Ans (List D)} {cl : Nat} {g : Option Str} {H : Hp} (q : SemS X.K ca H0 W (fun ρ c => stB (fs ρ c) ρ fun ds c => raiseF cl g ds ρ c) Dn σ H) : EngX.tMkX (ca.f cl) g (SemB X.K ca H0 W fs) σ H (fun cls d H' => W cls d σ H') := by
  obtain ⟨w, ρ, c, rel, rho, run⟩ := q
  refine ⟨w, ρ, c, rel, rho, (RunS.bnd rho run).mono fun ds w1 c1 H1 rel1 ext1 k vs ev => ?_⟩
  have k := k ext1
  unfold raiseF at k
  by_cases hc : (solL ds && decide (ds.length = (nmL g).length)) = true
  · rw [if_pos hc] at k
    rw [Bool.and_eq_true, decide_eq_true_eq] at hc
    have r := ev.rpl hc.1
    have rho1 := rho.ext ext1
    cases g with
    | none =>
      have e0 : ds = [] := List.length_eq_zero_iff.mp hc.2
      subst e0
      obtain rfl : vs = [] := r
      exact ⟨rfl, (RunS.here k rel1 rho1) _ none ⟨rfl, .inl ⟨rfl, rfl, rfl⟩⟩⟩
    | some gg =>
      match ds, hc.2, r with
      | [d], _, r =>
        obtain ⟨v, us, rfl, rv, e1⟩ := r
        obtain rfl : us = [] := e1
        refine ⟨v, rfl, fun dd hdd => ?_⟩
        obtain ⟨rel2, ext2⟩ := rel1.grow (o := .xd [(gg, v)]) hdd (T := H1) fun _ z => z
        obtain ⟨_, ext0⟩ := rel1.grow (o := .xd [(gg, v)]) hdd (T := H0) rho1.trk
        have h0 : H0 dd = none := by
          cases q : H0 dd with
          | none => rfl
          | some o => exact absurd hdd (rho1.trk dd (by rw [q]; simp))
        exact (RunS.now k rel2 ext0 (rho1.ext ext2)) _ (some dd) ⟨rfl, .inr ⟨dd, [(gg, v)], rfl, h0, upd_same, rfl, ⟨v, [], rfl, rv, rfl⟩⟩⟩
  · rw [if_neg hc] at k; exact k.nope.elim
def setI (i : Option Nat) (σ : L2.St) : L2.St := match i with
  | some i => σ.set i none
  | none => σ
theorem suite_run {r : AnsS} {i : Option Nat} (e : ca1.f = ca2.f) (run : RunS K ca2 H0 W w c H (endX i r) Dn) :
    RunS K ca1 H0 (fun _ _ _ _ => False) w c H r { nx := fun σ' H' => Dn.nx (setI i σ') H', rt := Dn.rt, bk := fun σ' H' => Dn.bk (setI i σ') H', ct := fun σ' H' => Dn.ct (setI i σ') H' } := by
  rcases r with _ | ⟨fl, ρ2, c2⟩
  · exact run.nope.elim
  · have key : ∀ {fl : Fl}, RunS K ca2 H0 W w c H (if noX (outX i ρ2) then some (fl, outX i ρ2, c2) else none) Dn → ∀ w' H' σ', Rel K ca1.f w' c2 H' → Ext H0 w c H w' c2 H' → RhoR K ca1 w' c2 H0 H' ρ2 σ' → FlQ K ca2 H0 W Dn w' c2 H' (setI i σ') fl := fun {fl} run w' H' σ' rel ext rho => by
      by_cases hx : noX (outX i ρ2) = true
      · rw [if_pos hx] at run
        refine RunS.now run (e ▸ rel) ext (RhoR.conv ?_ e hx)
        cases i with
        | none => exact rho
        | some i => exact rho.unset i
      · rw [if_neg hx] at run; exact run.nope.elim
    cases fl with
    | ex x => exact run.nope.elim
    | nx => exact ⟨_, _, _, rfl, fun w' H' σ' rel ext rho => key (fl := .nx) run w' H' σ' rel ext rho⟩
    | bk => exact ⟨_, _, _, rfl, fun w' H' σ' rel ext rho => key (fl := .bk) run w' H' σ' rel ext rho⟩
    | ct => exact ⟨_, _, _, rfl, fun w' H' σ' rel ext rho => key (fl := .ct) run w' H' σ' rel ext rho⟩
    | rt d fr => exact ⟨_, _, _, rfl, fun w' H' σ' rel ext rho => (by
        have := key (fl := .rt d fr) run w' H' σ' rel ext rho
        intro v hv
        exact this v (e ▸ hv))⟩
theorem rpo_xd {d : D} {fs : List (Str × V)} : ¬ RpO K ca1.f w d (.xd fs) := by
  intro h
  cases d with
  | lst ds => obtain ⟨_, z, _⟩ := h; cases z
  | dK ks ds => obtain ⟨_, z, _⟩ := h; cases z
  | dT ks ds => obtain ⟨_, z, _⟩ := h; cases z
  | ins cc nm ds => obtain ⟨_, _, z, _⟩ := h; cases z
  | tup ds => obtain ⟨_, z, _⟩ := h; cases z
  | _ => exact h.elim
/-- what flies stands where it never changes -/
theorem ex_keep {x : D} {cls : Value} {dx : Option Addr} {a : Addr} (rel : Rel K ca1.f w c H) (rho : RhoR K ca1 w c H0 H ρ σ) (h : ExR K ca1.f H0 w H x cls dx) : ∃ w2, Rel K ca1.f w2 c H ∧ Ext H0 w c H w2 c H ∧ RhoR K ca1 w2 c H0 H ρ σ ∧ ExS K ⟨ca1.f, a, cls, dx⟩ w2 x := by
  cases x with
  | ins cc nm vs =>
    obtain ⟨h1, h2⟩ := h
    rcases h2 with ⟨e1, e2, e3⟩ | ⟨d, fs, e1, e2, e3, e4, e5⟩
    · exact ⟨w, rel, .refl rel rho.trk, rho, h1, .inl ⟨e1, e2, e3⟩⟩
    · cases hS : w.S d with
      | some o =>
        have := rel.same _ _ hS
        rw [e3] at this
        cases this
        exact ⟨w, rel, .refl rel rho.trk, rho, h1, .inr ⟨d, fs, e1, hS, e4, e5⟩⟩
      | none =>
        have hc : ∀ n, Live c n → w.al n ≠ d := fun n ⟨dn, en⟩ z => by
          obtain ⟨⟨o, q, ro⟩, _⟩ := rel.cell n dn en
          rw [z, e3] at q
          cases q
          exact rpo_xd (ca1 := ca1) ro
        obtain ⟨r2, x2⟩ := rel.keep e3 hS hc (T := H0) rho.trk e2
        refine ⟨_, r2, x2, ?_, h1, .inr ⟨d, fs, e1, by show upd w.S d _ d = _; exact upd_same, e4, x2.rpl e5⟩⟩
        refine ⟨rho.len, fun j f hj => ?_, fun j f hj => ?_, rho.dis, rho.trk, fun j f hj => ⟨(rho.exc j f hj).1, (rho.exc j f hj).2.ext x2⟩⟩
        · obtain ⟨v, z1, z2⟩ := rho.val j f hj
          exact ⟨v, z1, x2.rp z2⟩
        · obtain ⟨b, u, z1, z2, z3, z4, z5, z6⟩ := rho.own j f hj
          have ne : b ≠ d := fun z => by
            rw [z, e3] at z2
            cases z2
            exact rpo_xd (ca1 := ca1) z3
          exact ⟨b, u, z1, z2, x2.rpo z3, by show upd w.S d _ b = _; rw [upd_ne ne]; exact z4, z5, z6⟩
  | _ => exact h.elim
def setOX (i : Option Nat) (a : Addr) (σ : L2.St) : L2.St := match i with
  | some i => σ.set i (some (.ref a))
  | none => σ
def endsOX (i : Option Nat) (Dn : Ends) : Ends := { nx := fun σ' H' => Dn.nx (setI i σ') H', rt := Dn.rt, bk := fun σ' H' => Dn.bk (setI i σ') H', ct := fun σ' H' => Dn.ct (setI i σ') H' }
theorem try_core {i : Option Nat} {ds : List Nat} {cl : Nat} {suite : Rho → Cells → AnsS} {r : AnsS} {Wn : WQ} (run : RunS K ca1 H0 W w c H (tryF ds cl i suite r) Dn)
    (hW : ∀ cls dx σ' H' d, d ∈ ds → cls = .ref (ca1.f d) → (isaX d cl = true → ∀ a, SemS K ⟨ca1.f, a, cls, dx⟩ H0 (fun _ _ _ _ => False) suite (endsOX i Dn) (setOX i a σ') H') → (isaX d cl = false → W cls dx σ' H') → Wn cls dx σ' H') :
    RunS K ca1 H0 Wn w c H r Dn := by
  rcases r with _ | ⟨fl, ρ1, c1⟩
  · exact run.nope.elim
  · cases fl with
    | nx => exact ⟨_, _, _, rfl, fun w' H' σ' rel ext rho => (show FlQ K ca1 H0 W Dn w' c1 H' σ' (.nx) from RunS.now (fl := .nx) run rel ext rho)⟩
    | bk => exact ⟨_, _, _, rfl, fun w' H' σ' rel ext rho => (show FlQ K ca1 H0 W Dn w' c1 H' σ' (.bk) from RunS.now (fl := .bk) run rel ext rho)⟩
    | ct => exact ⟨_, _, _, rfl, fun w' H' σ' rel ext rho => (show FlQ K ca1 H0 W Dn w' c1 H' σ' (.ct) from RunS.now (fl := .ct) run rel ext rho)⟩
    | rt d fr => exact ⟨_, _, _, rfl, fun w' H' σ' rel ext rho => (show FlQ K ca1 H0 W Dn w' c1 H' σ' (.rt d fr) from RunS.now (fl := .rt d fr) run rel ext rho)⟩
    | ex x =>
      cases x with
      | ins d nm vs =>
        have run : RunS K ca1 H0 W w c H (if ds.contains d then (if isaX d cl then (if noX ρ1 then endX i (suite (inX i (.ins d nm vs) ρ1) c1) else none) else some (.ex (.ins d nm vs), ρ1, c1)) else none) Dn := run
        by_cases hd : ds.contains d = true
        · rw [if_pos hd] at run
          have hd : d ∈ ds := by simpa using hd
          refine ⟨_, _, _, rfl, fun w' H' σ' rel' ext' rho' cls dx exr => hW cls dx σ' H' d hd exr.1 (fun hi a => ?_) (fun hi => ?_)⟩
          · rw [if_pos hi] at run
            by_cases hx : noX ρ1 = true
            · rw [if_pos hx] at run
              obtain ⟨w2, rel2, x2, rho2, es⟩ := ex_keep (a := a) rel' rho' exr
              have rho3 : RhoR K ⟨ca1.f, a, cls, dx⟩ w2 c1 H0 H' ρ1 σ' := rho2.conv rfl hx
              refine ⟨w2, inX i (.ins d nm vs) ρ1, c1, rel2, ?_, suite_run (ca1 := ⟨ca1.f, a, cls, dx⟩) (ca2 := ca1) rfl (RunS.step run (ext'.trans x2 fun _ z => z))⟩
              cases i with
              | none => exact rho3
              | some i => exact rho3.setX es
            · rw [if_neg hx] at run; exact run.nope.elim
          · rw [hi, if_neg Bool.false_ne_true] at run
            exact RunS.now run rel' ext' rho' cls dx exr
        · rw [if_neg hd] at run; exact run.nope.elim
      | _ => exact run.nope.elim
theorem own_look {ds : List Nat} (ho : ownX F ds = true) {d : Nat} (hd : d ∈ ds) : 2 ≤ d ∧ ∃ x f, lookX F.x d = some (x, f) := by
  have h := List.all_eq_true.mp ho d hd
  rw [Bool.and_eq_true, decide_eq_true_eq] at h
  obtain ⟨⟨x, f⟩, e⟩ := Option.isSome_iff_exists.mp h.2
  exact ⟨h.1, x, f, e⟩
theorem try_run {X : Cx} {W : WX} {gv : Str → Value → Prop} {i cl : Nat} {ds : List Nat} {y : Str} {f : Option Str} {body suite : Rho → Cells → AnsS} {H : Hp} (gx : XOk X.K gv ca.f F.x) (ho : ownX F ds = true) (ef : lookX F.x cl = some (y, f))
    (q : SemS X.K ca H0 W (fun ρ c => tryF ds cl (some i) suite (body ρ c)) Dn σ H) : SemS X.K ca H0 (wAs X.K (cvX ca.f cl) i (fun a cls d => SemS X.K ⟨ca.f, a, cls, d⟩ H0 (fun _ _ _ _ => False) suite) W Dn) body Dn σ H := by
  obtain ⟨w, ρ, c, rel, rho, run⟩ := q
  refine ⟨w, ρ, c, rel, rho, try_core run fun cls dx σ' H' d hd ec h1 h2 => ?_⟩
  obtain ⟨hd2, x, g, ex⟩ := own_look ho hd
  refine ⟨isaX d cl, by rw [ec]; exact (gx.sub d x g cl y f ex hd2 ef).2, fun hi a _ => h1 hi a, h2⟩
theorem try_run0 {X : Cx} {W : WX} {gv : Str → Value → Prop} {cl : Nat} {ds : List Nat} {y : Str} {f : Option Str} {body suite : Rho → Cells → AnsS} {H : Hp} (gx : XOk X.K gv ca.f F.x) (ho : ownX F ds = true) (ef : lookX F.x cl = some (y, f))
    (q : SemS X.K ca H0 W (fun ρ c => tryF ds cl none suite (body ρ c)) Dn σ H) : SemS X.K ca H0 (wOnly X.K (cvX ca.f cl) (fun a cls d => SemS X.K ⟨ca.f, a, cls, d⟩ H0 (fun _ _ _ _ => False) suite) W Dn) body Dn σ H := by
  obtain ⟨w, ρ, c, rel, rho, run⟩ := q
  refine ⟨w, ρ, c, rel, rho, try_core run fun cls dx σ' H' d hd ec h1 h2 => ?_⟩
  obtain ⟨hd2, x, g, ex⟩ := own_look ho hd
  refine ⟨isaX d cl, by rw [ec]; exact (gx.sub d x g cl y f ex hd2 ef).2, fun hi a _ => h1 hi a, h2⟩
theorem names_x {X : Cx} {W : WX} {T : FT} {k : Nat} {sc : Scope} {c : Nat} {x : Str} {p : Pos} (gd : Gd ca F T k W X) (hsc : X.env.scope = sc) (h : clsN F sc c x = true) : Names X x (cvX ca.f c) := by
  obtain ⟨f, e⟩ := cls_some h
  unfold clsN at h
  simp only [Bool.and_eq_true, Bool.not_eq_true'] at h
  have q := gd.xcs.nm c x f e
  refine ⟨gl_of hsc h.1.2, h.2, ?_⟩
  unfold cvX
  by_cases hc : c = 0
  · rw [if_pos hc] at q ⊢
    subst q
    exact .inr ⟨gd.blt _ (by simp [bltNames]), PyProof.Rows.Boot.«ValueError», by decide⟩
  · rw [if_neg hc] at q ⊢
    exact .inl q
end
variable (k) in
mutual
theorem sndS : ∀ (m : ST) (ca : CA) (F : FN) (hF : ∀ f g, lookN F f = some g → (T f).isSome = true) (X : Cx) (W : WX) (N : List Str) (sc : Scope) (st : Stmt), Gd ca F T k W X → X.N = N → X.env.scope = sc → Top X → isS F N sc m st = true → PS X st (SemS X.K ca H0 W (exS T m))
  | .asg tg e, ca, F, hF, X, W, N, sc, st, gd, hN, hsc, hfn, h => by
    cases st with
    | Assign ts v pos =>
      match ts, h with
      | [t], h =>
        have h : (isT sc N tg t && isE F N sc e v && (match (generalizing := false) tg with | .nm _ => compOk sc v | .tp _ => !F.sx && noComp v && noPair sc t v)) = true := h
        simp only [Bool.and_eq_true] at h
        obtain ⟨⟨ht, he⟩, hc⟩ := h
        cases tg with
        | nm i =>
          cases t with
          | Name y py =>
            have ht : (decide (N[i]? = some y) && locS sc y) = true := ht
            rw [Bool.and_eq_true, decide_eq_true_eq] at ht
            refine psM (name_asg (H0 := H0) (W := W) hF gd hN hsc hfn he hc ht.1 ht.2) fun D σ H q => ?_
            obtain ⟨w, ρ, c, rel, rho, run⟩ := asg_run q
            refine ⟨w, ρ, c, rel, rho, (RunT.bnd run).mono fun d w1 c1 H1 rel1 ext1 kk v nv => ?_⟩
            obtain ⟨w2, rel2, ext2, ev⟩ := nv.keep rel1 ext1.trk
            exact (kk H (fun _ z => z) ext1.trk).ret w2 H1 rel2 ext2 (ext1.trans ext2 fun _ z => z) v ev
          | _ => cases ht
        | tp tgs =>
          have hc : (!F.sx && noComp v && noPair sc t v) = true := hc
          rw [Bool.and_eq_true, Bool.and_eq_true, Bool.not_eq_true'] at hc
          obtain ⟨⟨hx, hc1⟩, hc2⟩ := hc
          have tt : isTup t = true := by cases t <;> first | rfl | cases ht
          have g := pgT (X := X) hN gd.nd (gd.calm hx) (fun x hx => ⟨loc_of hsc hx, .inl (hfn.fn x)⟩) (.tp tgs) t ht
          refine psM (ps_asg (semE_of (sndE (H0 := H0) hF e X W N sc v gd hN hsc he).1) g ?_ (pair_none hsc hc2 tt) ?_) fun D σ H q => asg_run q
          · show swapsWith v (some t) pos.line X.env = _
            exact sw_no hc1
          · cases t <;> first | rfl | cases tt
    | _ => cases h
  | .star tgs e, ca, F, hF, X, W, N, sc, st, gd, hN, hsc, hfn, h => by
    cases st with
    | Assign ts v pos =>
      match ts, h with
      | [.Tuple es kk tp], h =>
        have h : (!F.sx && (match unStar es with | some fs => isTs sc N tgs fs | none => false) && isE F N sc e v && noComp v && noTupE v) = true := h
        simp only [Bool.and_eq_true, Bool.not_eq_true'] at h
        obtain ⟨⟨⟨⟨hx, ht⟩, he⟩, hc⟩, hv⟩ := h
        cases hu : unStar es with
        | none => rw [hu] at ht; cases ht
        | some fs =>
          rw [hu] at ht
          have ht : isTs sc N tgs fs = true := ht
          obtain ⟨n1, n2⟩ := isTs_num ht
          have hs : ∀ x ∈ fs, noStar x = true := fun x hx => (List.all_eq_true.mp n2) x hx
          have hpos := (unStar_asg (env := X.env) hu hs).2.2.2
          have hn : numT tgs = (numT tgs - 1) + 1 := by omega
          have g := pgTs (X := X) hN gd.nd (gd.calm hx) (fun x hx => ⟨loc_of hsc hx, .inl (hfn.fn x)⟩) tgs fs ht
          refine psM (ps_asg (semE_of (sndE (H0 := H0) hF e X W N sc v gd hN hsc he).1) (pg_star (pos := tp) (k := kk) (gd.calm hx) g hu hs (by omega)) ?_ (pair_none hsc (noPair_of hv) rfl) rfl) fun D σ H q => star_run hn q
          show swapsWith v (some (.Tuple es kk tp)) pos.line X.env = _
          exact sw_no hc
    | _ => cases h
  | .own i e, ca, F, hF, X, W, N, sc, st, gd, hN, hsc, hfn, h => by
    cases st with
    | Assign ts v pos =>
      match ts, h with
      | [t], h =>
        have h : (isT sc N (.nm i) t && isE F N sc e v && compOk sc v) = true := h
        simp only [Bool.and_eq_true] at h
        obtain ⟨⟨ht, he⟩, hc⟩ := h
        cases t with
        | Name y py =>
          have ht : (decide (N[i]? = some y) && locS sc y) = true := ht
          rw [Bool.and_eq_true, decide_eq_true_eq] at ht
          exact psM (name_asg hF gd hN hsc hfn he hc ht.1 ht.2) fun D σ H q => own_run q
        | _ => cases ht
    | _ => cases h
  | .cell i e, ca, F, hF, X, W, N, sc, st, gd, hN, hsc, hfn, h => by
    cases st with
    | Assign ts v pos =>
      match ts, h with
      | [t], h =>
        have h : (isT sc N (.nm i) t && isE F N sc e v && compOk sc v) = true := h
        simp only [Bool.and_eq_true] at h
        obtain ⟨⟨ht, he⟩, hc⟩ := h
        cases t with
        | Name y py =>
          have ht : (decide (N[i]? = some y) && locS sc y) = true := ht
          rw [Bool.and_eq_true, decide_eq_true_eq] at ht
          exact psM (name_asg hF gd hN hsc hfn he hc ht.1 ht.2) fun D σ H q => cell_run q
        | _ => cases ht
    | _ => cases h
  | .par i j a b, ca, F, hF, X, W, N, sc, st, gd, hN, hsc, hfn, h => by
    cases st with
    | Assign ts v pos =>
      match ts, v, h with
      | [.Tuple [.Name x px, .Name y py] kt pt], .Tuple [u, v] k2 pt2, h =>
        have h : (!F.sx && decide (N[i]? = some x) && decide (N[j]? = some y) && !(i == j) && isEs F N sc (.cons a (.cons b .nil)) [u, v] && parC sc x y px py u v) = true := h
        simp only [Bool.and_eq_true, decide_eq_true_eq, Bool.not_eq_true', beq_eq_false_iff_ne] at h
        obtain ⟨⟨⟨⟨⟨hx, h1⟩, h2⟩, h3⟩, h4⟩, h5⟩ := h
        obtain ⟨hw, l1, l2⟩ := par_some (kt := kt) (pt := pt) (k2 := k2) (pt2 := pt2) hsc h5
        exact psM (ps_par (gd.calm hx) gd.nd (by rw [hN]; exact h1) (by rw [hN]; exact h2) h3 (by rw [hsc]; exact l1) (by rw [hsc]; exact l2) (sndEs hF _ X W N sc _ gd hN hsc h4).1 hw) fun D σ H q => par_run q
    | _ => cases h
  | .parA i j es, ca, F, hF, X, W, N, sc, st, gd, hN, hsc, hfn, h => by
    cases st with
    | Assign ts v pos =>
      match ts, v, h with
      | [.Tuple [.Name x px, .Name y py] kt pt], .Tuple [u, v] k2 pt2, h =>
        have h : (!F.sx && decide (N[i]? = some x) && decide (N[j]? = some y) && !(i == j) && isEs F N sc es [u, v] && parC sc x y px py u v) = true := h
        simp only [Bool.and_eq_true, decide_eq_true_eq, Bool.not_eq_true', beq_eq_false_iff_ne] at h
        obtain ⟨⟨⟨⟨⟨hx, h1⟩, h2⟩, h3⟩, h4⟩, h5⟩ := h
        obtain ⟨hw, l1, l2⟩ := par_some (kt := kt) (pt := pt) (k2 := k2) (pt2 := pt2) hsc h5
        refine psM (ps_par (gd.calm hx) gd.nd (by rw [hN]; exact h1) (by rw [hN]; exact h2) h3 (by rw [hsc]; exact l1) (by rw [hsc]; exact l2) (pa_chn (H0 := H0) es [u, v] h4 (sndEs hF es X W N sc _ gd hN hsc h4).2.2) hw) fun D σ H q => ?_
        refine tChn_mono es σ H _ _ (parN_run q) fun vs H1 ⟨e1, e2⟩ => ?_
        match vs, e1, e2 with
        | [a, b], _, e2 => exact ⟨a, b, rfl, e2⟩
    | _ => cases h
  | .parB i j l es, ca, F, hF, X, W, N, sc, st, gd, hN, hsc, hfn, h => by
    cases st with
    | Assign ts v pos =>
      match ts, v, h with
      | [.Tuple [.Name x px, .Name y py, .Name z pz] kt pt], .Tuple [u, v, t] k2 pt2, h =>
        have h : (!F.sx && decide (N[i]? = some x) && decide (N[j]? = some y) && decide (N[l]? = some z) && !(i == j) && !(i == l) && !(j == l) && isEs F N sc es [u, v, t] && parC3 sc x y z px py pz u v t) = true := h
        simp only [Bool.and_eq_true, decide_eq_true_eq, Bool.not_eq_true', beq_eq_false_iff_ne] at h
        obtain ⟨⟨⟨⟨⟨⟨⟨⟨hx, h1⟩, h2⟩, h2z⟩, h3⟩, h3a⟩, h3b⟩, h4⟩, h5⟩ := h
        obtain ⟨hw, l1, l2, l3⟩ := par_some3 (kt := kt) (pt := pt) (k2 := k2) (pt2 := pt2) hsc h5
        refine psM (ps_par3 (gd.calm hx) gd.nd (by rw [hN]; exact h1) (by rw [hN]; exact h2) (by rw [hN]; exact h2z) h3 h3a h3b (by rw [hsc]; exact l1) (by rw [hsc]; exact l2) (by rw [hsc]; exact l3) (pa_chn (H0 := H0) es [u, v, t] h4 (sndEs hF es X W N sc _ gd hN hsc h4).2.2) hw) fun D σ H q => ?_
        refine tChn_mono es σ H _ _ (parN_run q) fun vs H1 ⟨e1, e2⟩ => ?_
        match vs, e1, e2 with
        | [a, b, c], _, e2 => exact ⟨a, b, c, rfl, e2⟩
    | _ => cases h
  | .aug i op e, ca, F, hF, X, W, N, sc, st, gd, hN, hsc, hfn, h => by
    cases st with
    | AugAssign t op' v pos =>
      cases t with
      | Name x px =>
        have h : (decide (N[i]? = some x) && locS sc x && decide (op = op') && (decide (op = .Add) || decide (op = .Sub)) && isE F N sc e v) = true := h
        rw [Bool.and_eq_true, Bool.and_eq_true, Bool.and_eq_true, Bool.and_eq_true, decide_eq_true_eq, decide_eq_true_eq] at h
        obtain ⟨⟨⟨⟨h1, h2⟩, rfl⟩, h4⟩, h5⟩ := h
        exact psM (ps_aug gd.nd (by rw [hN]; exact h1) (loc_of hsc h2) (semE_of (sndE hF e X W N sc v gd hN hsc h5).1) (ip_op h4) (.inl (hfn.fn x))) fun D σ H q => aug_run q
      | _ => cases h
    | _ => cases h
  | .mut m o es, ca, F, hF, X, W, N, sc, st, gd, hN, hsc, hfn, h => by
    cases st with
    | Expr v pos =>
      match v, h with
      | .Call (.Attribute x n ap) xs [] cp, h =>
        have h : (decide (mmN m = n) && noSup x && (ap.endLine == cp.line) && decide (xs.length < 29) && decide (lenEX es = mmA m) && isE F N sc o x && isEs F N sc es xs) = true := h
        simp only [Bool.and_eq_true, decide_eq_true_eq] at h
        obtain ⟨⟨⟨⟨⟨⟨rfl, hsu⟩, hl⟩, hlen⟩, h1⟩, ho⟩, hs⟩ := h
        have qo := (sndE (H0 := H0) hF o X W N sc x gd hN hsc ho).1
        have qa := (sndEs (H0 := H0) hF es X W N sc xs gd hN hsc hs).1
        have st := isEs_star hs
        match xs, es, st, qa, hlen, h1 with
        | [], .cons e r, st, _, _, _ => cases hs
        | y :: ys, .nil, st, _, _, _ => cases hs
        | [], .nil, st, qa, hlen, h1 =>
          cases m with
          | append => cases h1
          | extend => cases h1
          | insert => cases h1
          | reverse => exact psM (ps_expr (pe_bm0 PySem.F.plainAttrs_list PySem.F.slot_list_reverse PySem.F.type_list_reverse mt_reverse (semE_of qo) (base_of hsu _ _) hl)) fun D σ H q => mut_run0 q
          | pop => exact psM (ps_expr (pe_bm0 PySem.F.plainAttrs_list PySem.F.slot_list_pop PySem.F.type_list_pop mt_pop (semE_of qo) (base_of hsu _ _) hl)) fun D σ H q => mut_run0 q
          | clear => exact psM (ps_expr (pe_bm0 PySem.F.plainAttrs_list PySem.F.slot_list_clear PySem.F.type_list_clear mt_clear (semE_of qo) (base_of hsu _ _) hl)) fun D σ H q => mut_run0 q
        | y :: ys, .cons e r, st, qa, hlen, h1 =>
          have s1 := st.1
          rw [List.all_cons, Bool.and_eq_true] at s1
          have go : ∀ {id : String}, Slot "list" (mmN m) id → typeOf (.builtin id) = pure (.type "method_descriptor") → MtR X id (mutR m) → PS X (.Expr (.Call (.Attribute x (mmN m) ap) (y :: ys) [] cp) pos) (SemS X.K ca H0 W (exS T (.mut m o (.cons e r)))) := fun {id} sl ty mt =>
            psM (ps_expr (pos := pos) (pe_bm PySem.F.plainAttrs_list sl ty mt (semE_of qo) qa (base_of hsu _ _) (few_of cp X.env st.1 hlen) hl (star_cons s1.1) (star_any _ _ s1.2))) fun D σ H q => mut_run q
          cases m with
          | append => exact go PySem.F.slot_list_append PySem.F.type_list_append mt_append
          | extend => exact go PySem.F.slot_list_extend PySem.F.type_list_extend mt_extend
          | insert => exact go PySem.F.slot_list_insert PySem.F.type_list_insert mt_insert
          | reverse => cases h1
          | clear => cases h1
          | pop => cases h1
    | _ => cases h
  | .sset o kk v, ca, F, hF, X, W, N, sc, st, gd, hN, hsc, hfn, h => by
    cases st with
    | Assign ts z pos =>
      match ts, h with
      | [.Subscript x y sp], h =>
        have h : (isE F N sc o x && isE F N sc kk y && isE F N sc v z && noSl y && noComp z) = true := h
        simp only [Bool.and_eq_true] at h
        obtain ⟨⟨⟨⟨h1, h2⟩, h3⟩, h4⟩, h5⟩ := h
        have hu := gd.units
        exact psM (ps_asg (semE_of (sndE hF v X W N sc z gd hN hsc h3).1) (pg_sub (semE_of (sndE hF o X W N sc x gd hN hsc h1).1) (semE_of (sndE hF kk X W N sc y gd hN hsc h2).1) (set_any (by omega)) (fun v => by cases y <;> first | rfl | cases h4)) (by rw [sw_sole]; exact sw_no h5) (by rfl)) fun D σ H q => sset_run q
    | _ => cases h
  | .saug o kk op v, ca, F, hF, X, W, N, sc, st, gd, hN, hsc, hfn, h => by
    cases st with
    | AugAssign t op' z pos =>
      cases t with
      | Subscript x y sp =>
        have h : (decide (op = op') && (decide (op = .Add) || decide (op = .Sub)) && isE F N sc o x && isE F N sc kk y && isE F N sc v z && noSl y) = true := h
        rw [Bool.and_eq_true, Bool.and_eq_true, Bool.and_eq_true, Bool.and_eq_true, Bool.and_eq_true, decide_eq_true_eq] at h
        obtain ⟨⟨⟨⟨⟨rfl, h4⟩, h1⟩, h2⟩, h3⟩, h5⟩ := h
        have hu := gd.units
        exact psM (ps_augS (semE_of (sndE hF o X W N sc x gd hN hsc h1).1) (semE_of (sndE hF kk X W N sc y gd hN hsc h2).1) (get_any (by omega)) (semE_of (sndE hF v X W N sc z gd hN hsc h3).1) (ip_op h4) (set_any (by omega)) (fun ov iv new => by cases y <;> first | rfl | cases h5)) fun D σ H q => saug_run q
      | _ => cases h
    | _ => cases h
  | .expr e, ca, F, hF, X, W, N, sc, st, gd, hN, hsc, hfn, h => by
    cases st with
    | Expr v pos =>
      have h : (isE F N sc e v && noComp v) = true := h
      rw [Bool.and_eq_true] at h
      exact psM (ps_expr (semE_of (sndE hF e X W N sc v gd hN hsc h.1).1) (sw_no h.2)) fun D σ H q => expr_run q
    | _ => cases h
  | .ifs t a b, ca, F, hF, X, W, N, sc, st, gd, hN, hsc, hfn, h => by
    cases st with
    | If cc x y pos =>
      have h : (isE F N sc t cc && isSs F N sc a x && isSs F N sc b y) = true := h
      rw [Bool.and_eq_true, Bool.and_eq_true] at h
      exact psM (ps_if (sndE hF t X W N sc cc gd hN hsc h.1.1).2 (sndSs a ca F hF X W N sc x gd hN hsc hfn h.1.2) (sndSs b ca F hF X W N sc y gd hN hsc hfn h.2)) fun D σ H q => if_run q
    | _ => cases h
  | .forS tg kd its body, ca, F, hF, X, W, N, sc, st, gd, hN, hsc, hfn, h => by
    cases st with
    | For t it x orelse pos =>
      match orelse, h with
      | [], h =>
        have h : (!F.sx && isT sc N tg t && decide (lenEX its = ikL kd) && isEs F N sc its (itArgs sc kd t it) && isSs F N sc body x) = true := h
        simp only [Bool.and_eq_true, decide_eq_true_eq, Bool.not_eq_true'] at h
        obtain ⟨⟨⟨⟨hx, h1⟩, h2⟩, h3⟩, h4⟩ := h
        have hi := si_all (T := T) (ms := its) gd hsc (isEs_star h3) h2 (sndEs (H0 := H0) hF its X W N sc _ gd hN hsc h3).1 (fun hk m hm => by
          subst hk
          exact (sndEs (H0 := H0) hF its X W N sc _ gd hN hsc h3).2.1 m it hm (seq_args rfl (by rw [(isEs_star h3).2, h2]; rfl)))
        have g := pgT (X := X) hN gd.nd (gd.calm hx) (fun x hx => ⟨loc_of hsc hx, .inl (hfn.fn x)⟩) tg t h1
        exact psM (ps_for gd.po (gd.calm hx) hi.1 g (sndSs body ca F hF X W N sc x gd hN hsc hfn h4) (fold_of hi.2 _)) fun D σ H q => for_run q
    | _ => cases h
  | .forC tg e body, ca, F, hF, X, W, N, sc, st, gd, hN, hsc, hfn, h => by
    cases st with
    | For t it x orelse pos =>
      match orelse, h with
      | [], h =>
        have h : (!F.sx && isT sc N tg t && noSet it && isE F N sc e it && isSs F N sc body x) = true := h
        simp only [Bool.and_eq_true, decide_eq_true_eq, Bool.not_eq_true'] at h
        obtain ⟨⟨⟨⟨hx, h1⟩, h2⟩, h3⟩, h4⟩ := h
        have g := pgT (X := X) hN gd.nd (gd.calm hx) (fun x hx => ⟨loc_of hsc hx, .inl (hfn.fn x)⟩) tg t h1
        exact psM (ps_for gd.po (gd.calm hx) (pi_list (semE_of (sndE (H0 := H0) hF e X W N sc it gd hN hsc h3).1)) g (sndSs body ca F hF X W N sc x gd hN hsc hfn h4) (fold_of h2 _)) fun D σ H q => forC_run q
    | _ => cases h
  | .whl t body, ca, F, hF, X, W, N, sc, st, gd, hN, hsc, hfn, h => by
    cases st with
    | While cc x orelse pos =>
      match orelse, h with
      | [], h =>
        have h : (isE F N sc t cc && isSs F N sc body x) = true := h
        rw [Bool.and_eq_true] at h
        exact psM (ps_while gd.po (sndE hF t X W N sc cc gd hN hsc h.1).2 (sndSs body ca F hF X W N sc x gd hN hsc hfn h.2)) fun D σ H q => while_run q
    | _ => cases h
  | .ret e, ca, F, hF, X, W, N, sc, st, gd, hN, hsc, hfn, h => by
    cases st with
    | Return v pos =>
      match v, h with
      | some v, h => exact psM (ps_ret (sndE hF e X W N sc v gd hN hsc h).1) fun D σ H q => ret_run q
    | _ => cases h
  | .retN, ca, F, hF, X, W, N, sc, st, gd, hN, hsc, hfn, h => by
    cases st with
    | Return v pos =>
      match v, h with
      | none, h => exact psM ps_retN fun D σ H ⟨w, ρ, c, rel, rho, run⟩ => RunS.here (fl := .rt .non false) run rel rho _ rfl
    | _ => cases h
  | .brk, ca, F, hF, X, W, N, sc, st, gd, hN, hsc, hfn, h => by
    cases st with
    | Break pos => exact psM ps_break fun D σ H ⟨w, ρ, c, rel, rho, run⟩ => RunS.here (fl := .bk) run rel rho
    | _ => cases h
  | .cnt, ca, F, hF, X, W, N, sc, st, gd, hN, hsc, hfn, h => by
    cases st with
    | Continue pos => exact psM ps_continue fun D σ H ⟨w, ρ, c, rel, rho, run⟩ => RunS.here (fl := .ct) run rel rho
    | _ => cases h
  | .pass, ca, F, hF, X, W, N, sc, st, gd, hN, hsc, hfn, h => by
    cases st with
    | Pass pos => exact psM ps_pass fun D σ H ⟨w, ρ, c, rel, rho, run⟩ => RunS.here (fl := .nx) run rel rho
    | _ => cases h
  | .never, ca, F, hF, X, W, N, sc, st, gd, hN, hsc, hfn, h => psM ps_never fun D σ H ⟨w, ρ, c, rel, rho, run⟩ => RunS.nope run
  | .raise cl g es, ca, F, hF, X, W, N, sc, st, gd, hN, hsc, hfn, h => by
    cases st with
    | Raise v cs pos =>
      match v, cs, h with
      | some (.Call (.Name x p) xs [] cp), none, h =>
        have h : (!F.sx && clsX F sc cl g x && decide (lenEX es = (nmL g).length) && isEs F N sc es xs) = true := h
        simp only [Bool.and_eq_true, decide_eq_true_eq, Bool.not_eq_true'] at h
        obtain ⟨⟨⟨hx, hc⟩, hl⟩, hs⟩ := h
        unfold clsX at hc
        simp only [Bool.and_eq_true, decide_eq_true_eq, Bool.not_eq_true'] at hc
        obtain ⟨⟨⟨h2, hlk⟩, hg⟩, hd⟩ := hc
        obtain ⟨_, S, TI⟩ := gd.xcs.made cl x g hlk h2
        have room : Room 1 X.A := (gd.room hx).mono (by omega)
        have qa := (sndEs (H0 := H0) hF es X W N sc xs gd hN hsc hs).1
        have st := isEs_star hs
        match xs, es, st, qa, hl, hs with
        | [], .cons e r, st, _, _, hs => cases hs
        | y :: ys, .nil, st, _, _, hs => cases hs
        | [], .nil, st, qa, hl, _ =>
          refine psM (ps_raise (gd.calm hx) gd.tk (EngX.pmk_x0 TI room (gl_of hsc hg) hd)) fun D σ H q => ?_
          obtain ⟨w, ρ, c, rel, rho, run⟩ := raise_run (fs := evs T .nil) q
          exact RunT.now run rel (fun _ z => z) [] rfl
        | y :: ys, .cons e r, st, qa, hl, _ =>
          have s1 := st.1
          rw [List.all_cons, Bool.and_eq_true] at s1
          exact psM (ps_raise (gd.calm hx) gd.tk (EngX.pmk_x TI room (gl_of hsc hg) hd qa (star_cons s1.1) (star_any _ _ s1.2))) fun D σ H q => raise_run q
    | _ => cases h
  | .tryS body ds cl i suite, ca, F, hF, X, W, N, sc, st, gd, hN, hsc, hfn, h => by
    cases st with
    | Try b hs oe fb pos =>
      match hs, oe, fb, h with
      | [.ExceptHandler (some (.Name x np)) n (st :: sts) hp], [], [], h =>
        have h : (!F.sx && clsN F sc cl x && ownX F ds && excN N sc i n && isSs F N sc body b && isSs F.hot N sc suite (st :: sts)) = true := h
        simp only [Bool.and_eq_true, Bool.not_eq_true'] at h
        obtain ⟨⟨⟨⟨⟨hx, hc⟩, ho⟩, hn⟩, hb⟩, hsu⟩ := h
        obtain ⟨f, ef⟩ := cls_some hc
        have nms := names_x (p := np) gd hsc hc
        have qb : ∀ (W' : WX) (pn : List (Addr × Obj)) (xe : Value → Shared → Prop), Takes (X.tr pn xe) W' → PassesOwn (model X.prog X.w) X.A X.env xe → PSs (X.tr pn xe) b (SemS X.K ca H0 W' (exSs T body)) := fun W' pn xe tk po =>
          sndSs body ca F hF (X.tr pn xe) W' N sc b (gd.tr hx tk po) hN hsc ⟨hfn.fn, hfn.st, hfn.fr⟩ hb
        have qs : ∀ (a : Addr) (oe : Obj) (cls : Value) (d : Option Addr) (pn : List (Addr × Obj)), Zc cls d oe → (∃ vs, oe.data = .fields vs) → PSs (X.suite a ((a, oe) :: pn)) (st :: sts) (SemS X.K ⟨ca.f, a, cls, d⟩ H0 (fun _ _ _ _ => False) (exSs T suite)) := fun a oe cls d pn hz hf =>
          sndSs suite ⟨ca.f, a, cls, d⟩ F.hot hF (X.suite a ((a, oe) :: pn)) (fun _ _ _ _ => False) N sc (st :: sts) (gd.suite hz hf) hN hsc ⟨hfn.fn, hfn.st, hfn.fr⟩ hsu
        match i, n, hn with
        | some i, some n, hn =>
          have hn : (decide (N[i]? = some n) && (sc.names.lookup n == some .local)) = true := hn
          rw [Bool.and_eq_true, decide_eq_true_eq] at hn
          refine psM (ps_try_as hfn.st hfn.fr gd.nd (by rw [hN]; exact hn.1) (show X.env.scope.names.lookup n = some .local from by rw [hsc]; exact eq_of_beq hn.2) nms gd.tk qb qs) fun D σ H q => ?_
          exact try_run gd.xcs ho ef q
        | none, none, hn => exact psM (ps_try_only hfn.st hfn.fr nms gd.tk qb qs) fun D σ H q => try_run0 gd.xcs ho ef q
        | some _, none, hn => cases hn
        | none, some _, hn => cases hn
    | _ => cases h
theorem sndSs : ∀ (m : STs) (ca : CA) (F : FN) (hF : ∀ f g, lookN F f = some g → (T f).isSome = true) (X : Cx) (W : WX) (N : List Str) (sc : Scope) (sts : List Stmt), Gd ca F T k W X → X.N = N → X.env.scope = sc → Top X → isSs F N sc m sts = true → PSs X sts (SemS X.K ca H0 W (exSs T m))
  | .nil, ca, F, hF, X, W, N, sc, sts, gd, hN, hsc, hfn, h => by
    cases sts with
    | nil => exact pssM pss_nil fun D σ H ⟨w, ρ, c, rel, rho, run⟩ => RunS.here (fl := .nx) run rel rho
    | cons s r => cases h
  | .cons s r, ca, F, hF, X, W, N, sc, sts, gd, hN, hsc, hfn, h => by
    cases sts with
    | nil => cases h
    | cons st sts =>
      have h : (isS F N sc s st && isSs F N sc r sts) = true := h
      rw [Bool.and_eq_true] at h
      exact pssM (pss_cons (sndS s ca F hF X W N sc st gd hN hsc hfn h.1) (sndSs r ca F hF X W N sc sts gd hN hsc hfn h.2)) fun D σ H q => seq_run q
  | .frz i r, ca, F, hF, X, W, N, sc, sts, gd, hN, hsc, hfn, h => by
    refine pssM (sndSs r ca F hF X W N sc sts gd hN hsc hfn h) fun D σ H q => frz_run q
end
end
end
end Eng

/-! Eng20: defs and laws -/
namespace Eng
open PySem PySem.Spec PyProof.Rows L2
structure Df where
  f : Nat
  x : Str
  N : List Str
  ps : List Str
  body : STs
def findD : List Df → Nat → Option Df
  | [], _ => none
  | d :: r, f => if f = d.f then some d else findD r f
def rho0 (n : Nat) (args : List D) : Rho := args.map Sl.val ++ List.replicate (n - args.length) Sl.non
def endD (r : AnsS) : Ans (D × Bool) := match r with
  | some (.nx, _, c) => some (.ok (.non, false), c)
  | some (.rt d fr, _, c) => some (.ok (d, fr), c)
  | some (.ex x, _, c) => some (.ex x, c)
  | _ => none
def runD (T : FT) (d : Df) : FS := fun args c => endD (exSs T d.body (rho0 d.N.length args) c)
/-- a law's table: its defs, its names' values -/
structure Tab where
  ds : List Df
  gs : List (Nat × Str × D)
  xs : List (Nat × Str × Option Str)
def semT (tb : Tab) : Nat → FT
  | 0 => ⟨fun f => (findD tb.ds f).map fun d => (d.ps.length, fun _ _ => none), fun i => (lookG tb.gs i).map (·.2)⟩
  | k + 1 => ⟨fun f => (findD tb.ds f).map fun d => (d.ps.length, runD (semT tb k) d), fun i => (lookG tb.gs i).map (·.2)⟩
theorem semT_g {tb : Tab} {k i : Nat} : (semT tb k).g i = (lookG tb.gs i).map (·.2) := by cases k <;> rfl
def namesD (tb : Tab) : FN := ⟨tb.ds.map fun d => (d.f, d.x), tb.gs, tb.xs, false⟩
theorem names_findL : ∀ (ds : List Df) (f : Nat), lookL (ds.map fun d => (d.f, d.x)) f = (findD ds f).map (·.x)
  | [], _ => rfl
  | d :: r, f => by
    show (if f = d.f then some d.x else lookL (r.map fun d => (d.f, d.x)) f) = _
    unfold findD
    by_cases h : f = d.f
    · rw [if_pos h, if_pos h]; rfl
    · rw [if_neg h, if_neg h]; exact names_findL r f
theorem names_find (tb : Tab) (f : Nat) : lookN (namesD tb) f = (findD tb.ds f).map (·.x) := names_findL tb.ds f
theorem find_mem : ∀ {ds : List Df} {f : Nat} {d : Df}, findD ds f = some d → d ∈ ds
  | [], _, _, h => by cases h
  | d' :: r, f, d, h => by
    unfold findD at h
    by_cases e : f = d'.f
    · rw [if_pos e] at h; cases h; exact List.mem_cons_self
    · rw [if_neg e] at h; exact List.mem_cons_of_mem _ (find_mem h)
theorem semT_some {tb : Tab} {k f : Nat} : (semT tb k f).isSome = (findD tb.ds f).isSome := by
  cases k <;> (show ((findD tb.ds f).map _).isSome = _; cases findD tb.ds f <;> rfl)
/-- where a def stands -/
def DefIn (K : PySem.W.Frag) (d : Df) (st : Stmt) : Prop := ∃ (f : Addr) (oc : Value) (od an : Option Addr) (osl : Array (Option Value)) (kV doc pm cdv ct : Value), PySem.W.nsIn K mainGlobals d.x = some (some (.ref f)) ∧
  K.lookup f = some ⟨oc, od, .func (PySem.W.fnOf d.x d.x (defArgs st) (defBody st) (defScope st) .none kV doc pm an cdv ct), osl⟩ ∧ PySem.W.codeIn K cdv d.x = true ∧ PySem.W.keepIn K (.ref f) = true
theorem def_in {K : PySem.W.Frag} {d : Df} {st : Stmt} {f : Addr} {oc : Value} {od an : Option Addr} {osl : Array (Option Value)} {kV doc pm cdv ct : Value} (a : PySem.W.nsIn K mainGlobals d.x = some (some (.ref f)))
    (l : K.lookup f = some ⟨oc, od, .func (PySem.W.fnOf d.x d.x (defArgs st) (defBody st) (defScope st) .none kV doc pm an cdv ct), osl⟩) (c : PySem.W.codeIn K cdv d.x = true) (k : PySem.W.keepIn K (.ref f) = true) : DefIn K d st := ⟨f, oc, od, an, osl, kV, doc, pm, cdv, ct, a, l, c, k⟩
/-- the def's text is what the small language says -/
structure DefOk (F : FN) (d : Df) (st : Stmt) : Prop where
  scp : FnScope d.N d.ps (defScope st)
  chk : isSs F d.N (defScope st) d.body (defBody st) = true
  bnd : ∀ (kV doc pm : Value) (an : Option Addr) (cdv ct : Value) (us : List Value), us.length = d.ps.length → bindArgs (PySem.W.fnOf d.x d.x (defArgs st) (defBody st) (defScope st) .none kV doc pm an cdv ct) ⟨us, []⟩ = pure (d.ps.zip us)

section
variable {P : Program} {w : World} {K : PySem.W.Frag} {ca : Nat → Addr} {mg : Str → Option Value} {base : Heap}
theorem rho0_ok {cb : CA} (hcb : cb.f = ca) {wd : Wd} {c : Cells} {H : Hp} : ∀ {args : List D} {vs : List V} (n : Nat), RpL K ca wd args vs → args.length ≤ n → ∀ (N : List Str), N.length = n → RhoR K cb wd c H H (rho0 n args) (L2.start N vs) := fun {args vs} n r hl N hN => by
  subst hcb
  have hlen : args.length = vs.length := r.length
  refine ⟨?_, fun i d h => ?_, fun i d h => ?_, fun i j d e a h => ?_, fun _ h => h, fun i d h => ?_⟩
  · unfold rho0 L2.start
    rw [List.length_append, List.length_append, List.length_map, List.length_map, List.length_replicate, List.length_replicate, hN, hlen]
  · unfold rho0 at h
    by_cases hi : i < args.length
    · rw [List.getElem?_append_left (by rw [List.length_map]; exact hi), List.getElem?_map] at h
      obtain ⟨d', e1, e2⟩ := Option.map_eq_some_iff.mp h
      cases e2
      obtain ⟨v, e3, rv⟩ := r.get e1
      refine ⟨v, ?_, rv⟩
      unfold L2.start
      rw [List.getElem?_append_left (by rw [List.length_map, ← hlen]; exact hi), List.getElem?_map, e3]
      rfl
    · rw [List.getElem?_append_right (by rw [List.length_map]; omega), List.getElem?_replicate] at h
      split at h <;> cases h
  all_goals
    have no : ∀ {i : Nat} {s : Sl}, (∀ d, s ≠ .val d) → s ≠ .non → (rho0 n args)[i]? ≠ some s := fun {i s} hs1 hs2 h => by
      unfold rho0 at h
      by_cases hi : i < args.length
      · rw [List.getElem?_append_left (by rw [List.length_map]; exact hi), List.getElem?_map] at h
        obtain ⟨d', e1, e2⟩ := Option.map_eq_some_iff.mp h
        cases e2
        exact hs1 _ rfl
      · rw [List.getElem?_append_right (by rw [List.length_map]; omega), List.getElem?_replicate] at h
        split at h <;> cases h
        exact hs2 rfl
    exact absurd h (no (by simp) (by simp))
/-- a def keeps its promise where its text is checked and what it calls keeps its own -/
theorem fnG_of {ds : Tab} {k : Nat} {d : Df} {st : Stmt} {f : Addr} {oc : Value} {od an : Option Addr} {osl : Array (Option Value)} {kV doc pm cdv ct : Value}
    (lk : K.lookup f = some ⟨oc, od, .func (PySem.W.fnOf d.x d.x (defArgs st) (defBody st) (defScope st) .none kV doc pm an cdv ct), osl⟩) (hcd : PySem.W.codeIn K cdv d.x = true) (ok : DefOk (namesD ds) d st) (hb : ∀ x ∈ bltNames, mg x = none) (hg : ∀ (i : Nat) (x : Str) (d : D), lookG ds.gs i = some (x, d) → ∃ u v, mg x = some u ∧ RelV v u ∧ ∀ w, Rp K ca w d v) (hx : XOk K (fun x v => mg x = some v) ca ds.xs)
    (ih : ∀ f g n s, lookN (namesD ds) f = some g → semT ds k f = some (n, s) → ∃ fa fd ps, mg g = some (.ref fa) ∧ PySem.W.keepIn K (.ref fa) = true ∧ Binds K fd ps [] ∧ ps.length = n ∧ FnG P w K mg base (L2.CX P w) k fa fd ps (SpF K ca n s)) :
    FnG P w K mg base (L2.CX P w) (k + 1) f (PySem.W.fnOf d.x d.x (defArgs st) (defBody st) (defScope st) .none kV doc pm an cdv ct) d.ps (SpF K ca d.ps.length (runD (semT ds k) d)) := by
  have S := ok.scp
  have hnum : ∀ vs H Q E, SpF K ca d.ps.length (runD (semT ds k) d) vs H Q E → vs.length = d.ps.length := fun vs H Q E ⟨_, _, as, _, r, e, _⟩ => r.length.symm.trans e
  refine ⟨hnum, fun A outer s H args us vs Q E room gu e0 bd rv pr => ?_⟩
  have nV := hnum _ _ _ _ pr
  have inS : K.In s.heap := e0.mod.kin.keeps fun a o e => (e0.bs a o e).1
  have noL : s.heap.NoLimit := e0.mod.nolimit.keeps fun a o e => (e0.bs a o e).1
  have pk : ∀ z ∈ d.ps.zip us, (defScope st).names.lookup z.1 = some .local ∨ ((defScope st).names.lookup z.1 = some .cell ∧ ((cellsFrom (s.heap.objs.size + 1) (defScope st).names []).lookup z.1).isSome = true) := by
    rintro ⟨x, u⟩ hz
    cases S.par x (List.of_mem_zip hz).1 with
    | inl h => exact .inl h
    | inr h => exact .inr ⟨h, PySem.W.cellsFrom_some _ _ _ (.inl h)⟩
  refine codeAny_call_function room.depth (inS _ _ lk) rfl S.co S.gen rfl (PySem.W.codeRec_of inS hcd) (bd _ _ _ _ ?_)
  refine wpAny_newFunctionEnv_cells S.kind pk ?_
  rintro env rfl s1 inC
  refine ⟨noL.keeps inC.toInCall.keep, codeAny_func ?_⟩
  obtain ⟨wd, c, as, rel, rp, la, run⟩ := pr
  have X0 := inv_start (CX := L2.CX P w) (E := E) (qual := d.x) (f := f) (cd := cdv) S room.hd e0 nV rv inC
  have gd : Gd (CA.of ca) (namesD ds) (semT ds k) k (fun cls dx _ H => E cls dx H) (cxOf (L2.CX P w) P w K mg base d.N d.x (defScope st) f cdv A outer s H E) :=
    ⟨fun _ => rfl, gu, fun _ => room.deeper _, by have := (room.deeper (envOfC d.x (defScope st) s.heap.objs.size f cdv)).un; show (A.deeper (envOfC d.x (defScope st) s.heap.objs.size f cdv)).units + 100 < _; omega, S.nd, hb, passes_of rfl, takes_of rfl rfl rfl rfl, fun i x d h => ⟨by rw [semT_g, show lookG ds.gs i = some (x, d) from h]; rfl, hg i x d h⟩, ih, hx, fun z => (by cases z)⟩
  have hF : ∀ f g, lookN (namesD ds) f = some g → (semT ds k f).isSome = true := fun f g h => by
    rw [semT_some]
    rw [names_find] at h
    cases e : findD ds.ds f with
    | none => rw [e] at h; cases h
    | some d => rfl
  have body := sndSs (H0 := H) k d.body _ _ hF _ _ d.N (defScope st) (defBody st) gd rfl rfl ⟨fun _ => rfl, rfl, rfl⟩ ok.chk
  have lN : d.ps.length ≤ d.N.length := by
    have := congrArg List.length S.pre
    rw [List.length_take] at this; omega
  have rho : RhoR K (CA.of ca) wd c H H (rho0 d.N.length as) (L2.start d.N vs)   := rho0_ok rfl d.N.length rp (by omega) d.N rfl
  have rd : SemS K (CA.of ca) H (fun cls dx _ H => E cls dx H) (exSs (semT ds k) d.body) { nx := fun _ H' => Q .non H', rt := Q } (L2.start d.N vs) H := by
    refine ⟨wd, rho0 d.N.length as, c, rel, rho, ?_⟩
    obtain ⟨r, c', er, h1, h2⟩ := run
    have er : endD (exSs (semT ds k) d.body (rho0 d.N.length as) c) = some (r, c') := er
    rcases eb : exSs (semT ds k) d.body (rho0 d.N.length as) c with _ | ⟨fl, ρ', c2⟩
    · rw [eb] at er; cases er
    · rw [eb] at er
      refine ⟨fl, ρ', c2, rfl, fun w' H' σ' rel' ext' rho' => ?_⟩
      cases fl with
      | nx => cases er; exact h1 _ rfl w' H' rel' ext' .non rfl
      | bk => cases er
      | ct => cases er
      | rt d fr => cases er; exact fun v hv => h1 _ rfl w' H' rel' ext' v hv
      | ex x => cases er; exact fun cls dx hx => h2 _ rfl cls dx w' H' rel' ext' hx
  refine wpAny_mono (body.run [] s1 (L2.start d.N vs) H _ X0 rd) (fun fl s' hs => ?_) fun e s' hs => hs
  have fin : ∀ {σ' : L2.St} {H' : Hp} {v : V} {u : Value}, Inv (cxOf (L2.CX P w) P w K mg base d.N d.x (defScope st) f cdv A outer s H E) [] σ' H' s' → RelV v u → Q v H' → CE outer P w H s Q u s' := by
    intro σ' H' v u J rvu q
    exact ⟨v, H', J.os, J.bare, J.base, J.hok, rvu, q⟩
  match fl, hs with
  | .ret u, ⟨v, _, _, J, rvu, q⟩ => exact fin J rvu q
  | .next, ⟨_, _, J, q⟩ => exact fin (v := V.non) (u := Value.none) J rfl q
  | .brk, ⟨_, _, _, q⟩ => exact q.elim
  | .cont, ⟨_, _, _, q⟩ => exact q.elim
/-- all defs of a table -/
theorem tab_ok {ds : Tab} (hb : ∀ x ∈ bltNames, mg x = none) (hg : ∀ (i : Nat) (x : Str) (d : D), lookG ds.gs i = some (x, d) → ∃ u v, mg x = some u ∧ RelV v u ∧ ∀ w, Rp K ca w d v) (hx : XOk K (fun x v => mg x = some v) ca ds.xs) (hns : ∀ x v, PySem.W.nsIn K mainGlobals x = some (some v) → mg x = some v) (hd : ∀ d ∈ ds.ds, ∃ st, DefIn K d st ∧ DefOk (namesD ds) d st) :
    ∀ k f g n s, lookN (namesD ds) f = some g → semT ds k f = some (n, s) → ∃ fa fd ps, mg g = some (.ref fa) ∧ PySem.W.keepIn K (.ref fa) = true ∧ Binds K fd ps [] ∧ ps.length = n ∧ FnG P w K mg base (L2.CX P w) k fa fd ps (SpF K ca n s) := by
  intro k
  induction k with
  | zero =>
    intro f g n s hl hs
    obtain ⟨d, e1, e2⟩ := Option.map_eq_some_iff.mp (show (findD ds.ds f).map (fun d => (d.ps.length, fun _ _ => none)) = some (n, s) from hs)
    cases e2
    rw [names_find, e1] at hl
    cases hl
    obtain ⟨st, ⟨fa, oc, od, an, osl, kV, doc, pm, cdv, ct, a, l, c, kp⟩, ok⟩ := hd d (find_mem e1)
    refine ⟨fa, _, d.ps, hns _ _ a, kp, .all (ok.bnd kV doc pm an cdv ct), rfl, ⟨fun vs H Q E ⟨_, _, _, _, _, _, r⟩ => r.nope.elim, fun A outer s H args us vs Q E _ _ _ _ _ ⟨_, _, _, _, _, _, r⟩ => r.nope.elim⟩⟩
  | succ k ih =>
    intro f g n s hl hs
    obtain ⟨d, e1, e2⟩ := Option.map_eq_some_iff.mp (show (findD ds.ds f).map (fun d => (d.ps.length, runD (semT ds k) d)) = some (n, s) from hs)
    cases e2
    rw [names_find, e1] at hl
    cases hl
    obtain ⟨st, ⟨fa, oc, od, an, osl, kV, doc, pm, cdv, ct, a, l, c, kp⟩, ok⟩ := hd d (find_mem e1)
    exact ⟨fa, _, d.ps, hns _ _ a, kp, .all (ok.bnd kV doc pm an cdv ct), rfl, fnG_of l c ok hb hg hx ih⟩
end
end Eng

/-! Eng21: the law's call, the end -/
namespace Eng
open PySem PySem.Spec PyProof.Rows L2
section
variable {P : Program} {w : World} {K : PySem.W.Frag} {mg mb : Str → Option Value} {k : Nat} {fa a : Addr} {fd : FuncData} {x : Str} {sp : Sp} {s₁ : Shared} {vs : List Value} {ns : List Int} {h : Heap}
abbrev EndQ (s₁ : Shared) : Result → Shared → Prop := fun r s' => r = .ok (.ret (.bool true)) ∧ OldK s₁.heap s'.heap ∧ s'.os = s₁.os ∧ AllBare s'.gens
/-- at an abstract heap that tracks at most the script -/
theorem law_at (KX : K.In s₁.heap) (hns : s₁.heap.Ns mainGlobals mg) (hb : s₁.heap.Ns builtinsNs mb) (hbb : ∀ x : Str, x ≠ "__name__" → mb x = bootBuiltins x) (hlim : s₁.heap.NoLimit) (hg : s₁.gens = #[])
    (hobj : s₁.heap.get? a = some { cls := .type "list", data := .seq vs.toArray }) (hr : Room (k + 1) callerA) (F : ∀ base : Heap, K.In base → base.Ns mainGlobals mg → FnG P w K mg base (L2.CX P w) k fa fd [x] sp)
    (hbind : ∀ u : Value, BindsTo s₁ fd ⟨[u], []⟩ [(x, u)]) (hsp : ∀ H : Hp, Only H → SqL K H a (ns.map V.int) → sp [.ref a] H (fun v _ => v = .bl true) fun _ _ _ => False)
    (H : Hp) (only : Only H) (here : SqL K H a (ns.map V.int)) (hok : HOk P w H s₁.heap) (alone : ∀ b, H b ≠ none → b = a) (notK : H a ≠ none → K.lookup a = none) :
    codeAny (model P w) callerA (.call (.ref fa) ⟨[.ref a], []⟩) (EndQ s₁) s₁ := by
  have see : ∀ {b : Addr} {u : HO}, H b = some u → b = a := fun {b u} q => alone b (by rw [q]; simp)
  have dictNone : ∀ {b : Addr} {o : Obj} {es : Array DictEntry} {ep : Nat}, s₁.heap.get? b = some o → o.data = .dict es ep → H b = none := by
    intro b o es ep eo ed
    cases q : H b with
    | none => rfl
    | some u =>
      have := see q
      subst this
      rw [hobj] at eo
      cases eo
      exact absurd (show Data.seq vs.toArray _ = Data.dict es ep from ed) (by intro z; cases z)
  have hid : ∀ {b : Addr} {m : Str → Option Value}, s₁.heap.Ns b m → (hidT s₁.heap H).Ns b m := by
    rintro b m ⟨o, es, ep, eo, ed, rest⟩
    exact ⟨o, es, ep, hidT_get eo (dictNone eo ed), ed, rest⟩
  have KB : K.In (hidT s₁.heap H) := by
    intro b o e
    refine hidT_get (KX b o e) ?_
    cases q : H b with
    | none => rfl
    | some u =>
      have := see q
      subst this
      rw [notK (by rw [q]; simp)] at e
      cases e
  obtain ⟨mc, l1, l2⟩ := hlim
  have md : Mod K mg (hidT s₁.heap H) := ⟨KB, hid hns, ⟨mb, hid hb, hbb⟩, ⟨mc, hid l1, l2⟩⟩
  have e0 : Env0 P w K mg (hidT s₁.heap H) callerA [] s₁ H := by
    refine ⟨rfl, md, fun b o e => of_hidT e, Nat.le_of_eq (hidT_size _ _), trivial, fun b z => ?_, hok, .of_eq hg⟩
    exact absurd (show b ∈ ([] : List Addr) from z) (by simp)
  have go := (F _ KB (hid hns)).runs callerA [] s₁ H ⟨[.ref a], []⟩ [.ref a] [.ref a] _ _ hr rfl e0 (hbind (.ref a)) (.cons rfl .nil) (hsp H only here)
  refine codeAny_mono go fun r s' res => ?_
  match r, res with
  | .error e, ⟨_, _, _, _, _, _, _, _, _, _, _, _, z⟩ => exact z.elim
  | .ok .next, res => exact res.elim
  | .ok .brk, res => exact res.elim
  | .ok .cont, res => exact res.elim
  | .ok (.ret u), ⟨v, H', os, bare, un, hok', rv, q⟩ =>
    obtain rfl : v = .bl true := q
    obtain rfl : u = Value.bool true := rv
    refine ⟨rfl, OldK.of_keep fun b o eo => ?_, os, bare⟩
    cases q : H b with
    | none => exact un.keep b o eo q (by intro z; exact absurd (show b ∈ ([] : List Addr) from z) (by simp)) (by simp)
    | some u =>
      rcases only b with z | ⟨ob, xs, z⟩
      · rw [q] at z; cases z
      · obtain ⟨g1, _⟩ := hok b _ z
        obtain ⟨g2, _⟩ := hok' b _ (un.frzs b ob _ z)
        rw [eo] at g1
        cases g1
        exact g2
theorem law_callG (KX : K.In s₁.heap) (hns : s₁.heap.Ns mainGlobals mg) (hb : s₁.heap.Ns builtinsNs mb) (hbb : ∀ x : Str, x ≠ "__name__" → mb x = bootBuiltins x) (hlim : s₁.heap.NoLimit) (hg : s₁.gens = #[])
    (hobj : s₁.heap.get? a = some { cls := .type "list", data := .seq vs.toArray }) (hi : IntsAre vs ns) (hl : ns.length ≤ sizeLine) (hr : Room (k + 1) callerA) (F : ∀ base : Heap, K.In base → base.Ns mainGlobals mg → FnG P w K mg base (L2.CX P w) k fa fd [x] sp)
    (hbind : ∀ u : Value, BindsTo s₁ fd ⟨[u], []⟩ [(x, u)]) (hsp : ∀ H : Hp, Only H → SqL K H a (ns.map V.int) → sp [.ref a] H (fun v _ => v = .bl true) fun _ _ _ => False) :
    codeAny (model P w) callerA (.call (.ref fa) ⟨[.ref a], []⟩) (EndQ s₁) s₁ := by
  have at0 := law_at (ns := ns) KX hns hb hbb hlim hg hobj hr F hbind hsp
  have rv := vals_ints hi
  cases hk : K.lookup a with
  | some o =>
    have e := KX a o hk
    rw [hobj] at e
    cases e
    refine at0 (fun _ => none) (fun _ => .inl rfl) (.inr ⟨_, vs.toArray, _, hk, rfl, rfl, rfl, ?_, by simpa using rv⟩) ?_ (fun b z => absurd rfl z) (fun z => absurd rfl z)
    · rw [List.size_toArray, hi.length]; exact hl
    · intro b u z
      exact absurd (show (none : Option HO) = some u from z) (by simp)
  | none =>
    let H1 : Hp := fun b => if b = a then some (.frz { cls := .type "list", data := .seq vs.toArray } (.lst (ns.map V.int))) else none
    have there : H1 a = some (.frz { cls := .type "list", data := .seq vs.toArray } (.lst (ns.map V.int))) := if_pos rfl
    have away : ∀ b, b ≠ a → H1 b = none := fun b hb => if_neg hb
    refine at0 H1 (fun b => ?_) (.inl (.inr ⟨_, there⟩)) (fun b u z => ?_) (fun b z => ?_) fun _ => hk
    · rcases Decidable.em (b = a) with rfl | hb
      · exact .inr ⟨_, _, there⟩
      · exact .inl (away b hb)
    · rcases Decidable.em (b = a) with rfl | hb
      · rw [there] at z
        cases z
        exact ⟨hobj, by rw [List.length_map]; exact hl, vs, _, rv, hobj⟩
      · rw [away b hb] at z; cases z
    · rcases Decidable.em (b = a) with e | hb
      · exact e
      · exact absurd (away b hb) z
/-- a law's promise by what the small machine computes -/
theorem sp_law {ca : Nat → Addr} {fs : FS} {H : Hp} (hS : SqL K H a (ns.map V.int)) (hv : ∃ fr c, fs [.scr ns] [] = some (.ok (.bl true, fr), c)) : SpF K ca 1 fs [.ref a] H (fun v _ => v = .bl true) fun _ _ _ => False := by
  obtain ⟨fr, c, e⟩ := hv
  refine ⟨⟨H, fun _ => 0, 0⟩, [], [.scr ns], ⟨Same.refl _, rfl, fun n d z => (by cases z), fun n m ⟨d, z⟩ => (by cases z)⟩, ⟨.ref a, [], rfl, ⟨a, rfl, hS⟩, rfl⟩, rfl, _, _, e, fun d ed w' H' _ _ v hv => ?_, fun x z => (by cases z)⟩
  cases ed
  cases fr with
  | true =>
    obtain ⟨p, o, _, _, z, _⟩ := hv
    exact z.elim
  | false => exact hv
end
/-- where the classes stand -/
def caN (K : PySem.W.Frag) (l : List (Nat × Str × Option Str)) (c : Nat) : Addr := match lookX l c with
  | some (x, _) => (match PySem.W.nsIn K mainGlobals x with
    | some (some (.ref a)) => a
    | _ => 0)
  | none => 0
theorem caN_of {K : PySem.W.Frag} {l : List (Nat × Str × Option Str)} {c : Nat} {x : Str} {f : Option Str} {a : Addr} (h : PySem.W.nsIn K mainGlobals x = some (some (.ref a))) (e : lookX l c = some (x, f)) : caN K l c = a := by
  unfold caN
  rw [e]
  show (match PySem.W.nsIn K mainGlobals x with
    | some (some (.ref a)) => a
    | _ => 0) = a
  rw [h]
theorem XOk.imp {K : PySem.W.Frag} {gv gv' : Str → Value → Prop} {ca : Nat → Addr} {l : List (Nat × Str × Option Str)} (h : XOk K gv ca l) (hg : ∀ x v, gv x v → gv' x v) : XOk K gv' ca l where
  nm := fun c x f e => by
    have := h.nm c x f e
    split
    · rename_i hc; rw [if_pos hc] at this; exact this
    · rename_i hc; rw [if_neg hc] at this; exact hg _ _ this
  sub := h.sub
  made := fun d x f e h2 => by
    obtain ⟨h1, S, q⟩ := h.made d x f e h2
    exact ⟨h1, S, ⟨hg _ _ q.s.gS, q.s.rd, q.s.ga⟩, q.o, q.no, hg _ _ q.gC, q.ix⟩
/-- a refusal's class at a: what is found of it -/
structure ClF (K : PySem.W.Frag) (x : Str) (a : Addr) : Prop where
  ns : PySem.W.nsIn K mainGlobals x = some (some (.ref a))
  ex : PySem.W.subIn K (.ref a) (.type "BaseException") = some true
  ty : PySem.W.typeIn K (.ref a) = some (.type "type")
  hd : PySem.W.hasDictIn K a = true
theorem ClF.cls {K : PySem.W.Frag} {x : Str} {a : Addr} (h : ClF K x a) : (PySem.W.clsIn K a).isSome = true := by
  obtain ⟨cd, hc, _⟩ := PySem.W.any_some h.hd
  rw [hc]; rfl
theorem kitCls_ref {K : PySem.W.Frag} {x : Str} {a : Addr} {t : Value} {b : Bool} (h : ClF K x a) (e : PySem.W.subIn K t (.ref a) = some b) : PySem.W.kitCls K t (.ref a) = some b := by
  show (if ((PySem.W.clsIn K a).isSome && PySem.W.typeIn K (.ref a) == some (.type "type")) = true then PySem.W.subIn K t (.ref a) else none) = some b
  rw [if_pos (by rw [h.cls, h.ty]; rfl)]
  exact e
theorem sub_ref {K : PySem.W.Frag} {x : Str} {a d : Addr} {b : Bool} (h : ClF K x a) (hs : PySem.W.subIn K (.ref d) (.ref d) = some true) (e : PySem.W.subIn K (.ref d) (.ref a) = some b) : PySem.W.kitOne K (.ref d) (.ref a) = some b ∧ PySem.W.exmOne K (.ref d) (.ref a) = some b := by
  refine ⟨?_, ?_⟩
  · unfold PySem.W.kitOne
    by_cases q : (Value.ref d == Value.ref a) = true
    · have z := Value.ref.inj (eq_of_beq q)
      subst z
      rw [hs] at e
      rw [if_pos q]; exact e
    · rw [if_neg q]; exact kitCls_ref h e
  · unfold PySem.W.exmOne
    rw [if_pos (by rw [h.ex]; rfl)]
    exact kitCls_ref h e
theorem sub_ve {K : PySem.W.Frag} {d : Addr} {b : Bool} (e : PySem.W.subIn K (.ref d) (.type "ValueError") = some b) (h : PySem.W.subIn K (.type "ValueError") (.type "BaseException") = some true) : PySem.W.kitOne K (.ref d) (.type "ValueError") = some b ∧ PySem.W.exmOne K (.ref d) (.type "ValueError") = some b := by
  have km : PySem.W.kitMeta "ValueError" = true := by decide +kernel
  have kc : PySem.W.kitCls K (.ref d) (.type "ValueError") = some b := by
    show (if PySem.W.kitMeta "ValueError" = true then PySem.W.subIn K (.ref d) (.type "ValueError") else none) = some b
    rw [if_pos km]; exact e
  refine ⟨?_, ?_⟩
  · unfold PySem.W.kitOne
    rw [if_neg (by intro z; exact nomatch (eq_of_beq z))]
    exact kc
  · unfold PySem.W.exmOne
    rw [if_pos (by rw [h]; rfl)]
    exact kc
theorem lookX_mem : ∀ {l : List (Nat × Str × Option Str)} {c : Nat} {e : Str × Option Str}, lookX l c = some e → (c, e) ∈ l
  | [], _, _, h => by cases h
  | (j, x) :: r, c, e, h => by
    unfold lookX at h
    by_cases z : c = j
    · rw [if_pos z] at h; cases h; rw [z]; exact List.mem_cons_self
    · rw [if_neg z] at h; exact List.mem_cons_of_mem _ (lookX_mem h)
theorem xok_nil {K : PySem.W.Frag} {gv : Str → Value → Prop} {ca : Nat → Addr} : XOk K gv ca [] := ⟨fun c x f h => (by cases h), fun d x f c y g h => (by cases h), fun d x f h => (by cases h)⟩
theorem xcC_of {K : PySem.W.Frag} {x : Str} {C N : Addr} {nm q : Str} {bs bm sub : List Value} {sn : List Str} {ab : Bool} {col : Option Bool} {dd : Option Addr} {k0 k1 k2 k3 k5 : Option Value} (c : ClF K x C)
    (xL : K.lookup C = some (excClassObj nm q C N bs bm true sn sub ab col dd k0 k1 k2 k3 k5 "ValueError.__new__")) (vb : PySem.HandSPX.refsVE bm = true) (sa : PySem.W.findIn K (.ref C) "__setattr__" = some (some (.builtin "object.__setattr__"))) (kC : PySem.W.keepIn K (.ref C) = true)
    (ga : PySem.W.findIn K (.ref C) "__getattribute__" = some (some (.builtin "BaseException.__getattribute__"))) (gg : PySem.W.findIn K (.ref C) "__getattr__" = some none) (ha : PySem.W.findIn K (.ref C) "__class__" = some (some (.builtin "object.__class__")))
    (hn : PySem.W.specialIn K (.builtin "object.__class__") "__get__" = some (some (.builtin "getset_descriptor.__get__"))) (ht : PySem.W.takesIn K (.builtin "object.__class__") = some true) (hm : PySem.W.mroIn K C (.type "object") = some true) : EngX.XcC K C :=
  ⟨⟨⟨nm, q, N, bs, bm, sn, sub, ab, col, dd, k0, k1, k2, k3, k5, xL, vb⟩, sa, c.ex, c.ty, kC⟩, ⟨ga, gg, c.ex, c.hd⟩, ha, hn, ht, hm, c.cls⟩
abbrev gvN (K : PySem.W.Frag) : Str → Value → Prop := fun x v => PySem.W.nsIn K mainGlobals x = some (some v)
theorem xcI_of {K : PySem.W.Frag} {x q : Str} {S C fI : Addr} {g : Str} {st : Stmt} {oc : Value} {od an : Option Addr} {osl : Array (Option Value)} {kV doc pm cdv ct : Value} (s : EngX.XcS K (gvN K) S) (c : ClF K x C) (o : EngX.XcC K C)
    (no : PySem.W.findIn K (.ref C) g = some none) (iC : PySem.W.findIn K (.ref C) "__init__" = some (some (.ref fI))) (tI : PySem.W.typeIn K (.ref fI) = some (.type "function"))
    (lk : K.lookup fI = some ⟨oc, od, .func (PySem.W.fnOf "__init__" q (defArgs st) (defBody st) (defScope st) .none kV doc pm an cdv ct), osl⟩) (hcd : PySem.W.codeIn K cdv q = true) (ok : EngX.InitOk (some g) st) : EngX.XcI K (gvN K) S C x (some g) :=
  ⟨s, o.o, fun g' e => by cases e; exact no, c.ns, fI, st, q, oc, od, an, osl, kV, doc, pm, cdv, ct, iC, tI, lk, hcd, ok⟩
theorem xcI_of0 {K : PySem.W.Frag} {x q : Str} {S C fI : Addr} {st : Stmt} {oc : Value} {od an : Option Addr} {osl : Array (Option Value)} {kV doc pm cdv ct : Value} (s : EngX.XcS K (gvN K) S) (c : ClF K x C) (o : EngX.XcC K C)
    (iC : PySem.W.findIn K (.ref C) "__init__" = some (some (.ref fI))) (tI : PySem.W.typeIn K (.ref fI) = some (.type "function"))
    (lk : K.lookup fI = some ⟨oc, od, .func (PySem.W.fnOf "__init__" q (defArgs st) (defBody st) (defScope st) .none kV doc pm an cdv ct), osl⟩) (hcd : PySem.W.codeIn K cdv q = true) (ok : EngX.InitOk none st) : EngX.XcI K (gvN K) S C x none :=
  ⟨s, o.o, fun g' e => (by cases e), c.ns, fI, st, q, oc, od, an, osl, kV, doc, pm, cdv, ct, iC, tI, lk, hcd, ok⟩
theorem xcS_of {K : PySem.W.Frag} {S : Addr} (c : ClF K "SaidError" S) (rd : PySem.W.readsIn K S (.type "type") = true) (fi : PySem.W.findCls K (.ref S) (.type "type") "__init__" = some (.val (.builtin "ValueError.__init__")))
    (ga : PySem.W.specialIn K (.ref S) "__getattribute__" = some (some (.builtin "type.__getattribute__"))) : EngX.XcS K (gvN K) S := ⟨c.ns, ⟨_, rd, fi⟩, ga⟩
/-- THE END -/
theorem walkG {l : PySem.W.OpenLaw} {n k : Nat} {q : Program} {loose : List Str} {XP : (Str → Option Value) → Heap → Prop} {YP : World → Heap → Prop} {dr : DefRec} {K : Params → PySem.W.Frag} {ds : Tab} {d0 : Df} {x : Str}
    (hn : l.most = some n) (hn2 : n ≤ sizeLine) (hdf : dr.params.defaults = []) (hr : Room (k + 2) callerA) (hY : ∀ (w : World) (h : Heap), YP w h → (K w.params).In h) (hd0 : d0 ∈ ds.ds) (hps : d0.ps = [x]) (hname : dr.name = d0.x)
    (hz : ∀ w : World, ∀ y ∈ bltNames, PySem.W.nsIn (K w.params) mainGlobals y = some none) (hgl : ∀ (w : World) (i : Nat) (x : Str) (d : D), lookG ds.gs i = some (x, d) → ∃ u v, PySem.W.nsIn (K w.params) mainGlobals x = some (some u) ∧ RelV v u ∧ ∀ wd, Rp (K w.params) (caN (K w.params) ds.xs) wd d v) (hx : ∀ w : World, XOk (K w.params) (fun x v => PySem.W.nsIn (K w.params) mainGlobals x = some (some v)) (caN (K w.params) ds.xs) ds.xs) (hd : ∀ w : World, ∀ d ∈ ds.ds, ∃ st, DefIn (K w.params) d st ∧ DefOk (namesD ds) d st)
    (law : ∀ ns : List Int, ns.length ≤ n → ∃ fr c, runD (semT ds k) d0 [.scr ns] [] = some (.ok (.bl true, fr), c)) :
    PySem.W.WalkO q loose XP YP l.row.toRowW dr [] (fun f vs => PySem.call f vs) := by
  refine Att.attach_call hn hdf fun w s₀ s₁ mg mb fa o pm cd doc a vs ns G Y ho hdd hcd hmg hobj hints hlen hg => ?_
  have KX := hY w _ Y
  obtain ⟨st, ⟨f, oc, od, an, osl, kV, dc, pm', cdv, ct, a1, l1, c1, k1⟩, ok⟩ := hd w d0 hd0
  have ef := PySem.W.mg_of KX G.T.g a1
  rw [hname, ef] at hmg
  have ef : f = fa := by
    have := Option.some.inj hmg
    exact (Value.ref.inj this)
  subst ef
  have bn : ∀ u : Value, BindsTo s₁ (PySem.W.fnOf d0.x d0.x (defArgs st) (defBody st) (defScope st) .none kV dc pm' an cdv ct) ⟨[u], []⟩ [(x, u)] := fun u => by
    have := (Binds.all (K := K w.params) (ok.bnd kV dc pm' an cdv ct)) s₁ [u] KX (by rw [hps] <;> rfl)
    rw [hps] at this
    exact this
  refine law_callG (ns := ns) (sp := SpF (K w.params) (caN (K w.params) ds.xs) 1 (runD (semT ds k) d0)) (fd := PySem.W.fnOf d0.x d0.x (defArgs st) (defBody st) (defScope st) .none kV dc pm' an cdv ct) KX G.T.g G.T.b G.T.builtins G.T.nolimit hg hobj hints (Nat.le_trans hlen hn2) hr (fun base KB nsB => ?_) bn fun H _ hS => sp_law hS (law ns hlen)
  have bl : ∀ y ∈ bltNames, mg y = none := fun y hy => PySem.W.mg_none_of KX G.T.g (hz w y hy)
  have hx' := (hx w).imp (gv' := fun x v => mg x = some v) fun y v h => PySem.W.mg_of KX G.T.g h
  have tab := tab_ok (P := l.prog) (w := w) (K := K w.params) (ca := caN (K w.params) ds.xs) (mg := mg) (base := base) (ds := ds) bl (fun i x d h => let ⟨u, v, h1, h2, h3⟩ := hgl w i x d h; ⟨u, v, PySem.W.mg_of KX G.T.g h1, h2, h3⟩) hx' (fun y v h => PySem.W.mg_of KX G.T.g h) (hd w) k
  have F := fnG_of (ca := caN (K w.params) ds.xs) l1 c1 ok bl (fun i x d h => let ⟨u, v, h1, h2, h3⟩ := hgl w i x d h; ⟨u, v, PySem.W.mg_of KX G.T.g h1, h2, h3⟩) hx' tab
  rw [hps] at F
  exact F
theorem hz_nil {P : Str → Prop} : ∀ y ∈ ([] : List Str), P y := fun _ h => by cases h
theorem hz_cons {P : Str → Prop} {x : Str} {r : List Str} (h : P x) (hr : ∀ y ∈ r, P y) : ∀ y ∈ x :: r, P y := fun y hy => by
  cases hy with
  | head => exact h
  | tail _ m => exact hr y m
theorem hd_nil {P : Df → Prop} : ∀ y ∈ ([] : List Df), P y := fun _ h => by cases h
theorem hd_cons {K : PySem.W.Frag} {F : FN} {d : Df} {r : List Df} {st : Stmt} (h : DefIn K d st) (o : DefOk F d st) (hr : ∀ d ∈ r, ∃ st, DefIn K d st ∧ DefOk F d st) : ∀ e ∈ d :: r, ∃ st, DefIn K e st ∧ DefOk F e st := fun y hy => by
  cases hy with
  | head => exact ⟨st, h, o⟩
  | tail _ m => exact hr y m
def GlOk (K : PySem.W.Frag) (ca : Nat → Addr) (x : Str) (d : D) : Prop := ∃ u v, PySem.W.nsIn K mainGlobals x = some (some u) ∧ RelV v u ∧ ∀ wd, Rp K ca wd d v
theorem gl_nil {K : PySem.W.Frag} {ca : Nat → Addr} : ∀ (i : Nat) (x : Str) (d : D), lookG ([] : List (Nat × Str × D)) i = some (x, d) → GlOk K ca x d := fun i x d h => by cases h
theorem gl_cons {K : PySem.W.Frag} {ca : Nat → Addr} {j : Nat} {y : Str} {e : D} {r : List (Nat × Str × D)} (h : GlOk K ca y e) (hr : ∀ (i : Nat) (x : Str) (d : D), lookG r i = some (x, d) → GlOk K ca x d) : ∀ (i : Nat) (x : Str) (d : D), lookG ((j, y, e) :: r) i = some (x, d) → GlOk K ca x d := fun i x d hi => by
  unfold lookG at hi
  by_cases e : i = j
  · rw [if_pos e] at hi; cases hi; exact h
  · rw [if_neg e] at hi; exact hr i x d hi
theorem gl_int {K : PySem.W.Frag} {ca : Nat → Addr} {x : Str} {n : Int} {t : Tok} (h : PySem.W.nsIn K mainGlobals x = some (some (.int n t))) : GlOk K ca x (.int n) := ⟨_, .int n, h, ⟨t, rfl⟩, fun _ => rfl⟩
theorem gl_str {K : PySem.W.Frag} {ca : Nat → Addr} {x : Str} {n : Str} {t : Tok} (h : PySem.W.nsIn K mainGlobals x = some (some (.str n t))) : GlOk K ca x (.str n) := ⟨_, .str n, h, ⟨t, rfl⟩, fun _ => rfl⟩
def tokI : List Int → List Tok → List Value
  | i :: is, t :: ts => .int i t :: tokI is ts
  | _, _ => []
theorem gl_tup {K : PySem.W.Frag} {ca : Nat → Addr} {x : Str} {ns : List Int} {ts : List Tok} {a : Addr} {o : Obj} {n : Nat} (h : PySem.W.nsIn K mainGlobals x = some (some (.ref a))) (hk : K.lookup a = some o) (hc : o.cls = .type "tuple") (hd : o.data = .seq (tokI ns ts).toArray n) (hl : ns.length = ts.length) (hs : ns.length ≤ sizeLine) :
    GlOk K ca x (.gt (ns.map .int)) := by
  have hv : ∀ (ns : List Int) (ts : List Tok), ns.length = ts.length → Vals (ns.map V.int) (tokI ns ts) := by
    intro ns
    induction ns with
    | nil => intro ts _; exact .nil
    | cons i is ih =>
      intro ts h
      cases ts with
      | nil => cases h
      | cons t ts => exact .cons ⟨t, rfl⟩ (ih ts (Nat.succ.inj h))
  have hlen : (tokI ns ts).length = ns.length := by
    have := (hv ns ts hl).length
    rw [List.length_map] at this
    exact this.symm
  refine ⟨_, .ref a, h, rfl, fun wd => ⟨a, ns.map V.int, rfl, .inr ⟨o, (tokI ns ts).toArray, n, hk, hc, hd, by rw [List.size_toArray, hlen]; exact hs, hv ns ts hl⟩, RpL.ints ns⟩⟩
end Eng

/-! Eng22: what is wanted behind a run -/
namespace Eng
open PySem PySem.Spec PyProof.Rows L2
section
variable {α β : Type} {c : Cells} {ρ : Rho} {T : FT}
/-- nothing: it keeps a thing from being rewritten -/
inductive Tk {α : Sort _} (a : α) : Type
  | mk
def Ew (m : Ans α) (P : α → Cells → Prop) (E : D → Cells → Prop) (_t : Tk P := .mk) (_u : Tk E := .mk) : Prop := match m with
  | none => False
  | some (.ok a, c) => P a c
  | some (.ex x, c) => E x c
def Sv (m : AnsS) (P : Fl → Rho → Cells → Prop) (_t : Tk P := .mk) : Prop := match m with
  | none => False
  | some (fl, ρ, c) => P fl ρ c
variable {P : α → Cells → Prop} {E : D → Cells → Prop} {Q : Fl → Rho → Cells → Prop}
theorem Ew.mono {m : Ans α} {P' : α → Cells → Prop} {E' : D → Cells → Prop} (h : Ew m P E) (hP : ∀ a c, P a c → P' a c) (hE : ∀ x c, E x c → E' x c) : Ew m P' E' := by
  rcases m with _ | ⟨⟨a⟩ | ⟨x⟩, c⟩
  · exact h
  · exact hP _ _ h
  · exact hE _ _ h
theorem Ew.use {m : Ans α} {P' : α → Cells → Prop} {E' : D → Cells → Prop} (h : Ew m P fun _ _ => False) (hP : ∀ a c, P a c → P' a c) : Ew m P' E' := h.mono hP fun _ _ z => z.elim
theorem Sv.mono {m : AnsS} {Q' : Fl → Rho → Cells → Prop} (h : Sv m Q) (hQ : ∀ fl ρ c, Q fl ρ c → Q' fl ρ c) : Sv m Q' := by
  rcases m with _ | ⟨fl, ρ, c⟩
  · exact h
  · exact hQ _ _ _ h
theorem Ew_ok {a : α} : Ew (some (.ok a, c)) P E ↔ P a c := Iff.rfl
theorem Ew_ex {x : D} : Ew (some (.ex x, c)) P E ↔ E x c := Iff.rfl
theorem Ew_none : Ew (none : Ans α) P E ↔ False := Iff.rfl
theorem Sv_some {fl : Fl} : Sv (some (fl, ρ, c)) Q ↔ Q fl ρ c := Iff.rfl
theorem Sv_none : Sv none Q ↔ False := Iff.rfl
theorem Ew_bnd {m : Ans α} {k : α → Cells → Ans β} {P : β → Cells → Prop} : Ew (bnd m k) P E ↔ Ew m (fun a c => Ew (k a c) P E) E := by
  rcases m with _ | ⟨⟨a⟩ | ⟨x⟩, c⟩ <;> exact Iff.rfl
theorem Ew_fst {m : Ans (D × Bool)} {P : D → Cells → Prop} : Ew (fstM m) P E ↔ Ew m (fun d c => P d.1 c) E := Ew_bnd
theorem Ew_noex {m : Ans α} : Ew (noex m) P E ↔ Ew m P fun _ _ => False := by
  rcases m with _ | ⟨⟨a⟩ | ⟨x⟩, c⟩ <;> exact Iff.rfl
theorem Ew_lift {o : Option α} : Ew (liftO o c) P E ↔ ∃ a, o = some a ∧ P a c := by
  cases o with
  | none => exact ⟨fun h => h.elim, fun ⟨_, z, _⟩ => by cases z⟩
  | some a => exact ⟨fun h => ⟨a, rfl, h⟩, fun ⟨_, z, h⟩ => by cases z; exact h⟩
theorem Ew_ite {b : Prop} [Decidable b] {m n : Ans α} : Ew (if b then m else n) P E ↔ if b then Ew m P E else Ew n P E := by by_cases h : b <;> simp [h]
theorem Sv_ite {b : Prop} [Decidable b] {m n : AnsS} : Sv (if b then m else n) Q ↔ if b then Sv m Q else Sv n Q := by by_cases h : b <;> simp [h]
theorem Sv_stB {m : Ans α} {k : α → Cells → AnsS} : Sv (stB m ρ k) Q ↔ Ew m (fun a c => Sv (k a c) Q) (fun x c => Q (.ex x) ρ c) := by
  rcases m with _ | ⟨⟨a⟩ | ⟨x⟩, c⟩ <;> exact Iff.rfl
def seqQ (next : Rho → Cells → AnsS) (Q : Fl → Rho → Cells → Prop) (_t : Tk Q := .mk) : Fl → Rho → Cells → Prop
  | .nx => fun ρ c => Sv (next ρ c) Q
  | fl => Q fl
theorem Sv_seq {r : AnsS} {next : Rho → Cells → AnsS} : Sv (seqS r next) Q ↔ Sv r (seqQ next Q) := by
  rcases r with _ | ⟨fl, ρ, c⟩
  · exact Iff.rfl
  · cases fl <;> exact Iff.rfl
theorem Ew_prim {f : Cells → List D → Option Out} {ds : List D} {P : D × Bool → Cells → Prop} : Ew (prim f ρ ds c) P E ↔ ∃ es, dersL ρ c ds = some es ∧ Ew (outA (f c es) c) P E := by
  unfold prim
  cases dersL ρ c ds with
  | none => exact ⟨fun h => h.elim, fun ⟨_, z, _⟩ => by cases z⟩
  | some es => exact ⟨fun h => ⟨es, rfl, h⟩, fun ⟨_, z, h⟩ => by cases z; exact h⟩
theorem outA_val {d : D} : outA (some (.val d)) c = some (.ok (d, false), c) := rfl
theorem outA_new {d : D} : outA (some (.new d)) c = some (.ok (d, true), c) := rfl
theorem outA_none : outA none c = none := rfl
/-! ### expressions -/
variable {P : D × Bool → Cells → Prop} {a b d e : EX} {B : Bool → Cells → Prop}
theorem ev_int {i : Int} : ev T (.int i) ρ c = some (.ok (.int i, false), c) := rfl
theorem ev_str {x : Str} : ev T (.str x) ρ c = some (.ok (.str x, false), c) := rfl
theorem ev_bl {x : Bool} : ev T (.bl x) ρ c = some (.ok (.bl x, false), c) := rfl
theorem ev_non : ev T .non ρ c = some (.ok (.non, false), c) := rfl
def varA (i : Nat) (s : Option Sl) (c : Cells) : Ans (D × Bool) := match s with
  | some (.val d) => some (.ok (d, false), c)
  | some (.own _) => some (.ok (.slot i, false), c)
  | _ => none
theorem ev_var {i : Nat} : ev T (.var i) ρ c = varA i ρ[i]? c := rfl
theorem varA_val {i : Nat} {d : D} : varA i (some (.val d)) c = some (.ok (d, false), c) := rfl
theorem varA_own {i : Nat} {d : D} : varA i (some (.own d)) c = some (.ok (.slot i, false), c) := rfl
theorem ev_lst {es : EXs} : Ew (ev T (.lst es) ρ c) P E ↔ Ew (evs T es ρ c) (fun ds c => solL ds = true ∧ ds.length ≤ sizeLine ∧ P (.lst ds, true) c) E := by
  refine Ew_bnd.trans ⟨fun h => h.mono (fun ds c q => ?_) fun _ _ z => z, fun h => h.mono (fun ds c q => ?_) fun _ _ z => z⟩
  · by_cases z : (solL ds && decide (ds.length ≤ sizeLine)) = true
    · rw [if_pos z] at q; rw [Bool.and_eq_true, decide_eq_true_eq] at z; exact ⟨z.1, z.2, q⟩
    · rw [if_neg z] at q; exact q.elim
  · rw [if_pos (by rw [Bool.and_eq_true, decide_eq_true_eq]; exact ⟨q.1, q.2.1⟩)]; exact q.2.2
theorem ev_tup {es : EXs} : Ew (ev T (.tup es) ρ c) P E ↔ Ew (evs T es ρ c) (fun ds c => solL ds = true ∧ ds.length ≤ sizeLine ∧ P (.tup ds, true) c) E := by
  refine Ew_bnd.trans ⟨fun h => h.mono (fun ds c q => ?_) fun _ _ z => z, fun h => h.mono (fun ds c q => ?_) fun _ _ z => z⟩
  · by_cases z : (solL ds && decide (ds.length ≤ sizeLine)) = true
    · rw [if_pos z] at q; rw [Bool.and_eq_true, decide_eq_true_eq] at z; exact ⟨z.1, z.2, q⟩
    · rw [if_neg z] at q; exact q.elim
  · rw [if_pos (by rw [Bool.and_eq_true, decide_eq_true_eq]; exact ⟨q.1, q.2.1⟩)]; exact q.2.2
theorem evs_nil {P : List D → Cells → Prop} : Ew (evs T .nil ρ c) P E ↔ P [] c := Iff.rfl
theorem evs_cons {r : EXs} {P : List D → Cells → Prop} : Ew (evs T (.cons e r) ρ c) P E ↔ Ew (ev T e ρ c) (fun d c => Ew (evs T r ρ c) (fun ds c => P (d.1 :: ds) c) E) E := by
  refine Ew_bnd.trans (Ew_fst.trans ?_)
  refine ⟨fun h => h.mono (fun d c q => Ew_bnd.mp q) fun _ _ z => z, fun h => h.mono (fun d c q => Ew_bnd.mpr q) fun _ _ z => z⟩
def opA (op : Operator) (ρ : Rho) (x y : D) (c : Cells) : Ans (D × Bool) := match binF op with
  | some f => prim (f2 f) ρ [x, y] c
  | none => none
theorem two_ew {k : D → D → Cells → Ans α} {P : α → Cells → Prop} {f g : Rho → Cells → Ans (D × Bool)} : Ew (bnd (fstM (f ρ c)) fun x c => bnd (fstM (g ρ c)) fun y c => k x y c) P E ↔ Ew (f ρ c) (fun x c => Ew (g ρ c) (fun y c => Ew (k x.1 y.1 c) P E) E) E := by
  refine Ew_bnd.trans (Ew_fst.trans ?_)
  exact ⟨fun h => h.mono (fun d c q => Ew_fst.mp (Ew_bnd.mp q)) fun _ _ z => z, fun h => h.mono (fun d c q => Ew_bnd.mpr (Ew_fst.mpr q)) fun _ _ z => z⟩
theorem one_ew {k : D → Cells → Ans α} {P : α → Cells → Prop} {f : Rho → Cells → Ans (D × Bool)} : Ew (bnd (fstM (f ρ c)) k) P E ↔ Ew (f ρ c) (fun x c => Ew (k x.1 c) P E) E := Ew_bnd.trans Ew_fst
theorem ev_bin {op : Operator} : Ew (ev T (.bin op a b) ρ c) P E ↔ Ew (ev T a ρ c) (fun x c => Ew (ev T b ρ c) (fun y c => Ew (opA op ρ x.1 y.1 c) P E) E) E := two_ew (k := fun x y c => opA op ρ x y c)
theorem ev_neg : Ew (ev T (.neg a) ρ c) P E ↔ Ew (ev T a ρ c) (fun x c => ∃ i, x.1 = .int i ∧ P (.int (-i), false) c) E := by
  refine one_ew.trans ⟨fun h => h.mono (fun x c q => ?_) fun _ _ z => z, fun h => h.mono (fun x c q => ?_) fun _ _ z => z⟩
  · obtain ⟨d, e1, e2⟩ := Ew_lift.mp q
    obtain ⟨i, e3, rfl⟩ := Option.map_eq_some_iff.mp e1
    cases hx : x.1 <;> (rw [hx] at e3; first | (cases e3; done) | (cases e3; exact ⟨_, rfl, e2⟩))
  · obtain ⟨i, e1, e2⟩ := q
    rw [e1]
    exact e2
theorem ev_notE : Ew (ev T (.notE a) ρ c) P E ↔ Ew (ev T a ρ c) (fun x c => ∃ k, truth ρ c x.1 = some k ∧ P (.bl (!k), false) c) E := by
  refine one_ew.trans ⟨fun h => h.mono (fun x c q => Ew_lift.mp (Ew_bnd.mp q)) fun _ _ z => z, fun h => h.mono (fun x c q => Ew_bnd.mpr (Ew_lift.mpr q)) fun _ _ z => z⟩
theorem ev_cmp {op : CmpOp} : Ew (ev T (.cmp op a b) ρ c) P E ↔ Ew (ev T a ρ c) (fun x c => Ew (ev T b ρ c) (fun y c => Ew (prim (cmpF op) ρ [x.1, y.1] c) P E) E) E := two_ew (k := fun x y c => prim (cmpF op) ρ [x, y] c)
theorem ev_ix : Ew (ev T (.ix a b) ρ c) P E ↔ Ew (ev T a ρ c) (fun x c => Ew (ev T b ρ c) (fun y c => Ew (prim ixF ρ [x.1, y.1] c) P E) E) E := two_ew (k := fun x y c => prim ixF ρ [x, y] c)
theorem ev_andE : Ew (ev T (.andE a b) ρ c) P E ↔ Ew (ev T a ρ c) (fun x c => ∃ k, truth ρ c x.1 = some k ∧ if k = true then Ew (ev T b ρ c) P E else P (x.1, false) c) E := by
  refine one_ew.trans ⟨fun h => h.mono (fun x c q => ?_) fun _ _ z => z, fun h => h.mono (fun x c q => ?_) fun _ _ z => z⟩
  · obtain ⟨k, e1, e2⟩ := Ew_lift.mp (Ew_bnd.mp q)
    exact ⟨k, e1, Ew_ite.mp e2⟩
  · obtain ⟨k, e1, e2⟩ := q
    exact Ew_bnd.mpr (Ew_lift.mpr ⟨k, e1, Ew_ite.mpr e2⟩)
theorem ev_orE : Ew (ev T (.orE a b) ρ c) P E ↔ Ew (ev T a ρ c) (fun x c => ∃ k, truth ρ c x.1 = some k ∧ if k = true then P (x.1, false) c else Ew (ev T b ρ c) P E) E := by
  refine one_ew.trans ⟨fun h => h.mono (fun x c q => ?_) fun _ _ z => z, fun h => h.mono (fun x c q => ?_) fun _ _ z => z⟩
  · obtain ⟨k, e1, e2⟩ := Ew_lift.mp (Ew_bnd.mp q)
    exact ⟨k, e1, Ew_ite.mp e2⟩
  · obtain ⟨k, e1, e2⟩ := q
    exact Ew_bnd.mpr (Ew_lift.mpr ⟨k, e1, Ew_ite.mpr e2⟩)
theorem ev_ife : Ew (ev T (.ife e a b) ρ c) P E ↔ Ew (evT T e ρ c) (fun k c => if k = true then Ew (ev T a ρ c) P E else Ew (ev T b ρ c) P E) E := by
  refine Ew_bnd.trans ⟨fun h => h.mono (fun x c q => Ew_ite.mp q) fun _ _ z => z, fun h => h.mono (fun x c q => Ew_ite.mpr q) fun _ _ z => z⟩
def partA (T : FT) (m : EX) (ρ : Rho) (c : Cells) : Ans (Option Int) := slP (isAbs m) (ev T m) ρ c
theorem part_abs {P : Option Int → Cells → Prop} : Ew (partA T .absent ρ c) P E ↔ P none c := Iff.rfl
theorem part_ev {P : Option Int → Cells → Prop} (h : isAbs a = false) : Ew (partA T a ρ c) P E ↔ Ew (ev T a ρ c) (fun x c => ∃ i, x.1 = .int i ∧ P (some i) c) E := by
  unfold partA slP
  rw [h]
  refine one_ew.trans ⟨fun h => h.mono (fun x c q => ?_) fun _ _ z => z, fun h => h.mono (fun x c q => ?_) fun _ _ z => z⟩
  · obtain ⟨d, e1, e2⟩ := Ew_lift.mp q
    obtain ⟨i, e3, rfl⟩ := Option.map_eq_some_iff.mp e1
    cases hx : x.1 <;> (rw [hx] at e3; first | (cases e3; done) | (cases e3; exact ⟨_, rfl, e2⟩))
  · obtain ⟨i, e1, e2⟩ := q
    rw [e1]
    exact e2
def cutA (ρ : Rho) (x : D) (l h : Option Int) (c : Cells) : Ans (D × Bool) := match derS ρ c x with
  | some d => outA (slF l h d) c
  | none => none
theorem ev_sl {lo hi : EX} : Ew (ev T (.sl a lo hi) ρ c) P E ↔ Ew (ev T a ρ c) (fun x c => Ew (partA T lo ρ c) (fun l c => Ew (partA T hi ρ c) (fun h c => Ew (cutA ρ x.1 l h c) P E) E) E) E := by
  refine one_ew.trans ⟨fun h => h.mono (fun x c q => (Ew_bnd.mp q).mono (fun l c q => Ew_bnd.mp q) fun _ _ z => z) fun _ _ z => z, fun h => h.mono (fun x c q => Ew_bnd.mpr (q.mono (fun l c q => Ew_bnd.mpr q) fun _ _ z => z)) fun _ _ z => z⟩
theorem ev_rev : Ew (ev T (.rev a) ρ c) P E ↔ Ew (ev T a ρ c) (fun x c => ∃ xs, derS ρ c x.1 = some (.lst xs) ∧ P (.lst xs.reverse, true) c) E := by
  refine one_ew.trans ⟨fun h => h.mono (fun x c q => ?_) fun _ _ z => z, fun h => h.mono (fun x c q => ?_) fun _ _ z => z⟩
  · cases hd : derS ρ c x.1 with
    | none => rw [hd] at q; exact q.elim
    | some d =>
      rw [hd] at q
      cases d <;> first | exact q.elim | exact ⟨_, rfl, q⟩
  · obtain ⟨xs, e1, e2⟩ := q
    rw [e1]
    exact e2
def callA (r : Option (Nat × FS)) (ds : List D) (c : Cells) : Ans (D × Bool) := match r with
  | some (n, s) => if solL ds && decide (ds.length = n) then s ds c else none
  | none => none
theorem ev_call {f : Nat} {es : EXs} : Ew (ev T (.call f es) ρ c) P E ↔ Ew (evs T es ρ c) (fun ds c => Ew (callA (T f) ds c) P E) E := Ew_bnd
theorem ev_blt {f : BF} {es : EXs} : Ew (ev T (.blt f es) ρ c) P E ↔ Ew (evs T es ρ c) (fun ds c => Ew (prim (bfF f) ρ ds c) P E) E := Ew_bnd
theorem ev_lc {own : List (Str × Nat)} {elt : EX} {tg : TG} {k : IK} {its : EXs} {ifs : EX} : Ew (ev T (.lc own elt tg k its ifs) ρ c) P E ↔ Ew (evs T its ρ c) (fun ds c => ∃ xs, itemsI k ds = some xs ∧
    Ew (lcGo tg (if isAbs ifs then fun _ c => some (.ok true, c) else evT T ifs) (ev T elt) (wipeR ρ (own.map (·.2))) xs [] c) (fun acc c => P (.lst acc, true) c) E) E := by
  refine Ew_bnd.trans ⟨fun h => h.mono (fun x c q => ?_) fun _ _ z => z, fun h => h.mono (fun x c q => ?_) fun _ _ z => z⟩
  · cases hd : itemsI k x with
    | none => rw [hd] at q; exact q.elim
    | some d =>
      rw [hd] at q
      exact ⟨d, rfl, Ew_bnd.mp q⟩
  · obtain ⟨xs, e1, e2⟩ := q
    rw [e1]
    exact Ew_bnd.mpr e2
theorem ev_chain {op op' : CmpOp} : Ew (ev T (.chain op op' a b d) ρ c) P E ↔ Ew (ev T a ρ c) (fun x c => Ew (ev T b ρ c) (fun y c => Ew (prim (cmpF op) ρ [x.1, y.1] c) (fun k c => ∃ k', isBl k.1 = some k' ∧
    if k' = true then Ew (ev T d ρ c) (fun z c => Ew (prim (cmpF op') ρ [y.1, z.1] c) P E) E else P (.bl false, false) c) E) E) E := by
  refine (two_ew (k := fun x y c => bnd (fstM (prim (cmpF op) ρ [x, y] c)) fun k c => bnd (liftO (isBl k) c) fun k c => if k then bnd (fstM (ev T d ρ c)) fun z c => prim (cmpF op') ρ [y, z] c else some (.ok (.bl false, false), c))).trans ?_
  refine ⟨fun h => h.mono (fun x c q => q.mono (fun y c q => (one_ew (f := fun ρ c => prim (cmpF op) ρ [x.1, y.1] c).mp q).mono (fun k c q => ?_) fun _ _ z => z) fun _ _ z => z) fun _ _ z => z,
    fun h => h.mono (fun x c q => q.mono (fun y c q => (one_ew (f := fun ρ c => prim (cmpF op) ρ [x.1, y.1] c).mpr (q.mono (fun k c q => ?_) fun _ _ z => z))) fun _ _ z => z) fun _ _ z => z⟩
  · obtain ⟨k', e1, e2⟩ := Ew_lift.mp (Ew_bnd.mp q)
    refine ⟨k', e1, ?_⟩
    cases k' with
    | true => exact one_ew.mp e2
    | false => exact e2
  · obtain ⟨k', e1, e2⟩ := q
    refine Ew_bnd.mpr (Ew_lift.mpr ⟨k', e1, ?_⟩)
    cases k' with
    | true => exact one_ew.mpr e2
    | false => exact e2
/-! ### tests -/
def truA (ρ : Rho) (c : Cells) (d : D) : Option Bool := truth ρ c d
theorem evT_truth {m : EX} (h : evB T m = byTruth (evB T m).e) : Ew (evT T m ρ c) B E ↔ Ew (ev T m ρ c) (fun x c => ∃ k, truth ρ c x.1 = some k ∧ B k c) E := by
  have e : evT T m ρ c = bnd (fstM (ev T m ρ c)) fun d c => liftO (truth ρ c d) c := by
    unfold evT ev
    rw [h]
    rfl
  rw [e]
  refine (one_ew (f := ev T m)).trans ⟨fun h => h.mono (fun x c q => Ew_lift.mp q) fun _ _ z => z, fun h => h.mono (fun x c q => Ew_lift.mpr q) fun _ _ z => z⟩
theorem evT_bool {m : EX} (h : evB T m = byBool (evB T m).e) : Ew (evT T m ρ c) B E ↔ Ew (ev T m ρ c) (fun x c => ∃ k, isBl x.1 = some k ∧ B k c) E := by
  have e : evT T m ρ c = bnd (fstM (ev T m ρ c)) fun d c => liftO (isBl d) c := by
    unfold evT ev
    rw [h]
    rfl
  rw [e]
  refine (one_ew (f := ev T m)).trans ⟨fun h => h.mono (fun x c q => Ew_lift.mp q) fun _ _ z => z, fun h => h.mono (fun x c q => Ew_lift.mpr q) fun _ _ z => z⟩
theorem evT_cmp {op : CmpOp} : Ew (evT T (.cmp op a b) ρ c) B E ↔ Ew (ev T (.cmp op a b) ρ c) (fun x c => ∃ k, isBl x.1 = some k ∧ B k c) E := evT_bool rfl
theorem evT_chain {op op' : CmpOp} : Ew (evT T (.chain op op' a b d) ρ c) B E ↔ Ew (ev T (.chain op op' a b d) ρ c) (fun x c => ∃ k, isBl x.1 = some k ∧ B k c) E := evT_bool rfl
theorem evT_notE : Ew (evT T (.notE a) ρ c) B E ↔ Ew (evT T a ρ c) (fun k c => B (!k) c) E := Ew_bnd
theorem evT_andE : Ew (evT T (.andE a b) ρ c) B E ↔ Ew (evT T a ρ c) (fun k c => if k = true then Ew (evT T b ρ c) B E else B false c) E := by
  refine Ew_bnd.trans ⟨fun h => h.mono (fun x c q => Ew_ite.mp q) fun _ _ z => z, fun h => h.mono (fun x c q => Ew_ite.mpr q) fun _ _ z => z⟩
theorem evT_orE : Ew (evT T (.orE a b) ρ c) B E ↔ Ew (evT T a ρ c) (fun k c => if k = true then B true c else Ew (evT T b ρ c) B E) E := by
  refine Ew_bnd.trans ⟨fun h => h.mono (fun x c q => Ew_ite.mp q) fun _ _ z => z, fun h => h.mono (fun x c q => Ew_ite.mpr q) fun _ _ z => z⟩
theorem evT_var {i : Nat} : Ew (evT T (.var i) ρ c) B E ↔ Ew (ev T (.var i) ρ c) (fun x c => ∃ k, truth ρ c x.1 = some k ∧ B k c) E := evT_truth rfl
theorem evT_call {f : Nat} {es : EXs} : Ew (evT T (.call f es) ρ c) B E ↔ Ew (ev T (.call f es) ρ c) (fun x c => ∃ k, truth ρ c x.1 = some k ∧ B k c) E := evT_truth rfl
theorem evT_blt {f : BF} {es : EXs} : Ew (evT T (.blt f es) ρ c) B E ↔ Ew (ev T (.blt f es) ρ c) (fun x c => ∃ k, truth ρ c x.1 = some k ∧ B k c) E := evT_truth rfl
theorem evT_ix : Ew (evT T (.ix a b) ρ c) B E ↔ Ew (ev T (.ix a b) ρ c) (fun x c => ∃ k, truth ρ c x.1 = some k ∧ B k c) E := evT_truth rfl
theorem evT_bl {x : Bool} : Ew (evT T (.bl x) ρ c) B E ↔ B x c := by
  refine (evT_truth rfl).trans ⟨fun ⟨k, e, q⟩ => ?_, fun q => ⟨x, rfl, q⟩⟩
  have : some x = some k := e
  cases this; exact q
/-! ### statements -/
variable {s : ST} {r : STs}
theorem ss_nil : Sv (exSs T .nil ρ c) Q ↔ Q .nx ρ c := Iff.rfl
theorem ss_cons : Sv (exSs T (.cons s r) ρ c) Q ↔ Sv (exS T s ρ c) (seqQ (exSs T r) Q) := Sv_seq
theorem ss_frz {i : Nat} : Sv (exSs T (.frz i r) ρ c) Q ↔ Sv (exSs T r (frzR ρ i) c) Q := Iff.rfl
theorem sv_stE {m : Ans (D × Bool)} {k : D → Cells → AnsS} : Sv (stB (fstM m) ρ k) Q ↔ Ew m (fun d c => Sv (k d.1 c) Q) (fun x c => Q (.ex x) ρ c) := Sv_stB.trans Ew_fst
theorem ss_asg {tg : TG} {m : EX} : Sv (exS T (.asg tg m) ρ c) Q ↔ Ew (ev T m ρ c) (fun d c => ∃ ρ', bindT tg d.1 ρ = some ρ' ∧ Q .nx ρ' c) (fun x c => Q (.ex x) ρ c) := by
  refine sv_stE.trans ⟨fun h => h.mono (fun d c q => ?_) fun _ _ z => z, fun h => h.mono (fun d c q => ?_) fun _ _ z => z⟩
  · unfold bindS at q
    cases e : bindT tg d.1 ρ with
    | none => rw [e] at q; exact q.elim
    | some ρ' => rw [e] at q; exact ⟨ρ', rfl, q⟩
  · obtain ⟨ρ', e, q⟩ := q
    unfold bindS
    rw [e]
    exact q
theorem ss_star {ts : TGs} {m : EX} : Sv (exS T (.star ts m) ρ c) Q ↔ Ew (ev T m ρ c) (fun d c => ∃ ρ', starT ts d.1 ρ = some ρ' ∧ Q .nx ρ' c) (fun x c => Q (.ex x) ρ c) := by
  refine sv_stE.trans ⟨fun h => h.mono (fun d c q => ?_) fun _ _ z => z, fun h => h.mono (fun d c q => ?_) fun _ _ z => z⟩
  · unfold starS at q
    cases e : starT ts d.1 ρ with
    | none => rw [e] at q; exact q.elim
    | some ρ' => rw [e] at q; exact ⟨ρ', rfl, q⟩
  · obtain ⟨ρ', e, q⟩ := q
    unfold starS
    rw [e]
    exact q
theorem ss_own {i : Nat} {m : EX} : Sv (exS T (.own i m) ρ c) Q ↔ Ew (ev T m ρ c) (fun d c => Sv (ownF i d ρ c) Q) (fun x c => Q (.ex x) ρ c) := Sv_stB
theorem ss_cell {i : Nat} {m : EX} : Sv (exS T (.cell i m) ρ c) Q ↔ Ew (ev T m ρ c) (fun d c => Sv (cellF i d ρ c) Q) (fun x c => Q (.ex x) ρ c) := Sv_stB
theorem ss_par {i j : Nat} : Sv (exS T (.par i j a b) ρ c) Q ↔ Ew (evs T (.cons a (.cons b .nil)) ρ c) (fun ds c => Sv (parF i j ds ρ c) Q) (fun x c => Q (.ex x) ρ c) := Sv_stB
theorem ss_expr : Sv (exS T (.expr a) ρ c) Q ↔ Ew (ev T a ρ c) (fun _ c => Q .nx ρ c) (fun x c => Q (.ex x) ρ c) := sv_stE
theorem ss_ifs {p q : STs} : Sv (exS T (.ifs a p q) ρ c) Q ↔ Ew (evT T a ρ c) (fun k c => if k = true then Sv (exSs T p ρ c) Q else Sv (exSs T q ρ c) Q) (fun x c => Q (.ex x) ρ c) := by
  refine Sv_stB.trans ⟨fun h => h.mono (fun d c q => Sv_ite.mp q) fun _ _ z => z, fun h => h.mono (fun d c q => Sv_ite.mpr q) fun _ _ z => z⟩
theorem ss_for {tg : TG} {k : IK} {its : EXs} {body : STs} : Sv (exS T (.forS tg k its body) ρ c) Q ↔ Ew (evs T its ρ c) (fun ds c => ∃ xs, itemsI k ds = some xs ∧ Sv (forL tg (exSs T body) xs ρ c) Q) (fun x c => Q (.ex x) ρ c) := by
  have e : exS T (.forS tg k its body) ρ c = stB (evI k (evs T its) ρ c) ρ fun xs c => forL tg (exSs T body) xs ρ c := rfl
  rw [e]
  refine Sv_stB.trans (Ew_bnd.trans ⟨fun h => h.mono (fun d c q => Ew_lift.mp q) fun _ _ z => z, fun h => h.mono (fun d c q => Ew_lift.mpr q) fun _ _ z => z⟩)
theorem ss_whl {body : STs} : Sv (exS T (.whl a body) ρ c) Q ↔ Sv (whlL (evT T a) (exSs T body) wfuel ρ c) Q := Iff.rfl
theorem ss_ret : Sv (exS T (.ret a) ρ c) Q ↔ Ew (ev T a ρ c) (fun d c => Sv (retS d.1 d.2 ρ c) Q) (fun x c => Q (.ex x) ρ c) := Sv_stB
theorem ss_retN : Sv (exS T .retN ρ c) Q ↔ Q (.rt .non false) ρ c := Iff.rfl
theorem ss_brk : Sv (exS T .brk ρ c) Q ↔ Q .bk ρ c := Iff.rfl
theorem ss_cnt : Sv (exS T .cnt ρ c) Q ↔ Q .ct ρ c := Iff.rfl
theorem ss_pass : Sv (exS T .pass ρ c) Q ↔ Q .nx ρ c := Iff.rfl
def setA (ρ : Rho) (x z y : D) (c : Cells) : AnsS := match derS ρ c x, derS ρ c z with
  | some d, some q => match setF d q y with
    | some d' => putL x d' ρ c
    | none => none
  | _, _ => none
theorem ss_sset {o k v : EX} : Sv (exS T (.sset o k v) ρ c) Q ↔ Ew (ev T v ρ c) (fun y c => Ew (ev T o ρ c) (fun x c => Ew (ev T k ρ c) (fun z c => sol y.1 = true ∧ Sv (setA ρ x.1 z.1 y.1 c) Q) (fun x c => Q (.ex x) ρ c)) (fun x c => Q (.ex x) ρ c)) (fun x c => Q (.ex x) ρ c) := by
  refine sv_stE.trans ⟨fun h => h.mono (fun y c q => (sv_stE.mp q).mono (fun x c q => (sv_stE.mp q).mono (fun z c q => ?_) fun _ _ z => z) fun _ _ z => z) fun _ _ z => z,
    fun h => h.mono (fun y c q => sv_stE.mpr (q.mono (fun x c q => sv_stE.mpr (q.mono (fun z c q => ?_) fun _ _ z => z)) fun _ _ z => z)) fun _ _ z => z⟩
  · by_cases hs : sol y.1 = true
    · rw [if_pos hs] at q; exact ⟨hs, q⟩
    · rw [if_neg hs] at q; exact q.elim
  · rw [if_pos q.1]; exact q.2
def augA (op : Operator) (ρ : Rho) (old x z y : D) (c : Cells) : AnsS := match ipF op old y, derS ρ c x, derS ρ c z with
  | some u, some d, some q => match setF d q u with
    | some d' => putL x d' ρ c
    | none => none
  | _, _, _ => none
theorem ss_saug {o k v : EX} {op : Operator} : Sv (exS T (.saug o k op v) ρ c) Q ↔ Ew (ev T o ρ c) (fun x c => Ew (ev T k ρ c) (fun z c => ∃ old, getO (derS ρ c x.1) (derS ρ c z.1) = some old ∧ Ew (ev T v ρ c) (fun y c => Sv (augA op ρ old x.1 z.1 y.1 c) Q) (fun x c => Q (.ex x) ρ c)) (fun x c => Q (.ex x) ρ c)) (fun x c => Q (.ex x) ρ c) := by
  refine sv_stE.trans ⟨fun h => h.mono (fun y c q => (sv_stE.mp q).mono (fun x c q => ?_) fun _ _ z => z) fun _ _ z => z, fun h => h.mono (fun y c q => sv_stE.mpr (q.mono (fun x c q => ?_) fun _ _ z => z)) fun _ _ z => z⟩
  · cases e : getO (derS ρ c y.1) (derS ρ c x.1) with
    | none => rw [e] at q; exact q.elim
    | some old => rw [e] at q; exact ⟨old, rfl, sv_stE.mp q⟩
  · obtain ⟨old, e, q⟩ := q
    rw [e]
    exact sv_stE.mpr q
def aug1 (i : Nat) (op : Operator) (ρ : Rho) (x y : D) (c : Cells) : AnsS := match ipF op x y with
  | some z => some (.nx, ρ.set i (.val z), c)
  | none => none
theorem ss_aug {i : Nat} {op : Operator} : Sv (exS T (.aug i op a) ρ c) Q ↔ ∃ x, valR ρ i = some x ∧ Ew (ev T a ρ c) (fun y c => Sv (aug1 i op ρ x y.1 c) Q) (fun x c => Q (.ex x) ρ c) := by
  have e : exS T (.aug i op a) ρ c = match valR ρ i with
    | some x => stB (fstM (ev T a ρ c)) ρ fun y c => aug1 i op ρ x y c
    | none => none := rfl
  rw [e]
  cases valR ρ i with
  | none => exact ⟨fun h => h.elim, fun ⟨_, z, _⟩ => by cases z⟩
  | some x => exact ⟨fun h => ⟨x, rfl, sv_stE.mp h⟩, fun ⟨_, z, h⟩ => by cases z; exact sv_stE.mpr h⟩
def isLst : Option D → Bool
  | some (.lst _) => true
  | _ => false
def mutA (m : MM) (ρ : Rho) (x : D) (ds : List D) (c : Cells) : AnsS := if solL ds then match derS ρ c x with
    | some d => match mutF m d ds with
      | some d' => putL x d' ρ c
      | none => none
    | none => none
    else none
theorem ss_mut {m : MM} {es : EXs} : Sv (exS T (.mut m a es) ρ c) Q ↔ Ew (ev T a ρ c) (fun x c => isLst (derS ρ c x.1) = true ∧ Ew (evs T es ρ c) (fun ds c => Sv (mutA m ρ x.1 ds c) Q) (fun x c => Q (.ex x) ρ c)) (fun x c => Q (.ex x) ρ c) := by
  have e : exS T (.mut m a es) ρ c = stB (fstM (ev T a ρ c)) ρ fun x c => match derS ρ c x with
    | some (.lst _) => stB (evs T es ρ c) ρ fun ds c => mutA m ρ x ds c
    | _ => none := rfl
  rw [e]
  refine sv_stE.trans ⟨fun h => h.mono (fun x c q => ?_) fun _ _ z => z, fun h => h.mono (fun x c q => ?_) fun _ _ z => z⟩
  · cases hd : derS ρ c x.1 with
    | none => rw [hd] at q; exact q.elim
    | some d =>
      rw [hd] at q
      cases d <;> first | exact q.elim | exact ⟨rfl, Sv_stB.mp q⟩
  · cases hd : derS ρ c x.1 with
    | none => rw [hd] at q; cases q.1
    | some d =>
      rw [hd] at q
      cases d <;> first | (cases q.1; done) | exact Sv_stB.mpr q.2
theorem seqQ_nx {next : Rho → Cells → AnsS} : seqQ next Q .mk .nx ρ c = Sv (next ρ c) Q := rfl
theorem seqQ_rt {next : Rho → Cells → AnsS} {d : D} {fr : Bool} : seqQ next Q .mk (.rt d fr) ρ c = Q (.rt d fr) ρ c := rfl
theorem seqQ_bk {next : Rho → Cells → AnsS} : seqQ next Q .mk .bk ρ c = Q .bk ρ c := rfl
theorem seqQ_ct {next : Rho → Cells → AnsS} : seqQ next Q .mk .ct ρ c = Q .ct ρ c := rfl
theorem seqQ_ex {next : Rho → Cells → AnsS} {x : D} : seqQ next Q .mk (.ex x) ρ c = Q (.ex x) ρ c := rfl
/-! ### loops -/
def loopQ (I : Rho → Cells → Prop) (Q : Fl → Rho → Cells → Prop) (_t : Tk Q := .mk) (_u : Tk I := .mk) : Fl → Rho → Cells → Prop
  | .nx => I
  | .ct => I
  | .bk => Q .nx
  | fl => Q fl
theorem loopQ_nx {I : Rho → Cells → Prop} : loopQ I Q .mk .mk .nx ρ c = I ρ c := rfl
theorem loopQ_ct {I : Rho → Cells → Prop} : loopQ I Q .mk .mk .ct ρ c = I ρ c := rfl
theorem loopQ_bk {I : Rho → Cells → Prop} : loopQ I Q .mk .mk .bk ρ c = Q .nx ρ c := rfl
theorem loopQ_rt {I : Rho → Cells → Prop} {d : D} {fr : Bool} : loopQ I Q .mk .mk (.rt d fr) ρ c = Q (.rt d fr) ρ c := rfl
theorem loopQ_ex {I : Rho → Cells → Prop} {x : D} : loopQ I Q .mk .mk (.ex x) ρ c = Q (.ex x) ρ c := rfl
theorem for_inv {tg : TG} {body : Rho → Cells → AnsS} {xs : List D} (I : Nat → Rho → Cells → Prop) (h0 : I 0 ρ c)
    (step : ∀ i x ρ c, xs[i]? = some x → I i ρ c → ∃ ρ1, bindT tg x ρ = some ρ1 ∧ Sv (body ρ1 c) (loopQ (I (i + 1)) Q))
    (done : ∀ ρ c, I xs.length ρ c → Q .nx ρ c) : Sv (forL tg body xs ρ c) Q := by
  have go : ∀ (k : Nat) (i : Nat) (ρ : Rho) (c : Cells), i + k = xs.length → I i ρ c → Sv (forL tg body (xs.drop i) ρ c) Q := fun k => by
    induction k with
    | zero =>
      intro i ρ c h hi
      have : i = xs.length := by omega
      subst this
      rw [List.drop_length]
      exact done ρ c hi
    | succ k ih =>
      intro i ρ c h hi
      have hlt : i < xs.length := by omega
      rw [List.drop_eq_getElem_cons hlt]
      obtain ⟨ρ1, e, s⟩ := step i _ ρ c (List.getElem?_eq_getElem hlt) hi
      unfold forL
      rw [e]
      show Sv (turnS (body ρ1 c) (forL tg body (xs.drop (i + 1)))) Q
      rcases hb : body ρ1 c with _ | ⟨fl, ρ2, c2⟩
      · rw [hb] at s; exact s
      · rw [hb] at s
        cases fl with
        | nx => exact ih (i + 1) ρ2 c2 (by omega) s
        | ct => exact ih (i + 1) ρ2 c2 (by omega) s
        | bk => exact s
        | rt d fr => exact s
        | ex x => exact s
  have := go xs.length 0 ρ c (by omega) h0
  rw [List.drop_zero] at this
  exact this
theorem while_inv {test : Rho → Cells → Ans Bool} {body : Rho → Cells → AnsS} (I : Nat → Rho → Cells → Prop) {n0 : Nat} (h0 : I n0 ρ c) {fuel : Nat} (hf : n0 < fuel)
    (step : ∀ n ρ c, I n ρ c → Ew (test ρ c) (fun k c => if k = true then Sv (body ρ c) (loopQ (fun ρ c => ∃ m, m < n ∧ I m ρ c) Q) else Q .nx ρ c) (fun x c => Q (.ex x) ρ c)) : Sv (whlL test body fuel ρ c) Q := by
  induction fuel generalizing n0 ρ c with
  | zero => omega
  | succ f ih =>
    have s := step n0 ρ c h0
    unfold whlL
    refine Sv_stB.mpr (s.mono (fun k c q => ?_) fun _ _ z => z)
    cases k with
    | false => exact q
    | true =>
      have q : Sv (body ρ c) _ := q
      show Sv (turnS (body ρ c) (whlL test body f)) Q
      rcases hb : body ρ c with _ | ⟨fl, ρ2, c2⟩
      · rw [hb] at q; exact q
      · rw [hb] at q
        cases fl with
        | nx => obtain ⟨m, hm, hI⟩ := q; exact ih hI (by omega)
        | ct => obtain ⟨m, hm, hI⟩ := q; exact ih hI (by omega)
        | bk => exact q
        | rt d fr => exact q
        | ex x => exact q
theorem lc_inv {tg : TG} {test : Rho → Cells → Ans Bool} {elt : Rho → Cells → Ans (D × Bool)} {xs : List D} {P : List D → Cells → Prop} (I : Nat → List D → Cells → Prop) (h0 : I 0 [] c)
    (step : ∀ i x acc c, xs[i]? = some x → I i acc c → ∃ ρ1, bindT tg x ρ = some ρ1 ∧ Ew (test ρ1 c) (fun k c => if k = true then Ew (elt ρ1 c) (fun d c => sol d.1 = true ∧ acc.length < sizeLine ∧ I (i + 1) (acc ++ [d.1]) c) (fun _ _ => False) else I (i + 1) acc c) (fun _ _ => False))
    (done : ∀ acc c, I xs.length acc c → P acc c) : Ew (lcGo tg test elt ρ xs [] c) P E := by
  have go : ∀ (k : Nat) (i : Nat) (acc : List D) (c : Cells), i + k = xs.length → I i acc c → Ew (lcGo tg test elt ρ (xs.drop i) acc c) P E := fun k => by
    induction k with
    | zero =>
      intro i acc c h hi
      have : i = xs.length := by omega
      subst this
      rw [List.drop_length]
      exact done acc c hi
    | succ k ih =>
      intro i acc c h hi
      have hlt : i < xs.length := by omega
      rw [List.drop_eq_getElem_cons hlt]
      obtain ⟨ρ1, e, s⟩ := step i _ acc c (List.getElem?_eq_getElem hlt) hi
      unfold lcGo
      rw [e]
      refine Ew_bnd.mpr (Ew_noex.mpr (s.mono (fun b c q => ?_) fun _ _ z => z))
      cases b with
      | false => exact ih (i + 1) acc c (by omega) q
      | true =>
        have q : Ew (elt ρ1 c) _ _ := q
        refine Ew_bnd.mpr (Ew_noex.mpr (Ew_fst.mpr (q.mono (fun d c q => ?_) fun _ _ z => z)))
        show Ew (if (sol d.1 && decide (acc.length < sizeLine)) = true then _ else _) P E
        rw [if_pos (by rw [Bool.and_eq_true, decide_eq_true_eq]; exact ⟨q.1, q.2.1⟩)]
        exact ih (i + 1) (acc ++ [d.1]) c (by omega) q.2.2
  have := go xs.length 0 [] c (by omega) h0
  rw [List.drop_zero] at this
  exact this
/-! ### defs -/
def defQ (P : D × Bool → Cells → Prop) (E : D → Cells → Prop) (_t : Tk P := .mk) (_u : Tk E := .mk) : Fl → Rho → Cells → Prop
  | .nx => fun _ c => P (.non, false) c
  | .rt d fr => fun _ c => P (d, fr) c
  | .ex x => fun _ c => E x c
  | _ => fun _ _ => False
theorem defQ_nx {E : D → Cells → Prop} : defQ P E .mk .mk .nx ρ c = P (.non, false) c := rfl
theorem defQ_rt {E : D → Cells → Prop} {d : D} {fr : Bool} : defQ P E .mk .mk (.rt d fr) ρ c = P (d, fr) c := rfl
theorem defQ_ex {E : D → Cells → Prop} {x : D} : defQ P E .mk .mk (.ex x) ρ c = E x c := rfl
theorem run_def {df : Df} {args : List D} : Ew (runD T df args c) P E ↔ Sv (exSs T df.body (rho0 df.N.length args) c) (defQ P E) := by
  show Ew (endD _) P E ↔ _
  rcases exSs T df.body (rho0 df.N.length args) c with _ | ⟨fl, ρ, c2⟩
  · exact Iff.rfl
  · cases fl <;> exact Iff.rfl
theorem call_def {n : Nat} {s : FS} {ds : List D} (h : solL ds = true) (hl : ds.length = n) : Ew (callA (some (n, s)) ds c) P E ↔ Ew (s ds c) P E := by
  unfold callA
  simp only [h, hl, decide_true, Bool.and_self, if_true]
end
end Eng

/-! Eng23: what the primitives compute on known data -/
namespace Eng
open PySem PySem.Spec PyProof.Rows L2
section
variable {α β : Type} {c : Cells} {ρ : Rho} {T : FT} {P : D × Bool → Cells → Prop} {E : D → Cells → Prop} {Q : Fl → Rho → Cells → Prop}
def slD : Option Sl → Option D
  | some (.own (.slot _)) => none
  | some (.own (.cell _)) => none
  | some (.own d) => some d
  | _ => none
def clD : Option (Option D) → Option D
  | some (some (.cell _)) => none
  | some (some (.slot _)) => none
  | some (some d) => some d
  | _ => none
theorem der_int {i : Int} : derS ρ c (.int i) = some (.int i) := rfl
theorem der_str {i : Str} : derS ρ c (.str i) = some (.str i) := rfl
theorem der_bl {i : Bool} : derS ρ c (.bl i) = some (.bl i) := rfl
theorem der_non : derS ρ c .non = some .non := rfl
theorem der_lst {xs : List D} : derS ρ c (.lst xs) = some (.lst xs) := rfl
theorem der_tup {xs : List D} : derS ρ c (.tup xs) = some (.tup xs) := rfl
theorem der_gt {xs : List D} : derS ρ c (.gt xs) = some (.gt xs) := rfl
theorem der_scr {xs : List Int} : derS ρ c (.scr xs) = some (.scr xs) := rfl
theorem der_dK {ks : List Key} {vs : List D} : derS ρ c (.dK ks vs) = some (.dK ks vs) := rfl
theorem der_dT {ks : List (List Key)} {vs : List D} : derS ρ c (.dT ks vs) = some (.dT ks vs) := rfl
theorem der_slot {i : Nat} : derS ρ c (.slot i) = slD ρ[i]? := by
  unfold derS
  simp only
  generalize ρ[i]? = s
  rcases s with _ | _ | d | d | d
  · rfl
  · rfl
  · rfl
  · cases d <;> rfl
  · rfl
theorem der_cell {n : Nat} : derS ρ c (.cell n) = clD c[n]? := by
  show derC c (.cell n) = _
  unfold derC
  simp only
  generalize c[n]? = s
  rcases s with _ | _ | d
  · rfl
  · rfl
  · cases d <;> rfl
theorem slD_lst {xs : List D} : slD (some (.own (.lst xs))) = some (.lst xs) := rfl
theorem slD_dK {ks : List Key} {vs : List D} : slD (some (.own (.dK ks vs))) = some (.dK ks vs) := rfl
theorem slD_dT {ks : List (List Key)} {vs : List D} : slD (some (.own (.dT ks vs))) = some (.dT ks vs) := rfl
theorem clD_lst {xs : List D} : clD (some (some (.lst xs))) = some (.lst xs) := rfl
theorem clD_dK {ks : List Key} {vs : List D} : clD (some (some (.dK ks vs))) = some (.dK ks vs) := rfl
theorem ders_nil : dersL ρ c [] = some [] := rfl
theorem ders_cons {d : D} {ds : List D} : dersL ρ c (d :: ds) = (derS ρ c d).bind fun e => (dersL ρ c ds).map (e :: ·) := by
  show (match derS ρ c d, dersL ρ c ds with | some e, some es => some (e :: es) | _, _ => none) = _
  cases derS ρ c d with
  | none => rfl
  | some e => cases dersL ρ c ds <;> rfl
theorem ex_some {a : α} {p : α → Prop} : (∃ x, some a = some x ∧ p x) ↔ p a := ⟨fun ⟨_, z, h⟩ => by cases z; exact h, fun h => ⟨a, rfl, h⟩⟩
theorem ex_eq {a : α} {p : α → Prop} : (∃ x, a = x ∧ p x) ↔ p a := ⟨fun ⟨_, z, h⟩ => by cases z; exact h, fun h => ⟨a, rfl, h⟩⟩
theorem ex_int {i : Int} {p : Int → Prop} : (∃ x, D.int i = .int x ∧ p x) ↔ p i := ⟨fun ⟨_, z, h⟩ => by cases z; exact h, fun h => ⟨i, rfl, h⟩⟩
theorem Ew_val {d : D} : Ew (outA (some (.val d)) c) P E ↔ P (d, false) c := Iff.rfl
theorem Ew_new {d : D} : Ew (outA (some (.new d)) c) P E ↔ P (d, true) c := Iff.rfl
theorem Ew_out0 : Ew (outA none c) P E ↔ False := Iff.rfl
theorem Ew_oif {b : Prop} [Decidable b] {o : Option Out} : Ew (outA (if b then o else none) c) P E ↔ b ∧ Ew (outA o c) P E := by
  by_cases h : b <;> simp [h, Ew_out0]
theorem Ew_omap {o : Option α} {f : α → Out} : Ew (outA (o.map f) c) P E ↔ ∃ x, o = some x ∧ Ew (outA (some (f x)) c) P E := by
  cases o with
  | none => exact ⟨fun h => h.elim, fun ⟨_, z, _⟩ => by cases z⟩
  | some a => exact ⟨fun h => ⟨a, rfl, h⟩, fun ⟨_, z, h⟩ => by cases z; exact h⟩
theorem Ew_obind {o : Option α} {f : α → Option Out} : Ew (outA (o.bind f) c) P E ↔ ∃ x, o = some x ∧ Ew (outA (f x) c) P E := by
  cases o with
  | none => exact ⟨fun h => h.elim, fun ⟨_, z, _⟩ => by cases z⟩
  | some a => exact ⟨fun h => ⟨a, rfl, h⟩, fun ⟨_, z, h⟩ => by cases z; exact h⟩
/-! arithmetic -/
theorem op_add {x y : D} : opA .Add ρ x y c = prim (f2 addF) ρ [x, y] c := rfl
theorem op_sub {x y : D} : opA .Sub ρ x y c = prim (f2 subF) ρ [x, y] c := rfl
theorem op_mul {x y : D} : opA .Mult ρ x y c = prim (f2 mulF) ρ [x, y] c := rfl
theorem op_div {x y : D} : opA .FloorDiv ρ x y c = prim (f2 divF) ρ [x, y] c := rfl
theorem op_mod {x y : D} : opA .Mod ρ x y c = prim (f2 modF) ρ [x, y] c := rfl
theorem op_pow {x y : D} : opA .Pow ρ x y c = prim (f2 powF) ρ [x, y] c := rfl
theorem f2_two {f : D → D → Option Out} {a b : D} : f2 f c [a, b] = f a b := rfl
theorem add_int {i j : Int} : addF (.int i) (.int j) = some (.val (.int (i + j))) := rfl
theorem add_str {x y : Str} : addF (.str x) (.str y) = if x.length + y.length ≤ sizeLine then some (.val (.str (x ++ y))) else none := rfl
theorem add_lst {xs ys : List D} : addF (.lst xs) (.lst ys) = if xs.length + ys.length ≤ sizeLine then some (.new (.lst (xs ++ ys))) else none := rfl
theorem add_tup {xs ys : List D} : addF (.tup xs) (.tup ys) = if xs.length + ys.length ≤ sizeLine ∧ xs ≠ [] ∧ ys ≠ [] then some (.new (.tup (xs ++ ys))) else none := rfl
theorem sub_int {i j : Int} : subF (.int i) (.int j) = some (.val (.int (i - j))) := rfl
def fits (i j : Int) : Prop := (-(2 ^ 64) < i ∧ i < 2 ^ 64) ∨ (-(2 ^ 64) < j ∧ j < 2 ^ 64) ∨ (-(2 ^ 200) < i ∧ i < 2 ^ 200 ∧ -(2 ^ 200) < j ∧ j < 2 ^ 200)
instance {i j : Int} : Decidable (fits i j) := by unfold fits; infer_instance
theorem mul_int {i j : Int} : mulF (.int i) (.int j) = if fits i j then some (.val (.int (i * j))) else none := rfl
theorem mul_str {x : Str} {k : Int} : mulF (.str x) (.int k) = if -(2 ^ 63) ≤ k ∧ k < 2 ^ 63 ∧ x.length * k.toNat ≤ sizeLine then some (.val (.str (strRep x k.toNat))) else none := rfl
theorem mul_lst {x : List D} {k : Int} : mulF (.lst x) (.int k) = if -(2 ^ 63) ≤ k ∧ k < 2 ^ 63 ∧ x.length * k.toNat ≤ sizeLine then some (.new (.lst (List.replicate k.toNat x).flatten)) else none := rfl
theorem div_int {i j : Int} : divF (.int i) (.int j) = if 0 < j ∧ j.natAbs.log2 < 9000 then some (.val (.int (i / j))) else none := rfl
theorem mod_int {i j : Int} : modF (.int i) (.int j) = if 0 < j then some (.val (.int (i % j))) else none := rfl
theorem pow_int {i j : Int} : powF (.int i) (.int j) = if 0 ≤ j ∧ j ≤ 1000000 ∧ i.natAbs < 2 ^ 64 then some (.val (.int (i ^ j.toNat))) else none := rfl
/-! items, slices -/
theorem ix_lst {xs : List D} {i : Int} : ixF c [.lst xs, .int i] = (atI xs i).map .val := rfl
theorem ix_tup {xs : List D} {i : Int} : ixF c [.tup xs, .int i] = (atI xs i).map .val := rfl
theorem ix_gt {xs : List D} {i : Int} : ixF c [.gt xs, .int i] = (atI xs i).map .val := rfl
theorem ix_str {z : Str} {i : Int} : ixF c [.str z, .int i] = if z.length ≤ sizeLine then (atI z.cps.toList i).map fun c => .val (.str ⟨#[c]⟩) else none := rfl
theorem ix_dKs {ks : List Key} {vs : List D} {z : Str} : ixF c [.dK ks vs, .str z] = (dget ks vs (.inr z)).map .val := rfl
theorem ix_dKi {ks : List Key} {vs : List D} {z : Int} : ixF c [.dK ks vs, .int z] = (dget ks vs (.inl z)).map .val := rfl
theorem at_0 {a : α} {r : List α} : atI (a :: r) 0 = some a := by
  unfold L2.atI L2.ixN
  rw [if_pos (by decide), if_pos (by simp only [List.length_cons]; omega)]; rfl
theorem at_1 {a b : α} {r : List α} : atI (a :: b :: r) 1 = some b := by
  unfold L2.atI L2.ixN
  rw [if_pos (by decide), if_pos (by simp only [List.length_cons]; omega)]; rfl
theorem at_2 {a b d : α} {r : List α} : atI (a :: b :: d :: r) 2 = some d := by
  unfold L2.atI L2.ixN
  rw [if_pos (by decide), if_pos (by simp only [List.length_cons]; omega)]; rfl
theorem at_3 {a b d e : α} {r : List α} : atI (a :: b :: d :: e :: r) 3 = some e := by
  unfold L2.atI L2.ixN
  rw [if_pos (by decide), if_pos (by simp only [List.length_cons]; omega)]; rfl
theorem at_4 {a b d e f : α} {r : List α} : atI (a :: b :: d :: e :: f :: r) 4 = some f := by
  unfold L2.atI L2.ixN
  rw [if_pos (by decide), if_pos (by simp only [List.length_cons]; omega)]; rfl
theorem at_5 {a b d e f g : α} {r : List α} : atI (a :: b :: d :: e :: f :: g :: r) 5 = some g := by
  unfold L2.atI L2.ixN
  rw [if_pos (by decide), if_pos (by simp only [List.length_cons]; omega)]; rfl
/-- an item within -/
theorem at_in {xs : List α} {i : Int} (h0 : 0 ≤ i) (h1 : i < xs.length) : ∃ x, atI xs i = some x ∧ xs[i.toNat]? = some x := by
  unfold L2.atI L2.ixN
  rw [if_pos h0, if_pos h1]
  have : i.toNat < xs.length := by omega
  exact ⟨xs[i.toNat], by rw [Option.bind_some, List.getElem?_eq_getElem this], List.getElem?_eq_getElem this⟩
theorem cut_lst {lo hi : Option Int} {xs : List D} : slF lo hi (.lst xs) = some (.new (.lst (cutD xs lo hi))) := rfl
theorem cut_scr {lo hi : Option Int} {xs : List Int} : slF lo hi (.scr xs) = some (.new (.lst ((cutI xs lo hi).map .int))) := rfl
theorem cut_str {lo hi : Option Int} {z : Str} : slF lo hi (.str z) = if z.length ≤ sizeLine then some (.val (.str (cutS z lo hi))) else none := rfl
theorem Ew_cut {l h : Option Int} {x : D} : Ew (cutA ρ x l h c) P E ↔ ∃ d, derS ρ c x = some d ∧ Ew (outA (slF l h d) c) P E := by
  unfold cutA
  cases derS ρ c x with
  | none => exact ⟨fun h => h.elim, fun ⟨_, z, _⟩ => by cases z⟩
  | some a => exact ⟨fun h => ⟨a, rfl, h⟩, fun ⟨_, z, h⟩ => by cases z; exact h⟩
/-! comparisons -/
theorem cmp_two {op : CmpOp} {a b : D} : cmpF op c [a, b] = (cmpB c op a b).map fun k => .val (.bl k) := rfl
theorem eq_int {i j : Int} : cmpB c .Eq (.int i) (.int j) = some (i == j) := rfl
theorem ne_int {i j : Int} : cmpB c .NotEq (.int i) (.int j) = some (!(i == j)) := rfl
theorem eq_str {i j : Str} : cmpB c .Eq (.str i) (.str j) = some (i == j) := rfl
theorem ne_str {i j : Str} : cmpB c .NotEq (.str i) (.str j) = some (!(i == j)) := rfl
theorem lt_int {i j : Int} : cmpB c .Lt (.int i) (.int j) = some (decide (i < j)) := rfl
theorem le_int {i j : Int} : cmpB c .LtE (.int i) (.int j) = some (decide (i ≤ j)) := rfl
theorem gt_int {i j : Int} : cmpB c .Gt (.int i) (.int j) = some (decide (j < i)) := rfl
theorem ge_int {i j : Int} : cmpB c .GtE (.int i) (.int j) = some (decide (j ≤ i)) := rfl
theorem cmp_eq {a b : D} : cmpB c .Eq a b = eqD deep c a b := rfl
theorem cmp_ne {a b : D} : cmpB c .NotEq a b = (eqD deep c a b).map (!·) := rfl
theorem cmp_in {a b : D} : cmpB c .In a b = inF c a b := rfl
theorem cmp_nin {a b : D} : cmpB c .NotIn a b = (inF c a b).map (!·) := rfl
theorem isBl_bl {b : Bool} : isBl (.bl b) = some b := rfl
theorem tru_def {d : D} : truth ρ c d = (derS ρ c d).bind truD := rfl
theorem tru_int {i : Int} : truD (.int i) = some (i != 0) := rfl
theorem tru_bl {i : Bool} : truD (.bl i) = some i := rfl
theorem tru_non : truD .non = some false := rfl
theorem tru_lst {xs : List D} : truD (.lst xs) = some (!xs.isEmpty) := rfl
theorem tru_tup {xs : List D} : truD (.tup xs) = some (!xs.isEmpty) := rfl
/-! builtins -/
theorem bf_len {ds : List D} : bfF .len c ds = lenF ds := rfl
theorem bf_abs {ds : List D} : bfF .abs c ds = absF ds := rfl
theorem bf_max {ds : List D} : bfF .max c ds = maxF ds := rfl
theorem bf_min {ds : List D} : bfF .min c ds = minF ds := rfl
theorem bf_int {ds : List D} : bfF .int c ds = intF ds := rfl
theorem bf_list {ds : List D} : bfF .list c ds = listF ds := rfl
theorem bf_repr {ds : List D} : bfF .repr c ds = reprF c ds := rfl
theorem max_int {i j : Int} : maxF [.int i, .int j] = some (.val (.int (if j > i then j else i))) := rfl
theorem min_int {i j : Int} : minF [.int i, .int j] = some (.val (.int (if j < i then j else i))) := rfl
theorem int_int {i : Int} : intF [.int i] = some (.val (.int i)) := rfl
theorem int_bl {b : Bool} : intF [.bl b] = some (.val (.int (if b then 1 else 0))) := rfl
theorem list_lst {xs : List D} : listF [.lst xs] = some (.new (.lst xs)) := rfl
theorem list_scr {xs : List Int} : listF [.scr xs] = some (.new (.lst (xs.map .int))) := rfl
/-! stores -/
theorem bind_nm {i : Nat} {d : D} {Q : Rho → Prop} : (∃ ρ', bindT (.nm i) d ρ = some ρ' ∧ Q ρ') ↔ (sol d = true ∧ i < ρ.length) ∧ Q (ρ.set i (.val d)) := by
  have e : bindT (.nm i) d ρ = if (sol d && decide (i < ρ.length)) = true then some (ρ.set i (.val d)) else none := rfl
  rw [e]
  by_cases h : (sol d && decide (i < ρ.length)) = true
  · rw [if_pos h, ex_some]
    rw [Bool.and_eq_true, decide_eq_true_eq] at h
    exact ⟨fun q => ⟨h, q⟩, fun q => q.2⟩
  · rw [if_neg h]
    rw [Bool.and_eq_true, decide_eq_true_eq] at h
    exact ⟨fun ⟨_, z, _⟩ => (by cases z), fun q => absurd q.1 h⟩
theorem sol_int {i : Int} : sol (.int i) = true := rfl
theorem sol_str {i : Str} : sol (.str i) = true := rfl
theorem sol_bl {i : Bool} : sol (.bl i) = true := rfl
theorem sol_non : sol .non = true := rfl
theorem sol_lst {i : List D} : sol (.lst i) = true := rfl
theorem sol_tup {i : List D} : sol (.tup i) = true := rfl
theorem sol_gt {i : List D} : sol (.gt i) = true := rfl
theorem sol_scr {i : List Int} : sol (.scr i) = true := rfl
theorem sol_cell {i : Nat} : sol (.cell i) = true := rfl
theorem sol_dK {ks : List Key} {vs : List D} : sol (.dK ks vs) = true := rfl
theorem solL_nil : solL [] = true := rfl
theorem solL_cons {d : D} {ds : List D} : solL (d :: ds) = (sol d && solL ds) := rfl
theorem own_lst {i : Nat} {xs : List D} : Sv (ownF i (.lst xs, true) ρ c) Q ↔ i < ρ.length ∧ Q .nx (ρ.set i (.own (.lst xs))) c := by
  unfold ownF
  by_cases h : i < ρ.length <;> simp [h, isObjD, Sv_some, Sv_none]
theorem own_dK {i : Nat} {ks : List Key} {vs : List D} : Sv (ownF i (.dK ks vs, true) ρ c) Q ↔ i < ρ.length ∧ Q .nx (ρ.set i (.own (.dK ks vs))) c := by
  unfold ownF
  by_cases h : i < ρ.length <;> simp [h, isObjD, Sv_some, Sv_none]
theorem own_val {i : Nat} {d : D} : Sv (ownF i (d, false) ρ c) Q ↔ i < ρ.length ∧ sol d = true ∧ Q .nx (ρ.set i (.val d)) c := by
  unfold ownF
  by_cases h : i < ρ.length <;> by_cases h2 : sol d = true <;> simp [h, h2, Sv_some, Sv_none]
theorem cell_lst {i : Nat} {xs : List D} : Sv (cellF i (.lst xs, true) ρ c) Q ↔ i < ρ.length ∧ Q .nx (ρ.set i (.val (.cell c.length))) (c ++ [some (.lst xs)]) := by
  unfold cellF
  by_cases h : i < ρ.length <;> simp [h, isObjD, Sv_some, Sv_none]
theorem par_two {i j : Nat} {x y : D} : Sv (parF i j [x, y] ρ c) Q ↔ (sol x = true ∧ sol y = true ∧ i < ρ.length ∧ j < ρ.length) ∧ Q .nx ((ρ.set i (.val x)).set j (.val y)) c := by
  unfold parF
  simp only
  by_cases h : ((sol x = true ∧ sol y = true) ∧ i < ρ.length) ∧ j < ρ.length
  · rw [if_pos (by simp only [Bool.and_eq_true, decide_eq_true_eq]; exact h)]
    exact ⟨fun q => ⟨⟨h.1.1.1, h.1.1.2, h.1.2, h.2⟩, q⟩, fun q => q.2⟩
  · rw [if_neg (by simp only [Bool.and_eq_true, decide_eq_true_eq]; exact h)]
    exact ⟨fun q => q.elim, fun q => absurd ⟨⟨⟨q.1.1, q.1.2.1⟩, q.1.2.2.1⟩, q.1.2.2.2⟩ h⟩
def slR : Option Sl → Sl → Sl
  | some (.own d), _ => .val d
  | _, s => s
theorem ret_sl {d : D} {fr : Bool} (h : sol d = true) : retS d fr ρ c = some (.rt d fr, ρ, c) := by
  cases d <;> first | rfl | cases h
theorem ret_int {i : Int} {fr : Bool} : retS (.int i) fr ρ c = some (.rt (.int i) fr, ρ, c) := rfl
theorem ret_str {i : Str} {fr : Bool} : retS (.str i) fr ρ c = some (.rt (.str i) fr, ρ, c) := rfl
theorem ret_bl {i : Bool} {fr : Bool} : retS (.bl i) fr ρ c = some (.rt (.bl i) fr, ρ, c) := rfl
theorem ret_non {fr : Bool} : retS .non fr ρ c = some (.rt .non fr, ρ, c) := rfl
theorem ret_lst {i : List D} {fr : Bool} : retS (.lst i) fr ρ c = some (.rt (.lst i) fr, ρ, c) := rfl
theorem ret_tup {i : List D} {fr : Bool} : retS (.tup i) fr ρ c = some (.rt (.tup i) fr, ρ, c) := rfl
def retO (s : Option Sl) (ρ : Rho) (c : Cells) : AnsS := match s with
  | some (.own d) => some (.rt d true, ρ, c)
  | _ => none
theorem ret_slot {i : Nat} {fr : Bool} : retS (.slot i) fr ρ c = retO ρ[i]? ρ c := by
  show (match ρ[i]? with | some (.own d) => some (Fl.rt d true, ρ, c) | _ => none) = _
  generalize ρ[i]? = s
  rcases s with _ | _ | d | d | d <;> rfl
theorem retO_own {d : D} : retO (some (.own d)) ρ c = some (.rt d true, ρ, c) := rfl
def frzO (ρ : Rho) (i : Nat) (s : Option Sl) : Rho := match s with
  | some (.own d) => ρ.set i (.val d)
  | _ => ρ
theorem frz_o {i : Nat} : frzR ρ i = frzO ρ i ρ[i]? := rfl
theorem frzO_own {i : Nat} {d : D} : frzO ρ i (some (.own d)) = ρ.set i (.val d) := rfl
theorem frzO_val {i : Nat} {d : D} : frzO ρ i (some (.val d)) = ρ := rfl
theorem frzO_non {i : Nat} : frzO ρ i (some .non) = ρ := rfl
def setO (ρ : Rho) (x : D) (o : Option D) (c : Cells) : AnsS := match o with
  | some d' => putL x d' ρ c
  | none => none
theorem set_der {x z y : D} : Sv (setA ρ x z y c) Q ↔ ∃ d, derS ρ c x = some d ∧ ∃ q, derS ρ c z = some q ∧ ∃ d', setF d q y = some d' ∧ Sv (putL x d' ρ c) Q := by
  unfold setA
  cases derS ρ c x with
  | none => exact ⟨fun h => h.elim, fun ⟨_, z, _⟩ => by cases z⟩
  | some d =>
    cases derS ρ c z with
    | none => exact ⟨fun h => h.elim, fun ⟨_, _, _, z, _⟩ => by cases z⟩
    | some q =>
      rw [ex_some, ex_some]
      show Sv (match setF d q y with | some d' => putL x d' ρ c | none => none) Q ↔ _
      cases setF d q y with
      | none => exact ⟨fun h => h.elim, fun ⟨_, z, _⟩ => by cases z⟩
      | some d' => rw [ex_some]
theorem aug_der {op : Operator} {old x z y : D} : Sv (augA op ρ old x z y c) Q ↔ ∃ u, ipF op old y = some u ∧ ∃ d, derS ρ c x = some d ∧ ∃ q, derS ρ c z = some q ∧ ∃ d', setF d q u = some d' ∧ Sv (putL x d' ρ c) Q := by
  unfold augA
  cases ipF op old y with
  | none => exact ⟨fun h => h.elim, fun ⟨_, z, _⟩ => by cases z⟩
  | some u =>
    rw [ex_some]
    cases derS ρ c x with
    | none => exact ⟨fun h => h.elim, fun ⟨_, z, _⟩ => by cases z⟩
    | some d =>
      cases derS ρ c z with
      | none => exact ⟨fun h => h.elim, fun ⟨_, _, _, z, _⟩ => by cases z⟩
      | some q =>
        rw [ex_some, ex_some]
        show Sv (match setF d q u with | some d' => putL x d' ρ c | none => none) Q ↔ _
        cases setF d q u with
        | none => exact ⟨fun h => h.elim, fun ⟨_, z, _⟩ => by cases z⟩
        | some d' => rw [ex_some]
theorem aug1_op {i : Nat} {op : Operator} {x y : D} : Sv (aug1 i op ρ x y c) Q ↔ ∃ z, ipF op x y = some z ∧ Q .nx (ρ.set i (.val z)) c := by
  unfold aug1
  cases ipF op x y with
  | none => exact ⟨fun h => h.elim, fun ⟨_, z, _⟩ => by cases z⟩
  | some u => rw [ex_some]; exact Iff.rfl
theorem ip_addI {i j : Int} : ipF .Add (.int i) (.int j) = some (.int (i + j)) := rfl
theorem ip_subI {i j : Int} : ipF .Sub (.int i) (.int j) = some (.int (i - j)) := rfl
theorem setF_lst {xs : List D} {i : Int} {v : D} : setF (.lst xs) (.int i) v = (ixN xs.length i).map fun j => .lst (xs.set j v) := rfl
theorem setF_0 {a v : D} {r : List D} : setF (.lst (a :: r)) (.int 0) v = some (.lst (v :: r)) := by
  rw [setF_lst]; unfold L2.ixN
  rw [if_pos (by decide), if_pos (by simp only [List.length_cons]; omega)]; rfl
theorem setF_1 {a b v : D} {r : List D} : setF (.lst (a :: b :: r)) (.int 1) v = some (.lst (a :: v :: r)) := by
  rw [setF_lst]; unfold L2.ixN
  rw [if_pos (by decide), if_pos (by simp only [List.length_cons]; omega)]; rfl
theorem setF_2 {a b d v : D} {r : List D} : setF (.lst (a :: b :: d :: r)) (.int 2) v = some (.lst (a :: b :: v :: r)) := by
  rw [setF_lst]; unfold L2.ixN
  rw [if_pos (by decide), if_pos (by simp only [List.length_cons]; omega)]; rfl
theorem setF_3 {a b d e v : D} {r : List D} : setF (.lst (a :: b :: d :: e :: r)) (.int 3) v = some (.lst (a :: b :: d :: v :: r)) := by
  rw [setF_lst]; unfold L2.ixN
  rw [if_pos (by decide), if_pos (by simp only [List.length_cons]; omega)]; rfl
theorem getO_some' {d q : D} : getO (some d) (some q) = getF d q := rfl
theorem getF_lst {xs : List D} {i : Int} : getF (.lst xs) (.int i) = atI xs i := rfl
theorem put_cell {n : Nat} {d : D} : putL (.cell n) d ρ c = some (.nx, ρ, c.set n (some d)) := rfl
theorem put_slot {n : Nat} {d : D} : putL (.slot n) d ρ c = some (.nx, ρ.set n (.own d), c) := rfl
theorem mut_app {x y : D} : Sv (mutA .append ρ x [y] c) Q ↔ sol y = true ∧ ∃ xs, derS ρ c x = some (.lst xs) ∧ xs.length < sizeLine ∧ Sv (putL x (.lst (xs ++ [y])) ρ c) Q := by
  have e : solL [y] = sol y := by show (sol y && true) = _; rw [Bool.and_true]
  unfold mutA
  rw [e]
  by_cases hs : sol y = true
  · rw [if_pos hs]
    simp only [hs, true_and]
    cases derS ρ c x with
    | none => exact ⟨fun h => h.elim, fun ⟨_, z, _⟩ => by cases z⟩
    | some d =>
      cases d with
      | lst xs =>
        have : mutF .append (.lst xs) [y] = if xs.length < sizeLine then some (.lst (xs ++ [y])) else none := rfl
        simp only
        rw [this]
        by_cases h : xs.length < sizeLine
        · rw [if_pos h]
          exact ⟨fun q => ⟨xs, rfl, h, q⟩, fun ⟨_, z, _, q⟩ => by cases z; exact q⟩
        · rw [if_neg h]
          exact ⟨fun q => q.elim, fun ⟨_, z, q, _⟩ => by cases z; exact absurd q h⟩
      | _ => exact ⟨fun h => h.elim, fun ⟨_, z, _⟩ => by cases z⟩
  · rw [if_neg hs]
    exact ⟨fun q => q.elim, fun q => absurd q.1 hs⟩
theorem isLst_lst {xs : List D} : isLst (some (.lst xs)) = true := rfl
theorem ex_lst {xs : List D} {p : List D → Prop} : (∃ ys, some (D.lst xs) = some (.lst ys) ∧ p ys) ↔ p xs := ⟨fun ⟨_, z, h⟩ => by cases z; exact h, fun h => ⟨xs, rfl, h⟩⟩
/-! walked -/
theorem it_lst {xs : List D} : itemsI .seq [.lst xs] = some xs := rfl
theorem it_scr {xs : List Int} : itemsI .seq [.scr xs] = some (xs.map .int) := rfl
theorem it_tupl {xs : List D} : itemsI .seq [.tup xs] = some xs := rfl
def rngL (m : Int) (n : Nat) : List D := (List.range n).map fun (i : Nat) => .int (m + (i : Int))
theorem it_rng1 {n : Int} : itemsI .rng1 [.int n] = if lim n then some (rngL 0 n.toNat) else none := by
  show (if lim n then some ((List.range n.toNat).map fun (i : Nat) => D.int (i : Int)) else none) = _
  unfold rngL
  simp only [Int.zero_add]
theorem it_rng2 {m n : Int} : itemsI .rng2 [.int m, .int n] = if lim m && lim n then some (rngL m (n - m).toNat) else none := rfl
theorem rng_get {m : Int} {n i : Nat} {x : D} (h : (rngL m n)[i]? = some x) : i < n ∧ x = .int (m + i) := by
  unfold rngL at h
  rw [List.getElem?_map] at h
  obtain ⟨j, hj, rfl⟩ := Option.map_eq_some_iff.mp h
  obtain ⟨h1, h2⟩ := List.getElem?_eq_some_iff.mp hj
  have h3 : i < n := by simpa using h1
  refine ⟨h3, ?_⟩
  rw [List.getElem_range] at h2
  rw [h2]
theorem rng_len {m : Int} {n : Nat} : (rngL m n).length = n := by unfold rngL; simp
theorem ex_if {b : Prop} [Decidable b] {a : α} {p : α → Prop} : (∃ x, (if b then some a else none) = some x ∧ p x) ↔ b ∧ p a := by
  by_cases h : b
  · rw [if_pos h, ex_some]; exact ⟨fun q => ⟨h, q⟩, fun q => q.2⟩
  · rw [if_neg h]; exact ⟨fun ⟨_, z, _⟩ => (by cases z), fun q => absurd q.1 h⟩
theorem ex_map {o : Option β} {f : β → α} {p : α → Prop} : (∃ x, o.map f = some x ∧ p x) ↔ ∃ y, o = some y ∧ p (f y) := by
  cases o with
  | none => exact ⟨fun ⟨_, z, _⟩ => (by cases z), fun ⟨_, z, _⟩ => (by cases z)⟩
  | some b => rw [ex_some]; exact ex_some
theorem lim_ok {n : Int} (h1 : -(2 ^ 62) ≤ n) (h2 : n < 2 ^ 62) : lim n = true := by
  unfold lim
  exact decide_eq_true ⟨h1, h2⟩
end
end Eng

/-! Eng24: the rules, in a form that stops at what is not known -/
namespace Eng
open PySem PySem.Spec PyProof.Rows L2
section
variable {α β : Type}
def Bx (o : Option α) (p : α → Prop) (_t : Tk p := .mk) : Prop := ∃ x, o = some x ∧ p x
def An (b p : Prop) (_t : Tk p := .mk) : Prop := b ∧ p
def Br (k : Bool) (A B : Prop) (_t : Tk A := .mk) (_u : Tk B := .mk) : Prop := if k = true then A else B
theorem bx_some {a : α} {p : α → Prop} : Bx (some a) p ↔ p a := ex_some
theorem bx_none {p : α → Prop} : Bx none p ↔ False := ⟨fun ⟨_, z, _⟩ => (by cases z), fun h => h.elim⟩
theorem bx_map {o : Option β} {f : β → α} {p : α → Prop} : Bx (o.map f) p ↔ Bx o fun y => p (f y) := ex_map
theorem bx_bind {o : Option β} {f : β → Option α} {p : α → Prop} : Bx (o.bind f) p ↔ Bx o fun y => Bx (f y) p := by
  cases o with
  | none => exact ⟨fun ⟨_, z, _⟩ => (by cases z), fun ⟨_, z, _⟩ => (by cases z)⟩
  | some b => rw [bx_some]; exact Iff.rfl
theorem bx_if {b : Prop} [Decidable b] {o : Option α} {p : α → Prop} : Bx (if b then o else none) p ↔ An b (Bx o p) := by
  by_cases h : b
  · rw [if_pos h]; exact ⟨fun q => ⟨h, q⟩, fun q => q.2⟩
  · rw [if_neg h]; exact ⟨fun ⟨_, z, _⟩ => (by cases z), fun q => absurd q.1 h⟩
theorem an_true {p : Prop} : An True p ↔ p := ⟨fun h => h.2, fun h => ⟨trivial, h⟩⟩
theorem an_false {p : Prop} : An False p ↔ False := ⟨fun h => h.1, fun h => h.elim⟩
theorem an_and {a b p : Prop} : An (a ∧ b) p ↔ An a (An b p) := and_assoc
theorem br_true {A B : Prop} : Br true A B ↔ A := Iff.rfl
theorem br_false {A B : Prop} : Br false A B ↔ B := Iff.rfl
theorem br_not {k : Bool} {A B : Prop} : Br (!k) A B ↔ Br k B A := by cases k <;> exact Iff.rfl
theorem Br.dec {b : Prop} [Decidable b] {A B : Prop} (h1 : b → A) (h2 : ¬ b → B) : Br (decide b) A B := by
  by_cases h : b
  · rw [decide_eq_true h]; exact h1 h
  · rw [decide_eq_false h]; exact h2 h
theorem Br.intro {k : Bool} {A B : Prop} (h1 : k = true → A) (h2 : k = false → B) : Br k A B := by
  cases k with
  | true => exact h1 rfl
  | false => exact h2 rfl
variable {c : Cells} {ρ : Rho} {T : FT} {P : D × Bool → Cells → Prop} {E : D → Cells → Prop} {Q : Fl → Rho → Cells → Prop} {a b d e : EX} {B : Bool → Cells → Prop} {s : ST} {r : STs}
theorem w_lift {o : Option α} {P : α → Cells → Prop} : Ew (liftO o c) P E ↔ Bx o fun a => P a c := Ew_lift
theorem w_prim {f : Cells → List D → Option Out} {ds : List D} : Ew (prim f ρ ds c) P E ↔ Bx (dersL ρ c ds) fun es => Ew (outA (f c es) c) P E := Ew_prim
theorem w_lst {es : EXs} : Ew (ev T (.lst es) ρ c) P E ↔ Ew (evs T es ρ c) (fun ds c => An (solL ds = true) (An (ds.length ≤ sizeLine) (P (.lst ds, true) c))) E := ev_lst
theorem w_tup {es : EXs} : Ew (ev T (.tup es) ρ c) P E ↔ Ew (evs T es ρ c) (fun ds c => An (solL ds = true) (An (ds.length ≤ sizeLine) (P (.tup ds, true) c))) E := ev_tup
theorem isInt_iff {d : D} {p : Int → Prop} : (∃ i, d = .int i ∧ p i) ↔ Bx (isInt d) p := by
  constructor
  · rintro ⟨i, rfl, h⟩; exact ⟨i, rfl, h⟩
  · rintro ⟨i, h, q⟩
    cases d <;> first | (cases h; exact ⟨_, rfl, q⟩) | cases h
theorem isInt_int {i : Int} : isInt (.int i) = some i := rfl
theorem w_neg : Ew (ev T (.neg a) ρ c) P E ↔ Ew (ev T a ρ c) (fun x c => Bx (isInt x.1) fun i => P (.int (-i), false) c) E :=
  ev_neg.trans ⟨fun h => h.mono (fun _ _ q => isInt_iff.mp q) fun _ _ z => z, fun h => h.mono (fun _ _ q => isInt_iff.mpr q) fun _ _ z => z⟩
theorem w_notE : Ew (ev T (.notE a) ρ c) P E ↔ Ew (ev T a ρ c) (fun x c => Bx (truth ρ c x.1) fun k => P (.bl (!k), false) c) E := ev_notE
theorem w_andE : Ew (ev T (.andE a b) ρ c) P E ↔ Ew (ev T a ρ c) (fun x c => Bx (truth ρ c x.1) fun k => Br k (Ew (ev T b ρ c) P E) (P (x.1, false) c)) E := ev_andE
theorem w_orE : Ew (ev T (.orE a b) ρ c) P E ↔ Ew (ev T a ρ c) (fun x c => Bx (truth ρ c x.1) fun k => Br k (P (x.1, false) c) (Ew (ev T b ρ c) P E)) E := ev_orE
theorem w_ife : Ew (ev T (.ife e a b) ρ c) P E ↔ Ew (evT T e ρ c) (fun k c => Br k (Ew (ev T a ρ c) P E) (Ew (ev T b ρ c) P E)) E := ev_ife
theorem w_part {P : Option Int → Cells → Prop} (h : isAbs a = false) : Ew (partA T a ρ c) P E ↔ Ew (ev T a ρ c) (fun x c => Bx (isInt x.1) fun i => P (some i) c) E :=
  (part_ev h).trans ⟨fun h => h.mono (fun _ _ q => isInt_iff.mp q) fun _ _ z => z, fun h => h.mono (fun _ _ q => isInt_iff.mpr q) fun _ _ z => z⟩
theorem pt_int {i : Int} {P : Option Int → Cells → Prop} : Ew (partA T (.int i) ρ c) P E ↔ Ew (ev T (.int i) ρ c) (fun x c => Bx (isInt x.1) fun i => P (some i) c) E := w_part rfl
theorem pt_var {i : Nat} {P : Option Int → Cells → Prop} : Ew (partA T (.var i) ρ c) P E ↔ Ew (ev T (.var i) ρ c) (fun x c => Bx (isInt x.1) fun i => P (some i) c) E := w_part rfl
theorem pt_bin {op : Operator} {P : Option Int → Cells → Prop} : Ew (partA T (.bin op a b) ρ c) P E ↔ Ew (ev T (.bin op a b) ρ c) (fun x c => Bx (isInt x.1) fun i => P (some i) c) E := w_part rfl
theorem pt_neg  {P : Option Int → Cells → Prop} : Ew (partA T (.neg a) ρ c) P E ↔ Ew (ev T (.neg a) ρ c) (fun x c => Bx (isInt x.1) fun i => P (some i) c) E := w_part rfl
theorem pt_ix  {P : Option Int → Cells → Prop} : Ew (partA T (.ix a b) ρ c) P E ↔ Ew (ev T (.ix a b) ρ c) (fun x c => Bx (isInt x.1) fun i => P (some i) c) E := w_part rfl
theorem pt_call {f : Nat} {es : EXs} {P : Option Int → Cells → Prop} : Ew (partA T (.call f es) ρ c) P E ↔ Ew (ev T (.call f es) ρ c) (fun x c => Bx (isInt x.1) fun i => P (some i) c) E := w_part rfl
theorem pt_blt {f : BF} {es : EXs} {P : Option Int → Cells → Prop} : Ew (partA T (.blt f es) ρ c) P E ↔ Ew (ev T (.blt f es) ρ c) (fun x c => Bx (isInt x.1) fun i => P (some i) c) E := w_part rfl
theorem pt_ife  {P : Option Int → Cells → Prop} : Ew (partA T (.ife e a b) ρ c) P E ↔ Ew (ev T (.ife e a b) ρ c) (fun x c => Bx (isInt x.1) fun i => P (some i) c) E := w_part rfl
theorem pt_meth {m : MK} {es : EXs} {P : Option Int → Cells → Prop} : Ew (partA T (.meth m a es) ρ c) P E ↔ Ew (ev T (.meth m a es) ρ c) (fun x c => Bx (isInt x.1) fun i => P (some i) c) E := w_part rfl
def lstO : D → Option (List D)
  | .lst xs => some xs
  | _ => none
theorem lstO_lst {xs : List D} : lstO (.lst xs) = some xs := rfl
theorem lst_iff {o : Option D} {p : List D → Prop} : (∃ xs, o = some (.lst xs) ∧ p xs) ↔ Bx (o.bind lstO) p := by
  cases o with
  | none => exact ⟨fun ⟨_, z, _⟩ => (by cases z), fun ⟨_, z, _⟩ => (by cases z)⟩
  | some d =>
    constructor
    · rintro ⟨xs, e, q⟩; cases e; exact ⟨xs, rfl, q⟩
    · rintro ⟨xs, e, q⟩
      cases d <;> first | (cases e; exact ⟨_, rfl, q⟩) | cases e
theorem w_rev : Ew (ev T (.rev a) ρ c) P E ↔ Ew (ev T a ρ c) (fun x c => Bx ((derS ρ c x.1).bind lstO) fun xs => P (.lst xs.reverse, true) c) E :=
  ev_rev.trans ⟨fun h => h.mono (fun _ _ q => lst_iff.mp q) fun _ _ z => z, fun h => h.mono (fun _ _ q => lst_iff.mpr q) fun _ _ z => z⟩
def testF (T : FT) (ifs : EX) : Rho → Cells → Ans Bool := if isAbs ifs then fun _ c => some (.ok true, c) else evT T ifs
theorem test_abs : testF T .absent ρ c = some (.ok true, c) := rfl
theorem test_ev {a : EX} (h : isAbs a = false) : testF T a ρ c = evT T a ρ c := by
  unfold testF
  rw [h]
  rfl
theorem tf_cmp {op : CmpOp} : testF T (.cmp op a b) ρ c = evT T (.cmp op a b) ρ c := rfl
theorem tf_chain {op op' : CmpOp} : testF T (.chain op op' a b d) ρ c = evT T (.chain op op' a b d) ρ c := rfl
theorem tf_var {i : Nat} : testF T (.var i) ρ c = evT T (.var i) ρ c := rfl
theorem tf_andE  : testF T (.andE a b) ρ c = evT T (.andE a b) ρ c := rfl
theorem tf_orE  : testF T (.orE a b) ρ c = evT T (.orE a b) ρ c := rfl
theorem tf_notE  : testF T (.notE a) ρ c = evT T (.notE a) ρ c := rfl
theorem tf_ix  : testF T (.ix a b) ρ c = evT T (.ix a b) ρ c := rfl
theorem tf_call {f : Nat} {es : EXs} : testF T (.call f es) ρ c = evT T (.call f es) ρ c := rfl
theorem tf_blt {f : BF} {es : EXs} : testF T (.blt f es) ρ c = evT T (.blt f es) ρ c := rfl
theorem tf_bin {op : Operator} : testF T (.bin op a b) ρ c = evT T (.bin op a b) ρ c := rfl
theorem w_lc {own : List (Str × Nat)} {elt : EX} {tg : TG} {k : IK} {its : EXs} {ifs : EX} : Ew (ev T (.lc own elt tg k its ifs) ρ c) P E ↔ Ew (evs T its ρ c) (fun ds c => Bx (itemsI k ds) fun xs =>
    Ew (lcGo tg (testF T ifs) (ev T elt) (wipeR ρ (own.map (·.2))) xs [] c) (fun acc c => P (.lst acc, true) c) E) E := ev_lc
theorem w_chain {op op' : CmpOp} : Ew (ev T (.chain op op' a b d) ρ c) P E ↔ Ew (ev T a ρ c) (fun x c => Ew (ev T b ρ c) (fun y c => Ew (prim (cmpF op) ρ [x.1, y.1] c) (fun k c => Bx (isBl k.1) fun k' =>
    Br k' (Ew (ev T d ρ c) (fun z c => Ew (prim (cmpF op') ρ [y.1, z.1] c) P E) E) (P (.bl false, false) c)) E) E) E := ev_chain
theorem t_cmp {op : CmpOp} : Ew (evT T (.cmp op a b) ρ c) B E ↔ Ew (ev T (.cmp op a b) ρ c) (fun x c => Bx (isBl x.1) fun k => B k c) E := evT_cmp
theorem t_chain {op op' : CmpOp} : Ew (evT T (.chain op op' a b d) ρ c) B E ↔ Ew (ev T (.chain op op' a b d) ρ c) (fun x c => Bx (isBl x.1) fun k => B k c) E := evT_chain
theorem t_andE : Ew (evT T (.andE a b) ρ c) B E ↔ Ew (evT T a ρ c) (fun k c => Br k (Ew (evT T b ρ c) B E) (B false c)) E := evT_andE
theorem t_orE : Ew (evT T (.orE a b) ρ c) B E ↔ Ew (evT T a ρ c) (fun k c => Br k (B true c) (Ew (evT T b ρ c) B E)) E := evT_orE
theorem t_var {i : Nat} : Ew (evT T (.var i) ρ c) B E ↔ Ew (ev T (.var i) ρ c) (fun x c => Bx (truth ρ c x.1) fun k => B k c) E := evT_var
theorem t_call {f : Nat} {es : EXs} : Ew (evT T (.call f es) ρ c) B E ↔ Ew (ev T (.call f es) ρ c) (fun x c => Bx (truth ρ c x.1) fun k => B k c) E := evT_call
theorem t_blt {f : BF} {es : EXs} : Ew (evT T (.blt f es) ρ c) B E ↔ Ew (ev T (.blt f es) ρ c) (fun x c => Bx (truth ρ c x.1) fun k => B k c) E := evT_blt
theorem t_ix : Ew (evT T (.ix a b) ρ c) B E ↔ Ew (ev T (.ix a b) ρ c) (fun x c => Bx (truth ρ c x.1) fun k => B k c) E := evT_ix
theorem t_bin {op : Operator} : Ew (evT T (.bin op a b) ρ c) B E ↔ Ew (ev T (.bin op a b) ρ c) (fun x c => Bx (truth ρ c x.1) fun k => B k c) E := evT_truth rfl
theorem t_sl : Ew (evT T (.sl a b d) ρ c) B E ↔ Ew (ev T (.sl a b d) ρ c) (fun x c => Bx (truth ρ c x.1) fun k => B k c) E := evT_truth rfl
theorem w_asg {tg : TG} {m : EX} : Sv (exS T (.asg tg m) ρ c) Q ↔ Ew (ev T m ρ c) (fun d c => Bx (bindT tg d.1 ρ) fun ρ' => Q .nx ρ' c) (fun x c => Q (.ex x) ρ c) := ss_asg
theorem w_star {ts : TGs} {m : EX} : Sv (exS T (.star ts m) ρ c) Q ↔ Ew (ev T m ρ c) (fun d c => Bx (starT ts d.1 ρ) fun ρ' => Q .nx ρ' c) (fun x c => Q (.ex x) ρ c) := ss_star
theorem w_ifs {p q : STs} : Sv (exS T (.ifs a p q) ρ c) Q ↔ Ew (evT T a ρ c) (fun k c => Br k (Sv (exSs T p ρ c) Q) (Sv (exSs T q ρ c) Q)) (fun x c => Q (.ex x) ρ c) := ss_ifs
theorem w_for {tg : TG} {k : IK} {its : EXs} {body : STs} : Sv (exS T (.forS tg k its body) ρ c) Q ↔ Ew (evs T its ρ c) (fun ds c => Bx (itemsI k ds) fun xs => Sv (forL tg (exSs T body) xs ρ c) Q) (fun x c => Q (.ex x) ρ c) := ss_for
theorem w_sset {o k v : EX} : Sv (exS T (.sset o k v) ρ c) Q ↔ Ew (ev T v ρ c) (fun y c => Ew (ev T o ρ c) (fun x c => Ew (ev T k ρ c) (fun z c => An (sol y.1 = true) (Sv (setA ρ x.1 z.1 y.1 c) Q)) (fun x c => Q (.ex x) ρ c)) (fun x c => Q (.ex x) ρ c)) (fun x c => Q (.ex x) ρ c) := ss_sset
theorem w_saug {o k v : EX} {op : Operator} : Sv (exS T (.saug o k op v) ρ c) Q ↔ Ew (ev T o ρ c) (fun x c => Ew (ev T k ρ c) (fun z c => Bx (getO (derS ρ c x.1) (derS ρ c z.1)) fun old => Ew (ev T v ρ c) (fun y c => Sv (augA op ρ old x.1 z.1 y.1 c) Q) (fun x c => Q (.ex x) ρ c)) (fun x c => Q (.ex x) ρ c)) (fun x c => Q (.ex x) ρ c) := ss_saug
theorem w_aug {i : Nat} {op : Operator} : Sv (exS T (.aug i op a) ρ c) Q ↔ Bx (valR ρ i) fun x => Ew (ev T a ρ c) (fun y c => Sv (aug1 i op ρ x y.1 c) Q) (fun x c => Q (.ex x) ρ c) := ss_aug
def slV : Option Sl → Option D
  | some (.val d) => some d
  | _ => none
theorem valR_o {i : Nat} : valR ρ i = slV ρ[i]? := by
  unfold valR
  generalize ρ[i]? = s
  rcases s with _ | _ | d | d | d <;> rfl
theorem slV_val {d : D} : slV (some (.val d)) = some d := rfl
theorem w_mut {m : MM} {es : EXs} : Sv (exS T (.mut m a es) ρ c) Q ↔ Ew (ev T a ρ c) (fun x c => An (isLst (derS ρ c x.1) = true) (Ew (evs T es ρ c) (fun ds c => Sv (mutA m ρ x.1 ds c) Q) (fun x c => Q (.ex x) ρ c))) (fun x c => Q (.ex x) ρ c) := ss_mut
theorem o_if {b : Prop} [Decidable b] {o : Option Out} : Ew (outA (if b then o else none) c) P E ↔ An b (Ew (outA o c) P E) := Ew_oif
theorem o_map {o : Option α} {f : α → Out} : Ew (outA (o.map f) c) P E ↔ Bx o fun x => Ew (outA (some (f x)) c) P E := Ew_omap
theorem o_bind {o : Option α} {f : α → Option Out} : Ew (outA (o.bind f) c) P E ↔ Bx o fun x => Ew (outA (f x) c) P E := Ew_obind
theorem w_cut {l h : Option Int} {x : D} : Ew (cutA ρ x l h c) P E ↔ Bx (derS ρ c x) fun d => Ew (outA (slF l h d) c) P E := Ew_cut
theorem b_nm {i : Nat} {d : D} {Q : Rho → Prop} : Bx (bindT (.nm i) d ρ) Q ↔ An (sol d = true) (An (i < ρ.length) (Q (ρ.set i (.val d)))) := bind_nm.trans and_assoc
theorem b_tp {ts : TGs} {ds : List D} {Q : Rho → Prop} : Bx (bindT (.tp ts) (.tup ds) ρ) Q ↔ Bx (bindTs ts ds ρ) Q := Iff.rfl
theorem b_nil {Q : Rho → Prop} : Bx (bindTs .nil [] ρ) Q ↔ Q ρ := bx_some
theorem b_cons {t : TG} {r : TGs} {d : D} {ds : List D} {Q : Rho → Prop} : Bx (bindTs (.cons t r) (d :: ds) ρ) Q ↔ Bx (bindT t d ρ) fun ρ' => Bx (bindTs r ds ρ') Q := by
  show Bx (match bindT t d ρ with | some ρ' => bindTs r ds ρ' | none => none) Q ↔ _
  cases bindT t d ρ with
  | none => exact ⟨fun ⟨_, z, _⟩ => (by cases z), fun ⟨_, z, _⟩ => (by cases z)⟩
  | some ρ' => rw [bx_some]
theorem o_lst {i : Nat} {xs : List D} : Sv (ownF i (.lst xs, true) ρ c) Q ↔ An (i < ρ.length) (Q .nx (ρ.set i (.own (.lst xs))) c) := own_lst
theorem o_dK {i : Nat} {ks : List Key} {vs : List D} : Sv (ownF i (.dK ks vs, true) ρ c) Q ↔ An (i < ρ.length) (Q .nx (ρ.set i (.own (.dK ks vs))) c) := own_dK
theorem o_val {i : Nat} {d : D} : Sv (ownF i (d, false) ρ c) Q ↔ An (i < ρ.length) (An (sol d = true) (Q .nx (ρ.set i (.val d)) c)) := own_val
theorem c_lst {i : Nat} {xs : List D} : Sv (cellF i (.lst xs, true) ρ c) Q ↔ An (i < ρ.length) (Q .nx (ρ.set i (.val (.cell c.length))) (c ++ [some (.lst xs)])) := cell_lst
theorem p_two {i j : Nat} {x y : D} : Sv (parF i j [x, y] ρ c) Q ↔ An (sol x = true) (An (sol y = true) (An (i < ρ.length) (An (j < ρ.length) (Q .nx ((ρ.set i (.val x)).set j (.val y)) c)))) :=
  par_two.trans ⟨fun h => ⟨h.1.1, h.1.2.1, h.1.2.2.1, h.1.2.2.2, h.2⟩, fun h => ⟨⟨h.1, h.2.1, h.2.2.1, h.2.2.2.1⟩, h.2.2.2.2⟩⟩
theorem s_der {x z y : D} : Sv (setA ρ x z y c) Q ↔ Bx (derS ρ c x) fun d => Bx (derS ρ c z) fun q => Bx (setF d q y) fun d' => Sv (putL x d' ρ c) Q := set_der
theorem a_der {op : Operator} {old x z y : D} : Sv (augA op ρ old x z y c) Q ↔ Bx (ipF op old y) fun u => Bx (derS ρ c x) fun d => Bx (derS ρ c z) fun q => Bx (setF d q u) fun d' => Sv (putL x d' ρ c) Q := aug_der
theorem a_one {i : Nat} {op : Operator} {x y : D} : Sv (aug1 i op ρ x y c) Q ↔ Bx (ipF op x y) fun z => Q .nx (ρ.set i (.val z)) c := aug1_op
theorem m_app {x y : D} : Sv (mutA .append ρ x [y] c) Q ↔ An (sol y = true) (Bx ((derS ρ c x).bind lstO) fun xs => An (xs.length < sizeLine) (Sv (putL x (.lst (xs ++ [y])) ρ c) Q)) :=
  mut_app.trans (and_congr Iff.rfl lst_iff)
theorem call_some {n : Nat} {s : FS} {ds : List D} : Ew (callA (some (n, s)) ds c) P E ↔ An (solL ds = true) (An (ds.length = n) (Ew (s ds c) P E)) := by
  unfold callA
  by_cases h1 : solL ds = true <;> by_cases h2 : ds.length = n <;> simp [h1, h2, An, Ew_none]
theorem len_lst {xs : List D} : lenF [.lst xs] = some (.val (.int xs.length)) := rfl
theorem len_tup {xs : List D} : lenF [.tup xs] = some (.val (.int xs.length)) := rfl
theorem len_str {z : Str} : lenF [.str z] = if z.length ≤ sizeLine then some (.val (.int z.length)) else none := rfl
theorem len_gt {xs : List D} : lenF [.gt xs] = some (.val (.int xs.length)) := rfl
theorem len_scr {xs : List Int} : lenF [.scr xs] = some (.val (.int xs.length)) := rfl
theorem len_dK {ks : List Key} {vs : List D} : lenF [.dK ks vs] = some (.val (.int ks.length)) := rfl
theorem abs_int {i : Int} : absF [.int i] = some (.val (.int i.natAbs)) := by
  show some (Out.val (.int (if i < 0 then -i else i))) = _
  congr 3
  split <;> omega
def midQ (M : Rho → Cells → Prop) (Q : Fl → Rho → Cells → Prop) (_t : Tk Q := .mk) (_u : Tk M := .mk) : Fl → Rho → Cells → Prop
  | .nx => M
  | fl => Q fl
theorem midQ_nx {M : Rho → Cells → Prop} : midQ M Q .mk .mk .nx ρ c = M ρ c := rfl
theorem midQ_rt {M : Rho → Cells → Prop} {d : D} {fr : Bool} : midQ M Q .mk .mk (.rt d fr) ρ c = Q (.rt d fr) ρ c := rfl
theorem midQ_bk {M : Rho → Cells → Prop} : midQ M Q .mk .mk .bk ρ c = Q .bk ρ c := rfl
theorem midQ_ct {M : Rho → Cells → Prop} : midQ M Q .mk .mk .ct ρ c = Q .ct ρ c := rfl
theorem midQ_ex {M : Rho → Cells → Prop} {x : D} : midQ M Q .mk .mk (.ex x) ρ c = Q (.ex x) ρ c := rfl
/-- a cut behind a statement -/
theorem Sv.cut (M : Rho → Cells → Prop) (h : Sv (exS T s ρ c) (midQ M Q)) (k : ∀ ρ c, M ρ c → Sv (exSs T r ρ c) Q) : Sv (exSs T (.cons s r) ρ c) Q :=
  ss_cons.mpr (h.mono fun fl ρ c q => by cases fl <;> first | exact q | exact k _ _ q)
/-- a call by its promise -/
theorem Ew.call {f n : Nat} {s : FS} {ds : List D} {P' : D × Bool → Cells → Prop} (hT : T f = some (n, s)) (hs : solL ds = true) (hl : ds.length = n) (h : Ew (s ds c) P' fun _ _ => False) (hP : ∀ a c, P' a c → P a c) : Ew (callA (T f) ds c) P E := by
  rw [hT]
  exact call_some.mpr ⟨hs, hl, h.use hP⟩
theorem beq_dec {i j : Int} : (i == j) = decide (i = j) := by
  by_cases h : i = j <;> simp [h]
/-- two ways come together -/
theorem Br.join {k : Bool} {A A' : AnsS} {next : Rho → Cells → AnsS} (M : Rho → Cells → Prop) (h : Br k (Sv A (midQ M Q)) (Sv A' (midQ M Q))) (hk : ∀ ρ c, M ρ c → Sv (next ρ c) Q) : Br k (Sv A (seqQ next Q)) (Sv A' (seqQ next Q)) := by
  have go : ∀ {A : AnsS}, Sv A (midQ M Q) → Sv A (seqQ next Q) := fun h => h.mono fun fl ρ c q => by cases fl <;> first | exact q | exact hk _ _ q
  cases k with
  | true => exact go h
  | false => exact go h
theorem An.mk {b p : Prop} (h : b) (q : p) : An b p := ⟨h, q⟩
theorem Bx.mk {o : Option α} {p : α → Prop} (x : α) (h : o = some x) (q : p x) : Bx o p := ⟨x, h, q⟩
theorem w_meth {m : MK} {o : EX} {es : EXs} : Ew (ev T (.meth m o es) ρ c) P E ↔ Ew (ev T o ρ c) (fun x c => An (tyO m (derS ρ c x.1) = true) (Ew (evs T es ρ c) (fun ds c => Ew (prim (mkF m) ρ (x.1 :: ds) c) P E) E)) E := by
  refine one_ew.trans ⟨fun h => h.mono (fun x c q => ?_) fun _ _ z => z, fun h => h.mono (fun x c q => ?_) fun _ _ z => z⟩
  · by_cases hs : tyO m (derS ρ c x.1) = true
    · rw [if_pos hs] at q; exact ⟨hs, Ew_bnd.mp q⟩
    · rw [if_neg hs] at q; exact q.elim
  · rw [if_pos q.1]; exact Ew_bnd.mpr q.2
theorem mk_lindex {ds : List D} : mkF .lindex c ds = lindexF ds := rfl
theorem mk_lcount {ds : List D} : mkF .lcount c ds = lcountF ds := rfl
theorem ty_lstc {xs : List D} : tyO .lcount (some (.lst xs)) = true := rfl
theorem mk_join {ds : List D} : mkF .join c ds = joinF ds := rfl
theorem ty_strj {x : Str} : tyO .join (some (.str x)) = true := rfl
theorem ty_lst {xs : List D} : tyO .lindex (some (.lst xs)) = true := rfl
def rngD (m : Int) (n : Nat) : List D := (List.range n).map fun (i : Nat) => .int (m + (i : Int) * (-1))
theorem it_rng3 {m n : Int} : itemsI .rng3 [.int m, .int n, .int (-1)] = if lim m && lim n then some (rngD m (m - n).toNat) else none := rfl
end
end Eng

/-! Eng25: lists of words -/
namespace Eng
open PySem PySem.Spec PyProof.Rows L2
section
variable {c : Cells}
theorem eqD_str {n : Nat} {x y : Str} : eqD (n + 1) c (.str x) (.str y) = some (x == y) := rfl
theorem eqD_int {n : Nat} {x y : Int} : eqD (n + 1) c (.int x) (.int y) = some (x == y) := rfl
theorem eqD_lst {n : Nat} {xs ys : List D} : eqD (n + 1) c (.lst xs) (.lst ys) = if xs.length = ys.length then eqZ (eqD n c) xs ys else some false := rfl
theorem eqD_tup {n : Nat} {xs ys : List D} : eqD (n + 1) c (.tup xs) (.tup ys) = (eqZ (eqD n c) xs ys).map fun b => b && xs.length == ys.length := rfl
theorem eqZ_cons {f : D → D → Option Bool} {x y : D} {xs ys : List D} : eqZ f (x :: xs) (y :: ys) = (f x y).bind fun a => (eqZ f xs ys).map (a && ·) := by
  show (match f x y, eqZ f xs ys with | some a, some b => some (a && b) | _, _ => none) = _
  cases f x y with
  | none => rfl
  | some a => cases eqZ f xs ys <;> rfl
theorem eqZ_nil {f : D → D → Option Bool} : eqZ f [] [] = some true := rfl
theorem eqZ_dec {α : Type} [DecidableEq α] {f : D → D → Option Bool} {g : α → D} (h : ∀ a b, f (g a) (g b) = some (decide (a = b))) : ∀ xs ys : List α, xs.length = ys.length → eqZ f (xs.map g) (ys.map g) = some (decide (xs = ys))
  | [], [], _ => rfl
  | [], y :: ys, z => by cases z
  | x :: xs, [], z => by cases z
  | x :: xs, y :: ys, z => by
    rw [List.map_cons, List.map_cons, eqZ_cons, h, eqZ_dec h xs ys (by simpa using z)]
    simp only [Option.bind_some, Option.map_some]
    by_cases h1 : x = y <;> by_cases h2 : xs = ys <;> simp [h1, h2]
/-- == of lists, by == of what is in them -/
theorem eqL_dec {α : Type} [DecidableEq α] {n : Nat} {g : α → D} (h : ∀ a b, eqD n c (g a) (g b) = some (decide (a = b))) (xs ys : List α) : eqD (n + 1) c (.lst (xs.map g)) (.lst (ys.map g)) = some (decide (xs = ys)) := by
  rw [eqD_lst, List.length_map, List.length_map]
  by_cases z : xs.length = ys.length
  · rw [if_pos z, eqZ_dec h xs ys z]
  · rw [if_neg z]
    have : xs ≠ ys := fun e => z (by rw [e])
    rw [decide_eq_false this]
theorem beq_strD {x y : Str} : (x == y) = decide (x = y) := by
  by_cases h : x = y <;> simp [h]
theorem eq_strs {n : Nat} (xs ys : List Str) : eqD (n + 2) c (.lst (xs.map .str)) (.lst (ys.map .str)) = some (decide (xs = ys)) := eqL_dec (fun a b => by rw [eqD_str, beq_strD]) xs ys
theorem eq_ints {n : Nat} (xs ys : List Int) : eqD (n + 2) c (.lst (xs.map .int)) (.lst (ys.map .int)) = some (decide (xs = ys)) := eqL_dec (fun a b => by rw [eqD_int, beq_dec]) xs ys
theorem eq_nil {n : Nat} (xs : List Str) : eqD (n + 2) c (.lst (xs.map .str)) (.lst []) = some (decide (xs = [])) := eq_strs xs []
theorem in_strs (x : Str) (ys : List Str) : inF c (.str x) (.lst (ys.map .str)) = some (decide (x ∈ ys)) := by
  have e : inF c (.str x) (.lst (ys.map .str)) = if scalD (.str x) && (ys.map D.str).all scalD then some ((ys.map D.str).any fun y => eqS y (.str x)) else anyD c (.str x) (ys.map .str) := rfl
  have h : (ys.map D.str).all scalD = true := by
    rw [List.all_map]
    exact List.all_eq_true.mpr fun _ _ => rfl
  rw [e, h]
  show some _ = _
  congr 1
  rw [List.any_map]
  induction ys with
  | nil => rfl
  | cons y ys ih =>
    rw [List.any_cons, ih rfl (by rw [List.all_map]; exact List.all_eq_true.mpr fun _ _ => rfl)]
    show ((y == x) || _) = _
    by_cases h1 : y = x
    · simp [h1]
    · have : x ≠ y := fun z => h1 z.symm
      simp [h1, this]
theorem at_map {α : Type} {f : α → D} {xs : List α} {i : Int} (h0 : 0 ≤ i) (h1 : i < xs.length) : ∃ x, atI (xs.map f) i = some (f x) ∧ xs[i.toNat]? = some x := by
  obtain ⟨x, e1, e2⟩ := at_in (xs := xs.map f) h0 (by rw [List.length_map]; exact h1)
  rw [List.getElem?_map] at e2
  obtain ⟨y, e3, rfl⟩ := Option.map_eq_some_iff.mp e2
  exact ⟨y, e1, e3⟩
def cutL {α : Type} (xs : List α) (lo hi : Option Int) : List α := (xs.drop (HT.sIx xs.length 0 lo)).take (HT.sIx xs.length xs.length hi - HT.sIx xs.length 0 lo)
theorem cut_map {α : Type} {f : α → D} {xs : List α} {lo hi : Option Int} : cutD (xs.map f) lo hi = (cutL xs lo hi).map f := by
  unfold cutD cutL
  rw [List.length_map, List.map_take, List.map_drop]
theorem cutL_mem {α : Type} {xs : List α} {lo hi : Option Int} {x : α} (h : x ∈ cutL xs lo hi) : x ∈ xs := List.mem_of_mem_drop (List.mem_of_mem_take h)
theorem cutL_len {α : Type} {xs : List α} {lo hi : Option Int} : (cutL xs lo hi).length ≤ xs.length := by
  unfold cutL
  rw [List.length_take, List.length_drop]
  omega
theorem cutL_take {α : Type} {xs : List α} {n : Nat} : cutL xs none (some (n : Int)) = xs.take n := by
  unfold cutL
  rw [HT.sIx_none, HT.sIx_nat, List.drop_zero, Nat.sub_zero]
  rw [List.take_eq_take_iff]
  omega
theorem cutL_drop {α : Type} {xs : List α} {n : Nat} : cutL xs (some (n : Int)) none = xs.drop n := by
  unfold cutL
  rw [HT.sIx_none, HT.sIx_nat]
  by_cases h : n ≤ xs.length
  · rw [Nat.min_eq_left h]
    exact List.take_of_length_le (by rw [List.length_drop]; omega)
  · rw [Nat.min_eq_right (by omega), Nat.sub_self, List.take_zero, List.drop_eq_nil_of_le (by omega)]
theorem ne_strs {xs ys : List Str} : cmpB c .NotEq (.lst (xs.map .str)) (.lst (ys.map .str)) = some (!decide (xs = ys)) := by
  rw [cmp_ne, show deep = 10 + 2 from rfl, eq_strs]; rfl
theorem eqs_strs {xs ys : List Str} : cmpB c .Eq (.lst (xs.map .str)) (.lst (ys.map .str)) = some (decide (xs = ys)) := by
  rw [cmp_eq, show deep = 10 + 2 from rfl, eq_strs]
theorem ne_nils {xs : List Str} : cmpB c .NotEq (.lst (xs.map .str)) (.lst []) = some (!decide (xs = [])) := ne_strs (ys := [])
theorem eqs_nils {xs : List Str} : cmpB c .Eq (.lst (xs.map .str)) (.lst []) = some (decide (xs = [])) := eqs_strs (ys := [])
theorem eqs_nil2 : cmpB c .Eq (.lst []) (.lst []) = some true := rfl
theorem nin_strs {x : Str} {ys : List Str} : cmpB c .NotIn (.str x) (.lst (ys.map .str)) = some (!decide (x ∈ ys)) := by
  rw [cmp_nin, in_strs]; rfl
theorem inn_strs {x : Str} {ys : List Str} : cmpB c .In (.str x) (.lst (ys.map .str)) = some (decide (x ∈ ys)) := by
  rw [cmp_in, in_strs]
theorem ne_strs2 {a b a' b' : List Str} : cmpB c .NotEq (.lst [.lst (a.map .str), .lst (b.map .str)]) (.lst [.lst (a'.map .str), .lst (b'.map .str)]) = some (!decide (a = a' ∧ b = b')) := by
  rw [cmp_ne, show deep = (9 + 2) + 1 from rfl, eqD_lst, if_pos (show [D.lst (a.map .str), D.lst (b.map .str)].length = [D.lst (a'.map .str), D.lst (b'.map .str)].length from rfl), eqZ_cons, eq_strs, eqZ_cons, eq_strs, eqZ_nil]
  simp only [Option.bind_some, Option.map_some]
  by_cases h1 : a = a' <;> by_cases h2 : b = b' <;> simp [h1, h2]
theorem idxS_strs {x : Str} : ∀ {ys : List Str} {k : Nat}, x ∈ ys → idxS (.str x) (ys.map .str) k = some (k + ys.idxOf x)
  | [], k, h => by cases h
  | y :: ys, k, h => by
    show (if eqS (.str y) (.str x) then some k else idxS (.str x) (ys.map .str) (k + 1)) = _
    have e : eqS (.str y) (.str x) = (y == x) := rfl
    rw [e]
    by_cases hy : y = x
    · subst hy
      rw [beq_self_eq_true, if_pos rfl, List.idxOf_cons_self, Nat.add_zero]
    · have hb : (y == x) = false := beq_eq_false_iff_ne.mpr hy
      have hm : x ∈ ys := by
        rcases List.mem_cons.mp h with z | z
        · exact absurd z.symm hy
        · exact z
      rw [hb, if_neg Bool.false_ne_true, idxS_strs hm, List.idxOf_cons, hb]
      congr 1
      simp only [cond_false]
      omega
theorem index_strs {x : Str} {ys : List Str} (h : x ∈ ys) : lindexF [.lst (ys.map .str), .str x] = some (.val (.int (ys.idxOf x : Nat))) := by
  have e : lindexF [.lst (ys.map .str), .str x] = if scalD (.str x) && (ys.map D.str).all scalD then (idxS (.str x) (ys.map .str) 0).map fun (k : Nat) => Out.val (.int (k : Int)) else none := rfl
  have ha : (ys.map D.str).all scalD = true := by
    rw [List.all_map]
    exact List.all_eq_true.mpr fun _ _ => rfl
  rw [e, ha, if_pos (show (scalD (.str x) && true) = true from rfl), idxS_strs h, Nat.zero_add]
  rfl
theorem rngD_get {m : Int} {n i : Nat} {x : D} (h : (rngD m n)[i]? = some x) : i < n ∧ x = .int (m - i) := by
  unfold rngD at h
  rw [List.getElem?_map] at h
  obtain ⟨j, hj, rfl⟩ := Option.map_eq_some_iff.mp h
  obtain ⟨h1, h2⟩ := List.getElem?_eq_some_iff.mp hj
  have h3 : i < n := by simpa using h1
  refine ⟨h3, ?_⟩
  rw [List.getElem_range] at h2
  subst h2
  congr 1
  omega
theorem rngD_len {m : Int} {n : Nat} : (rngD m n).length = n := by unfold rngD; simp
/-! words -/
def IsW (x : Str) : Prop := x.length ≤ 40 ∧ ∀ c ∈ x.cps.toList, c < 16 ^ 8
theorem pyGL_strs {f : Nat → Option PyData} : ∀ xs : List Str, pyGL f (xs.map .str) = some (xs.map .str)
  | [] => rfl
  | x :: xs => by
    rw [List.map_cons]
    unfold pyGL
    rw [pyGL_strs xs]
    rfl
theorem showAll_strs : ∀ xs : List Str, PyData.shownAll (xs.map .str) = xs.map reprText
  | [] => rfl
  | x :: xs => by
    rw [List.map_cons, List.map_cons, ← showAll_strs xs]
    rfl
theorem showable_strs : ∀ xs : List Str, PyData.showableAll (xs.map .str) = true
  | [] => rfl
  | x :: xs => by
    show (PyData.showable (.str x) && PyData.showableAll (xs.map .str)) = true
    rw [showable_strs xs]; rfl
theorem nodict_strs : ∀ xs : List Str, PyData.hasDictAll (xs.map .str) = false
  | [] => rfl
  | x :: xs => by
    show (PyData.hasDict (.str x) || PyData.hasDictAll (xs.map .str)) = false
    rw [nodict_strs xs]; rfl
def reprW (xs : List Str) : Str := listText (xs.map reprText)
theorem sum_le {α : Type} {f : α → Nat} {m : Nat} : ∀ {xs : List α}, (∀ x ∈ xs, f x ≤ m) → (xs.map f).sum ≤ m * xs.length
  | [], _ => by simp
  | x :: xs, h => by
    rw [List.map_cons, List.sum_cons, List.length_cons, Nat.mul_succ]
    have := sum_le (xs := xs) fun y hy => h y (List.mem_cons_of_mem _ hy)
    have := h x List.mem_cons_self
    omega
theorem repr_strs {xs : List Str} (h : ∀ x ∈ xs, IsW x) (hl : xs.length ≤ 20000) : reprF c [.lst (xs.map .str)] = some (.val (.str (reprW xs))) := by
  have e1 : pyF c 2 (.lst (xs.map .str)) = some (.list (xs.map .str)) := by
    unfold pyF pyG
    rw [pyGL_strs]
    rfl
  have e2 : (PyData.list (xs.map .str)).shown = reprW xs := by
    show listText (PyData.shownAll (xs.map .str)) = _
    rw [showAll_strs]
    rfl
  have e3 : (reprW xs).length ≤ sizeLine := by
    refine Nat.le_trans (listText_len_le _) ?_
    rw [List.map_map, List.length_map]
    have := sum_le (xs := xs) (f := (fun s : Str => s.length) ∘ reprText) (m := 402) fun x hx => by
      obtain ⟨h1, h2⟩ := h x hx
      have := PySem.StrLaws.reprText_len x h2
      show (reprText x).length ≤ 402
      omega
    have e : sizeLine = 16777216 := rfl
    omega
  have e4 : ∀ xs : List Str, PyData.depthAll (xs.map .str) ≤ 1 := fun xs => by
    induction xs with
    | nil => decide
    | cons x xs ih => exact Nat.max_le.mpr ⟨Nat.le_of_ble_eq_true rfl, ih⟩
  have e5 : (PyData.list (xs.map .str)).depth ≤ 40 := by
    show PyData.depthAll (xs.map .str) + 1 ≤ 40
    have := e4 xs
    omega
  have e0 : reprF c [.lst (xs.map .str)] = match pyF c 2 (.lst (xs.map .str)) with
    | some p => if p.showable = true ∧ p.depth ≤ 40 ∧ p.shown.length ≤ sizeLine then some (.val (.str p.shown)) else none
    | none => none := rfl
  rw [e0, e1]
  simp only
  rw [if_pos ⟨showable_strs xs, e5, by rw [e2]; exact e3⟩, e2]
/-- a text of at most so many signs -/
def WL (n : Nat) (x : Str) : Prop := x.length ≤ n ∧ ∀ c ∈ x.cps.toList, c < 16 ^ 8
theorem WL.le {n m : Nat} {x : Str} (h : WL n x) (hm : n ≤ m) : WL m x := ⟨Nat.le_trans h.1 hm, h.2⟩
theorem WL.app {n m : Nat} {x y : Str} (h : WL n x) (h' : WL m y) : WL (n + m) (x ++ y) := by
  have e : (x ++ y).cps = x.cps ++ y.cps := rfl
  refine ⟨?_, fun c hc => ?_⟩
  · show (x ++ y).cps.size ≤ _
    rw [e, Array.size_append]
    exact Nat.add_le_add h.1 h'.1
  · rw [e, Array.toList_append, List.mem_append] at hc
    exact hc.elim (h.2 c) (h'.2 c)
theorem WL.cut {n : Nat} {x : Str} (h : WL n x) (lo hi : Option Int) : WL n (cutS x lo hi) := by
  refine ⟨?_, fun c hc => h.2 c (List.mem_of_mem_drop (List.mem_of_mem_take hc))⟩
  have : (cutS x lo hi).length ≤ x.length := by
    show ((x.cps.toList.drop _).take _).toArray.size ≤ x.cps.size
    rw [List.size_toArray, List.length_take, List.length_drop, Array.length_toList]
    omega
  exact Nat.le_trans this h.1
theorem WL.one {c : Nat} (h : c < 16 ^ 8) : WL 1 ⟨#[c]⟩ := ⟨Nat.le_refl _, fun d hd => by
  have : d = c := by simpa using hd
  rw [this]; exact h⟩
theorem WL.rep {n : Nat} {x : Str} (h : WL n x) (k : Nat) : WL (n * k) (strRep x k) := by
  have go : ∀ (k : Nat) (a : Array Nat), ((List.replicate k x.cps).foldl (· ++ ·) a).size = a.size + x.cps.size * k ∧ ∀ c ∈ ((List.replicate k x.cps).foldl (· ++ ·) a).toList, c ∈ a.toList ∨ c ∈ x.cps.toList := fun k => by
    induction k with
    | zero => intro a; exact ⟨by simp, fun c hc => .inl hc⟩
    | succ k ih =>
      intro a
      rw [List.replicate_succ, List.foldl_cons]
      obtain ⟨h1, h2⟩ := ih (a ++ x.cps)
      refine ⟨by rw [h1, Array.size_append, Nat.mul_succ]; omega, fun c hc => ?_⟩
      rcases h2 c hc with z | z
      · rw [Array.toList_append, List.mem_append] at z
        exact z
      · exact .inr z
  obtain ⟨h1, h2⟩ := go k #[]
  refine ⟨?_, fun c hc => ?_⟩
  · show ((List.replicate k x.cps).foldl (· ++ ·) #[]).size ≤ _
    rw [h1, Array.size_empty, Nat.zero_add]
    exact Nat.mul_le_mul_right k h.1
  · rcases h2 c hc with z | z
    · simp at z
    · exact h.2 c z
theorem WL.w {n : Nat} {x : Str} (h : WL n x) (hn : n ≤ 40) : IsW x := ⟨Nat.le_trans h.1 hn, h.2⟩
theorem WL.at {n : Nat} {x : Str} (h : WL n x) {i : Int} (h0 : 0 ≤ i) (h1 : i < x.length) : ∃ c, atI x.cps.toList i = some c ∧ c < 16 ^ 8 := by
  obtain ⟨c, e1, e2⟩ := at_in (xs := x.cps.toList) h0 (by rw [Array.length_toList]; exact h1)
  exact ⟨c, e1, h.2 c (List.mem_of_getElem? e2)⟩
theorem strRep_le {x : Str} {n k : Nat} (h : x.length ≤ n) : x.length * k ≤ n * k := Nat.mul_le_mul_right k h
/-- a comprehension without a test -/
theorem lc_inv0 {T : FT} {ρ : Rho} {E : D → Cells → Prop} {tg : Eng.TG} {elt : Rho → Cells → Ans (D × Bool)} {xs : List D} {P : List D → Cells → Prop} (I : Nat → List D → Cells → Prop) (h0 : I 0 [] c)
    (step : ∀ i x acc c, xs[i]? = some x → I i acc c → ∃ ρ1, bindT tg x ρ = some ρ1 ∧ Ew (elt ρ1 c) (fun d c => sol d.1 = true ∧ acc.length < sizeLine ∧ I (i + 1) (acc ++ [d.1]) c) (fun _ _ => False))
    (done : ∀ acc c, I xs.length acc c → P acc c) : Ew (lcGo tg (testF T .absent) elt ρ xs [] c) P E := by
  refine lc_inv I h0 (fun i x acc c hx hi => ?_) done
  obtain ⟨ρ1, e, h⟩ := step i x acc c hx hi
  exact ⟨ρ1, e, h⟩
/-- a comprehension with a test -/
theorem lc_invB {ρ : Rho} {E : D → Cells → Prop} {tg : Eng.TG} {test : Rho → Cells → Ans Bool} {elt : Rho → Cells → Ans (D × Bool)} {xs : List D} {P : List D → Cells → Prop} (I : Nat → List D → Cells → Prop) (h0 : I 0 [] c)
    (step : ∀ i x acc c, xs[i]? = some x → I i acc c → ∃ ρ1, bindT tg x ρ = some ρ1 ∧ Ew (test ρ1 c) (fun k c => Br k (Ew (elt ρ1 c) (fun d c => sol d.1 = true ∧ acc.length < sizeLine ∧ I (i + 1) (acc ++ [d.1]) c) (fun _ _ => False)) (I (i + 1) acc c)) (fun _ _ => False))
    (done : ∀ acc c, I xs.length acc c → P acc c) : Ew (lcGo tg test elt ρ xs [] c) P E := lc_inv I h0 step done
end
end Eng

/-! Eng26: helpers of the walk -/
namespace Eng
open PySem PySem.Spec PyProof.Rows L2
theorem sizeLine_lit : sizeLine = 16777216 := rfl
section
variable {α : Type} {c : Cells} {ρ : Rho} {T : FT} {P : D × Bool → Cells → Prop} {E : D → Cells → Prop}
theorem callC {n : Nat} {s : FS} {ds : List D} (hs : solL ds = true) (hl : ds.length = n) (h : Ew (s ds c) P E) : Ew (callA (some (n, s)) ds c) P E := (call_def hs hl).mpr h
theorem Br.pos {b : Prop} [Decidable b] {A B : Prop} (h : b) (k : A) : Br (decide b) A B := by
  rw [decide_eq_true h]; exact k
theorem Br.neg {b : Prop} [Decidable b] {A B : Prop} (h : ¬ b) (k : B) : Br (decide b) A B := by
  rw [decide_eq_false h]; exact k
theorem Br.npos {b : Prop} [Decidable b] {A B : Prop} (h : b) (k : B) : Br (!decide b) A B := by
  rw [decide_eq_true h]; exact k
theorem Br.nneg {b : Prop} [Decidable b] {A B : Prop} (h : ¬ b) (k : A) : Br (!decide b) A B := by
  rw [decide_eq_false h]; exact k
theorem Br.both {k : Bool} {A B : Prop} (h1 : A) (h2 : B) : Br k A B := by cases k <;> assumption
theorem Bx.at {f : α → D} {xs : List α} {i : Int} {p : D → Prop} (h0 : 0 ≤ i) (h1 : i < xs.length) (k : ∀ x, xs[i.toNat]? = some x → p (f x)) : Bx (atI (xs.map f) i) p := by
  obtain ⟨x, e1, e2⟩ := at_map (f := f) h0 h1
  exact ⟨_, e1, k x e2⟩
theorem Bx.any {f : α → D} {xs : List α} {i : Int} {p : D → Prop} (h0 : 0 ≤ i) (h1 : i < xs.length) (k : ∀ x ∈ xs, p (f x)) : Bx (atI (xs.map f) i) p :=
  Bx.at h0 h1 fun x hx => k x (List.mem_of_getElem? hx)
theorem atI_nat {xs : List D} {n : Nat} : atI xs (n : Int) = xs[n]? := by
  by_cases h : n < xs.length
  · obtain ⟨x, e1, e2⟩ := at_in (xs := xs) (i := (n : Int)) (by omega) (by omega)
    rw [e1, ← e2]; rfl
  · rw [List.getElem?_eq_none (by omega)]
    show (ixN xs.length (n : Int)).bind _ = none
    unfold ixN
    rw [if_pos (by omega), if_neg (by omega)]
    rfl
theorem cutL_take_i {xs : List α} {i : Int} (h : 0 ≤ i) : cutL xs none (some i) = xs.take i.toNat := by
  obtain ⟨n, rfl⟩ : ∃ n : Nat, i = n := ⟨i.toNat, by omega⟩
  exact cutL_take
theorem cutL_drop_i {xs : List α} {i : Int} (h : 0 ≤ i) : cutL xs (some i) none = xs.drop i.toNat := by
  obtain ⟨n, rfl⟩ : ∃ n : Nat, i = n := ⟨i.toNat, by omega⟩
  exact cutL_drop
theorem cutL_mid_i {xs : List α} {i j : Int} (h : 0 ≤ i) (h2 : 0 ≤ j) : cutL xs (some i) (some j) = (xs.take j.toNat).drop i.toNat := by
  obtain ⟨n, rfl⟩ : ∃ n : Nat, i = n := ⟨i.toNat, by omega⟩
  obtain ⟨m, rfl⟩ : ∃ n : Nat, j = n := ⟨j.toNat, by omega⟩
  unfold cutL
  rw [HT.sIx_nat, HT.sIx_nat, Int.toNat_natCast, Int.toNat_natCast]
  apply List.ext_getElem?
  intro q
  rw [List.getElem?_take, List.getElem?_drop, List.getElem?_drop, List.getElem?_take]
  by_cases h3 : n ≤ xs.length
  · by_cases h4 : m ≤ xs.length
    · rw [Nat.min_eq_left h3, Nat.min_eq_left h4]
      by_cases h5 : q < m - n
      · rw [if_pos h5, if_pos (by omega)]
      · rw [if_neg h5, if_neg (by omega)]
    · rw [Nat.min_eq_left h3, Nat.min_eq_right (by omega)]
      by_cases h5 : q < xs.length - n
      · rw [if_pos h5, if_pos (by omega)]
      · rw [if_neg h5, List.getElem?_eq_none (by omega)]
        split <;> rfl
  · rw [Nat.min_eq_right (show xs.length ≤ n by omega), if_neg (by omega), List.getElem?_eq_none (by omega)]
    split <;> rfl
theorem log_ok {m : Int} (h0 : 0 < m) (h : m < 1000000000000000000000000000000000000000000) : m.natAbs.log2 < 9000 := by
  have : m.natAbs.log2 < 141 := (Nat.log2_lt (by omega)).mpr (by omega)
  omega
theorem lims_ok {m n : Int} (h1 : lim m = true) (h2 : lim n = true) : (lim m && lim n) = true := by rw [h1, h2]; rfl
theorem fits_l {i j : Int} (h1 : -(2 ^ 64) < i) (h2 : i < 2 ^ 64) : fits i j := .inl ⟨h1, h2⟩
theorem fits_r {i j : Int} (h1 : -(2 ^ 64) < j) (h2 : j < 2 ^ 64) : fits i j := .inr (.inl ⟨h1, h2⟩)
theorem fits_b {i j : Int} (h1 : -(2 ^ 200) < i) (h2 : i < 2 ^ 200) (h3 : -(2 ^ 200) < j) (h4 : j < 2 ^ 200) : fits i j := .inr (.inr ⟨h1, h2, h3, h4⟩)
theorem Bx.intro {o : Option α} {p : α → Prop} (x : α) (h : o = some x) (q : p x) : Bx o p := ⟨x, h, q⟩
theorem atI_last' {xs : List α} {f : α → D} {a : α} (h : xs.getLast? = some a) : atI (xs.map f) (-1) = some (f a) := by
  rcases List.eq_nil_or_concat xs with rfl | ⟨ys, y, rfl⟩
  · cases h
  · rw [List.concat_eq_append, List.getLast?_concat] at h
    cases h
    rw [List.concat_eq_append, List.map_append]
    exact atI_last _ _
end
end Eng

/-! Eng27: loops over typed lists -/
namespace Eng
open PySem PySem.Spec PyProof.Rows L2
section
variable {α β γ : Type} {c : Cells} {ρ : Rho} {T : FT} {E : D → Cells → Prop} {Q : Fl → Rho → Cells → Prop} {tg : Eng.TG} {body : Rho → Cells → AnsS} {elt : Rho → Cells → Ans (D × Bool)} {test : Rho → Cells → Ans Bool} {P : List D → Cells → Prop}
theorem for_m {ys : List α} {f : α → D} (I : Nat → Rho → Cells → Prop) (h0 : I 0 ρ c)
    (step : ∀ i y ρ c, ys[i]? = some y → I i ρ c → Bx (bindT tg (f y) ρ) fun ρ1 => Sv (body ρ1 c) (loopQ (I (i + 1)) Q))
    (done : ∀ ρ c, I ys.length ρ c → Q .nx ρ c) : Sv (forL tg body (ys.map f) ρ c) Q := by
  refine for_inv I h0 (fun i x ρ c hx hi => ?_) fun ρ c h => done ρ c (by rwa [List.length_map] at h)
  rw [List.getElem?_map] at hx
  obtain ⟨y, hy, rfl⟩ := Option.map_eq_some_iff.mp hx
  obtain ⟨ρ1, e, h⟩ := step i y ρ c hy hi
  exact ⟨ρ1, e, h⟩
theorem for_r {m : Int} {n : Nat} (I : Nat → Rho → Cells → Prop) (h0 : I 0 ρ c)
    (step : ∀ i ρ c, i < n → I i ρ c → Bx (bindT tg (.int (m + (i : Int))) ρ) fun ρ1 => Sv (body ρ1 c) (loopQ (I (i + 1)) Q))
    (done : ∀ ρ c, I n ρ c → Q .nx ρ c) : Sv (forL tg body (rngL m n) ρ c) Q := by
  refine for_inv I h0 (fun i x ρ c hx hi => ?_) fun ρ c h => done ρ c (by rwa [rng_len] at h)
  obtain ⟨hl, rfl⟩ := rng_get hx
  obtain ⟨ρ1, e, h⟩ := step i ρ c hl hi
  exact ⟨ρ1, e, h⟩
theorem for_d {m : Int} {n : Nat} (I : Nat → Rho → Cells → Prop) (h0 : I 0 ρ c)
    (step : ∀ i ρ c, i < n → I i ρ c → Bx (bindT tg (.int (m - (i : Int))) ρ) fun ρ1 => Sv (body ρ1 c) (loopQ (I (i + 1)) Q))
    (done : ∀ ρ c, I n ρ c → Q .nx ρ c) : Sv (forL tg body (rngD m n) ρ c) Q := by
  refine for_inv I h0 (fun i x ρ c hx hi => ?_) fun ρ c h => done ρ c (by rwa [rngD_len] at h)
  obtain ⟨hl, rfl⟩ := rngD_get hx
  obtain ⟨ρ1, e, h⟩ := step i ρ c hl hi
  exact ⟨ρ1, e, h⟩
/-- an items list of any kind, item by item -/
structure Items (xs : List D) (n : Nat) (it : Nat → D → Prop) : Prop where
  len : xs.length = n
  get : ∀ i x, xs[i]? = some x → it i x
theorem items_m {ys : List α} {f : α → D} : Items (ys.map f) ys.length fun i x => ∃ y, ys[i]? = some y ∧ x = f y :=
  ⟨List.length_map _, fun i x h => by
    rw [List.getElem?_map] at h
    obtain ⟨y, hy, rfl⟩ := Option.map_eq_some_iff.mp h
    exact ⟨y, hy, rfl⟩⟩
theorem items_r {m : Int} {n : Nat} : Items (rngL m n) n fun i x => i < n ∧ x = .int (m + i) := ⟨rng_len, fun i x h => rng_get h⟩
/-- a comprehension: what it gathers is a list of things of one kind -/
theorem lc_gen {xs : List D} {g : β → D} {n : Nat} {it : Nat → D → Prop} (hx : Items xs n it) (hg : ∀ b, sol (g b) = true) (hl : n ≤ sizeLine) (I : Nat → List β → Cells → Prop) (h0 : I 0 [] c)
    (step : ∀ i x acc c, it i x → i < n → acc.length ≤ i → I i acc c → Bx (bindT tg x ρ) fun ρ1 => Ew (test ρ1 c) (fun k c => Br k (Ew (elt ρ1 c) (fun d c => ∃ b, d.1 = g b ∧ I (i + 1) (acc ++ [b]) c) (fun _ _ => False)) (I (i + 1) acc c)) (fun _ _ => False))
    (done : ∀ acc c, acc.length ≤ n → I n acc c → P (acc.map g) c) : Ew (lcGo tg test elt ρ xs [] c) P E := by
  refine lc_inv (fun i acc c => ∃ bs, acc = bs.map g ∧ bs.length ≤ i ∧ I i bs c) ⟨[], rfl, Nat.le_refl _, h0⟩ ?_ ?_
  · rintro i x acc c hi ⟨bs, rfl, hb, hI⟩
    have hlt : i < n := by
      rw [← hx.len]
      exact (List.getElem?_eq_some_iff.mp hi).1
    obtain ⟨ρ1, e, h⟩ := step i x bs c (hx.get i x hi) hlt hb hI
    refine ⟨ρ1, e, h.mono (fun k c q => ?_) fun _ _ z => z⟩
    cases k with
    | false => exact ⟨bs, rfl, by omega, q⟩
    | true =>
      have q : Ew (elt ρ1 c) _ _ := q
      refine q.mono (fun d c ⟨b, e1, e2⟩ => ?_) fun _ _ z => z
      rw [e1]
      exact ⟨hg b, by rw [List.length_map]; omega, bs ++ [b], by simp, by simp; omega, e2⟩
  · rintro acc c ⟨bs, rfl, hb, hI⟩
    rw [hx.len] at hb hI
    exact done bs c hb hI
theorem lc_m {ys : List α} {f : α → D} {g : β → D} (hg : ∀ b, sol (g b) = true) (hl : ys.length ≤ sizeLine) (I : Nat → List β → Cells → Prop) (h0 : I 0 [] c)
    (step : ∀ i y acc c, ys[i]? = some y → acc.length = i → I i acc c → Bx (bindT tg (f y) ρ) fun ρ1 => Ew (elt ρ1 c) (fun d c => ∃ b, d.1 = g b ∧ I (i + 1) (acc ++ [b]) c) (fun _ _ => False))
    (done : ∀ acc c, acc.length = ys.length → I ys.length acc c → P (acc.map g) c) : Ew (lcGo tg (testF T .absent) elt ρ (ys.map f) [] c) P E := by
  refine lc_gen items_m hg hl (fun i acc c => acc.length = i ∧ I i acc c) ⟨rfl, h0⟩ ?_ fun acc c _ h => done acc c h.1 h.2
  rintro i x acc c ⟨y, hy, rfl⟩ _ _ ⟨hl, hI⟩
  obtain ⟨ρ1, e, h⟩ := step i y acc c hy hl hI
  exact ⟨ρ1, e, h.mono (fun d c ⟨b, e1, e2⟩ => ⟨b, e1, by simp [hl], e2⟩) fun _ _ z => z⟩
theorem lc_r {m : Int} {n : Nat} {g : β → D} (hg : ∀ b, sol (g b) = true) (hl : n ≤ sizeLine) (I : Nat → List β → Cells → Prop) (h0 : I 0 [] c)
    (step : ∀ i acc c, i < n → acc.length = i → I i acc c → Bx (bindT tg (.int (m + (i : Int))) ρ) fun ρ1 => Ew (elt ρ1 c) (fun d c => ∃ b, d.1 = g b ∧ I (i + 1) (acc ++ [b]) c) (fun _ _ => False))
    (done : ∀ acc c, acc.length = n → I n acc c → P (acc.map g) c) : Ew (lcGo tg (testF T .absent) elt ρ (rngL m n) [] c) P E := by
  refine lc_gen items_r hg hl (fun i acc c => acc.length = i ∧ I i acc c) ⟨rfl, h0⟩ ?_ fun acc c _ h => done acc c h.1 h.2
  rintro i x acc c ⟨hn, rfl⟩ _ _ ⟨hl, hI⟩
  obtain ⟨ρ1, e, h⟩ := step i acc c hn hl hI
  exact ⟨ρ1, e, h.mono (fun d c ⟨b, e1, e2⟩ => ⟨b, e1, by simp [hl], e2⟩) fun _ _ z => z⟩
/-- a comprehension with a test -/
theorem lc_mt {ys : List α} {f : α → D} {g : β → D} (hg : ∀ b, sol (g b) = true) (hl : ys.length ≤ sizeLine) (I : Nat → List β → Cells → Prop) (h0 : I 0 [] c)
    (step : ∀ i y acc c, ys[i]? = some y → acc.length ≤ i → I i acc c → Bx (bindT tg (f y) ρ) fun ρ1 => Ew (test ρ1 c) (fun k c => Br k (Ew (elt ρ1 c) (fun d c => ∃ b, d.1 = g b ∧ I (i + 1) (acc ++ [b]) c) (fun _ _ => False)) (I (i + 1) acc c)) (fun _ _ => False))
    (done : ∀ acc c, acc.length ≤ ys.length → I ys.length acc c → P (acc.map g) c) : Ew (lcGo tg test elt ρ (ys.map f) [] c) P E := by
  refine lc_gen items_m hg hl I h0 ?_ done
  rintro i x acc c ⟨y, hy, rfl⟩ _ hl hI
  exact step i y acc c hy hl hI
theorem lc_rt {m : Int} {n : Nat} {g : β → D} (hg : ∀ b, sol (g b) = true) (hl : n ≤ sizeLine) (I : Nat → List β → Cells → Prop) (h0 : I 0 [] c)
    (step : ∀ i acc c, i < n → acc.length ≤ i → I i acc c → Bx (bindT tg (.int (m + (i : Int))) ρ) fun ρ1 => Ew (test ρ1 c) (fun k c => Br k (Ew (elt ρ1 c) (fun d c => ∃ b, d.1 = g b ∧ I (i + 1) (acc ++ [b]) c) (fun _ _ => False)) (I (i + 1) acc c)) (fun _ _ => False))
    (done : ∀ acc c, acc.length ≤ n → I n acc c → P (acc.map g) c) : Ew (lcGo tg test elt ρ (rngL m n) [] c) P E := by
  refine lc_gen items_r hg hl I h0 ?_ done
  rintro i x acc c ⟨hn, rfl⟩ _ hl hI
  exact step i acc c hn hl hI
theorem take_snoc {ys : List α} {i : Nat} {y : α} (h : ys[i]? = some y) : ys.take (i + 1) = ys.take i ++ [y] := by
  rw [List.take_add_one, h]; rfl
/-- a comprehension that changes nothing -/
theorem lc_p {ys : List α} {f : α → D} (g : β → D) (h : α → β) (hg : ∀ b, sol (g b) = true) (hl : ys.length ≤ sizeLine)
    (step : ∀ (i : Nat) (y : α), ys[i]? = some y → Bx (bindT tg (f y) ρ) fun ρ1 => Ew (elt ρ1 c) (fun d c' => d.1 = g (h y) ∧ c' = c) (fun _ _ => False))
    (done : P ((ys.map h).map g) c) : Ew (lcGo tg (testF T .absent) elt ρ (ys.map f) [] c) P E := by
  refine lc_m hg hl (fun i acc c' => acc = (ys.take i).map h ∧ c' = c) ⟨rfl, rfl⟩ ?_ ?_
  · rintro i y acc c' hy ha ⟨rfl, rfl⟩
    obtain ⟨ρ1, e, q⟩ := step i y hy
    exact ⟨ρ1, e, q.mono (fun d c ⟨e1, e2⟩ => ⟨h y, e1, by rw [take_snoc hy, List.map_append]; rfl, e2⟩) fun _ _ z => z⟩
  · rintro acc c' _ ⟨rfl, rfl⟩
    rw [List.take_length]
    exact done
theorem lc_pt {ys : List α} {f : α → D} (g : β → D) (h : α → β) (p : α → Bool) (hg : ∀ b, sol (g b) = true) (hl : ys.length ≤ sizeLine)
    (step : ∀ (i : Nat) (y : α), ys[i]? = some y → Bx (bindT tg (f y) ρ) fun ρ1 => Ew (test ρ1 c) (fun k c' => k = p y ∧ c' = c ∧ (p y = true → Ew (elt ρ1 c) (fun d c' => d.1 = g (h y) ∧ c' = c) (fun _ _ => False))) (fun _ _ => False))
    (done : P (((ys.filter p).map h).map g) c) : Ew (lcGo tg test elt ρ (ys.map f) [] c) P E := by
  refine lc_mt hg hl (fun i acc c' => acc = ((ys.take i).filter p).map h ∧ c' = c) ⟨rfl, rfl⟩ ?_ ?_
  · rintro i y acc c' hy ha ⟨rfl, rfl⟩
    obtain ⟨ρ1, e, q⟩ := step i y hy
    refine ⟨ρ1, e, q.mono (fun k c ⟨e1, e2, e3⟩ => ?_) fun _ _ z => z⟩
    subst e1 e2
    rw [take_snoc hy, List.filter_append, List.map_append]
    cases hp : p y with
    | true =>
      refine (e3 hp).mono (fun d c ⟨e1, e2⟩ => ⟨h y, e1, ?_, e2⟩) fun _ _ z => z
      rw [List.filter_cons, if_pos hp]; rfl
    | false =>
      refine ⟨?_, rfl⟩
      rw [List.filter_cons, if_neg (by rw [hp]; exact Bool.false_ne_true)]
      simp
  · rintro acc c' _ ⟨rfl, rfl⟩
    rw [List.take_length]
    exact done
theorem rng_map {m : Int} {n : Nat} : rngL m n = (List.range n).map fun (i : Nat) => D.int (m + (i : Int)) := rfl
theorem lc_rp {m : Int} {n : Nat} (g : β → D) (h : Nat → β) (hg : ∀ b, sol (g b) = true) (hl : n ≤ sizeLine)
    (step : ∀ i, i < n → Bx (bindT tg (.int (m + (i : Int))) ρ) fun ρ1 => Ew (elt ρ1 c) (fun d c' => d.1 = g (h i) ∧ c' = c) (fun _ _ => False))
    (done : P (((List.range n).map h).map g) c) : Ew (lcGo tg (testF T .absent) elt ρ (rngL m n) [] c) P E := by
  rw [rng_map]
  refine lc_p (ys := List.range n) g h hg (by rw [List.length_range]; exact hl) (fun i y hy => ?_) done
  have : y = i := by
    obtain ⟨h1, h2⟩ := List.getElem?_eq_some_iff.mp hy
    rw [← h2, List.getElem_range]
  subst this
  exact step y (by have := (List.getElem?_eq_some_iff.mp hy).1; rwa [List.length_range] at this)
theorem lc_rpt {m : Int} {n : Nat} (g : β → D) (h : Nat → β) (p : Nat → Bool) (hg : ∀ b, sol (g b) = true) (hl : n ≤ sizeLine)
    (step : ∀ i, i < n → Bx (bindT tg (.int (m + (i : Int))) ρ) fun ρ1 => Ew (test ρ1 c) (fun k c' => k = p i ∧ c' = c ∧ (p i = true → Ew (elt ρ1 c) (fun d c' => d.1 = g (h i) ∧ c' = c) (fun _ _ => False))) (fun _ _ => False))
    (done : P ((((List.range n).filter p).map h).map g) c) : Ew (lcGo tg test elt ρ (rngL m n) [] c) P E := by
  rw [rng_map]
  refine lc_pt (ys := List.range n) g h p hg (by rw [List.length_range]; exact hl) (fun i y hy => ?_) done
  have : y = i := by
    obtain ⟨h1, h2⟩ := List.getElem?_eq_some_iff.mp hy
    rw [← h2, List.getElem_range]
  subst this
  exact step y (by have := (List.getElem?_eq_some_iff.mp hy).1; rwa [List.length_range] at this)
theorem zip_map {xs : List α} {ys : List β} {f : α → D} {g : β → D} : zipL (xs.map f) (ys.map g) = (xs.zip ys).map fun p => D.tup [f p.1, g p.2] := by
  induction xs generalizing ys with
  | nil => rfl
  | cons x xs ih =>
    cases ys with
    | nil => rfl
    | cons y ys => show _ :: zipL (xs.map f) (ys.map g) = _; rw [ih]; rfl
theorem enum_map {xs : List α} {f : α → D} {k : Nat} : enumL k (xs.map f) = (xs.zipIdx k).map fun p => D.tup [.int (p.2 : Nat), f p.1] := by
  induction xs generalizing k with
  | nil => rfl
  | cons x xs ih => show _ :: enumL (k + 1) (xs.map f) = _; rw [ih]; rfl
theorem it_enum_l {xs : List D} : itemsI .enum [.lst xs] = some (enumL 0 xs) := rfl
theorem it_rvs_l {xs : List D} : itemsI .rvs [.lst xs] = some xs.reverse := rfl
theorem it_zip_l {xs ys : List D} : itemsI .zip [.lst xs, .lst ys] = some (zipL xs ys) := rfl
section
variable {P : D × Bool → Cells → Prop}
theorem o_mul_str {x : Str} {k : Int} : Ew (outA (mulF (.str x) (.int k)) c) P E ↔ An (-9223372036854775808 ≤ k) (An (k < 9223372036854775808) (An (x.length * k.toNat ≤ sizeLine) (P (.str (strRep x k.toNat), false) c))) := by
  rw [mul_str, o_if]
  exact ⟨fun ⟨⟨h1, h2, h3⟩, q⟩ => ⟨h1, h2, h3, q⟩, fun ⟨h1, h2, h3, q⟩ => ⟨⟨h1, h2, h3⟩, q⟩⟩
theorem o_mul_lst {x : List D} {k : Int} : Ew (outA (mulF (.lst x) (.int k)) c) P E ↔ An (-9223372036854775808 ≤ k) (An (k < 9223372036854775808) (An (x.length * k.toNat ≤ sizeLine) (P (.lst (List.replicate k.toNat x).flatten, true) c))) := by
  rw [mul_lst, o_if]
  exact ⟨fun ⟨⟨h1, h2, h3⟩, q⟩ => ⟨h1, h2, h3, q⟩, fun ⟨h1, h2, h3, q⟩ => ⟨⟨h1, h2, h3⟩, q⟩⟩
theorem o_add_str {x y : Str} : Ew (outA (addF (.str x) (.str y)) c) P E ↔ An (x.length + y.length ≤ sizeLine) (P (.str (x ++ y), false) c) := o_if
theorem o_add_lst {xs ys : List D} : Ew (outA (addF (.lst xs) (.lst ys)) c) P E ↔ An (xs.length + ys.length ≤ sizeLine) (P (.lst (xs ++ ys), true) c) := o_if
theorem o_add_tup {xs ys : List D} : Ew (outA (addF (.tup xs) (.tup ys)) c) P E ↔ An (xs.length + ys.length ≤ sizeLine) (An (xs ≠ []) (An (ys ≠ []) (P (.tup (xs ++ ys), true) c))) := by
  rw [add_tup, o_if]
  exact ⟨fun ⟨⟨h1, h2, h3⟩, q⟩ => ⟨h1, h2, h3, q⟩, fun ⟨h1, h2, h3, q⟩ => ⟨⟨h1, h2, h3⟩, q⟩⟩
theorem o_mul_int {i j : Int} : Ew (outA (mulF (.int i) (.int j)) c) P E ↔ An (fits i j) (P (.int (i * j), false) c) := o_if
theorem o_div_int {i j : Int} : Ew (outA (divF (.int i) (.int j)) c) P E ↔ An (0 < j) (An (j.natAbs.log2 < 9000) (P (.int (i / j), false) c)) := by
  rw [div_int, o_if]
  exact ⟨fun ⟨⟨h1, h2⟩, q⟩ => ⟨h1, h2, q⟩, fun ⟨h1, h2, q⟩ => ⟨⟨h1, h2⟩, q⟩⟩
theorem o_mod_int {i j : Int} : Ew (outA (modF (.int i) (.int j)) c) P E ↔ An (0 < j) (P (.int (i % j), false) c) := o_if
theorem o_pow_int {i j : Int} : Ew (outA (powF (.int i) (.int j)) c) P E ↔ An (0 ≤ j) (An (j ≤ 1000000) (An (i.natAbs < 18446744073709551616) (P (.int (i ^ j.toNat), false) c))) := by
  rw [pow_int, o_if]
  exact ⟨fun ⟨⟨h1, h2, h3⟩, q⟩ => ⟨h1, h2, h3, q⟩, fun ⟨h1, h2, h3, q⟩ => ⟨⟨h1, h2, h3⟩, q⟩⟩
theorem o_ix_str {z : Str} {i : Int} : Ew (outA (ixF c [.str z, .int i]) c) P E ↔ An (z.length ≤ sizeLine) (Bx (atI z.cps.toList i) fun a => P (.str ⟨#[a]⟩, false) c) := by
  rw [ix_str, o_if, o_map]; exact Iff.rfl
theorem o_cut_str {lo hi : Option Int} {z : Str} : Ew (outA (slF lo hi (.str z)) c) P E ↔ An (z.length ≤ sizeLine) (P (.str (cutS z lo hi), false) c) := o_if
theorem o_len_str {z : Str} : Ew (outA (lenF [.str z]) c) P E ↔ An (z.length ≤ sizeLine) (P (.int z.length, false) c) := o_if
end
theorem b_rng1 {n : Int} {p : List D → Prop} : Bx (itemsI .rng1 [.int n]) p ↔ An (lim n = true) (p (rngL 0 n.toNat)) := by
  rw [it_rng1, bx_if, bx_some]
theorem b_rng2 {m n : Int} {p : List D → Prop} : Bx (itemsI .rng2 [.int m, .int n]) p ↔ An (lim m = true) (An (lim n = true) (p (rngL m (n - m).toNat))) := by
  rw [it_rng2, bx_if, bx_some, Bool.and_eq_true]
  exact ⟨fun ⟨⟨h1, h2⟩, q⟩ => ⟨h1, h2, q⟩, fun ⟨h1, h2, q⟩ => ⟨⟨h1, h2⟩, q⟩⟩
theorem b_rng3 {m n : Int} {p : List D → Prop} : Bx (itemsI .rng3 [.int m, .int n, .int (-1)]) p ↔ An (lim m = true) (An (lim n = true) (p (rngD m (m - n).toNat))) := by
  rw [it_rng3, bx_if, bx_some, Bool.and_eq_true]
  exact ⟨fun ⟨⟨h1, h2⟩, q⟩ => ⟨h1, h2, q⟩, fun ⟨h1, h2, q⟩ => ⟨⟨h1, h2⟩, q⟩⟩
theorem n_f2_two {f : D → D → Option Out} {a b : D} : f2 f c [a, b] = f a b := Eq.trans (Eq.refl (f a b)) (Eq.refl (f a b))
theorem len_one {a : Nat} : (⟨#[a]⟩ : Str).length = 1 := Eq.trans (Eq.refl 1) (Eq.refl 1)
theorem map_app {f : α → D} {xs ys : List α} : xs.map f ++ ys.map f = (xs ++ ys).map f := List.map_append.symm
theorem str_snoc {xs : List Str} {x : Str} : xs.map D.str ++ [D.str x] = (xs ++ [x]).map D.str := by simp
theorem int_snoc {xs : List Int} {x : Int} : xs.map D.int ++ [D.int x] = (xs ++ [x]).map D.int := by simp
theorem lst_one {x : Str} : D.lst [D.str x] = D.lst (List.map D.str [x]) := Eq.trans (Eq.refl _) (Eq.refl _)
theorem lst_two {x : Str} {xs : List Str} : D.lst (D.str x :: xs.map D.str) = D.lst (List.map D.str (x :: xs)) := Eq.trans (Eq.refl _) (Eq.refl _)
theorem wipe_nil : wipeR ρ (List.map (fun (x : Str × Nat) => x.2) []) = ρ := rfl
theorem wipe_cons {x : Str} {i : Nat} {r : List (Str × Nat)} : wipeR ρ (List.map (fun (x : Str × Nat) => x.2) ((x, i) :: r)) = (wipeR ρ (List.map (fun (x : Str × Nat) => x.2) r)).set i .non := rfl
theorem whl_br {test : Rho → Cells → Ans Bool} (I : Nat → Rho → Cells → Prop) {n0 : Nat} (h0 : I n0 ρ c) {fuel : Nat} (hf : n0 < fuel)
    (step : ∀ n ρ c, I n ρ c → Ew (test ρ c) (fun k c => Br k (Sv (body ρ c) (loopQ (fun ρ c => ∃ m, m < n ∧ I m ρ c) Q)) (Q .nx ρ c)) (fun x c => Q (.ex x) ρ c)) : Sv (whlL test body fuel ρ c) Q := while_inv I h0 hf step
theorem Br.nd {b : Prop} [Decidable b] {A B : Prop} (h1 : b → B) (h2 : ¬ b → A) : Br (!decide b) A B := by
  by_cases h : b
  · exact Br.npos h (h1 h)
  · exact Br.nneg h (h2 h)
end
end Eng

/-! Eng28: plain data: it is equal to itself, it can be shown -/
namespace Eng
open PySem PySem.Spec PyProof.Rows L2
structure PlS (k n : Nat) (d : D) (p : PyData) : Prop where
  rep : ∀ f, pyG f d = some p
  shw : p.showable = true
  nod : p.hasDict = false
  dep : p.depth ≤ k
  len : p.shown.length ≤ n
  eqs : ∀ c m, k < m → eqD m c d d = some true
  sol : sol d = true
/-- plain data: depth, length of its text -/
def Pl (k n : Nat) (d : D) : Prop := ∃ p, PlS k n d p
theorem Pl.mono {k n k' n' : Nat} {d : D} (h : Pl k n d) (hk : k ≤ k') (hn : n ≤ n') : Pl k' n' d := by
  obtain ⟨p, h⟩ := h
  exact ⟨p, h.rep, h.shw, h.nod, Nat.le_trans h.dep hk, Nat.le_trans h.len hn, fun c m hm => h.eqs c m (by omega), h.sol⟩
theorem Pl.non : Pl 1 5 .non := ⟨.none, fun _ => rfl, rfl, rfl, by decide, by decide +kernel, fun c m hm => by
  obtain ⟨m, rfl⟩ : ∃ j, m = j + 1 := ⟨m - 1, by omega⟩
  rfl, rfl⟩
theorem Pl.bl {b : Bool} : Pl 1 5 (.bl b) := ⟨.bool b, fun _ => rfl, rfl, rfl, by cases b <;> decide, by cases b <;> decide +kernel, fun c m hm => by
  obtain ⟨m, rfl⟩ : ∃ j, m = j + 1 := ⟨m - 1, by omega⟩
  show some (b == b) = _
  rw [beq_self_eq_true], rfl⟩
theorem Pl.str {x : Str} (h : IsW x) : Pl 1 402 (.str x) := ⟨.str x, fun _ => rfl, rfl, rfl, by exact Nat.le_of_ble_eq_true rfl, by
  have := PySem.StrLaws.reprText_len x h.2
  have := h.1
  show (reprText x).length ≤ 402
  omega, fun c m hm => by
  obtain ⟨m, rfl⟩ : ∃ j, m = j + 1 := ⟨m - 1, by omega⟩
  show some (x == x) = _
  rw [beq_self_eq_true], rfl⟩
theorem Pl.int {i : Int} (h : i.natAbs.log2 < 1920) : Pl 1 1921 (.int i) := ⟨.int i, fun _ => rfl, by simpa [PyData.showable] using h, rfl, by exact Nat.le_of_ble_eq_true rfl, PyProof.Rows.int_text_len_1921 h, fun c m hm => by
  obtain ⟨m, rfl⟩ : ∃ j, m = j + 1 := ⟨m - 1, by omega⟩
  show some (i == i) = _
  rw [beq_self_eq_true], rfl⟩
theorem Pl.nat {i : Nat} (h : i < 2 ^ 64) : Pl 1 1921 (.int (i : Int)) := Pl.int (by
  by_cases h0 : i = 0
  · subst h0; decide
  · have : i.log2 < 64 := (Nat.log2_lt h0).mpr h
    show ((i : Int).natAbs).log2 < 1920
    rw [Int.natAbs_natCast]
    omega)
theorem pl_all {k n : Nat} : ∀ {xs : List D}, (∀ x ∈ xs, Pl k n x) → ∃ ps, (∀ f, pyGL f xs = some ps) ∧ PyData.showableAll ps = true ∧ PyData.hasDictAll ps = false ∧ PyData.depthAll ps ≤ k ∧ (∀ t ∈ PyData.shownAll ps, t.length ≤ n) ∧ (PyData.shownAll ps).length = xs.length ∧ ∀ c m, k < m → eqZ (eqD m c) xs xs = some true
  | [], _ => ⟨[], fun _ => rfl, rfl, rfl, Nat.zero_le _, (fun t ht => by cases (show t ∈ ([] : List Str) from ht)), rfl, fun _ _ _ => rfl⟩
  | x :: xs, h => by
    obtain ⟨p, hp⟩ := h x List.mem_cons_self
    obtain ⟨ps, h1, h2, h3, h4, h5, h6, h7⟩ := pl_all (xs := xs) fun y hy => h y (List.mem_cons_of_mem _ hy)
    refine ⟨p :: ps, fun f => ?_, ?_, ?_, Nat.max_le.mpr ⟨hp.dep, h4⟩, fun t ht => ?_, ?_, fun c m hm => ?_⟩
    · show (match pyG f x, pyGL f xs with | some p, some ps => some (p :: ps) | _, _ => none) = _
      rw [hp.rep, h1]
    · show (p.showable && PyData.showableAll ps) = true
      rw [hp.shw, h2]; rfl
    · show (p.hasDict || PyData.hasDictAll ps) = false
      rw [hp.nod, h3]; rfl
    · rcases List.mem_cons.mp (show t ∈ p.shown :: PyData.shownAll ps from ht) with z | z
      · rw [z]; exact hp.len
      · exact h5 t z
    · show (p.shown :: PyData.shownAll ps).length = _
      rw [List.length_cons, List.length_cons, h6]
    · show (match eqD m c x x, eqZ (eqD m c) xs xs with | some a, some b => some (a && b) | _, _ => none) = _
      rw [hp.eqs c m hm, h7 c m hm]; rfl
theorem sum_max {ts : List Str} {n : Nat} (h : ∀ t ∈ ts, t.length ≤ n) : (ts.map (·.length)).sum ≤ n * ts.length := sum_le fun x hx => h x hx
theorem Pl.lst {k n m : Nat} {xs : List D} (h : ∀ x ∈ xs, Pl k n x) (hl : xs.length ≤ m) : Pl (k + 1) ((n + 2) * m + 3) (.lst xs) := by
  obtain ⟨ps, h1, h2, h3, h4, h5, h6, h7⟩ := pl_all h
  refine ⟨.list ps, fun f => ?_, h2, h3, Nat.succ_le_succ h4, ?_, fun c q hq => ?_, rfl⟩
  · show (pyGL f xs).map PyData.list = _
    rw [h1]; rfl
  · show (listText (PyData.shownAll ps)).length ≤ _
    have a := listText_len_le (PyData.shownAll ps)
    have b := sum_max h5
    have c : (n + 2) * (PyData.shownAll ps).length ≤ (n + 2) * m := Nat.mul_le_mul_left _ (by omega)
    rw [Nat.add_mul] at c
    omega
  · obtain ⟨q, rfl⟩ : ∃ j, q = j + 1 := ⟨q - 1, by omega⟩
    show (if xs.length = xs.length then eqZ (eqD q c) xs xs else some false) = _
    rw [if_pos rfl]
    exact h7 c q (by omega)
theorem Pl.tup {k n m : Nat} {xs : List D} (h : ∀ x ∈ xs, Pl k n x) (hl : xs.length ≤ m) : Pl (k + 1) ((n + 2) * m + 3) (.tup xs) := by
  obtain ⟨ps, h1, h2, h3, h4, h5, h6, h7⟩ := pl_all h
  refine ⟨.tuple ps, fun f => ?_, h2, h3, Nat.succ_le_succ h4, ?_, fun c q hq => ?_, rfl⟩
  · show (pyGL f xs).map PyData.tuple = _
    rw [h1]; rfl
  · show (tupleText (PyData.shownAll ps)).length ≤ _
    have a := tupleText_len_le (PyData.shownAll ps)
    have b := sum_max h5
    have c : (n + 2) * (PyData.shownAll ps).length ≤ (n + 2) * m := Nat.mul_le_mul_left _ (by omega)
    rw [Nat.add_mul] at c
    omega
  · obtain ⟨q, rfl⟩ : ∃ j, q = j + 1 := ⟨q - 1, by omega⟩
    show ((eqZ (eqD q c) xs xs).map fun b => b && xs.length == xs.length) = _
    rw [h7 c q (by omega)]
    simp
theorem Pl.strs {xs : List Str} {m : Nat} (h : ∀ x ∈ xs, IsW x) (hl : xs.length ≤ m) : Pl 2 (404 * m + 3) (.lst (xs.map .str)) :=
  Pl.lst (k := 1) (n := 402) (fun y hy => by
    obtain ⟨x, hx, rfl⟩ := List.mem_map.mp hy
    exact .str (h x hx)) (by rw [List.length_map]; exact hl)
theorem Pl.nil {k n : Nat} : ∀ x ∈ ([] : List D), Pl k n x := fun _ h => by cases h
theorem Pl.cons {k n : Nat} {d : D} {xs : List D} (h : Pl k n d) (hr : ∀ x ∈ xs, Pl k n x) : ∀ x ∈ d :: xs, Pl k n x := fun x hx => by
  rcases List.mem_cons.mp hx with rfl | hx
  · exact h
  · exact hr x hx
section
variable {c : Cells} {k n : Nat} {d : D}
theorem Pl.eq (h : Pl k n d) (hk : k < 12) : cmpB c .Eq d d = some true := by
  obtain ⟨p, h⟩ := h
  rw [cmp_eq]
  exact h.eqs c deep hk
theorem Pl.ne (h : Pl k n d) (hk : k < 12) : cmpB c .NotEq d d = some false := by
  obtain ⟨p, h⟩ := h
  rw [cmp_ne]
  show (eqD deep c d d).map _ = _
  rw [h.eqs c deep hk]; rfl
theorem Pl.repr (h : Pl k n d) (hs : isSeq d = true) (hk : k ≤ 40) (hn : n ≤ sizeLine) : ∃ s, ∀ c, reprF c [d] = some (Out.val (D.str s)) := by
  obtain ⟨p, h⟩ := h
  refine ⟨p.shown, fun c => ?_⟩
  have e : pyF c 2 d = some p := h.rep _
  have e0 : reprF c [d] = (match (if isSeq d then pyF c 2 d else none) with
    | some p => if p.showable = true ∧ p.depth ≤ 40 ∧ p.shown.length ≤ sizeLine then some (Out.val (D.str p.shown)) else none
    | none => none) := by cases d <;> first | rfl | cases hs
  rw [e0]
  rw [hs, if_pos rfl, e]
  simp only
  rw [if_pos ⟨h.shw, Nat.le_trans h.dep hk, Nat.le_trans h.len hn⟩]
end
/-- what can be shown: depth, length of its text (dicts too) -/
structure PsS (k n : Nat) (d : D) (p : PyData) : Prop where
  rep : ∀ f, pyG f d = some p
  shw : p.showable = true
  dep : p.depth ≤ k
  len : p.shown.length ≤ n
def Ps (k n : Nat) (d : D) : Prop := ∃ p, PsS k n d p
theorem Pl.ps {k n : Nat} {d : D} (h : Pl k n d) : Ps k n d := by
  obtain ⟨p, h⟩ := h
  exact ⟨p, h.rep, h.shw, h.dep, h.len⟩
theorem Ps.mono {k n k' n' : Nat} {d : D} (h : Ps k n d) (hk : k ≤ k') (hn : n ≤ n') : Ps k' n' d := by
  obtain ⟨p, h⟩ := h
  exact ⟨p, h.rep, h.shw, Nat.le_trans h.dep hk, Nat.le_trans h.len hn⟩
theorem ps_all {k n : Nat} : ∀ {xs : List D}, (∀ x ∈ xs, Ps k n x) → ∃ ps, (∀ f, pyGL f xs = some ps) ∧ PyData.showableAll ps = true ∧ PyData.depthAll ps ≤ k ∧ (∀ t ∈ PyData.shownAll ps, t.length ≤ n) ∧ (PyData.shownAll ps).length = xs.length ∧ ps.length = xs.length
  | [], _ => ⟨[], fun _ => rfl, rfl, Nat.zero_le _, (fun t ht => by cases (show t ∈ ([] : List Str) from ht)), rfl, rfl⟩
  | x :: xs, h => by
    obtain ⟨p, hp⟩ := h x List.mem_cons_self
    obtain ⟨ps, h1, h2, h4, h5, h6, h7⟩ := ps_all (xs := xs) fun y hy => h y (List.mem_cons_of_mem _ hy)
    refine ⟨p :: ps, fun f => ?_, ?_, Nat.max_le.mpr ⟨hp.dep, h4⟩, fun t ht => ?_, ?_, by rw [List.length_cons, List.length_cons, h7]⟩
    · show (match pyG f x, pyGL f xs with | some p, some ps => some (p :: ps) | _, _ => none) = _
      rw [hp.rep, h1]
    · show (p.showable && PyData.showableAll ps) = true
      rw [hp.shw, h2]; rfl
    · rcases List.mem_cons.mp (show t ∈ p.shown :: PyData.shownAll ps from ht) with z | z
      · rw [z]; exact hp.len
      · exact h5 t z
    · show (p.shown :: PyData.shownAll ps).length = _
      rw [List.length_cons, List.length_cons, h6]
theorem Ps.lst {k n m : Nat} {xs : List D} (h : ∀ x ∈ xs, Ps k n x) (hl : xs.length ≤ m) : Ps (k + 1) ((n + 2) * m + 3) (.lst xs) := by
  obtain ⟨ps, h1, h2, h4, h5, h6, h7⟩ := ps_all h
  refine ⟨.list ps, fun f => ?_, h2, Nat.succ_le_succ h4, ?_⟩
  · show (pyGL f xs).map PyData.list = _
    rw [h1]; rfl
  · show (listText (PyData.shownAll ps)).length ≤ _
    have a := listText_len_le (PyData.shownAll ps)
    have b := sum_max h5
    have c : (n + 2) * (PyData.shownAll ps).length ≤ (n + 2) * m := Nat.mul_le_mul_left _ (by omega)
    rw [Nat.add_mul] at c
    omega
theorem Ps.tup {k n m : Nat} {xs : List D} (h : ∀ x ∈ xs, Ps k n x) (hl : xs.length ≤ m) : Ps (k + 1) ((n + 2) * m + 3) (.tup xs) := by
  obtain ⟨ps, h1, h2, h4, h5, h6, h7⟩ := ps_all h
  refine ⟨.tuple ps, fun f => ?_, h2, Nat.succ_le_succ h4, ?_⟩
  · show (pyGL f xs).map PyData.tuple = _
    rw [h1]; rfl
  · show (tupleText (PyData.shownAll ps)).length ≤ _
    have a := tupleText_len_le (PyData.shownAll ps)
    have b := sum_max h5
    have c : (n + 2) * (PyData.shownAll ps).length ≤ (n + 2) * m := Nat.mul_le_mul_left _ (by omega)
    rw [Nat.add_mul] at c
    omega
theorem shownKv_len {n : Nat} : ∀ {kvs : List (PyData × PyData)}, (∀ q ∈ kvs, q.1.shown.length ≤ 402 ∧ q.2.shown.length ≤ n) → (∀ t ∈ PyData.shownKv kvs, t.length ≤ n + 404) ∧ (PyData.shownKv kvs).length = kvs.length
  | [], _ => ⟨(fun t ht => by cases (show t ∈ ([] : List Str) from ht)), rfl⟩
  | (a, b) :: r, h => by
    obtain ⟨h1, h2⟩ := shownKv_len (kvs := r) fun q hq => h q (List.mem_cons_of_mem _ hq)
    obtain ⟨g1, g2⟩ := h (a, b) List.mem_cons_self
    have g1 : a.shown.length ≤ 402 := g1
    have g2 : b.shown.length ≤ n := g2
    refine ⟨fun t ht => ?_, ?_⟩
    · rcases List.mem_cons.mp (show t ∈ (a.shown ++ ": " ++ b.shown) :: PyData.shownKv r from ht) with z | z
      · rw [z, strLen_append, strLen_append, show (": " : Str).length = 2 from rfl]
        omega
      · exact h1 t z
    · show ((a.shown ++ ": " ++ b.shown) :: PyData.shownKv r).length = _
      rw [List.length_cons, List.length_cons, h2]
theorem showKv_all : ∀ {kvs : List (PyData × PyData)}, (∀ q ∈ kvs, q.1.showable = true ∧ q.2.showable = true) → PyData.showableKv kvs = true
  | [], _ => rfl
  | (a, b) :: r, h => by
    have h1 := showKv_all (kvs := r) fun q hq => h q (List.mem_cons_of_mem _ hq)
    obtain ⟨g1, g2⟩ := h (a, b) List.mem_cons_self
    show (a.showable && b.showable && PyData.showableKv r) = true
    rw [show a.showable = true from g1, show b.showable = true from g2, h1]; rfl
theorem depthKv_le {k : Nat} : ∀ {kvs : List (PyData × PyData)}, (∀ q ∈ kvs, q.1.depth ≤ k ∧ q.2.depth ≤ k) → PyData.depthKv kvs ≤ k
  | [], _ => by simp [PyData.depthKv]
  | (a, b) :: r, h => by
    have h1 := depthKv_le (kvs := r) fun q hq => h q (List.mem_cons_of_mem _ hq)
    obtain ⟨g1, g2⟩ := h (a, b) List.mem_cons_self
    have g1 : a.depth ≤ k := g1
    have g2 : b.depth ≤ k := g2
    simp only [PyData.depthKv]
    omega
/-- a dict of texts -/
theorem Ps.dK {k n m : Nat} {xs : List Str} {vs : List D} (hx : ∀ x ∈ xs, IsW x) (h : ∀ v ∈ vs, Ps (k + 1) n v) (hl : xs.length = vs.length) (hm : vs.length ≤ m) : Ps (k + 2) ((n + 406) * m + 3) (.dK (xs.map Sum.inr) vs) := by
  have h : ∀ x ∈ vs, Ps (k + 1) n x := h
  obtain ⟨ps, h1, h2, h4, h5, h6, h7⟩ := ps_all h
  have each : ∀ {l : List D} {qs : List PyData}, (∀ f, pyGL f l = some qs) → (∀ x ∈ l, Ps (k + 1) n x) → ∀ q ∈ qs, q.showable = true ∧ q.depth ≤ k + 1 ∧ q.shown.length ≤ n := fun {l} => by
    induction l with
    | nil => intro qs e _ q hq; cases (e fun _ => none); cases hq
    | cons x l ih =>
      intro qs e hh q hq
      obtain ⟨p, hp⟩ := hh x List.mem_cons_self
      obtain ⟨ps, g1, _⟩ := ps_all (xs := l) fun y hy => hh y (List.mem_cons_of_mem _ hy)
      have e1 := e fun _ => none
      have e1 : (match pyG (fun _ => none) x, pyGL (fun _ => none) l with | some p, some ps => some (p :: ps) | _, _ => none) = some qs := e1
      rw [hp.rep, g1] at e1
      obtain rfl : p :: ps = qs := Option.some.inj e1
      rcases List.mem_cons.mp hq with rfl | hq
      · exact ⟨hp.shw, hp.dep, hp.len⟩
      · exact ih g1 (fun y hy => hh y (List.mem_cons_of_mem _ hy)) q hq
  have hk : ((xs.map Sum.inr).map keyP : List PyData) = xs.map .str := by rw [List.map_map]; rfl
  have pr : ∀ q ∈ ((xs.map Sum.inr).map keyP).zip ps, (q.1.showable = true ∧ q.2.showable = true) ∧ (q.1.depth ≤ k + 1 ∧ q.2.depth ≤ k + 1) ∧ q.1.shown.length ≤ 402 ∧ q.2.shown.length ≤ n := fun q hq => by
    rw [hk] at hq
    obtain ⟨z1, z2⟩ := List.of_mem_zip hq
    obtain ⟨x, hx', e⟩ := List.mem_map.mp z1
    obtain ⟨y1, y2, y3⟩ := each h1 h q.2 z2
    obtain ⟨px, hpx⟩ := Pl.str (hx x hx')
    have e2 : px = .str x := Option.some.inj ((hpx.rep fun _ => none).symm.trans rfl)
    rw [← e, ← e2]
    exact ⟨⟨hpx.shw, y1⟩, ⟨Nat.le_trans hpx.dep (by omega), y2⟩, hpx.len, y3⟩
  refine ⟨.dict (((xs.map Sum.inr).map keyP).zip ps), fun f => ?_, ?_, ?_, ?_⟩
  · show (pyGL f vs).map (fun ps => PyData.dict (((xs.map Sum.inr).map keyP).zip ps)) = _
    rw [h1]; rfl
  · exact showKv_all fun q hq => (pr q hq).1
  · have := depthKv_le fun q hq => (pr q hq).2.1
    simp only [PyData.depth]
    omega
  · obtain ⟨a1, a2⟩ := shownKv_len fun q hq => (pr q hq).2.2
    show (dictText (PyData.shownKv _)).length ≤ _
    have a := dictText_len_le (PyData.shownKv (((xs.map Sum.inr).map keyP).zip ps))
    have b := sum_max a1
    have lz : (((xs.map Sum.inr).map keyP).zip ps).length ≤ m := by
      rw [List.length_zip]
      omega
    have c : (n + 404 + 2) * (PyData.shownKv (((xs.map Sum.inr).map keyP).zip ps)).length ≤ (n + 406) * m := Nat.mul_le_mul_left _ (by omega)
    rw [Nat.add_mul] at c
    omega
theorem Ps.nil {k n : Nat} : ∀ x ∈ ([] : List D), Ps k n x := fun _ h => by cases h
theorem Ps.cons {k n : Nat} {d : D} {xs : List D} (h : Ps k n d) (hr : ∀ x ∈ xs, Ps k n x) : ∀ x ∈ d :: xs, Ps k n x := fun x hx => by
  rcases List.mem_cons.mp hx with rfl | hx
  · exact h
  · exact hr x hx
theorem Ps.repr {c : Cells} {k n : Nat} {d : D} (h : Ps k n d) (hs : isSeq d = true) (hk : k ≤ 40) (hn : n ≤ sizeLine) : ∃ s, ∀ c, reprF c [d] = some (Out.val (D.str s)) := by
  obtain ⟨p, h⟩ := h
  refine ⟨p.shown, fun c => ?_⟩
  have e : pyF c 2 d = some p := h.rep _
  have e0 : reprF c [d] = (match (if isSeq d then pyF c 2 d else none) with
    | some p => if p.showable = true ∧ p.depth ≤ 40 ∧ p.shown.length ≤ sizeLine then some (Out.val (D.str p.shown)) else none
    | none => none) := by cases d <;> first | rfl | cases hs
  rw [e0]
  rw [hs, if_pos rfl, e]
  simp only
  rw [if_pos ⟨h.shw, Nat.le_trans h.dep hk, Nat.le_trans h.len hn⟩]
end Eng
namespace Eng
open PySem PySem.Spec PyProof.Rows L2
theorem strsD_map : ∀ ws : List Str, strsD (ws.map .str) = some ws
  | [] => rfl
  | x :: ws => by show (strsD (ws.map .str)).map (x :: ·) = _; rw [strsD_map ws]; rfl
theorem sort_strs {ws : List Str} (h : ws.length < 64) : sortF [.lst (ws.map .str)] = some (.new (.lst ((sortW ws).map .str))) := by
  show (match strsD (ws.map .str) with | some ws => if ws.length < 64 then some (Out.new (D.lst ((sortW ws).map D.str))) else none | none => (llD (ws.map .str)).map fun xss => Out.new (D.lst ((sortLL xss).map fun u : List Str => D.lst (u.map .str)))) = _
  rw [strsD_map]
  show (if ws.length < 64 then _ else _) = _
  rw [if_pos h]
theorem llD_map : ∀ xss : List (List Str), llD (xss.map fun u => D.lst (u.map .str)) = some xss
  | [] => rfl
  | u :: xss => by
    show (match strsD (u.map .str), llD (xss.map fun u => D.lst (u.map .str)) with | some xs, some xss => some (xs :: xss) | _, _ => none) = _
    rw [strsD_map, llD_map xss]
theorem sort_ll {xss : List (List Str)} : sortF [.lst (xss.map fun u => D.lst (u.map .str))] = some (.new (.lst ((sortLL xss).map fun u => D.lst (u.map .str)))) := by
  cases xss with
  | nil => exact (sort_strs (ws := []) (by decide)).trans (by rw [show sortW [] = [] from List.length_eq_zero_iff.mp ((sortW_perm []).length_eq), show sortLL [] = [] from List.length_eq_zero_iff.mp ((sortLL_perm []).length_eq)]; rfl)
  | cons u xss =>
    show (llD ((u :: xss).map fun u => D.lst (u.map .str))).map (fun xss => Out.new (D.lst ((sortLL xss).map fun u : List Str => D.lst (u.map .str)))) = _
    rw [llD_map]; rfl
theorem o_sortll {c : Cells} {xss : List (List Str)} : bfF .sorted c [.lst (xss.map fun u => D.lst (u.map .str))] = some (.new (.lst ((sortLL xss).map fun u => D.lst (u.map .str)))) := Eq.trans (Eq.refl _) sort_ll
theorem eqs_strs2 {c : Cells} {a b a' b' : List Str} : cmpB c .Eq (.lst [.lst (a.map .str), .lst (b.map .str)]) (.lst [.lst (a'.map .str), .lst (b'.map .str)]) = some (decide (a = a' ∧ b = b')) := by
  rw [cmp_eq, show deep = (9 + 2) + 1 from rfl, eqD_lst, if_pos (show [D.lst (a.map .str), D.lst (b.map .str)].length = [D.lst (a'.map .str), D.lst (b'.map .str)].length from rfl), eqZ_cons, eq_strs, eqZ_cons, eq_strs, eqZ_nil]
  simp only [Option.bind_some, Option.map_some]
  by_cases h1 : a = a' <;> by_cases h2 : b = b' <;> simp [h1, h2]
theorem o_sorted {c : Cells} {ws : List Str} {P : D × Bool → Cells → Prop} {E : D → Cells → Prop} : Ew (outA (bfF .sorted c [.lst (ws.map .str)]) c) P E ↔ An (ws.length < 64) (P (.lst ((sortW ws).map .str), true) c) := by
  show Ew (outA (sortF [.lst (ws.map .str)]) c) P E ↔ _
  constructor
  · intro h
    by_cases hl : ws.length < 64
    · rw [sort_strs hl] at h
      exact ⟨hl, h⟩
    · have : sortF [.lst (ws.map .str)] = none := by
        show (match strsD (ws.map .str) with | some ws => if ws.length < 64 then some (Out.new (D.lst ((sortW ws).map D.str))) else none | none => (llD (ws.map .str)).map fun xss => Out.new (D.lst ((sortLL xss).map fun u : List Str => D.lst (u.map .str)))) = _
        rw [strsD_map]
        show (if ws.length < 64 then _ else _) = _
        rw [if_neg hl]
      rw [this] at h
      exact h.elim
  · rintro ⟨hl, h⟩
    rw [sort_strs hl]
    exact h
theorem o_tuple {c : Cells} {xs : List D} : bfF .tuple c [.lst xs] = some (.new (.tup xs)) := Eq.trans (Eq.refl _) (Eq.refl _)
theorem sortW_len {xs : List Str} : (sortW xs).length = xs.length := (sortW_perm xs).length_eq
theorem law_of {T : FT} {d : Df} {ns : List Int} (h : Ew (runD T d [.scr ns] []) (fun r _ => r.1 = .bl true) (fun _ _ => False)) : ∃ fr c, runD T d [.scr ns] [] = some (.ok (.bl true, fr), c) := by
  revert h
  generalize runD T d [.scr ns] [] = m
  intro h
  rcases m with _ | ⟨⟨⟨d, fr⟩⟩ | ⟨x⟩, c⟩
  · exact h.elim
  · obtain rfl : d = .bl true := h
    exact ⟨fr, c, rfl⟩
  · exact h.elim
theorem is_bl {c : Cells} {x y : Bool} : cmpB c .Is (.bl x) (.bl y) = some (decide (x = y)) := Eq.trans (Eq.refl _) (Eq.refl _)
theorem isn_bl {c : Cells} {x y : Bool} : cmpB c .IsNot (.bl x) (.bl y) = some (!decide (x = y)) := Eq.trans (Eq.refl _) (Eq.refl _)
theorem it_txt {x : Str} : itemsI .seq [.str x] = some (signsD x) := rfl
theorem list_txt {c : Cells} {x : Str} {P : D × Bool → Cells → Prop} {E : D → Cells → Prop} : Ew (outA (listF [.str x]) c) P E ↔ An (x.length ≤ sizeLine) (P (.lst (signsD x), true) c) := by
  show Ew (outA (if x.length ≤ sizeLine then some (Out.new (.lst (signsD x))) else none) c) P E ↔ _
  by_cases h : x.length ≤ sizeLine
  · rw [if_pos h]; exact ⟨fun q => ⟨h, q⟩, fun q => q.2⟩
  · rw [if_neg h]; exact ⟨fun q => q.elim, fun q => absurd q.1 h⟩
theorem eq_bl {c : Cells} {x y : Bool} : cmpB c .Eq (.bl x) (.bl y) = some (x == y) := Eq.trans (Eq.refl _) (Eq.refl _)
theorem ne_bl {c : Cells} {x y : Bool} : cmpB c .NotEq (.bl x) (.bl y) = some (!(x == y)) := Eq.trans (Eq.refl _) (Eq.refl _)
section
variable {c : Cells} {ρ : Rho} {Q : Fl → Rho → Cells → Prop}
theorem m_gen {m : MM} {x : D} {ds : List D} : Sv (mutA m ρ x ds c) Q ↔ An (solL ds = true) (Bx (derS ρ c x) fun d => Bx (mutF m d ds) fun d' => Sv (putL x d' ρ c) Q) := by
  unfold mutA
  by_cases hs : solL ds = true
  · rw [if_pos hs]
    cases e1 : derS ρ c x with
    | none => exact ⟨fun h => h.elim, fun ⟨_, _, z, _⟩ => by cases z⟩
    | some d =>
      cases e2 : mutF m d ds with
      | none => exact ⟨fun h => by simp only [e2] at h; exact h.elim, fun ⟨_, _, z, _, z2, _⟩ => by cases z; rw [e2] at z2; cases z2⟩
      | some d' => exact ⟨fun h => by simp only [e2] at h; exact ⟨hs, d, rfl, d', e2, h⟩, fun ⟨_, _, z, _, z2, h⟩ => by cases z; rw [e2] at z2; cases z2; simp only [e2]; exact h⟩
  · rw [if_neg hs]
    exact ⟨fun h => h.elim, fun h => absurd h.1 hs⟩
theorem m_ext {x : D} {ds : List D} : Sv (mutA .extend ρ x ds c) Q ↔ An (solL ds = true) (Bx (derS ρ c x) fun d => Bx (mutF .extend d ds) fun d' => Sv (putL x d' ρ c) Q) := m_gen
theorem m_ins {x : D} {ds : List D} : Sv (mutA .insert ρ x ds c) Q ↔ An (solL ds = true) (Bx (derS ρ c x) fun d => Bx (mutF .insert d ds) fun d' => Sv (putL x d' ρ c) Q) := m_gen
theorem m_rev {x : D} {ds : List D} : Sv (mutA .reverse ρ x ds c) Q ↔ An (solL ds = true) (Bx (derS ρ c x) fun d => Bx (mutF .reverse d ds) fun d' => Sv (putL x d' ρ c) Q) := m_gen
theorem m_pop {x : D} {ds : List D} : Sv (mutA .pop ρ x ds c) Q ↔ An (solL ds = true) (Bx (derS ρ c x) fun d => Bx (mutF .pop d ds) fun d' => Sv (putL x d' ρ c) Q) := m_gen
theorem m_clr {x : D} {ds : List D} : Sv (mutA .clear ρ x ds c) Q ↔ An (solL ds = true) (Bx (derS ρ c x) fun d => Bx (mutF .clear d ds) fun d' => Sv (putL x d' ρ c) Q) := m_gen
theorem b_mext {xs ys : List D} {p : D → Prop} : Bx (mutF .extend (.lst xs) [.lst ys]) p ↔ An (xs.length + ys.length ≤ sizeLine) (p (.lst (xs ++ ys))) := by
  show Bx (if xs.length + ys.length ≤ sizeLine then some (D.lst (xs ++ ys)) else none) p ↔ _
  rw [bx_if, bx_some]
theorem b_mins {xs : List D} {i : Int} {y : D} {p : D → Prop} : Bx (mutF .insert (.lst xs) [.int i, y]) p ↔ An (xs.length < sizeLine) (An (0 ≤ i) (An (i < 9223372036854775808) (p (.lst (xs.take i.toNat ++ [y] ++ xs.drop i.toNat))))) := by
  show Bx (if xs.length < sizeLine ∧ 0 ≤ i ∧ i < 9223372036854775808 then some (D.lst (xs.take i.toNat ++ [y] ++ xs.drop i.toNat)) else none) p ↔ _
  rw [bx_if, bx_some, an_and, an_and]
theorem b_mrev {xs : List D} {p : D → Prop} : Bx (mutF .reverse (.lst xs) []) p ↔ p (.lst xs.reverse) := bx_some
theorem b_mpop {xs : List D} {p : D → Prop} : Bx (mutF .pop (.lst xs) []) p ↔ An (¬ xs.length = 0) (p (.lst xs.dropLast)) := by
  show Bx (if xs.length = 0 then none else some (D.lst xs.dropLast)) p ↔ _
  by_cases h : xs.length = 0
  · rw [if_pos h]; exact ⟨fun q => (by obtain ⟨_, z, _⟩ := q; cases z), fun q => absurd h q.1⟩
  · rw [if_neg h]; exact ⟨fun q => (by obtain ⟨_, z, q⟩ := q; cases z; exact ⟨h, q⟩), fun q => ⟨_, rfl, q.2⟩⟩
theorem b_mclr {xs : List D} {p : D → Prop} : Bx (mutF .clear (.lst xs) []) p ↔ p (.lst []) := bx_some
end
section
variable {c : Cells} {ρ : Rho} {T : FT} {P : D × Bool → Cells → Prop} {E : D → Cells → Prop}
theorem w_glb {i : Nat} : Ew (ev T (.glb i) ρ c) P E ↔ Bx (T.g i) fun d => P (d, false) c := by
  show Ew (match T.g i with | some d => some (R.ok (d, false), c) | none => none) P E ↔ _
  cases T.g i with
  | none => exact ⟨fun h => h.elim, fun ⟨_, z, _⟩ => by cases z⟩
  | some d => exact ⟨fun h => ⟨d, rfl, h⟩, fun ⟨_, z, h⟩ => by cases z; exact h⟩
theorem t_glb {i : Nat} {B : Bool → Cells → Prop} : Ew (evT T (.glb i) ρ c) B E ↔ Ew (ev T (.glb i) ρ c) (fun x c => Bx (truth ρ c x.1) fun k => B k c) E := evT_truth rfl
theorem pt_glb {i : Nat} {P : Option Int → Cells → Prop} : Ew (partA T (.glb i) ρ c) P E ↔ Ew (ev T (.glb i) ρ c) (fun x c => Bx (isInt x.1) fun i => P (some i) c) E := w_part rfl
theorem eqs_ints2 {xs ys : List Int} : cmpB c .Eq (.lst (xs.map .int)) (.lst (ys.map .int)) = some (decide (xs = ys)) := by
  rw [cmp_eq, show deep = 10 + 2 from rfl]
  exact eq_ints xs ys
theorem ne_ints2 {xs ys : List Int} : cmpB c .NotEq (.lst (xs.map .int)) (.lst (ys.map .int)) = some (!decide (xs = ys)) := by
  rw [cmp_ne]
  show (eqD deep c _ _).map _ = _
  rw [show deep = 10 + 2 from rfl, eq_ints xs ys]; rfl
theorem eqs_intnil {xs : List Int} : cmpB c .Eq (.lst (xs.map .int)) (.lst []) = some (decide (xs = [])) := eqs_ints2 (ys := [])
theorem ne_intnil {xs : List Int} : cmpB c .NotEq (.lst (xs.map .int)) (.lst []) = some (!decide (xs = [])) := ne_ints2 (ys := [])
end
section
variable {c : Cells} {P : D × Bool → Cells → Prop} {E : D → Cells → Prop}
/-- a or b, a and b: what it comes to -/
theorem Br.val {k : Bool} {x : D} {m : Ans (D × Bool)} (R : D → Cells → Prop) (h1 : k = true → R x c) (h2 : k = false → Ew m (fun d c => R d.1 c) fun _ _ => False) (hP : ∀ d fr c, R d c → P (d, fr) c) : Br k (P (x, false) c) (Ew m P E) := by
  cases k with
  | true => exact hP _ _ _ (h1 rfl)
  | false => exact (h2 rfl).use fun a c h => hP a.1 a.2 c h
theorem Br.val2 {k : Bool} {x : D} {m : Ans (D × Bool)} (R : D → Cells → Prop) (h1 : k = true → Ew m (fun d c => R d.1 c) fun _ _ => False) (h2 : k = false → R x c) (hP : ∀ d fr c, R d c → P (d, fr) c) : Br k (Ew m P E) (P (x, false) c) := by
  cases k with
  | true => exact (h1 rfl).use fun a c h => hP a.1 a.2 c h
  | false => exact hP _ _ _ (h2 rfl)
theorem Br.both2 {k : Bool} {m m' : Ans (D × Bool)} (R : D → Cells → Prop) (h1 : k = true → Ew m (fun d c => R d.1 c) fun _ _ => False) (h2 : k = false → Ew m' (fun d c => R d.1 c) fun _ _ => False) (hP : ∀ d fr c, R d c → P (d, fr) c) : Br k (Ew m P E) (Ew m' P E) := by
  cases k with
  | true => exact (h1 rfl).use fun a c h => hP a.1 a.2 c h
  | false => exact (h2 rfl).use fun a c h => hP a.1 a.2 c h
end
section
variable {α : Type} {xs : List α} {a b n m : Nat}
theorem nc_add : (a : Int) + (b : Int) = ((a + b : Nat) : Int) := by omega
theorem nc_addl : (a : Int) + (no_index (OfNat.ofNat n : Int)) = ((a + n : Nat) : Int) := by show (a : Int) + (n : Int) = _; omega
theorem nc_ladd : (no_index (OfNat.ofNat n : Int)) + (a : Int) = ((n + a : Nat) : Int) := by show (n : Int) + (a : Int) = _; omega
theorem nc_mul : (a : Int) * (b : Int) = ((a * b : Nat) : Int) := (Int.natCast_mul a b).symm
theorem nc_mull : (a : Int) * (no_index (OfNat.ofNat n : Int)) = ((a * n : Nat) : Int) := (Int.natCast_mul a n).symm
theorem nc_lmul : (no_index (OfNat.ofNat n : Int)) * (a : Int) = ((n * a : Nat) : Int) := (Int.natCast_mul n a).symm
theorem cutL_mid : cutL xs (some (a : Int)) (some (b : Int)) = (xs.take b).drop a := by
  rw [cutL_mid_i (by omega) (by omega)]; rfl
theorem cutL_take_l : cutL xs none (some (no_index (OfNat.ofNat n : Int))) = xs.take n := cutL_take
theorem cutL_drop_l : cutL xs (some (no_index (OfNat.ofNat n : Int))) none = xs.drop n := cutL_drop
theorem cutL_mid_ll : cutL xs (some (no_index (OfNat.ofNat n : Int))) (some (no_index (OfNat.ofNat m : Int))) = (xs.take m).drop n := cutL_mid
theorem cutL_mid_lc : cutL xs (some (no_index (OfNat.ofNat n : Int))) (some (b : Int)) = (xs.take b).drop n := cutL_mid
theorem cutL_mid_cl : cutL xs (some (a : Int)) (some (no_index (OfNat.ofNat n : Int))) = (xs.take n).drop a := cutL_mid
end
section
variable {a n : Nat}
theorem nc_modl : (a : Int) % (no_index (OfNat.ofNat n : Int)) = ((a % n : Nat) : Int) := (Int.natCast_emod a n).symm
theorem nc_divl : (a : Int) / (no_index (OfNat.ofNat n : Int)) = ((a / n : Nat) : Int) := (Int.natCast_ediv a n).symm
end
theorem ty_non : tyD .non = some .non := Eq.trans (Eq.refl _) (Eq.refl _)
theorem ty_bl {x : Bool} : tyD (.bl x) = some .bl := Eq.trans (Eq.refl _) (Eq.refl _)
theorem ty_int {x : Int} : tyD (.int x) = some .int := Eq.trans (Eq.refl _) (Eq.refl _)
theorem ty_str {x : Str} : tyD (.str x) = some .str := Eq.trans (Eq.refl _) (Eq.refl _)
theorem ty_tup {x : List D} : tyD (.tup x) = some .tup := Eq.trans (Eq.refl _) (Eq.refl _)
theorem ty_gt {x : List D} : tyD (.gt x) = some .tup := Eq.trans (Eq.refl _) (Eq.refl _)
theorem ty_lstD {x : List D} : tyD (.lst x) = some .lst := Eq.trans (Eq.refl _) (Eq.refl _)
theorem ty_scr {x : List Int} : tyD (.scr x) = some .lst := Eq.trans (Eq.refl _) (Eq.refl _)
theorem ty_dK {k : List Key} {x : List D} : tyD (.dK k x) = some .dct := Eq.trans (Eq.refl _) (Eq.refl _)
theorem ty_dT {k : List (List Key)} {x : List D} : tyD (.dT k x) = some .dct := Eq.trans (Eq.refl _) (Eq.refl _)
theorem isi_non_bl : isiB .non .bl = false := Eq.trans (Eq.refl false) (Eq.refl false)
theorem isi_non_int : isiB .non .int = false := Eq.trans (Eq.refl false) (Eq.refl false)
theorem isi_non_str : isiB .non .str = false := Eq.trans (Eq.refl false) (Eq.refl false)
theorem isi_non_tup : isiB .non .tup = false := Eq.trans (Eq.refl false) (Eq.refl false)
theorem isi_non_lst : isiB .non .lst = false := Eq.trans (Eq.refl false) (Eq.refl false)
theorem isi_non_dct : isiB .non .dct = false := Eq.trans (Eq.refl false) (Eq.refl false)
theorem isi_bl_bl : isiB .bl .bl = true := Eq.trans (Eq.refl true) (Eq.refl true)
theorem isi_bl_int : isiB .bl .int = true := Eq.trans (Eq.refl true) (Eq.refl true)
theorem isi_bl_str : isiB .bl .str = false := Eq.trans (Eq.refl false) (Eq.refl false)
theorem isi_bl_tup : isiB .bl .tup = false := Eq.trans (Eq.refl false) (Eq.refl false)
theorem isi_bl_lst : isiB .bl .lst = false := Eq.trans (Eq.refl false) (Eq.refl false)
theorem isi_bl_dct : isiB .bl .dct = false := Eq.trans (Eq.refl false) (Eq.refl false)
theorem isi_int_bl : isiB .int .bl = false := Eq.trans (Eq.refl false) (Eq.refl false)
theorem isi_int_int : isiB .int .int = true := Eq.trans (Eq.refl true) (Eq.refl true)
theorem isi_int_str : isiB .int .str = false := Eq.trans (Eq.refl false) (Eq.refl false)
theorem isi_int_tup : isiB .int .tup = false := Eq.trans (Eq.refl false) (Eq.refl false)
theorem isi_int_lst : isiB .int .lst = false := Eq.trans (Eq.refl false) (Eq.refl false)
theorem isi_int_dct : isiB .int .dct = false := Eq.trans (Eq.refl false) (Eq.refl false)
theorem isi_str_bl : isiB .str .bl = false := Eq.trans (Eq.refl false) (Eq.refl false)
theorem isi_str_int : isiB .str .int = false := Eq.trans (Eq.refl false) (Eq.refl false)
theorem isi_str_str : isiB .str .str = true := Eq.trans (Eq.refl true) (Eq.refl true)
theorem isi_str_tup : isiB .str .tup = false := Eq.trans (Eq.refl false) (Eq.refl false)
theorem isi_str_lst : isiB .str .lst = false := Eq.trans (Eq.refl false) (Eq.refl false)
theorem isi_str_dct : isiB .str .dct = false := Eq.trans (Eq.refl false) (Eq.refl false)
theorem isi_tup_bl : isiB .tup .bl = false := Eq.trans (Eq.refl false) (Eq.refl false)
theorem isi_tup_int : isiB .tup .int = false := Eq.trans (Eq.refl false) (Eq.refl false)
theorem isi_tup_str : isiB .tup .str = false := Eq.trans (Eq.refl false) (Eq.refl false)
theorem isi_tup_tup : isiB .tup .tup = true := Eq.trans (Eq.refl true) (Eq.refl true)
theorem isi_tup_lst : isiB .tup .lst = false := Eq.trans (Eq.refl false) (Eq.refl false)
theorem isi_tup_dct : isiB .tup .dct = false := Eq.trans (Eq.refl false) (Eq.refl false)
theorem isi_lst_bl : isiB .lst .bl = false := Eq.trans (Eq.refl false) (Eq.refl false)
theorem isi_lst_int : isiB .lst .int = false := Eq.trans (Eq.refl false) (Eq.refl false)
theorem isi_lst_str : isiB .lst .str = false := Eq.trans (Eq.refl false) (Eq.refl false)
theorem isi_lst_tup : isiB .lst .tup = false := Eq.trans (Eq.refl false) (Eq.refl false)
theorem isi_lst_lst : isiB .lst .lst = true := Eq.trans (Eq.refl true) (Eq.refl true)
theorem isi_lst_dct : isiB .lst .dct = false := Eq.trans (Eq.refl false) (Eq.refl false)
theorem isi_dct_bl : isiB .dct .bl = false := Eq.trans (Eq.refl false) (Eq.refl false)
theorem isi_dct_int : isiB .dct .int = false := Eq.trans (Eq.refl false) (Eq.refl false)
theorem isi_dct_str : isiB .dct .str = false := Eq.trans (Eq.refl false) (Eq.refl false)
theorem isi_dct_tup : isiB .dct .tup = false := Eq.trans (Eq.refl false) (Eq.refl false)
theorem isi_dct_lst : isiB .dct .lst = false := Eq.trans (Eq.refl false) (Eq.refl false)
theorem isi_dct_dct : isiB .dct .dct = true := Eq.trans (Eq.refl true) (Eq.refl true)
section
variable {c : Cells} {ρ : Rho} {T : FT} {P : D × Bool → Cells → Prop} {E : D → Cells → Prop} {B : Bool → Cells → Prop} {a o k z : EX}
theorem w_lend {f : Nat} {es : EXs} : Ew (ev T (.lend f es) ρ c) P E ↔ Ew (evs T es ρ c) (fun ds c => Bx (dersL ρ c ds) fun es => Ew (callA (T f) es (deadC c)) (fun d _ => An (keepB d = true) (P d c)) fun _ _ => False) E := by
  refine Ew_bnd.trans ⟨fun h => h.mono (fun ds c q => ?_) fun _ _ z => z, fun h => h.mono (fun ds c q => ?_) fun _ _ z => z⟩
  · unfold lendA at q
    cases e1 : dersL ρ c ds with
    | none => rw [e1] at q; exact q.elim
    | some es =>
      rw [e1] at q
      refine ⟨es, rfl, ?_⟩
      unfold callA
      cases e2 : T.f f with
      | none => rw [e2] at q; exact q.elim
      | some ns =>
        obtain ⟨n, s⟩ := ns
        rw [e2] at q
        dsimp only at q ⊢
        by_cases hc : (solL es && decide (es.length = n)) = true
        · rw [if_pos hc] at q ⊢
          revert q
          generalize s es (deadC c) = m
          intro q
          rcases m with _ | ⟨⟨d⟩ | ⟨x⟩, c3⟩
          · exact q.elim
          · have q : Ew (if keepB d then some (.ok d, c) else none) P E := q
            by_cases hk : keepB d = true
            · rw [if_pos hk] at q; exact ⟨hk, q⟩
            · rw [if_neg hk] at q; exact q.elim
          · exact q.elim
        · rw [if_neg hc] at q; exact q.elim
  · obtain ⟨es, e1, q⟩ := q
    unfold lendA
    rw [e1]
    unfold callA at q
    cases e2 : T.f f with
    | none => rw [e2] at q; exact q.elim
    | some ns =>
      obtain ⟨n, s⟩ := ns
      rw [e2] at q
      dsimp only at q ⊢
      by_cases hc : (solL es && decide (es.length = n)) = true
      · rw [if_pos hc] at q ⊢
        revert q
        generalize s es (deadC c) = m
        intro q
        rcases m with _ | ⟨⟨d⟩ | ⟨x⟩, c3⟩
        · exact q.elim
        · obtain ⟨hk, q⟩ := q
          show Ew (if keepB d then some (.ok d, c) else none) P E
          rw [if_pos hk]; exact q
        · exact q.elim
      · rw [if_neg hc] at q; exact q.elim
theorem ob_lst {xs : List D} : isObjD (.lst xs) = true := Eq.trans (Eq.refl true) (Eq.refl true)
theorem w_box : Ew (ev T (.box a) ρ c) P E ↔ Ew (ev T a ρ c) (fun d c => An ((d.2 && isObjD d.1) = true) (P (.cell c.length, false) (c ++ [some d.1]))) E := by
  refine Ew_bnd.trans ⟨fun h => h.mono (fun d c q => ?_) fun _ _ z => z, fun h => h.mono (fun d c q => ?_) fun _ _ z => z⟩
  · unfold boxA at q
    split at q
    · rename_i hc; exact ⟨hc, q⟩
    · exact q.elim
  · unfold boxA
    rw [if_pos q.1]
    exact q.2
theorem t_box : Ew (evT T (.box a) ρ c) B E ↔ Ew (ev T (.box a) ρ c) (fun x c => Bx (truth ρ c x.1) fun k => B k c) E := evT_truth rfl
theorem tf_box : testF T (.box a) ρ c = evT T (.box a) ρ c := rfl
theorem pt_box {P : Option Int → Cells → Prop} : Ew (partA T (.box a) ρ c) P E ↔ Ew (ev T (.box a) ρ c) (fun x c => Bx (isInt x.1) fun i => P (some i) c) E := w_part rfl
theorem t_lend {f : Nat} {es : EXs} : Ew (evT T (.lend f es) ρ c) B E ↔ Ew (ev T (.lend f es) ρ c) (fun x c => Bx (truth ρ c x.1) fun k => B k c) E := evT_truth rfl
theorem tf_lend {f : Nat} {es : EXs} : testF T (.lend f es) ρ c = evT T (.lend f es) ρ c := rfl
theorem pt_lend {f : Nat} {es : EXs} {P : Option Int → Cells → Prop} : Ew (partA T (.lend f es) ρ c) P E ↔ Ew (ev T (.lend f es) ρ c) (fun x c => Bx (isInt x.1) fun i => P (some i) c) E := w_part rfl
theorem kb_int {i : Int} {fr : Bool} : keepB (.int i, fr) = true := by cases fr <;> exact Eq.trans (Eq.refl true) (Eq.refl true)
theorem kb_bl {i : Bool} {fr : Bool} : keepB (.bl i, fr) = true := by cases fr <;> exact Eq.trans (Eq.refl true) (Eq.refl true)
theorem kb_str {i : Str} {fr : Bool} : keepB (.str i, fr) = true := by cases fr <;> exact Eq.trans (Eq.refl true) (Eq.refl true)
theorem kb_non {fr : Bool} : keepB (.non, fr) = true := by cases fr <;> exact Eq.trans (Eq.refl true) (Eq.refl true)
theorem kb_strs {xs : List Str} : keepB (.lst (xs.map .str), true) = true := by
  show (xs.map D.str).all scalD = true
  rw [List.all_map]; simp [scalD, Function.comp_def]
theorem kb_ints {xs : List Int} : keepB (.lst (xs.map .int), true) = true := by
  show (xs.map D.int).all scalD = true
  rw [List.all_map]; simp [scalD, Function.comp_def]
theorem kb_nil : keepB (.lst [], true) = true := Eq.trans (Eq.refl true) (Eq.refl true)
theorem nt_nil : numT .nil = 0 := Eq.trans (Eq.refl 0) (Eq.refl 0)
theorem nt_cons {t : TG} {r : TGs} : numT (.cons t r) = numT r + 1 := Eq.trans (Eq.refl _) (Eq.refl _)
theorem take_s {a : D} {l : List D} {n : Nat} : (a :: l).take (n + 1) = a :: l.take n := List.take_succ_cons
theorem take_z {l : List D} : l.take 0 = [] := List.take_zero
theorem drop_s {a : D} {l : List D} {n : Nat} : (a :: l).drop (n + 1) = l.drop n := List.drop_succ_cons
theorem drop_z {l : List D} : l.drop 0 = l := List.drop_zero
theorem b_star {ts : TGs} {ds : List D} {Q : Rho → Prop} : Bx (starT ts (.tup ds) ρ) Q ↔ An (numT ts - 1 ≤ ds.length ∧ ds.length ≤ 16384) (Bx (bindTs ts (ds.take (numT ts - 1) ++ [.lst (ds.drop (numT ts - 1))]) ρ) Q) := by
  show Bx (if numT ts - 1 ≤ ds.length ∧ ds.length ≤ 16384 then _ else none) Q ↔ _
  split
  · rename_i h; exact ⟨fun q => ⟨h, q⟩, fun q => q.2⟩
  · rename_i h; exact ⟨fun ⟨_, e, _⟩ => (nomatch e), fun q => absurd q.1 h⟩
theorem b_tpl {ts : TGs} {ds : List D} {Q : Rho → Prop} : Bx (bindT (.tp ts) (.lst ds) ρ) Q ↔ Bx (bindTs ts ds ρ) Q := Iff.rfl
theorem w_ofset {f : SF} : Ew (ev T (.ofset f a) ρ c) P E ↔ Ew (ev T a ρ c) (fun x c => Ew (prim (sfF f) ρ [x.1] c) P E) E := one_ew (k := fun d c => prim (sfF f) ρ [d] c)
theorem t_ofset {f : SF} : Ew (evT T (.ofset f a) ρ c) B E ↔ Ew (ev T (.ofset f a) ρ c) (fun x c => Bx (truth ρ c x.1) fun k => B k c) E := evT_truth rfl
theorem tf_ofset {f : SF} : testF T (.ofset f a) ρ c = evT T (.ofset f a) ρ c := rfl
theorem outA_if {k : Prop} [Decidable k] {o : Out} {P : D × Bool → Cells → Prop} {E : D → Cells → Prop} : Ew (outA (if k then some o else none) c) P E ↔ An k (Ew (outA (some o) c) P E) := by
  by_cases hk : k
  · rw [if_pos hk]; exact ⟨fun h => ⟨hk, h⟩, fun h => h.2⟩
  · rw [if_neg hk]; exact ⟨fun h => h.elim, fun h => absurd h.1 hk⟩
theorem o_repr_int {i : Int} {P : D × Bool → Cells → Prop} {E : D → Cells → Prop} : Ew (outA (reprF c [.int i]) c) P E ↔ An (i.natAbs.log2 < 1920) (P (.str (PyData.int i).shown, false) c) := outA_if
theorem o_repr_bl {b : Bool} {P : D × Bool → Cells → Prop} {E : D → Cells → Prop} : Ew (outA (reprF c [.bl b]) c) P E ↔ P (.str (PyData.bool b).shown, false) c := Iff.rfl
theorem o_repr_non {P : D × Bool → Cells → Prop} {E : D → Cells → Prop} : Ew (outA (reprF c [.non]) c) P E ↔ P (.str PyData.none.shown, false) c := Iff.rfl
theorem o_sets {ws : List Str} : Ew (outA (sfF .sorted c [.lst (ws.map .str)]) c) P E ↔ An (ws.length < 4000) (An ((nubW ws).length < 64) (P (.lst ((sortW (nubW ws)).map .str), true) c)) := by
  show Ew (outA ((strsD (ws.map .str)).bind fun ws => if ws.length < 4000 ∧ (nubW ws).length < 64 then some (.new (.lst ((sortW (nubW ws)).map .str))) else none) c) P E ↔ _
  rw [strsD_map]
  exact outA_if.trans an_and
theorem o_setl {ws : List Str} : Ew (outA (sfF .len c [.lst (ws.map .str)]) c) P E ↔ An (ws.length < 4000 ∨ (nubW ws).length < 64) (P (.int (nubW ws).length, false) c) := by
  show Ew (outA ((strsD (ws.map .str)).bind fun ws => if ws.length < 4000 ∨ (nubW ws).length < 64 then some (.val (.int (nubW ws).length)) else none) c) P E ↔ _
  rw [strsD_map]
  exact outA_if
theorem intsD_mapf {α : Type} {g : α → Int} : ∀ xs : List α, intsD (xs.map fun x => D.int (g x)) = some (xs.map g)
  | [] => rfl
  | x :: r => by
    show (intsD (r.map fun x => D.int (g x))).map (g x :: ·) = _
    rw [intsD_mapf r]; rfl
theorem outA_ifn {k : Prop} [Decidable k] {o : Out} {P : D × Bool → Cells → Prop} {E : D → Cells → Prop} : Ew (outA (if k then none else some o) c) P E ↔ An (¬ k) (Ew (outA (some o) c) P E) := by
  by_cases hk : k
  · rw [if_pos hk]; exact ⟨fun h => h.elim, fun h => absurd hk h.1⟩
  · rw [if_neg hk]; exact ⟨fun h => ⟨hk, h⟩, fun h => h.2⟩
theorem o_maxf {α : Type} {g : α → Int} {xs : List α} : Ew (outA (maxF [.lst (xs.map fun x => D.int (g x))]) c) P E ↔ An (¬ xs.map g = []) (P (.int (bigI (xs.map g)), false) c) := by
  show Ew (outA ((intsD (xs.map fun x => D.int (g x))).bind fun bs => if bs = [] then none else some (.val (.int (bigI bs)))) c) P E ↔ _
  rw [intsD_mapf]
  exact outA_ifn
theorem o_minf {α : Type} {g : α → Int} {xs : List α} : Ew (outA (minF [.lst (xs.map fun x => D.int (g x))]) c) P E ↔ An (¬ xs.map g = []) (P (.int (smlI (xs.map g)), false) c) := by
  show Ew (outA ((intsD (xs.map fun x => D.int (g x))).bind fun bs => if bs = [] then none else some (.val (.int (smlI bs)))) c) P E ↔ _
  rw [intsD_mapf]
  exact outA_ifn
theorem o_maxl {xs : List Int} : Ew (outA (maxF [.lst (xs.map D.int)]) c) P E ↔ An (¬ xs = []) (P (.int (bigI xs), false) c) := by
  have := o_maxf (c := c) (P := P) (E := E) (g := fun x : Int => x) (xs := xs)
  rwa [List.map_id'] at this
theorem o_minl {xs : List Int} : Ew (outA (minF [.lst (xs.map D.int)]) c) P E ↔ An (¬ xs = []) (P (.int (smlI xs), false) c) := by
  have := o_minf (c := c) (P := P) (E := E) (g := fun x : Int => x) (xs := xs)
  rwa [List.map_id'] at this
theorem o_dm {i j : Int} : Ew (outA (bfF .divmod c [.int i, .int j]) c) P E ↔ An (0 < j ∧ (j < 1073741824 ∨ (-340282366920938463463374607431768211456 < i ∧ i < 340282366920938463463374607431768211456))) (P (.tup [.int (i / j), .int (i % j)], true) c) := outA_if
theorem w_dctK : Ew (ev T (.dct true) ρ c) P E ↔ P (.dK [] [], true) c := Iff.rfl
theorem w_dctT : Ew (ev T (.dct false) ρ c) P E ↔ P (.dT [] [], true) c := Iff.rfl
theorem w_isi {t : TY} : Ew (ev T (.isi a t) ρ c) P E ↔ Ew (ev T a ρ c) (fun x c => Bx ((derS ρ c x.1).bind tyD) fun y => P (.bl (isiB y t), false) c) E := by
  refine one_ew.trans ⟨fun h => h.mono (fun x c q => ?_) fun _ _ z => z, fun h => h.mono (fun x c q => ?_) fun _ _ z => z⟩
  · obtain ⟨d, e1, e2⟩ := Ew_lift.mp q
    obtain ⟨y, e3, rfl⟩ := Option.map_eq_some_iff.mp e1
    exact ⟨y, e3, e2⟩
  · obtain ⟨y, e3, e2⟩ := q
    exact Ew_lift.mpr ⟨_, Option.map_eq_some_iff.mpr ⟨y, e3, rfl⟩, e2⟩
theorem t_isi {t : TY} : Ew (evT T (.isi a t) ρ c) B E ↔ Ew (ev T (.isi a t) ρ c) (fun x c => Bx (truth ρ c x.1) fun k => B k c) E := evT_truth rfl
theorem tf_isi {t : TY} : testF T (.isi a t) ρ c = evT T (.isi a t) ρ c := rfl
theorem w_dget : Ew (ev T (.dget o k z) ρ c) P E ↔ Ew (ev T o ρ c) (fun x c => An (isDct (derS ρ c x.1) = true) (Ew (ev T k ρ c) (fun q c => Ew (ev T z ρ c) (fun z c => An (sol z.1 = true) (Bx (derS ρ c x.1) fun d => Bx (derS ρ c q.1) fun q => Bx (dgetF d q z.1) fun r => P (r, false) c)) E) E)) E := by
  refine one_ew.trans ?_
  have key : ∀ (x : D × Bool) (c : Cells), Ew (if isDct (derS ρ c x.1) = true then bnd (fstM (ev T k ρ c)) fun q c => bnd (bnd (fstM (ev T z ρ c)) fun z c => bnd (some (.ok [], c)) fun ds c => some (.ok (z :: ds), c)) fun ds c => dgetA ρ c x.1 (q :: ds) else none) P E ↔
      An (isDct (derS ρ c x.1) = true) (Ew (ev T k ρ c) (fun q c => Ew (ev T z ρ c) (fun z c => An (sol z.1 = true) (Bx (derS ρ c x.1) fun d => Bx (derS ρ c q.1) fun q => Bx (dgetF d q z.1) fun r => P (r, false) c)) E) E) := fun x c => by
    have inner : ∀ (q z : D) (c : Cells), Ew (dgetA ρ c x.1 [q, z]) P E ↔ An (sol z = true) (Bx (derS ρ c x.1) fun d => Bx (derS ρ c q) fun q => Bx (dgetF d q z) fun r => P (r, false) c) := fun q z c => by
      unfold dgetA
      simp only
      by_cases hz : sol z = true
      · rw [if_pos hz]
        cases e1 : derS ρ c x.1 with
        | none => exact ⟨fun h => h.elim, fun ⟨_, _, z, _⟩ => by cases z⟩
        | some d =>
          cases e2 : derS ρ c q with
          | none => exact ⟨fun h => h.elim, fun ⟨_, _, _, _, z, _⟩ => by cases z⟩
          | some q' =>
            cases e3 : dgetF d q' z with
            | none => exact ⟨fun h => by simp only [e3] at h; exact h.elim, fun ⟨_, _, z1, _, z2, _, z3, _⟩ => by cases z1; cases z2; rw [e3] at z3; cases z3⟩
            | some r => exact ⟨fun h => by simp only [e3] at h; exact ⟨hz, d, rfl, q', rfl, r, e3, h⟩, fun ⟨_, _, z1, _, z2, _, z3, h⟩ => by cases z1; cases z2; rw [e3] at z3; cases z3; simp only [e3]; exact h⟩
      · rw [if_neg hz]
        exact ⟨fun h => h.elim, fun h => absurd h.1 hz⟩
    by_cases hd : isDct (derS ρ c x.1) = true
    · rw [if_pos hd]
      refine Iff.trans ?_ (show _ ↔ An (isDct (derS ρ c x.1) = true) _ from ⟨fun h => ⟨hd, h⟩, fun h => h.2⟩)
      refine one_ew.trans ⟨fun h => h.mono (fun q c h => ?_) fun _ _ z => z, fun h => h.mono (fun q c h => ?_) fun _ _ z => z⟩
      · exact (one_ew.mp (Ew_bnd.mp h)).mono (fun z c h => (inner _ _ _).mp h) fun _ _ z => z
      · exact Ew_bnd.mpr (one_ew.mpr (h.mono (fun z c h => (inner _ _ _).mpr h) fun _ _ z => z))
    · rw [if_neg hd]
      exact ⟨fun h => h.elim, fun h => absurd h.1 hd⟩
  exact ⟨fun h => h.mono (fun x c q => (key x c).mp q) fun _ _ z => z, fun h => h.mono (fun x c q => (key x c).mpr q) fun _ _ z => z⟩
theorem t_dget : Ew (evT T (.dget o k z) ρ c) B E ↔ Ew (ev T (.dget o k z) ρ c) (fun x c => Bx (truth ρ c x.1) fun k => B k c) E := evT_truth rfl
theorem b_dgs {ks : List Key} {vs : List D} {x : Str} {z : D} {p : D → Prop} : Bx (dgetF (.dK ks vs) (.str x) z) p ↔ p ((dget ks vs (.inr x)).getD z) := bx_some
theorem b_dgi {ks : List Key} {vs : List D} {x : Int} {z : D} {p : D → Prop} : Bx (dgetF (.dK ks vs) (.int x) z) p ↔ p ((dget ks vs (.inl x)).getD z) := bx_some
end
/-! a row of statements cut in two -/
def takeS : Nat → STs → STs
  | 0, _ => .nil
  | _ + 1, .nil => .nil
  | n + 1, .cons s r => .cons s (takeS n r)
  | n + 1, .frz i r => .frz i (takeS n r)
def dropS : Nat → STs → STs
  | 0, r => r
  | _ + 1, .nil => .nil
  | n + 1, .cons _ r => dropS n r
  | n + 1, .frz _ r => dropS n r
theorem sv_cut {T : FT} : ∀ {n : Nat} {ss : STs} {ρ : Rho} {c : Cells} {Q : Fl → Rho → Cells → Prop}, Sv (exSs T ss ρ c) Q ↔ Sv (exSs T (takeS n ss) ρ c) (seqQ (exSs T (dropS n ss)) Q)
  | 0, ss, ρ, c, Q => Iff.rfl
  | _ + 1, .nil, ρ, c, Q => Iff.rfl
  | n + 1, .cons s r, ρ, c, Q => by
    refine ss_cons.trans (Iff.trans ?_ ss_cons.symm)
    constructor
    · intro h
      refine h.mono fun fl ρ c q => ?_
      cases fl <;> first | exact sv_cut.mp q | exact q
    · intro h
      refine h.mono fun fl ρ c q => ?_
      cases fl <;> first | exact sv_cut.mpr q | exact q
  | n + 1, .frz i r, ρ, c, Q => sv_cut (n := n) (ss := r) (ρ := frzR ρ i)
theorem Sv.at {T : FT} {ss : STs} {ρ : Rho} {c : Cells} {Q : Fl → Rho → Cells → Prop} (n : Nat) (M : Rho → Cells → Prop) (h : Sv (exSs T (takeS n ss) ρ c) (midQ M Q)) (k : ∀ ρ c, M ρ c → Sv (exSs T (dropS n ss) ρ c) Q) : Sv (exSs T ss ρ c) Q :=
  sv_cut.mpr (h.mono fun fl ρ c q => by cases fl <;> first | exact q | exact k _ _ q)
end Eng

/-! Eng29: raise, try, what a suite holds -/
namespace Eng
open PySem PySem.Spec PyProof.Rows L2
section
variable {T : FT} {ρ : Rho} {c : Cells} {P : D × Bool → Cells → Prop} {E : D → Cells → Prop} {B : Bool → Cells → Prop} {Q : Fl → Rho → Cells → Prop} {i : Nat} {ds cs : List Nat} {tt : Bool} {g : Str}
theorem w_exis : Ew (ev T (.exis i ds cs tt) ρ c) P E ↔ Bx (exsI ds cs ρ[i]?) fun b => P (.bl b, false) c := by
  refine Ew_lift.trans ⟨fun ⟨d, e, h⟩ => ?_, fun ⟨b, e, h⟩ => ⟨_, by rw [e]; rfl, h⟩⟩
  obtain ⟨b, e1, rfl⟩ := Option.map_eq_some_iff.mp e
  exact ⟨b, e1, h⟩
theorem t_exis : Ew (evT T (.exis i ds cs tt) ρ c) B E ↔ Ew (ev T (.exis i ds cs tt) ρ c) (fun x c => Bx (truth ρ c x.1) fun k => B k c) E := evT_truth rfl
theorem tf_exis : testF T (.exis i ds cs tt) ρ c = evT T (.exis i ds cs tt) ρ c := rfl
theorem w_exfd : Ew (ev T (.exfd i ds g) ρ c) P E ↔ Bx (exfD ds g ρ[i]?) fun d => P (d, false) c := by
  refine Ew_lift.trans ⟨fun ⟨d, e, h⟩ => ?_, fun ⟨b, e, h⟩ => ⟨_, by rw [e]; rfl, h⟩⟩
  obtain ⟨b, e1, rfl⟩ := Option.map_eq_some_iff.mp e
  exact ⟨b, e1, h⟩
theorem t_exfd : Ew (evT T (.exfd i ds g) ρ c) B E ↔ Ew (ev T (.exfd i ds g) ρ c) (fun x c => Bx (truth ρ c x.1) fun k => B k c) E := evT_truth rfl
theorem tf_exfd : testF T (.exfd i ds g) ρ c = evT T (.exfd i ds g) ρ c := rfl
theorem ss_raise {cl : Nat} {f : Option Str} {es : EXs} : Sv (exS T (.raise cl f es) ρ c) Q ↔ Ew (evs T es ρ c) (fun ds c => An (solL ds = true) (An (ds.length = (nmL f).length) (Q (.ex (.ins cl (nmL f) ds)) ρ c))) (fun x c => Q (.ex x) ρ c) := by
  refine Sv_stB.trans ⟨fun h => h.mono (fun ds c q => ?_) fun _ _ z => z, fun h => h.mono (fun ds c q => ?_) fun _ _ z => z⟩
  · unfold raiseF at q
    by_cases hc : (solL ds && decide (ds.length = (nmL f).length)) = true
    · rw [if_pos hc] at q
      rw [Bool.and_eq_true, decide_eq_true_eq] at hc
      exact ⟨hc.1, hc.2, q⟩
    · rw [if_neg hc] at q; exact q.elim
  · unfold raiseF
    rw [if_pos (by rw [Bool.and_eq_true, decide_eq_true_eq]; exact ⟨q.1, q.2.1⟩)]
    exact q.2.2
/-- behind a suite -/
def endQ (i : Option Nat) (Q : Fl → Rho → Cells → Prop) (_t : Tk Q := .mk) : Fl → Rho → Cells → Prop
  | .ex _ => fun _ _ => False
  | .nx => fun ρ c => An (noX (outX i ρ) = true) (Q .nx (outX i ρ) c)
  | .bk => fun ρ c => An (noX (outX i ρ) = true) (Q .bk (outX i ρ) c)
  | .ct => fun ρ c => An (noX (outX i ρ) = true) (Q .ct (outX i ρ) c)
  | .rt d fr => fun ρ c => An (noX (outX i ρ) = true) (Q (.rt d fr) (outX i ρ) c)
theorem Sv_end {r : AnsS} {i : Option Nat} : Sv (endX i r) Q ↔ Sv r (endQ i Q) := by
  rcases r with _ | ⟨fl, ρ, c⟩
  · exact Iff.rfl
  · have key : ∀ {fl : Fl}, Sv (if noX (outX i ρ) then some (fl, outX i ρ, c) else none) Q ↔ An (noX (outX i ρ) = true) (Q fl (outX i ρ) c) := fun {fl} => by
      by_cases h : noX (outX i ρ) = true
      · rw [if_pos h]; exact ⟨fun q => ⟨h, q⟩, fun q => q.2⟩
      · rw [if_neg h]; exact ⟨fun q => q.elim, fun q => absurd q.1 h⟩
    cases fl with
    | ex x => exact Iff.rfl
    | nx => exact key
    | bk => exact key
    | ct => exact key
    | rt d fr => exact key
theorem endQ_nx {i : Option Nat} : (endQ i Q) .nx ρ c ↔ An (noX (outX i ρ) = true) (Q .nx (outX i ρ) c) := Iff.rfl
theorem endQ_bk {i : Option Nat} : (endQ i Q) .bk ρ c ↔ An (noX (outX i ρ) = true) (Q .bk (outX i ρ) c) := Iff.rfl
theorem endQ_ct {i : Option Nat} : (endQ i Q) .ct ρ c ↔ An (noX (outX i ρ) = true) (Q .ct (outX i ρ) c) := Iff.rfl
theorem endQ_rt {i : Option Nat} {d : D} {fr : Bool} : (endQ i Q) (.rt d fr) ρ c ↔ An (noX (outX i ρ) = true) (Q (.rt d fr) (outX i ρ) c) := Iff.rfl
/-- behind a try's body -/
def tryQ (ds : List Nat) (cl : Nat) (i : Option Nat) (suite : Rho → Cells → AnsS) (Q : Fl → Rho → Cells → Prop) (_t : Tk Q := .mk) : Fl → Rho → Cells → Prop
  | .ex x => fun ρ c => Sv (tryF ds cl i suite (some (.ex x, ρ, c))) Q
  | .nx => fun ρ c => Q .nx ρ c
  | .bk => fun ρ c => Q .bk ρ c
  | .ct => fun ρ c => Q .ct ρ c
  | .rt d fr => fun ρ c => Q (.rt d fr) ρ c
theorem tryQ_nx {cl : Nat} {i : Option Nat} {s : Rho → Cells → AnsS} : (tryQ ds cl i s Q) .nx ρ c ↔ Q .nx ρ c := Iff.rfl
theorem tryQ_bk {cl : Nat} {i : Option Nat} {s : Rho → Cells → AnsS} : (tryQ ds cl i s Q) .bk ρ c ↔ Q .bk ρ c := Iff.rfl
theorem tryQ_ct {cl : Nat} {i : Option Nat} {s : Rho → Cells → AnsS} : (tryQ ds cl i s Q) .ct ρ c ↔ Q .ct ρ c := Iff.rfl
theorem tryQ_rt {cl : Nat} {i : Option Nat} {s : Rho → Cells → AnsS} {d : D} {fr : Bool} : (tryQ ds cl i s Q) (.rt d fr) ρ c ↔ Q (.rt d fr) ρ c := Iff.rfl
/-- what is caught -/
theorem tryQ_ex {cl : Nat} {i : Option Nat} {s : Rho → Cells → AnsS} {d : Nat} {nm : List Str} {vs : List D} (h1 : ds.contains d = true) (h2 : isaX d cl = true) (h3 : noX ρ = true) (h : Sv (s (inX i (.ins d nm vs) ρ) c) (endQ i Q)) : (tryQ ds cl i s Q) (.ex (.ins d nm vs)) ρ c := by
  show Sv (if ds.contains d then (if isaX d cl then (if noX ρ then endX i (s (inX i (.ins d nm vs) ρ) c) else none) else some (.ex (.ins d nm vs), ρ, c)) else none) Q
  rw [if_pos h1, if_pos h2, if_pos h3]
  exact Sv_end.mpr h
theorem Sv_try {cl : Nat} {i : Option Nat} {s : Rho → Cells → AnsS} {r : AnsS} : Sv (tryF ds cl i s r) Q ↔ Sv r (tryQ ds cl i s Q) := by
  rcases r with _ | ⟨fl, ρ, c⟩
  · exact Iff.rfl
  · cases fl <;> exact Iff.rfl
theorem ss_try {b s : STs} {cl : Nat} {i : Option Nat} : Sv (exS T (.tryS b ds cl i s) ρ c) Q ↔ Sv (exSs T b ρ c) (tryQ ds cl i (exSs T s) Q) := Sv_try
theorem nml_some : nmL (some g) = [g] := rfl
theorem nml_none : nmL none = [] := rfl
theorem inx_some {x : D} : inX (some i) x ρ = ρ.set i (.exc x) := rfl
theorem inx_none {x : D} : inX none x ρ = ρ := rfl
theorem outx_some : outX (some i) ρ = ρ.set i .non := rfl
theorem outx_none : outX none ρ = ρ := rfl
theorem exf_at {d : Nat} {v : D} (h : ds.contains d = true) : exfD ds g (some (.exc (.ins d [g] [v]))) = some v := by
  unfold exfD
  simp only [h, decide_true, Bool.and_self, if_true]
theorem o_join {a : Str} {ys : List Str} : Ew (outA (joinF [.str a, .lst (ys.map .str)]) c) P E ↔ An ((ys.map (·.length)).sum + ys.length * a.length ≤ 16777216) (P (.str (Txt.join a ys), false) c) := by
  show Ew (outA (match strsD (ys.map .str) with
    | some ys => if (ys.map (·.length)).sum + ys.length * a.length ≤ 16777216 then some (.val (.str (Txt.join a ys))) else none
    | none => none) c) P E ↔ _
  rw [strsD_map]
  exact outA_if
theorem w_dsp {es : EXs} : Ew (ev T (.dsp es) ρ c) P E ↔ Ew (evs T es ρ c) (fun ds c => Bx (dspF ds) fun l => An (solL ds = true) (An (l.length ≤ 15) (P (.dK (mrgD [] [] l).1 (mrgD [] [] l).2, true) c))) E := by
  refine Ew_bnd.trans ⟨fun h => h.mono (fun ds c q => ?_) fun _ _ z => z, fun h => h.mono (fun ds c q => ?_) fun _ _ z => z⟩
  · unfold dspA at q
    split at q
    · rename_i l e
      split at q
      · rename_i hc
        rw [Bool.and_eq_true, decide_eq_true_eq] at hc
        exact ⟨l, e, hc.1, hc.2, q⟩
      · exact q.elim
    · exact q.elim
  · obtain ⟨l, e, h1, h2, q⟩ := q
    unfold dspA
    rw [e]
    show Ew (if solL ds && decide (l.length ≤ 15) then _ else _) P E
    rw [if_pos (by rw [Bool.and_eq_true, decide_eq_true_eq]; exact ⟨h1, h2⟩)]
    exact q
theorem ss_forC {tg : TG} {e : EX} {body : STs} : Sv (exS T (.forC tg e body) ρ c) Q ↔ Ew (ev T e ρ c) (fun d c => Sv (forD tg (exSs T body) d.1 ρ c) Q) (fun x c => Q (.ex x) ρ c) := by
  have q : exS T (.forC tg e body) ρ c = stB (fstM (ev T e ρ c)) ρ fun d c => forD tg (exSs T body) d ρ c := rfl
  rw [q]
  exact Sv_stB.trans Ew_fst
theorem for_c {α : Type} {tg : TG} {body : Rho → Cells → AnsS} {n : Nat} {ys : List α} {f : α → D} (I : Nat → Rho → Cells → Prop) (hl : ys.length < 1000000) (h0 : I 0 ρ c)
    (cell : ∀ i ρ c, I i ρ c → c[n]? = some (some (.lst (ys.map f))))
    (step : ∀ i y ρ c, ys[i]? = some y → I i ρ c → Bx (bindT tg (f y) ρ) fun ρ1 => Sv (body ρ1 c) (loopQ (I (i + 1)) Q))
    (done : ∀ ρ c, I ys.length ρ c → Q .nx ρ c) : Sv (forD tg body (.cell n) ρ c) Q := by
  have go : ∀ (k : Nat) (i m : Nat) (ρ : Rho) (c : Cells), i + k = ys.length → k < m → I i ρ c → Sv (forC tg body n m i ρ c) Q := fun k => by
    induction k with
    | zero =>
      intro i m ρ c h hm hi
      obtain ⟨m, rfl⟩ : ∃ j, m = j + 1 := ⟨m - 1, by omega⟩
      unfold forC
      simp only [cell i ρ c hi]
      rw [List.getElem?_eq_none_iff.mpr (by rw [List.length_map]; omega)]
      have : i = ys.length := by omega
      subst this
      exact done ρ c hi
    | succ k ih =>
      intro i m ρ c h hm hi
      obtain ⟨m, rfl⟩ : ∃ j, m = j + 1 := ⟨m - 1, by omega⟩
      unfold forC
      have hlt : i < ys.length := by omega
      have hy := List.getElem?_eq_getElem hlt
      obtain ⟨ρ1, e, s⟩ := step i _ ρ c hy hi
      simp only [cell i ρ c hi]
      rw [List.getElem?_map, hy]
      show Sv (match bindT tg (f ys[i]) ρ with
        | none => none
        | some ρ1 => turnS (body ρ1 c) (forC tg body n m (i + 1))) Q
      rw [e]
      show Sv (turnS (body ρ1 c) (forC tg body n m (i + 1))) Q
      rcases hb : body ρ1 c with _ | ⟨fl, ρ2, c2⟩
      · rw [hb] at s; exact s
      · rw [hb] at s
        cases fl with
        | nx => exact ih (i + 1) m ρ2 c2 (by omega) (by omega) s
        | ct => exact ih (i + 1) m ρ2 c2 (by omega) (by omega) s
        | bk => exact s
        | rt d fr => exact s
        | ex x => exact s
  exact go ys.length 0 wfuel ρ c (by omega) (by unfold wfuel; omega) h0
end
end Eng

/-! Eng30: rows of targets, displays of one pair, comprehensions of two walks -/
namespace Eng
open PySem PySem.Spec PyProof.Rows L2
section
variable {T : FT} {ρ : Rho} {c : Cells} {Q : Fl → Rho → Cells → Prop} {P : D × Bool → Cells → Prop} {E : D → Cells → Prop}
theorem ss_parA {i j : Nat} {es : EXs} : Sv (exS T (.parA i j es) ρ c) Q ↔ Ew (evsO T es ρ c) (fun ds c => Sv (parG [i, j] ds ρ c) Q) (fun x c => Q (.ex x) ρ c) := Sv_stB
theorem ss_parB {i j l : Nat} {es : EXs} : Sv (exS T (.parB i j l es) ρ c) Q ↔ Ew (evsO T es ρ c) (fun ds c => Sv (parG [i, j, l] ds ρ c) Q) (fun x c => Q (.ex x) ρ c) := Sv_stB
theorem w_evsO0 {P : List (D × Bool) → Cells → Prop} : Ew (evsO T .nil ρ c) P E ↔ P [] c := Iff.rfl
theorem w_evsO {e : EX} {r : EXs} {P : List (D × Bool) → Cells → Prop} : Ew (evsO T (.cons e r) ρ c) P E ↔ Ew (ev T e ρ c) (fun d c => Bx (nrmD d) fun x => Ew (evsO T r ρ c) (fun xs c => P (x :: xs) c) E) E := by
  refine Ew_bnd.trans ⟨fun h => h.mono (fun d c q => ?_) fun _ _ z => z, fun h => h.mono (fun d c q => ?_) fun _ _ z => z⟩
  · obtain ⟨x, e1, e2⟩ := Ew_lift.mp (Ew_bnd.mp q)
    exact ⟨x, e1, Ew_bnd.mp e2⟩
  · obtain ⟨x, e1, e2⟩ := q
    exact Ew_bnd.mpr (Ew_lift.mpr ⟨x, e1, Ew_bnd.mpr e2⟩)
theorem p_grp {is : List Nat} {ds : List (D × Bool)} : Sv (parG is ds ρ c) Q ↔ Bx (putN is ds ρ) fun ρ' => Q .nx ρ' c := by
  unfold parG
  cases putN is ds ρ with
  | none => exact ⟨fun h => h.elim, fun ⟨_, z, _⟩ => by cases z⟩
  | some ρ' => exact ⟨fun h => ⟨ρ', rfl, h⟩, fun ⟨_, z, h⟩ => by cases z; exact h⟩
theorem p_put0 {Q : Rho → Prop} : Bx (putN [] [] ρ) Q ↔ Q ρ := bx_some
theorem p_put {i : Nat} {is : List Nat} {d : D × Bool} {ds : List (D × Bool)} {Q : Rho → Prop} : Bx (putN (i :: is) (d :: ds) ρ) Q ↔ An (i < ρ.length) (Bx (putN is ds (ρ.set i (putO d))) Q) := bx_if
theorem nrm_lst {xs : List D} : nrmD (.lst xs, true) = some (.lst xs, true) := Eq.trans (Eq.refl _) (Eq.refl _)
theorem nrm_dK {ks : List Key} {vs : List D} : nrmD (.dK ks vs, true) = some (.dK ks vs, true) := Eq.trans (Eq.refl _) (Eq.refl _)
theorem nrm_dT {ks : List (List Key)} {vs : List D} : nrmD (.dT ks vs, true) = some (.dT ks vs, true) := Eq.trans (Eq.refl _) (Eq.refl _)
theorem nrm_tup {xs : List D} : nrmD (.tup xs, true) = some (.tup xs, false) := Eq.trans (Eq.refl _) (Eq.refl _)
theorem nrm_int {i : Int} {fr : Bool} : nrmD (.int i, fr) = some (.int i, false) := by cases fr <;> exact Eq.trans (Eq.refl _) (Eq.refl _)
theorem nrm_str {i : Str} {fr : Bool} : nrmD (.str i, fr) = some (.str i, false) := by cases fr <;> exact Eq.trans (Eq.refl _) (Eq.refl _)
theorem nrm_bl {i : Bool} {fr : Bool} : nrmD (.bl i, fr) = some (.bl i, false) := by cases fr <;> exact Eq.trans (Eq.refl _) (Eq.refl _)
theorem nrm_non {fr : Bool} : nrmD (.non, fr) = some (.non, false) := by cases fr <;> exact Eq.trans (Eq.refl _) (Eq.refl _)
theorem nrm_val {d : D} {p : D × Bool → Prop} : Bx (nrmD (d, false)) p ↔ An (sol d = true) (p (d, false)) := by
  have e : nrmD (d, false) = if sol d = true then some (d, false) else none := Eq.trans (Eq.refl _) (Eq.refl _)
  rw [e, bx_if, bx_some]
theorem pto_own {d : D} : putO (d, true) = .own d := Eq.trans (Eq.refl _) (Eq.refl _)
theorem pto_val {d : D} : putO (d, false) = .val d := Eq.trans (Eq.refl _) (Eq.refl _)
def key1 : D → Option (List Key)
  | .tup ks => keysD ks
  | _ => none
theorem b_key1 {ks : List D} : key1 (.tup ks) = keysD ks := Eq.trans (Eq.refl _) (Eq.refl _)
theorem w_dsp1 {k v : EX} : Ew (ev T (.dsp1 k v) ρ c) P E ↔ Ew (ev T k ρ c) (fun x c => Ew (ev T v ρ c) (fun y c => Bx (key1 x.1) fun q => An (sol y.1 = true) (P (.dT [q] [y.1], true) c)) E) E := by
  refine (two_ew (k := fun x y c => dsp1A x y c)).trans ⟨fun h => h.mono (fun x c q => q.mono (fun y c q => ?_) fun _ _ z => z) fun _ _ z => z, fun h => h.mono (fun x c q => q.mono (fun y c q => ?_) fun _ _ z => z) fun _ _ z => z⟩
  · unfold dsp1A at q
    obtain ⟨x, fr⟩ := x
    cases x with
    | tup ks =>
      cases ek : keysD ks with
      | none => simp only [ek] at q; exact q.elim
      | some z =>
        simp only [ek] at q
        by_cases hs : sol y.1 = true
        · rw [if_pos hs] at q; exact ⟨z, ek, hs, q⟩
        · rw [if_neg hs] at q; exact q.elim
    | _ => exact q.elim
  · obtain ⟨z, ek, hs, q7⟩ := q
    unfold dsp1A
    obtain ⟨x, fr⟩ := x
    cases x with
    | tup ks =>
      have ek : keysD ks = some z := ek
      simp only [ek]
      rw [if_pos hs]
      exact q7
    | _ => cases ek
theorem keys_nil : keysD [] = some [] := Eq.trans (Eq.refl _) (Eq.refl _)
theorem keys_strs : ∀ {xs : List Str}, keysD (xs.map .str) = some (xs.map Sum.inr)
  | [] => rfl
  | x :: xs => by
    show (match keyD (.str x), keysD (xs.map .str) with | some k, some ks => some (k :: ks) | _, _ => none) = _
    rw [keys_strs]
    rfl
def inW (T : FT) (e : EX) : Rho → Cells → Ans (List D) := fun ρ c => bnd (bnd (fstM (ev T e ρ c)) fun d c => some (.ok [d], c)) fun ds c => liftO (itemsI .seq ds) c
theorem w_inW {e : EX} {P : List D → Cells → Prop} : Ew (inW T e ρ c) P E ↔ Ew (ev T e ρ c) (fun d c => Bx (seqD d.1) fun xs => P xs c) E := by
  refine Ew_bnd.trans (Ew_bnd.trans (Ew_fst.trans ⟨fun h => h.mono (fun d c q => ?_) fun _ _ z => z, fun h => h.mono (fun d c q => ?_) fun _ _ z => z⟩))
  · exact (Ew_lift (o := seqD d.1)).mp q
  · exact (Ew_lift (o := seqD d.1)).mpr q
theorem w_lc2 {own : List (Str × Nat)} {elt it1 : EX} {tg tg1 : TG} {k : IK} {its : EXs} : Ew (ev T (.lc2 own elt tg k its tg1 it1) ρ c) P E ↔ Ew (evs T its ρ c) (fun ds c => Bx (itemsI k ds) fun xs =>
    Ew (lc2Go tg (inW T it1) tg1 (ev T elt) (slotsT tg1) (wipeR ρ (own.map (·.2))) xs [] c) (fun acc c => P (.lst acc, true) c) E) E := by
  refine Ew_bnd.trans ⟨fun h => h.mono (fun x c q => ?_) fun _ _ z => z, fun h => h.mono (fun x c q => ?_) fun _ _ z => z⟩
  · cases hd : itemsI k x with
    | none => rw [hd] at q; exact q.elim
    | some d =>
      rw [hd] at q
      exact ⟨d, rfl, Ew_bnd.mp q⟩
  · obtain ⟨xs, e1, e2⟩ := q
    rw [e1]
    exact Ew_bnd.mpr e2
theorem o_rng {n : Int} : Ew (outA (sfF .rng c [.int n]) c) P E ↔ An (0 ≤ n) (An (n ≤ 16777216) (P (.lst ((List.range n.toNat).map fun (i : Nat) => .int (i : Int)), true) c)) := by
  show Ew (outA (if 0 ≤ n ∧ n ≤ 16777216 then some (Out.new (.lst ((List.range n.toNat).map fun (i : Nat) => .int (i : Int)))) else none) c) P E ↔ _
  by_cases h : 0 ≤ n ∧ n ≤ 16777216
  · rw [if_pos h]; exact ⟨fun q => ⟨h.1, h.2, q⟩, fun q => q.2.2⟩
  · rw [if_neg h]; exact ⟨fun q => q.elim, fun q => absurd ⟨q.1, q.2.1⟩ h⟩
theorem b_ltll {xs ys : List Str} : cmpB c .Lt (.lst (xs.map .str)) (.lst (ys.map .str)) = some (lexS xs ys) := by
  show ltLs _ _ = _
  unfold ltLs
  rw [strsQ_map, strsQ_map]
end
section
variable {α β γ : Type} {T : FT} {ρ : Rho} {c : Cells} {P : List D → Cells → Prop} {E : D → Cells → Prop}
theorem lc_acc {tg : TG} {elt : Rho → Cells → Ans (D × Bool)} {f : γ → D} (g : β → D) (h : γ → β) (hg : ∀ b, sol (g b) = true) {ρ : Rho} {c : Cells} : ∀ (zs : List γ) (acc : List D) {P : List D → Cells → Prop} {E : D → Cells → Prop}, acc.length + zs.length ≤ sizeLine →
    (∀ z ∈ zs, Bx (bindT tg (f z) ρ) fun ρ2 => Ew (elt ρ2 c) (fun d c' => d.1 = g (h z) ∧ c' = c) (fun _ _ => False)) → P (acc ++ (zs.map h).map g) c → Ew (lcGo tg (fun _ c => some (.ok true, c)) elt ρ (zs.map f) acc c) P E
  | [], acc, P, E, _, _, q => by rw [List.map_nil, List.map_nil, List.append_nil] at q; exact q
  | z :: zs, acc, P, E, hl, hz, q => by
    obtain ⟨ρ2, e, s⟩ := hz z List.mem_cons_self
    rw [List.length_cons] at hl
    rw [List.map_cons]
    unfold lcGo
    rw [e]
    refine Ew_bnd.mpr ?_
    show Ew (bnd (noex (fstM (elt ρ2 c))) _) P E
    refine Ew_bnd.mpr (Ew_noex.mpr (Ew_fst.mpr (s.mono (fun d c' ⟨e1, e2⟩ => ?_) fun _ _ z => z)))
    subst e2
    show Ew (if (sol d.1 && decide (acc.length < sizeLine)) = true then _ else _) P E
    rw [e1, if_pos (by rw [Bool.and_eq_true, decide_eq_true_eq]; exact ⟨hg _, by omega⟩)]
    refine lc_acc g h hg zs _ (by rw [List.length_append, List.length_singleton]; omega) (fun y hy => hz y (List.mem_cons_of_mem _ hy)) ?_
    rw [List.append_assoc]
    exact q
/-- a comprehension of two walks that changes nothing -/
theorem lc2_p {tg tg1 : TG} {it1 : EX} {elt : Rho → Cells → Ans (D × Bool)} {vs1 : List Nat} {f : α → D} {f1 : γ → D} (g : β → D) (zs : α → List γ) (h : α → γ → β) (hg : ∀ b, sol (g b) = true) {ρ : Rho} {c : Cells} : ∀ (ys : List α) (acc : List D) {P : List D → Cells → Prop} {E : D → Cells → Prop},
    acc.length + (ys.flatMap zs).length ≤ sizeLine →
    (∀ y ∈ ys, Bx (bindT tg (f y) ρ) fun ρ1 => Ew (ev T it1 ρ1 c) (fun d c' => c' = c ∧ seqD d.1 = some ((zs y).map f1) ∧ ∀ z ∈ zs y, Bx (bindT tg1 (f1 z) (wipeR ρ1 vs1)) fun ρ2 => Ew (elt ρ2 c) (fun d c' => d.1 = g (h y z) ∧ c' = c) (fun _ _ => False)) (fun _ _ => False)) →
    P (acc ++ (ys.flatMap fun y => (zs y).map (h y)).map g) c → Ew (lc2Go tg (inW T it1) tg1 elt vs1 ρ (ys.map f) acc c) P E
  | [], acc, P, E, _, _, q => by rw [List.flatMap_nil, List.map_nil, List.append_nil] at q; exact q
  | y :: ys, acc, P, E, hl, hz, q => by
    obtain ⟨ρ1, e, s⟩ := hz y List.mem_cons_self
    rw [List.flatMap_cons, List.length_append] at hl
    rw [List.map_cons]
    unfold lc2Go
    rw [e]
    refine Ew_bnd.mpr (Ew_noex.mpr (w_inW.mpr (s.mono (fun d c' ⟨e1, e2, e3⟩ => ?_) fun _ _ z => z)))
    subst e1
    rw [e2, bx_some]
    refine Ew_bnd.mpr (lc_acc g (h y) hg (zs y) acc (by omega) e3 ?_)
    refine lc2_p g zs h hg ys _ (by rw [List.length_append, List.length_map, List.length_map]; omega) (fun x hx => hz x (List.mem_cons_of_mem _ hx)) ?_
    rw [List.append_assoc, ← List.map_append]
    rw [List.flatMap_cons] at q
    exact q
end
end Eng

/-! FB: what is said twice running is said once: the congruence, its normal form -/
namespace FB
variable {α : Type}
/-- one doubling, anywhere -/
inductive Step : List α → List α → Prop
  | mk (c x d : List α) : Step (c ++ (x ++ x) ++ d) (c ++ x ++ d)
/-- means the same -/
inductive Same : List α → List α → Prop
  | refl (u) : Same u u
  | step {u v} (h : Step u v) : Same u v
  | symm {u v} (h : Same u v) : Same v u
  | trans {u v w} (h : Same u v) (k : Same v w) : Same u w
theorem Same.ctx {u v : List α} (h : Same u v) (c d : List α) : Same (c ++ u ++ d) (c ++ v ++ d) := by
  induction h with
  | refl u => exact .refl _
  | step h =>
    obtain ⟨c', x, d'⟩ := h
    have := Step.mk (c ++ c') x (d' ++ d)
    refine .step ?_
    simpa [List.append_assoc] using this
  | symm _ ih => exact .symm ih
  | trans _ _ i j => exact .trans i j
theorem Same.app {u v u' v' : List α} (h : Same u v) (k : Same u' v') : Same (u ++ u') (v ++ v') := by
  have h1 := h.ctx [] u'
  have h2 := k.ctx v []
  simp only [List.nil_append, List.append_nil] at h1 h2
  exact h1.trans h2
theorem Same.left {u v : List α} (h : Same u v) (c : List α) : Same (c ++ u) (c ++ v) := Same.app (.refl c) h
theorem Same.right {u v : List α} (h : Same u v) (c : List α) : Same (u ++ c) (v ++ c) := Same.app h (.refl c)
theorem Same.dbl (x : List α) : Same (x ++ x) x := by
  have := Step.mk [] x ([] : List α)
  simp only [List.nil_append, List.append_nil] at this
  exact .step this
/-- a word of u, said between u and u -/
theorem abs_one {u : List α} {x : α} (h : x ∈ u) : Same (u ++ [x] ++ u) u := by
  obtain ⟨u1, u2, rfl⟩ := List.append_of_mem h
  -- A = u1 x, B = x u2
  have hA : Same (u1 ++ x :: u2) ((u1 ++ [x]) ++ (x :: u2)) := by
    have := ((Same.dbl [x]).symm).ctx u1 u2
    simpa [List.append_assoc] using this
  generalize hBe : (x :: u2) = B at hA
  have hxB : Same ([x] ++ B) B := by
    rw [← hBe]
    have := (Same.dbl [x]).right u2
    simpa using this
  generalize (u1 ++ [x]) = A at hA
  have goal : Same (A ++ B ++ [x] ++ (A ++ B)) (A ++ B) := by
    have d1 : Same (A ++ B ++ [x] ++ (A ++ B ++ [x]) ++ B) (A ++ B ++ [x] ++ B) := (Same.dbl (A ++ B ++ [x])).right B
    have d2 : Same (A ++ B ++ [x] ++ B) (A ++ B) := by
      have h1 := hxB.left (A ++ B)
      have h2 := (Same.dbl B).left A
      simp only [List.append_assoc] at *
      exact h1.trans h2
    have d3 : Same (A ++ B ++ [x] ++ (A ++ B ++ [x]) ++ B) (A ++ B ++ [x] ++ (A ++ B)) := by
      have h1 := hxB.left (A ++ B ++ [x] ++ A ++ B)
      have h2 := (Same.dbl B).left (A ++ B ++ [x] ++ A)
      simp only [List.append_assoc] at *
      exact h1.trans h2
    exact d3.symm.trans (d1.trans d2)
  exact ((hA.right [x]).app hA).trans (goal.trans hA.symm)
/-- words of u, said between u and u -/
theorem abs_all {u w : List α} (h : ∀ x ∈ w, x ∈ u) : Same (u ++ w ++ u) u := by
  induction w generalizing u with
  | nil => simpa using Same.dbl u
  | cons x w ih =>
    have hx := abs_one (h x List.mem_cons_self)
    have ih' := ih (u := u ++ [x]) fun y hy => List.mem_append_left _ (h y (List.mem_cons_of_mem _ hy))
    -- u x w u ~ u x w (u x u) ~ (u x) u ~ u
    have s1 : Same (u ++ (x :: w) ++ u) (u ++ (x :: w) ++ (u ++ [x] ++ u)) := (hx.symm).left (u ++ (x :: w))
    have s2 : Same (u ++ (x :: w) ++ (u ++ [x] ++ u)) (u ++ [x] ++ u) := by
      have := ih'.right u
      simpa [List.append_assoc] using this
    exact s1.trans (s2.trans hx)
/-- what stands between two speeches of the same words, words of them -/
theorem between {u v z : List α} (huv : ∀ x, x ∈ u ↔ x ∈ v) (hz : ∀ x ∈ z, x ∈ u) : Same (u ++ z ++ v) (u ++ v) := by
  have h1 : Same (v ++ u ++ v) v := abs_all fun x hx => (huv x).mp hx
  have h2 : Same (u ++ (z ++ v) ++ u) u := abs_all fun x hx => by
    rcases List.mem_append.mp hx with q | q
    · exact hz x q
    · exact (huv x).mpr q
  have s1 : Same (u ++ z ++ v) (u ++ z ++ (v ++ u ++ v)) := h1.symm.left (u ++ z)
  have s2 : Same (u ++ z ++ (v ++ u ++ v)) (u ++ v) := by
    have := h2.right v
    simpa [List.append_assoc] using this
  exact s1.trans s2
theorem Same.mem {u v : List α} (h : Same u v) : ∀ x, x ∈ u ↔ x ∈ v := by
  induction h with
  | refl => exact fun _ => Iff.rfl
  | step h => obtain ⟨c, x, d⟩ := h; intro y; simp
  | symm _ ih => exact fun x => (ih x).symm
  | trans _ _ i j => exact fun x => (i x).trans (j x)
/-! ### halves -/
/-- w is p, then a that is not in p, then only words of these -/
def FH (w p : List α) (a : α) : Prop := ∃ r, w = p ++ a :: r ∧ a ∉ p ∧ ∀ x ∈ r, x ∈ p ∨ x = a
theorem FH.uniq {w p q : List α} {a b : α} (h : FH w p a) (k : FH w q b) : p = q ∧ a = b := by
  obtain ⟨r, e1, h1, h2⟩ := h
  obtain ⟨t, e2, k1, k2⟩ := k
  have e := e1.symm.trans e2
  rcases List.append_eq_append_iff.mp e with ⟨c, c1, c2⟩ | ⟨c, c1, c2⟩
  · cases c with
    | nil =>
      simp at c1 c2
      exact ⟨c1.symm, c2.1⟩
    | cons y c =>
      simp at c2
      obtain ⟨rfl, c2⟩ := c2
      -- q = p ++ a :: c, b among r
      have hb : b ∈ r := by rw [c2]; simp
      rcases h2 b hb with z | z
      · exact absurd (by rw [c1]; simp [z]) k1
      · exact absurd (by rw [c1, z]; simp) k1
  · cases c with
    | nil =>
      simp at c1 c2
      exact ⟨c1, c2.1.symm⟩
    | cons y c =>
      simp at c2
      obtain ⟨rfl, c2⟩ := c2
      have hb : a ∈ t := by rw [c2]; simp
      rcases k2 a hb with z | z
      · exact absurd (by rw [c1]; simp [z]) h1
      · exact absurd (by rw [c1, z]; simp) h1
theorem FH.more {w p : List α} {a : α} (h : FH w p a) {d : List α} (hd : ∀ x ∈ d, x ∈ w) : FH (w ++ d) p a := by
  obtain ⟨r, e, h1, h2⟩ := h
  refine ⟨r ++ d, by rw [e]; simp, h1, fun x hx => ?_⟩
  rcases List.mem_append.mp hx with q | q
  · exact h2 x q
  · have := hd x q
    rw [e] at this
    rcases List.mem_append.mp this with z | z
    · exact .inl z
    · rcases List.mem_cons.mp z with z | z
      · exact .inr z
      · exact h2 x z
theorem FH.last {w : List α} {a : α} (h : a ∉ w) : FH (w ++ [a]) w a := ⟨[], rfl, h, fun _ z => by cases z⟩
theorem FH.ex [DecidableEq α] (w : List α) : w ≠ [] → ∃ p a, FH w p a := by
  have go : ∀ (r w : List α), w ≠ [] → (∃ p a, FH w p a) → ∃ p a, FH (w ++ r) p a := fun r => by
    induction r with
    | nil => intro w _ h; simpa using h
    | cons x r ih =>
      intro w hw ⟨p, a, h⟩
      have e : w ++ x :: r = (w ++ [x]) ++ r := by simp
      rw [e]
      by_cases hx : x ∈ w
      · exact ih (w ++ [x]) (by simp) ⟨p, a, h.more fun y hy => by
          have : y = x := by simpa using hy
          rw [this]; exact hx⟩
      · exact ih (w ++ [x]) (by simp) ⟨w, x, .last hx⟩
  intro hw
  cases w with
  | nil => exact absurd rfl hw
  | cons x r => exact go r [x] (by simp) ⟨[], x, by simpa using FH.last (w := []) (a := x) (by simp)⟩
theorem FH.mem {w p : List α} {a : α} (h : FH w p a) : ∀ x, x ∈ p ++ [a] ↔ x ∈ w := by
  obtain ⟨r, rfl, h1, h2⟩ := h
  intro x
  constructor
  · intro q
    rcases List.mem_append.mp q with z | z
    · exact List.mem_append_left _ z
    · have : x = a := by simpa using z
      rw [this]; simp
  · intro q
    rcases List.mem_append.mp q with z | z
    · exact List.mem_append_left _ z
    · rcases List.mem_cons.mp z with z | z
      · rw [z]; simp
      · rcases h2 x z with y | y
        · exact List.mem_append_left _ y
        · rw [y]; simp
theorem FH.ne {w p : List α} {a : α} (h : FH w p a) : w ≠ [] := by
  obtain ⟨r, rfl, _⟩ := h
  simp
/-- where the last new word stands behind W -/
theorem FH.behind {W d p : List α} {a y : α} (h : FH (W ++ d) p a) (hy : y ∈ d) (hW : y ∉ W) : ∃ d1 r, p = W ++ d1 ∧ d = d1 ++ a :: r := by
  obtain ⟨r, e, h1, h2⟩ := h
  rcases List.append_eq_append_iff.mp e with ⟨c, c1, c2⟩ | ⟨c, c1, c2⟩
  · exact ⟨c, r, c1, c2⟩
  · cases c with
    | nil =>
      simp at c1 c2
      exact ⟨[], r, by simp [c1], by simpa using c2.symm⟩
    | cons z c =>
      simp at c2
      obtain ⟨rfl, c2⟩ := c2
      have hr : y ∈ r := by rw [c2]; exact List.mem_append_right _ hy
      refine absurd ?_ hW
      rw [c1]
      rcases h2 y hr with q | q
      · exact List.mem_append_left _ q
      · rw [q]; simp
theorem FH.step [DecidableEq α] {c x d p q : List α} {a b : α} (h : FH (c ++ (x ++ x) ++ d) p a) (k : FH (c ++ x ++ d) q b) : a = b ∧ Same p q := by
  by_cases hd : ∃ y ∈ d, y ∉ c ++ x
  · obtain ⟨y, hy, hW⟩ := hd
    obtain ⟨d1, r, rfl, e⟩ := k.behind hy hW
    obtain ⟨r', e', k1, k2⟩ := k
    have er : r' = r := by
      rw [e] at e'
      simpa [List.append_assoc] using e'.symm
    subst er
    have h' : FH (c ++ (x ++ x) ++ d) (c ++ (x ++ x) ++ d1) b := by
      refine ⟨r', by rw [e]; simp [List.append_assoc], fun z => k1 ?_, fun z hz => ?_⟩
      · simp only [List.mem_append] at z ⊢
        rcases z with (z | z | z) | z <;> simp [z]
      · rcases k2 z hz with q | q
        · refine .inl ?_
          simp only [List.mem_append] at q ⊢
          rcases q with (q | q) | q <;> simp [q]
        · exact .inr q
    obtain ⟨rfl, rfl⟩ := h.uniq h'
    exact ⟨rfl, .step (.mk c x d1)⟩
  · have hd : ∀ y ∈ d, y ∈ c ++ x := fun y hy => Decidable.byContradiction fun z => hd ⟨y, hy, z⟩
    have ne : c ++ x ≠ [] := fun z => by
      have : d = [] := by
        cases d with
        | nil => rfl
        | cons y d =>
          have := hd y List.mem_cons_self
          rw [z] at this
          cases this
      exact k.ne (by rw [z, this]; rfl)
    obtain ⟨p0, a0, f⟩ := FH.ex (c ++ x) ne
    have fv := f.more hd
    have fu : FH (c ++ (x ++ x) ++ d) p0 a0 := by
      have := f.more (d := x ++ d) fun y hy => by
        rcases List.mem_append.mp hy with q | q
        · exact List.mem_append_right _ q
        · exact hd y q
      simpa [List.append_assoc] using this
    obtain ⟨rfl, rfl⟩ := h.uniq fu
    obtain ⟨rfl, rfl⟩ := k.uniq fv
    exact ⟨rfl, .refl _⟩
/-- like speeches have like first halves -/
theorem Same.first [DecidableEq α] {u v : List α} (h : Same u v) : ∀ {p q : List α} {a b : α}, FH u p a → FH v q b → a = b ∧ Same p q := by
  induction h with
  | refl u => exact fun f g => let ⟨e1, e2⟩ := f.uniq g; ⟨e2, e1 ▸ .refl _⟩
  | step h => obtain ⟨c, x, d⟩ := h; exact fun f g => f.step g
  | symm _ ih => exact fun f g => let ⟨e1, e2⟩ := ih g f; ⟨e1.symm, e2.symm⟩
  | @trans u v w h k i j =>
    intro p q a b f g
    have hv : v ≠ [] := fun z => by
      have := (h.mem a).mp ((f.mem a).mp (by simp))
      rw [z] at this; cases this
    obtain ⟨m, c, hm⟩ := FH.ex v hv
    obtain ⟨e1, s1⟩ := i f hm
    obtain ⟨e2, s2⟩ := j hm g
    exact ⟨e1.trans e2, s1.trans s2⟩
theorem Same.rev {u v : List α} (h : Same u v) : Same u.reverse v.reverse := by
  induction h with
  | refl => exact .refl _
  | step h =>
    obtain ⟨c, x, d⟩ := h
    have := Step.mk d.reverse x.reverse c.reverse
    refine .step ?_
    simpa [List.append_assoc] using this
  | symm _ ih => exact .symm ih
  | trans _ _ i j => exact .trans i j
/-- a speech is its first half, then its last half -/
theorem Same.halves {w p s : List α} {a b : α} (h : FH w p a) (k : FH w.reverse s.reverse b) : Same w ((p ++ [a]) ++ ([b] ++ s)) := by
  have h1 := h.mem
  have k1 : ∀ x, x ∈ [b] ++ s ↔ x ∈ w := fun x => by
    have := k.mem x
    simp only [List.mem_append, List.mem_reverse] at this ⊢
    exact Or.comm.trans this
  obtain ⟨r, e, h2, h3⟩ := h
  obtain ⟨t, e', k2, k3⟩ := k
  have e2 : w = t.reverse ++ ([b] ++ s) := by
    have := congrArg List.reverse e'
    simpa [List.append_assoc] using this
  have hw : Same w (w ++ w) := (Same.dbl w).symm
  have e3 : w ++ w = (p ++ [a]) ++ (r ++ t.reverse) ++ ([b] ++ s) := by
    conv => lhs; rw [e]
    conv => lhs; rhs; rw [← e, e2]
    simp [List.append_assoc]
  rw [e3] at hw
  refine hw.trans (between (fun x => (h1 x).trans (k1 x).symm) fun x hx => (h1 x).mpr ?_)
  rcases List.mem_append.mp hx with q | q
  · rw [e]; simp [q]
  · rw [e2]; simp only [List.mem_append]; exact .inl q
/-! ### the shortest speech -/
section
variable [DecidableEq α]
def layGo (one other : List α) : Nat → List α
  | 0 => one ++ other
  | k + 1 => if one.drop (one.length - (k + 1)) = other.take (k + 1) then one ++ other.drop (k + 1) else layGo one other k
/-- other laid as far over one's end as may be -/
def lay (one other : List α) : List α := layGo one other (min one.length other.length)
theorem layGo_same (one other : List α) : ∀ k, Same (layGo one other k) (one ++ other)
  | 0 => .refl _
  | k + 1 => by
    unfold layGo
    by_cases h : one.drop (one.length - (k + 1)) = other.take (k + 1)
    · rw [if_pos h]
      have := Step.mk (one.take (one.length - (k + 1))) (other.take (k + 1)) (other.drop (k + 1))
      refine (Same.step ?_).symm
      have e1 : one = one.take (one.length - (k + 1)) ++ other.take (k + 1) := by rw [← h]; simp
      have e2 : one ++ other = one.take (one.length - (k + 1)) ++ (other.take (k + 1) ++ other.take (k + 1)) ++ other.drop (k + 1) := by
        conv => lhs; rw [e1]
        conv => lhs; rhs; rw [← List.take_append_drop (k + 1) other]
        simp [List.append_assoc]
      have e3 : one ++ other.drop (k + 1) = one.take (one.length - (k + 1)) ++ other.take (k + 1) ++ other.drop (k + 1) := by
        conv => lhs; lhs; rw [e1]
      rw [e2, e3]
      exact this
    · rw [if_neg h]
      exact layGo_same one other k
theorem lay_same (one other : List α) : Same (lay one other) (one ++ other) := layGo_same one other _
/-- each word once, by first places -/
def firsts (w : List α) : List α := w.foldl (fun acc x => if x ∈ acc then acc else acc ++ [x]) []
theorem firsts_snoc (w : List α) (x : α) : firsts (w ++ [x]) = if x ∈ firsts w then firsts w else firsts w ++ [x] := by
  unfold firsts
  rw [List.foldl_append]
  rfl
theorem mem_firsts {w : List α} {x : α} : x ∈ firsts w ↔ x ∈ w := by
  have go : ∀ r : List α, x ∈ firsts r.reverse ↔ x ∈ r.reverse := fun r => by
    induction r with
    | nil => exact Iff.rfl
    | cons y r ih =>
      rw [List.reverse_cons, firsts_snoc]
      by_cases h : y ∈ firsts r.reverse
      · rw [if_pos h, ih]
        constructor
        · exact fun z => List.mem_append_left _ z
        · intro z
          rcases List.mem_append.mp z with z | z
          · exact z
          · have : x = y := by simpa using z
            rw [this] at ih ⊢
            exact ih.mp h
      · rw [if_neg h, List.mem_append, List.mem_append, ih]
  have := go w.reverse
  rwa [List.reverse_reverse] at this
theorem firsts_more {w : List α} : ∀ {r : List α}, (∀ x ∈ r, x ∈ w) → firsts (w ++ r) = firsts w := by
  intro r
  induction r generalizing w with
  | nil => intro _; rw [List.append_nil]
  | cons x r ih =>
    intro h
    have e : w ++ x :: r = (w ++ [x]) ++ r := by simp
    rw [e, ih fun y hy => List.mem_append_left _ (h y (List.mem_cons_of_mem _ hy)), firsts_snoc, if_pos (mem_firsts.mpr (h x List.mem_cons_self))]
theorem firsts_len (w : List α) : (firsts w).length ≤ w.length := by
  have go : ∀ r : List α, (firsts r.reverse).length ≤ r.length := fun r => by
    induction r with
    | nil => exact Nat.le_refl _
    | cons y r ih =>
      rw [List.reverse_cons, firsts_snoc]
      by_cases h : y ∈ firsts r.reverse
      · rw [if_pos h]; exact Nat.le_succ_of_le ih
      · rw [if_neg h, List.length_append]; simpa using ih
  have := go w.reverse
  simpa using this
theorem FH.firsts {w p : List α} {a : α} (h : FH w p a) : firsts w = firsts p ++ [a] := by
  obtain ⟨r, rfl, h1, h2⟩ := h
  have e : p ++ a :: r = (p ++ [a]) ++ r := by simp
  rw [e, firsts_more fun x hx => ?_, firsts_snoc, if_neg (fun z => h1 (mem_firsts.mp z))]
  rcases h2 x hx with z | z
  · exact List.mem_append_left _ z
  · rw [z]; simp
/-- the first half by its computing -/
def half (w : List α) : Option (List α × α) := match (firsts w).getLast? with
  | some a => some (w.take (w.idxOf a), a)
  | none => none
theorem FH.half {w p : List α} {a : α} (h : FH w p a) : half w = some (p, a) := by
  unfold FB.half
  rw [h.firsts, List.getLast?_concat]
  obtain ⟨r, rfl, h1, h2⟩ := h
  have : (p ++ a :: r).idxOf a = p.length := by
    rw [List.idxOf_append, if_neg h1, List.idxOf_cons_self, Nat.zero_add]
  simp only
  rw [this]
  simp
theorem FH.take {w p : List α} {a : α} (h : FH w p a) : w.take (w.idxOf a) = p := by
  obtain ⟨r, rfl, h1, h2⟩ := h
  have : (p ++ a :: r).idxOf a = p.length := by
    rw [List.idxOf_append, if_neg h1, List.idxOf_cons_self, Nat.zero_add]
  rw [this]
  simp
def N : Nat → List α → List α
  | 0, _ => []
  | n + 1, w => match half w, half w.reverse with
    | some (p, a), some (s, b) => lay (N n p ++ [a]) ([b] ++ N n s.reverse)
    | _, _ => []
theorem N_nil (n : Nat) : N n ([] : List α) = [] := by cases n <;> rfl
theorem N_of {w p s : List α} {a b : α} (h : FH w p a) (k : FH w.reverse s.reverse b) (n : Nat) : N (n + 1) w = lay (N n p ++ [a]) ([b] ++ N n s) := by
  show (match FB.half w, FB.half w.reverse with | some (p, a), some (s, b) => lay (N n p ++ [a]) ([b] ++ N n s.reverse) | _, _ => []) = _
  rw [h.half, k.half]
  simp only [List.reverse_reverse]
theorem both {w : List α} (h : w ≠ []) : ∃ (p : List α) (a : α) (s : List α) (b : α), FH w p a ∧ FH w.reverse s.reverse b ∧ p.length < w.length ∧ s.length < w.length := by
  obtain ⟨p, a, f⟩ := FH.ex w h
  obtain ⟨s, b, g⟩ := FH.ex w.reverse (by simpa using h)
  refine ⟨p, a, s.reverse, b, f, by simpa using g, ?_, ?_⟩
  · obtain ⟨r, rfl, _⟩ := f; simp
  · obtain ⟨r, e, _⟩ := g
    have := congrArg List.length e
    simp at this ⊢
    omega
theorem N_same : ∀ (n : Nat) (w : List α), w.length ≤ n → Same (N n w) w
  | 0, w, h => by
    have : w = [] := List.length_eq_zero_iff.mp (by omega)
    subst this
    exact .refl _
  | n + 1, w, h => by
    by_cases hw : w = []
    · subst hw; exact .refl _
    · obtain ⟨p, a, s, b, f, g, l1, l2⟩ := both hw
      rw [N_of f g n]
      have i1 := N_same n p (by omega)
      have i2 := N_same n s (by omega)
      exact (lay_same _ _).trans (((i1.right [a]).app (i2.left [b])).trans (Same.halves f g).symm)
theorem N_eq : ∀ (n m : Nat) (u v : List α), u.length ≤ n → v.length ≤ m → Same u v → N n u = N m v
  | 0, m, u, v, h, k, e => by
    have : u = [] := List.length_eq_zero_iff.mp (by omega)
    subst this
    have : v = [] := by
      cases v with
      | nil => rfl
      | cons x r => have := (e.mem x).mpr List.mem_cons_self; cases this
    subst this
    rw [N_nil, N_nil]
  | n + 1, 0, u, v, h, k, e => by
    have : v = [] := List.length_eq_zero_iff.mp (by omega)
    subst this
    have : u = [] := by
      cases u with
      | nil => rfl
      | cons x r => have := (e.mem x).mp List.mem_cons_self; cases this
    subst this
    rw [N_nil, N_nil]
  | n + 1, m + 1, u, v, h, k, e => by
    by_cases hu : u = []
    · subst hu
      have : v = [] := by
        cases v with
        | nil => rfl
        | cons x r => have := (e.mem x).mpr List.mem_cons_self; cases this
      subst this
      rw [N_nil, N_nil]
    · have hv : v ≠ [] := fun z => by
        subst z
        cases u with
        | nil => exact hu rfl
        | cons x r => have := (e.mem x).mp List.mem_cons_self; cases this
      obtain ⟨p, a, s, b, f, g, l1, l2⟩ := both hu
      obtain ⟨p', a', s', b', f', g', l1', l2'⟩ := both hv
      obtain ⟨rfl, e1⟩ := e.first f f'
      obtain ⟨rfl, e2⟩ := e.rev.first g g'
      have e2 : Same s s' := by
        have := e2.rev
        simpa using this
      rw [N_of f g n, N_of f' g' m, N_eq n m p p' (by omega) (by omega) e1, N_eq n m s s' (by omega) (by omega) e2]
/-- the shortest speech of a meaning -/
def short (w : List α) : List α := N w.length w
theorem short_same (w : List α) : Same (short w) w := N_same _ w (Nat.le_refl _)
/-- like speeches are just those with the same shortest -/
theorem short_iff {u v : List α} : short u = short v ↔ Same u v :=
  ⟨fun h => (short_same u).symm.trans (h ▸ short_same v), fun h => N_eq _ _ u v (Nat.le_refl _) (Nat.le_refl _) h⟩
theorem short_idem (w : List α) : short (short w) = short w := short_iff.mpr (short_same w)
theorem short_nil : short ([] : List α) = [] := rfl
theorem short_of {w p s : List α} {a b : α} (f : FH w p a) (g : FH w.reverse s.reverse b) : short w = lay (short p ++ [a]) ([b] ++ short s) := by
  have hw : w ≠ [] := f.ne
  obtain ⟨n, hn⟩ : ∃ n, w.length = n + 1 := by
    cases w with
    | nil => exact absurd rfl hw
    | cons x r => exact ⟨r.length, rfl⟩
  have lp : p.length ≤ n := by
    obtain ⟨r, e, _⟩ := f
    have := congrArg List.length e
    simp at this
    omega
  have ls : s.length ≤ n := by
    obtain ⟨r, e, _⟩ := g
    have := congrArg List.length e
    simp at this
    omega
  unfold short
  rw [hn, N_of f g n, N_eq n p.length p p lp (Nat.le_refl _) (.refl _), N_eq n s.length s s ls (Nat.le_refl _) (.refl _)]
theorem firsts_nodup (w : List α) : (firsts w).Nodup := by
  have go : ∀ r : List α, (firsts r.reverse).Nodup := fun r => by
    induction r with
    | nil => exact List.nodup_nil
    | cons y r ih =>
      rw [List.reverse_cons, firsts_snoc]
      by_cases h : y ∈ firsts r.reverse
      · rw [if_pos h]; exact ih
      · rw [if_neg h]
        exact List.nodup_append.mpr ⟨ih, by simp, fun x hx z hz e => h (by
          have : z = y := by simpa using hz
          rw [← this, ← e]; exact hx)⟩
  have := go w.reverse
  rwa [List.reverse_reverse] at this
/-- how many words -/
def card (w : List α) : Nat := (firsts w).length
theorem card_eq {u v : List α} (h : ∀ x, x ∈ u ↔ x ∈ v) : card u = card v :=
  ((List.perm_ext_iff_of_nodup (firsts_nodup u) (firsts_nodup v)).mpr fun x => mem_firsts.trans ((h x).trans mem_firsts.symm)).length_eq
theorem card_rev (w : List α) : card w.reverse = card w := card_eq fun _ => List.mem_reverse
theorem FH.card {w p : List α} {a : α} (h : FH w p a) : card w = card p + 1 := by
  unfold FB.card
  rw [h.firsts, List.length_append]; rfl
theorem FH.cardR {w s : List α} {b : α} (h : FH w.reverse s.reverse b) : FB.card w = FB.card s + 1 := by
  have := h.card
  rwa [card_rev, card_rev] at this
theorem card_nil : card ([] : List α) = 0 := rfl
theorem card_pos {w : List α} (h : w ≠ []) : 0 < card w := by
  obtain ⟨p, a, f⟩ := FH.ex w h
  rw [f.card]
  omega
theorem nodup_len {l : List α} : ∀ {m : List α}, l.Nodup → (∀ x ∈ l, x ∈ m) → l.length ≤ m.length := by
  induction l with
  | nil => intro m _ _; exact Nat.zero_le _
  | cons x l ih =>
    intro m hd hs
    obtain ⟨h1, h2⟩ := List.nodup_cons.mp hd
    have hx : x ∈ m := hs x List.mem_cons_self
    have := ih (m := m.erase x) h2 fun y hy => (List.mem_erase_of_ne (fun e : y = x => h1 (by rw [← e]; exact hy))).mpr (hs y (List.mem_cons_of_mem _ hy))
    rw [List.length_erase_of_mem hx] at this
    have hp : 0 < m.length := List.length_pos_of_mem hx
    rw [List.length_cons]
    omega
theorem card_le {u v : List α} (h : ∀ x ∈ u, x ∈ v) : card u ≤ v.length := nodup_len (firsts_nodup u) fun x hx => h x (mem_firsts.mp hx)
theorem card_mono {u v : List α} (h : ∀ x ∈ u, x ∈ v) : card u ≤ card v := nodup_len (firsts_nodup u) fun x hx => mem_firsts.mpr (h x (mem_firsts.mp hx))
theorem card_self (u : List α) : card u ≤ u.length := card_le fun _ h => h
theorem card_nodup {u : List α} (h : u.Nodup) : card u = u.length := Nat.le_antisymm (card_self u) (nodup_len h fun x hx => mem_firsts.mpr hx)
theorem layGo_len (u v : List α) : ∀ k, (layGo u v k).length ≤ u.length + v.length
  | 0 => by unfold layGo; rw [List.length_append]; exact Nat.le_refl _
  | k + 1 => by
    unfold layGo
    split
    · rw [List.length_append, List.length_drop]; omega
    · exact layGo_len u v k
theorem lay_len (u v : List α) : (lay u v).length ≤ u.length + v.length := layGo_len u v _
theorem short_len : ∀ (n : Nat) (w : List α), card w ≤ n → (short w).length + 2 ≤ 2 ^ (n + 1)
  | n, w, h => by
    by_cases hw : w = []
    · subst hw
      rw [short_nil]
      show 0 + 2 ≤ _
      exact Nat.le_trans (by decide : 0 + 2 ≤ 2 ^ 1) (Nat.pow_le_pow_right (by decide) (by omega))
    · obtain ⟨p, a, s, b, f, g, l1, l2⟩ := both hw
      have c1 := f.card
      have c2 := g.cardR
      obtain ⟨m, rfl⟩ : ∃ m, n = m + 1 := ⟨n - 1, by omega⟩
      have i1 := short_len m p (by omega)
      have i2 := short_len m s (by omega)
      rw [short_of f g]
      have := lay_len (short p ++ [a]) ([b] ++ short s)
      rw [List.length_append, List.length_append] at this
      simp only [List.length_cons, List.length_nil] at this
      rw [Nat.pow_succ]
      omega
termination_by n w => w.length
end
end FB

namespace G
open PySem PySem.Spec PyProof.Rows L2 Eng
abbrev i_law_bag : Nat := 17
def d_law_bag : Df := ⟨17, "_law_bag", ["_law_script", "_law_cell"], ["_law_script"],
  (.cons (.ret (.lst (.cons (.int 0) (.cons (.int 1234567891) (.cons (.int 0) (.cons (.lc [("_law_cell", 1)] (.blt .abs (.cons (.var 1) .nil)) (.nm 1) .seq (.cons (.sl (.var 0) .absent (.int 63)) .nil) .absent) .nil)))))) .nil)⟩
abbrev i_law_laid : Nat := 166
def d_law_laid : Df := ⟨166, "_law_laid", ["_law_one", "_law_other", "_law_k"], ["_law_one", "_law_other"],
  (.cons (.asg (.nm 2) (.blt .min (.cons (.blt .len (.cons (.var 0) .nil)) (.cons (.blt .len (.cons (.var 1) .nil)) .nil)))) (.cons (.whl (.cmp .NotEq (.sl (.var 0) (.bin .Sub (.blt .len (.cons (.var 0) .nil)) (.var 2)) .absent) (.sl (.var 1) .absent (.var 2))) (.cons (.asg (.nm 2) (.bin .Sub (.var 2) (.int 1))) .nil)) (.cons (.ret (.bin .Add (.var 0) (.sl (.var 1) (.var 2) .absent))) .nil)))⟩
abbrev i_law_every : Nat := 110
def d_law_every : Df := ⟨110, "_law_every", ["_law_words_here", "_law_word", "_law_one", "_law_firsts_here", "_law_lasts_here", "_law_found", "_law_rest", "_law_other"], ["_law_words_here"],
  (.cons (.ifs (.cmp .Eq (.var 0) (.lst .nil)) (.cons (.ret (.lst (.cons (.lst .nil) .nil))) .nil) .nil) (.cons (.parB 3 4 5 (.cons (.lst .nil) (.cons (.lst .nil) (.cons (.lst .nil) .nil)))) (.cons (.forS (.nm 1) .seq (.cons (.blt .sorted (.cons (.var 0) .nil)) .nil) (.cons (.forS (.nm 6) .seq (.cons (.call 110 (.cons (.lc [("_law_one", 2)] (.var 2) (.nm 2) .seq (.cons (.var 0) .nil) (.cmp .NotEq (.var 2) (.var 1))) .nil)) .nil) (.cons (.mut .append (.var 3) (.cons (.bin .Add (.var 6) (.lst (.cons (.var 1) .nil))) .nil)) (.cons (.mut .append (.var 4) (.cons (.bin .Add (.lst (.cons (.var 1) .nil)) (.var 6)) .nil)) .nil))) .nil)) (.frz 3 (.cons (.forS (.nm 2) .seq (.cons (.var 3) .nil) (.frz 4 (.cons (.mut .extend (.var 5) (.cons (.lc [("_law_other", 7)] (.call 166 (.cons (.var 2) (.cons (.var 7) .nil))) (.nm 7) .seq (.cons (.var 4) .nil) .absent) .nil)) .nil))) (.cons (.ret (.var 5)) .nil))))))⟩
abbrev i_law_firsts : Nat := 122
def d_law_firsts : Df := ⟨122, "_law_firsts", ["_law_speech_here", "_law_found", "_law_word"], ["_law_speech_here"],
  (.cons (.own 1 (.lst .nil)) (.cons (.forS (.nm 2) .seq (.cons (.var 0) .nil) (.cons (.ifs (.cmp .NotIn (.var 2) (.var 1)) (.cons (.mut .append (.var 1) (.cons (.var 2) .nil)) .nil) .nil) .nil)) (.cons (.ret (.var 1)) .nil)))⟩
abbrev i_law_lasts : Nat := 170
def d_law_lasts : Df := ⟨170, "_law_lasts", ["_law_speech_here"], ["_law_speech_here"],
  (.cons (.ret (.rev (.call 122 (.cons (.rev (.var 0)) .nil)))) .nil)⟩
abbrev i_law_halves : Nat := 136
def d_law_halves : Df := ⟨136, "_law_halves", ["_law_speech_here", "_law_a", "_law_b"], ["_law_speech_here"],
  (.cons (.par 1 2 (.ix (.call 122 (.cons (.var 0) .nil)) (.neg (.int 1))) (.ix (.call 170 (.cons (.var 0) .nil)) (.int 0))) (.cons (.ret (.tup (.cons (.sl (.var 0) .absent (.meth .lindex (.var 0) (.cons (.var 1) .nil))) (.cons (.var 1) (.cons (.var 2) (.cons (.sl (.var 0) (.bin .Sub (.blt .len (.cons (.var 0) .nil)) (.meth .lindex (.rev (.var 0)) (.cons (.var 2) .nil))) .absent) .nil)))))) .nil))⟩
abbrev i_law_short : Nat := 282
def d_law_short : Df := ⟨282, "_law_short", ["_law_speech_here", "_law_p", "_law_a", "_law_b", "_law_s"], ["_law_speech_here"],
  (.cons (.ifs (.cmp .Eq (.var 0) (.lst .nil)) (.cons (.ret (.lst .nil)) .nil) .nil) (.cons (.asg (.tp (.cons (.nm 1) (.cons (.nm 2) (.cons (.nm 3) (.cons (.nm 4) .nil))))) (.call 136 (.cons (.var 0) .nil))) (.cons (.ret (.call 166 (.cons (.bin .Add (.call 282 (.cons (.var 1) .nil)) (.lst (.cons (.var 2) .nil))) (.cons (.bin .Add (.lst (.cons (.var 3) .nil)) (.call 282 (.cons (.var 4) .nil))) .nil)))) .nil)))⟩
abbrev i_law_met : Nat := 200
def d_law_met : Df := ⟨200, "_law_met", ["_law_words_here", "_law_found", "_law_known", "_law_at", "_law_word", "_law_more"], ["_law_words_here"],
  (.cons (.own 1 (.lst (.cons (.lst .nil) .nil))) (.cons (.own 2 (.dsp1 (.tup .nil) (.bl true))) (.cons (.asg (.nm 3) (.int 0)) (.cons (.whl (.cmp .Lt (.var 3) (.blt .len (.cons (.var 1) .nil))) (.cons (.forS (.nm 4) .seq (.cons (.var 0) .nil) (.cons (.asg (.nm 5) (.call 282 (.cons (.bin .Add (.ix (.var 1) (.var 3)) (.lst (.cons (.var 4) .nil))) .nil))) (.cons (.ifs (.cmp .NotIn (.blt .tuple (.cons (.var 5) .nil)) (.var 2)) (.cons (.sset (.var 2) (.blt .tuple (.cons (.var 5) .nil)) (.bl true)) (.cons (.mut .append (.var 1) (.cons (.var 5) .nil)) .nil)) .nil) .nil))) (.cons (.aug 3 .Add (.int 1)) .nil))) (.cons (.ret (.var 1)) .nil)))))⟩
abbrev i_law_alike : Nat := 0
def d_law_alike : Df := ⟨0, "_law_alike", ["_law_found", "_law_due"], ["_law_found", "_law_due"],
  (.cons (.ret (.andE (.cmp .Eq (.var 0) (.var 1)) (.cmp .Eq (.blt .repr (.cons (.var 0) .nil)) (.blt .repr (.cons (.var 1) .nil))))) .nil)⟩
abbrev i_said_all : Nat := 542
def d_said_all : Df := ⟨542, "said_all", ["many", "found", "size"], ["many"],
  (.cons (.asg (.nm 1) (.int 1)) (.cons (.forS (.nm 2) .rng2 (.cons (.int 1) (.cons (.bin .Add (.var 0) (.int 1)) .nil)) (.cons (.asg (.nm 1) (.bin .Mult (.bin .Mult (.var 2) (.var 1)) (.bin .Mult (.var 2) (.var 1)))) .nil)) (.cons (.ret (.var 1)) .nil)))⟩
abbrev i_meanings : Nat := 524
def d_meanings : Df := ⟨524, "meanings", ["words"], ["words"],
  (.cons (.ret (.call 542 (.cons (.blt .len (.cons (.var 0) .nil)) .nil))) .nil)⟩
abbrev i_by_first : Nat := 383
def d_by_first : Df := ⟨383, "by_first", ["speech", "found", "word"], ["speech"],
  (.cons (.own 1 (.lst .nil)) (.cons (.forS (.nm 2) .seq (.cons (.var 0) .nil) (.cons (.ifs (.cmp .NotIn (.var 2) (.var 1)) (.cons (.mut .append (.var 1) (.cons (.var 2) .nil)) .nil) .nil) .nil)) (.cons (.ret (.var 1)) .nil)))⟩
abbrev i_first_half : Nat := 400
def d_first_half : Df := ⟨400, "first_half", ["speech", "word"], ["speech"],
  (.cons (.ifs (.cmp .Eq (.var 0) (.lst .nil)) (.cons (.raise 9 none .nil) .nil) .nil) (.cons (.asg (.nm 1) (.ix (.call 383 (.cons (.var 0) .nil)) (.neg (.int 1)))) (.cons (.ret (.tup (.cons (.sl (.var 0) .absent (.meth .lindex (.var 0) (.cons (.var 1) .nil))) (.cons (.var 1) .nil)))) .nil)))⟩
abbrev i_turned : Nat := 564
def d_turned : Df := ⟨564, "turned", ["speech"], ["speech"],
  (.cons (.ret (.rev (.var 0))) .nil)⟩
abbrev i_last_half : Nat := 429
def d_last_half : Df := ⟨429, "last_half", ["speech", "ahead", "word"], ["speech"],
  (.cons (.asg (.tp (.cons (.nm 1) (.cons (.nm 2) .nil))) (.call 400 (.cons (.call 564 (.cons (.var 0) .nil)) .nil))) (.cons (.ret (.tup (.cons (.var 2) (.cons (.call 564 (.cons (.var 1) .nil)) .nil)))) .nil))⟩
abbrev i_words_of : Nat := 572
def d_words_of : Df := ⟨572, "words_of", ["speech"], ["speech"],
  (.cons (.ret (.ofset .sorted (.var 0))) .nil)⟩
abbrev i_number_of : Nat := 529
def d_number_of : Df := ⟨529, "number_of", ["speech", "words", "lesser", "half", "ahead", "first", "last", "behind"], ["speech"],
  (.cons (.asg (.nm 1) (.call 572 (.cons (.var 0) .nil))) (.cons (.ifs (.cmp .Eq (.var 1) (.lst .nil)) (.cons (.ret (.int 0)) .nil) .nil) (.cons (.asg (.tp (.cons (.nm 4) (.cons (.nm 5) .nil))) (.call 400 (.cons (.var 0) .nil))) (.cons (.asg (.tp (.cons (.nm 6) (.cons (.nm 7) .nil))) (.call 429 (.cons (.var 0) .nil))) (.cons (.asg (.nm 2) (.call 542 (.cons (.bin .Sub (.blt .len (.cons (.var 1) .nil)) (.int 1)) .nil))) (.cons (.asg (.nm 3) (.bin .Add (.bin .Mult (.meth .lindex (.var 1) (.cons (.var 5) .nil)) (.var 2)) (.call 529 (.cons (.var 4) .nil)))) (.cons (.ret (.bin .Add (.bin .Mult (.bin .Add (.bin .Mult (.var 3) (.blt .len (.cons (.var 1) .nil))) (.meth .lindex (.var 1) (.cons (.var 6) .nil))) (.var 2)) (.call 529 (.cons (.var 7) .nil)))) .nil)))))))⟩
abbrev i_laid : Nat := 428
def d_laid : Df := ⟨428, "laid", ["one", "other", "many"], ["one", "other"],
  (.cons (.forS (.nm 2) .rng3 (.cons (.blt .min (.cons (.blt .len (.cons (.var 0) .nil)) (.cons (.blt .len (.cons (.var 1) .nil)) .nil))) (.cons (.int 0) (.cons (.neg (.int 1)) .nil))) (.cons (.ifs (.cmp .Eq (.sl (.var 0) (.bin .Sub (.blt .len (.cons (.var 0) .nil)) (.var 2)) .absent) (.sl (.var 1) .absent (.var 2))) (.cons (.ret (.bin .Add (.var 0) (.sl (.var 1) (.var 2) .absent))) .nil) .nil) .nil)) (.cons (.ret (.bin .Add (.var 0) (.var 1))) .nil))⟩
abbrev i_others : Nat := 532
def d_others : Df := ⟨532, "others", ["words", "word", "one"], ["words", "word"],
  (.cons (.ret (.lc [("one", 2)] (.var 2) (.nm 2) .seq (.cons (.var 0) .nil) (.cmp .NotEq (.var 2) (.var 1)))) .nil)⟩
abbrev i_speech_of : Nat := 559
def d_speech_of : Df := ⟨559, "speech_of", ["words", "number", "names", "lesser", "one", "rest", "behind", "last", "first", "ahead"], ["words", "number"],
  (.cons (.ifs (.cmp .GtE (.var 1) (.call 524 (.cons (.var 0) .nil))) (.cons (.raise 10 (some "number") (.cons (.var 1) .nil)) .nil) .nil) (.cons (.ifs (.cmp .Eq (.var 0) (.lst .nil)) (.cons (.ret (.lst .nil)) .nil) .nil) (.cons (.asg (.nm 2) (.blt .sorted (.cons (.var 0) .nil))) (.cons (.asg (.nm 3) (.call 542 (.cons (.bin .Sub (.blt .len (.cons (.var 2) .nil)) (.int 1)) .nil))) (.cons (.asg (.tp (.cons (.nm 5) (.cons (.nm 6) .nil))) (.blt .divmod (.cons (.var 1) (.cons (.var 3) .nil)))) (.cons (.asg (.tp (.cons (.nm 5) (.cons (.nm 7) .nil))) (.blt .divmod (.cons (.var 5) (.cons (.blt .len (.cons (.var 2) .nil)) .nil)))) (.cons (.asg (.tp (.cons (.nm 8) (.cons (.nm 9) .nil))) (.blt .divmod (.cons (.var 5) (.cons (.var 3) .nil)))) (.cons (.asg (.nm 4) (.bin .Add (.call 559 (.cons (.call 532 (.cons (.var 2) (.cons (.ix (.var 2) (.var 8)) .nil))) (.cons (.var 9) .nil))) (.lst (.cons (.ix (.var 2) (.var 8)) .nil)))) (.cons (.ret (.call 428 (.cons (.var 4) (.cons (.bin .Add (.lst (.cons (.ix (.var 2) (.var 7)) .nil)) (.call 559 (.cons (.call 532 (.cons (.var 2) (.cons (.ix (.var 2) (.var 7)) .nil))) (.cons (.var 6) .nil)))) .nil)))) .nil)))))))))⟩
abbrev i_law_part_right : Nat := 236
def d_law_part_right : Df := ⟨236, "_law_part_right", ["_law_part", "_law_due", "_law_told", "_law_number", "_law_speech_here"], ["_law_part"],
  (.cons (.asg (.nm 1) (.call 110 (.cons (.var 0) .nil))) (.cons (.ifs (.cmp .NotEq (.call 524 (.cons (.var 0) .nil)) (.blt .len (.cons (.var 1) .nil))) (.cons (.ret (.bl false)) .nil) .nil) (.cons (.asg (.nm 2) (.lc [("_law_number", 3)] (.call 559 (.cons (.var 0) (.cons (.var 3) .nil))) (.nm 3) .rng1 (.cons (.blt .len (.cons (.var 1) .nil)) .nil) .absent)) (.cons (.ret (.andE (.call 0 (.cons (.var 2) (.cons (.var 1) .nil))) (.cmp .Eq (.lc [("_law_speech_here", 4)] (.call 529 (.cons (.var 4) .nil)) (.nm 4) .seq (.cons (.var 1) .nil) .absent) (.ofset .rng (.blt .len (.cons (.var 1) .nil)))))) .nil))))⟩
abbrev i_law_parts : Nat := 239
def d_law_parts : Df := ⟨239, "_law_parts", ["_law_words_here", "_law_found", "_law_word", "_law_part"], ["_law_words_here"],
  (.cons (.asg (.nm 1) (.lst (.cons (.lst .nil) .nil))) (.cons (.forS (.nm 2) .seq (.cons (.var 0) .nil) (.cons (.asg (.nm 1) (.bin .Add (.var 1) (.lc [("_law_part", 3)] (.bin .Add (.var 3) (.lst (.cons (.var 2) .nil))) (.nm 3) .seq (.cons (.var 1) .nil) .absent))) .nil)) (.cons (.ret (.var 1)) .nil)))⟩
abbrev i_law_take : Nat := 317
def d_law_take : Df := ⟨317, "_law_take", ["_law_bag_here", "_law_many", "_law_first", "_law_second", "_law_cell", "_law_value"], ["_law_bag_here", "_law_many"],
  (.cons (.ifs (.cmp .Eq (.ix (.var 0) (.int 0)) (.int 0)) (.cons (.asg (.nm 4) (.int 0)) (.cons (.ifs (.cmp .Lt (.ix (.var 0) (.int 2)) (.blt .len (.cons (.ix (.var 0) (.int 3)) .nil))) (.cons (.asg (.nm 4) (.ix (.ix (.var 0) (.int 3)) (.ix (.var 0) (.int 2)))) .nil) .nil) (.cons (.saug (.var 0) (.int 2) .Add (.int 1)) (.cons (.ifs (.cmp .GtE (.var 4) (.int 1000000000000000000)) (.cons (.sset (.var 0) (.int 0) (.var 4)) .nil) .nil) (.cons (.sset (.var 0) (.int 1) (.bin .Mod (.bin .Add (.bin .Add (.bin .Mult (.ix (.var 0) (.int 1)) (.int 48271)) (.bin .Mod (.var 4) (.int 2147483647))) (.bin .Mult (.int 7919) (.ix (.var 0) (.int 2)))) (.int 2147483647))) .nil))))) .nil) (.cons (.ifs (.cmp .Gt (.ix (.var 0) (.int 0)) (.int 0)) (.cons (.asg (.nm 5) (.bin .Mod (.ix (.var 0) (.int 0)) (.var 1))) (.cons (.sset (.var 0) (.int 0) (.bin .FloorDiv (.ix (.var 0) (.int 0)) (.var 1))) (.cons (.ret (.var 5)) .nil))) .nil) (.cons (.asg (.nm 2) (.bin .Mod (.bin .Mult (.bin .Add (.ix (.var 0) (.int 1)) (.int 1)) (.int 39373)) (.int 1000000007))) (.cons (.asg (.nm 3) (.bin .Mod (.bin .Mult (.bin .Mod (.bin .Mult (.var 2) (.var 2)) (.int 998244353)) (.int 30011)) (.int 998244353))) (.cons (.ifs (.cmp .Gt (.var 1) (.int 1000000)) (.cons (.ret (.bin .Mod (.bin .Add (.bin .Mult (.var 3) (.int 1000000007)) (.var 2)) (.var 1))) .nil) .nil) (.cons (.ret (.bin .Mod (.bin .FloorDiv (.var 3) (.int 7)) (.var 1))) .nil))))))⟩
abbrev i_law_speech_2 : Nat := 302
def d_law_speech_2 : Df := ⟨302, "_law_speech", ["_law_bag_here", "_law_words_here", "_law_most", "_law_found", "_law_k", "_law_at", "_law_piece"], ["_law_bag_here", "_law_words_here", "_law_most"],
  (.cons (.own 3 (.lc [("_law_k", 4)] (.ix (.var 1) (.call 317 (.cons (.var 0) (.cons (.blt .len (.cons (.var 1) .nil)) .nil)))) (.nm 4) .rng1 (.cons (.bin .Mult (.call 317 (.cons (.var 0) (.cons (.bin .Add (.var 2) (.int 1)) .nil))) (.blt .int (.cons (.cmp .NotEq (.var 1) (.lst .nil)) .nil))) .nil) .absent)) (.cons (.forS (.nm 4) .rng1 (.cons (.call 317 (.cons (.var 0) (.cons (.int 4) .nil))) .nil) (.cons (.asg (.nm 5) (.call 317 (.cons (.var 0) (.cons (.bin .Add (.blt .len (.cons (.var 3) .nil)) (.int 1)) .nil)))) (.cons (.asg (.nm 6) (.sl (.var 3) (.var 5) (.bin .Add (.bin .Add (.var 5) (.int 1)) (.call 317 (.cons (.var 0) (.cons (.int 4) .nil)))))) (.cons (.ifs (.cmp .LtE (.bin .Add (.blt .len (.cons (.var 3) .nil)) (.blt .len (.cons (.var 6) .nil))) (.var 2)) (.cons (.own 3 (.bin .Add (.bin .Add (.sl (.var 3) .absent (.var 5)) (.var 6)) (.sl (.var 3) (.var 5) .absent))) .nil) .nil) .nil)))) (.cons (.ret (.var 3)) .nil)))⟩
abbrev i_law_tongue : Nat := 345
def d_law_tongue : Df := ⟨345, "_law_tongue", ["_law_bag_here", "_law_many", "_law_letters", "_law_base", "_law_at", "_law_turn", "_law_way", "_law_k"], ["_law_bag_here", "_law_many"],
  (.cons (.asg (.nm 2) (.str "abcdefghijklmnopqrstuvwxyz")) (.cons (.asg (.nm 3) (.bin .Mult (.ix (.var 2) (.call 317 (.cons (.var 0) (.cons (.int 26) .nil)))) (.bin .Add (.int 1) (.call 317 (.cons (.var 0) (.cons (.int 8) .nil)))))) (.cons (.asg (.nm 4) (.call 317 (.cons (.var 0) (.cons (.blt .len (.cons (.var 3) .nil)) .nil)))) (.cons (.asg (.tp (.cons (.nm 5) (.cons (.nm 6) .nil))) (.tup (.cons (.call 317 (.cons (.var 0) (.cons (.int 26) .nil))) (.cons (.call 317 (.cons (.var 0) (.cons (.int 5) .nil))) .nil)))) (.cons (.ifs (.cmp .Eq (.var 6) (.int 0)) (.cons (.ret (.lc [("_law_k", 7)] (.sl (.bin .Mult (.ix (.var 2) (.var 5)) (.int 8)) .absent (.bin .Add (.var 7) (.int 1))) (.nm 7) .rng1 (.cons (.var 1) .nil) .absent)) .nil) .nil) (.cons (.ifs (.cmp .Eq (.var 6) (.int 1)) (.cons (.ret (.lc [("_law_k", 7)] (.bin .Mult (.ix (.var 2) (.bin .Mod (.bin .Add (.var 5) (.bin .Mult (.int 5) (.var 7))) (.int 26))) (.bin .Add (.int 1) (.bin .Mod (.bin .Add (.var 4) (.bin .Mult (.int 3) (.var 7))) (.int 8)))) (.nm 7) .rng1 (.cons (.var 1) .nil) .absent)) .nil) .nil) (.cons (.ret (.lc [("_law_k", 7)] (.bin .Add (.bin .Add (.sl (.var 3) .absent (.var 4)) (.ix (.var 2) (.bin .Mod (.bin .Add (.var 5) (.var 7)) (.int 26)))) (.sl (.var 3) (.bin .Add (.var 4) (.int 1)) .absent)) (.nm 7) .rng1 (.cons (.var 1) .nil) .absent)) .nil)))))))⟩
abbrev i_law_words : Nat := 363
def d_law_words : Df := ⟨363, "_law_words", ["_law_bag_here", "_law_most", "_law_found", "_law_turn"], ["_law_bag_here", "_law_most"],
  (.cons (.asg (.nm 2) (.call 345 (.cons (.var 0) (.cons (.blt .min (.cons (.var 1) (.cons (.ix (.lst (.cons (.int 0) (.cons (.int 1) (.cons (.int 2) (.cons (.int 2) (.cons (.int 3) (.cons (.int 3) (.cons (.int 4) (.cons (.int 5) (.cons (.int 6) .nil)))))))))) (.call 317 (.cons (.var 0) (.cons (.int 9) .nil)))) .nil))) .nil)))) (.cons (.asg (.nm 3) (.call 317 (.cons (.var 0) (.cons (.bin .Add (.blt .len (.cons (.var 2) .nil)) (.int 1)) .nil)))) (.cons (.ret (.bin .Add (.sl (.var 2) (.var 3) .absent) (.sl (.var 2) .absent (.var 3)))) .nil)))⟩
abbrev i_parts_many : Nat := 533
def d_parts_many : Df := ⟨533, "parts_many", ["many", "size", "found", "k"], ["many", "size"],
  (.cons (.asg (.nm 2) (.int 1)) (.cons (.forS (.nm 3) .rng1 (.cons (.var 1) .nil) (.cons (.asg (.nm 2) (.bin .FloorDiv (.bin .Mult (.var 2) (.bin .Sub (.var 0) (.var 3))) (.bin .Add (.var 3) (.int 1)))) .nil)) (.cons (.ret (.var 2)) .nil)))⟩
abbrev i_all_meanings : Nat := 374
def d_all_meanings : Df := ⟨374, "all_meanings", ["words", "many", "size"], ["words"],
  (.cons (.asg (.nm 1) (.blt .len (.cons (.var 0) .nil))) (.cons (.ret (.blt .sum (.cons (.lc [("size", 2)] (.bin .Mult (.call 533 (.cons (.var 1) (.cons (.var 2) .nil))) (.call 542 (.cons (.var 2) .nil))) (.nm 2) .rng1 (.cons (.bin .Add (.var 1) (.int 1)) .nil) .absent) .nil))) .nil))⟩
abbrev i_law_k44 : Nat := 472
def d_law_k44 : Df := ⟨472, "law", ["_law_script", "_law_bag_here", "_law_words_here", "_law_every_here", "_law_part", "_law_k", "_law_speech_here", "_law_names"], ["_law_script"],
  (.cons (.cell 1 (.call 17 (.cons (.var 0) .nil))) (.cons (.asg (.nm 2) (.call 363 (.cons (.var 1) (.cons (.int 3) .nil)))) (.cons (.asg (.nm 3) (.lst .nil)) (.cons (.forS (.nm 4) .seq (.cons (.call 239 (.cons (.var 2) .nil)) .nil) (.cons (.ifs (.notE (.call 236 (.cons (.var 4) .nil))) (.cons (.ret (.bl false)) .nil) .nil) (.cons (.asg (.nm 3) (.bin .Add (.var 3) (.call 110 (.cons (.var 4) .nil)))) .nil))) (.cons (.ifs (.orE (.cmp .NotEq (.call 374 (.cons (.var 2) .nil)) (.blt .len (.cons (.var 3) .nil))) (.cmp .NotEq (.blt .sorted (.cons (.var 3) .nil)) (.blt .sorted (.cons (.call 200 (.cons (.var 2) .nil)) .nil)))) (.cons (.ret (.bl false)) .nil) .nil) (.cons (.forS (.nm 5) .rng1 (.cons (.int 6) .nil) (.cons (.asg (.nm 6) (.call 302 (.cons (.var 1) (.cons (.var 2) (.cons (.int 60) .nil))))) (.cons (.asg (.nm 7) (.blt .sorted (.cons (.call 122 (.cons (.var 6) .nil)) .nil))) (.cons (.ifs (.cmp .NotEq (.ix (.call 110 (.cons (.var 7) .nil)) (.call 529 (.cons (.var 6) .nil))) (.call 282 (.cons (.var 6) .nil))) (.cons (.ret (.bl false)) .nil) .nil) .nil)))) (.cons (.ret (.bl true)) .nil)))))))⟩
def GT : Tab := ⟨[d_law_bag, d_law_laid, d_law_every, d_law_firsts, d_law_lasts, d_law_halves, d_law_short, d_law_met, d_law_alike, d_said_all, d_meanings, d_by_first, d_first_half, d_turned, d_last_half, d_words_of, d_number_of, d_laid, d_others, d_speech_of, d_law_part_right, d_law_parts, d_law_take, d_law_speech_2, d_law_tongue, d_law_words, d_parts_many, d_all_meanings, d_law_k44],
  [],
  [(0, "ValueError", none), (1, "SaidError", none), (9, "NoWords", none), (10, "NoNumber", some "number")]⟩
theorem sem_law_bag {k : Nat} : (semT GT (k + 1)).f i_law_bag = some (1, runD (semT GT k) d_law_bag) := rfl
theorem sem_law_laid {k : Nat} : (semT GT (k + 1)).f i_law_laid = some (2, runD (semT GT k) d_law_laid) := rfl
theorem sem_law_every {k : Nat} : (semT GT (k + 1)).f i_law_every = some (1, runD (semT GT k) d_law_every) := rfl
theorem sem_law_firsts {k : Nat} : (semT GT (k + 1)).f i_law_firsts = some (1, runD (semT GT k) d_law_firsts) := rfl
theorem sem_law_lasts {k : Nat} : (semT GT (k + 1)).f i_law_lasts = some (1, runD (semT GT k) d_law_lasts) := rfl
theorem sem_law_halves {k : Nat} : (semT GT (k + 1)).f i_law_halves = some (1, runD (semT GT k) d_law_halves) := rfl
theorem sem_law_short {k : Nat} : (semT GT (k + 1)).f i_law_short = some (1, runD (semT GT k) d_law_short) := rfl
theorem sem_law_met {k : Nat} : (semT GT (k + 1)).f i_law_met = some (1, runD (semT GT k) d_law_met) := rfl
theorem sem_law_alike {k : Nat} : (semT GT (k + 1)).f i_law_alike = some (2, runD (semT GT k) d_law_alike) := rfl
theorem sem_said_all {k : Nat} : (semT GT (k + 1)).f i_said_all = some (1, runD (semT GT k) d_said_all) := rfl
theorem sem_meanings {k : Nat} : (semT GT (k + 1)).f i_meanings = some (1, runD (semT GT k) d_meanings) := rfl
theorem sem_by_first {k : Nat} : (semT GT (k + 1)).f i_by_first = some (1, runD (semT GT k) d_by_first) := rfl
theorem sem_first_half {k : Nat} : (semT GT (k + 1)).f i_first_half = some (1, runD (semT GT k) d_first_half) := rfl
theorem sem_turned {k : Nat} : (semT GT (k + 1)).f i_turned = some (1, runD (semT GT k) d_turned) := rfl
theorem sem_last_half {k : Nat} : (semT GT (k + 1)).f i_last_half = some (1, runD (semT GT k) d_last_half) := rfl
theorem sem_words_of {k : Nat} : (semT GT (k + 1)).f i_words_of = some (1, runD (semT GT k) d_words_of) := rfl
theorem sem_number_of {k : Nat} : (semT GT (k + 1)).f i_number_of = some (1, runD (semT GT k) d_number_of) := rfl
theorem sem_laid {k : Nat} : (semT GT (k + 1)).f i_laid = some (2, runD (semT GT k) d_laid) := rfl
theorem sem_others {k : Nat} : (semT GT (k + 1)).f i_others = some (2, runD (semT GT k) d_others) := rfl
theorem sem_speech_of {k : Nat} : (semT GT (k + 1)).f i_speech_of = some (2, runD (semT GT k) d_speech_of) := rfl
theorem sem_law_part_right {k : Nat} : (semT GT (k + 1)).f i_law_part_right = some (1, runD (semT GT k) d_law_part_right) := rfl
theorem sem_law_parts {k : Nat} : (semT GT (k + 1)).f i_law_parts = some (1, runD (semT GT k) d_law_parts) := rfl
theorem sem_law_take {k : Nat} : (semT GT (k + 1)).f i_law_take = some (2, runD (semT GT k) d_law_take) := rfl
theorem sem_law_speech_2 {k : Nat} : (semT GT (k + 1)).f i_law_speech_2 = some (3, runD (semT GT k) d_law_speech_2) := rfl
theorem sem_law_tongue {k : Nat} : (semT GT (k + 1)).f i_law_tongue = some (2, runD (semT GT k) d_law_tongue) := rfl
theorem sem_law_words {k : Nat} : (semT GT (k + 1)).f i_law_words = some (2, runD (semT GT k) d_law_words) := rfl
theorem sem_parts_many {k : Nat} : (semT GT (k + 1)).f i_parts_many = some (2, runD (semT GT k) d_parts_many) := rfl
theorem sem_all_meanings {k : Nat} : (semT GT (k + 1)).f i_all_meanings = some (1, runD (semT GT k) d_all_meanings) := rfl
theorem sem_law_k44 {k : Nat} : (semT GT (k + 1)).f i_law_k44 = some (1, runD (semT GT k) d_law_k44) := rfl

def topS (i : Nat) : Stmt := PySem.Challenge.pw_twicesaid_k44_whole_all_of_three_words.main.body.getD i (.Pass ⟨0, 0, 0, 0⟩)
theorem ok_law_bag : DefOk (namesD GT) d_law_bag (topS 22) := ⟨⟨rfl, rfl, rfl, by decide +kernel, rfl, by decide +kernel, by decide +kernel⟩, by decide +kernel, fun _ _ _ _ _ _ us hl => match us, hl with | [_], _ => rfl⟩
theorem ok_law_laid : DefOk (namesD GT) d_law_laid (topS 30) := ⟨⟨rfl, rfl, rfl, by decide +kernel, rfl, by decide +kernel, by decide +kernel⟩, by decide +kernel, fun _ _ _ _ _ _ us hl => match us, hl with | [_, _], _ => rfl⟩
theorem ok_law_every : DefOk (namesD GT) d_law_every (topS 34) := ⟨⟨rfl, rfl, rfl, by decide +kernel, rfl, by decide +kernel, by decide +kernel⟩, by decide +kernel, fun _ _ _ _ _ _ us hl => match us, hl with | [_], _ => rfl⟩
theorem ok_law_firsts : DefOk (namesD GT) d_law_firsts (topS 28) := ⟨⟨rfl, rfl, rfl, by decide +kernel, rfl, by decide +kernel, by decide +kernel⟩, by decide +kernel, fun _ _ _ _ _ _ us hl => match us, hl with | [_], _ => rfl⟩
theorem ok_law_lasts : DefOk (namesD GT) d_law_lasts (topS 29) := ⟨⟨rfl, rfl, rfl, by decide +kernel, rfl, by decide +kernel, by decide +kernel⟩, by decide +kernel, fun _ _ _ _ _ _ us hl => match us, hl with | [_], _ => rfl⟩
theorem ok_law_halves : DefOk (namesD GT) d_law_halves (topS 31) := ⟨⟨rfl, rfl, rfl, by decide +kernel, rfl, by decide +kernel, by decide +kernel⟩, by decide +kernel, fun _ _ _ _ _ _ us hl => match us, hl with | [_], _ => rfl⟩
theorem ok_law_short : DefOk (namesD GT) d_law_short (topS 32) := ⟨⟨rfl, rfl, rfl, by decide +kernel, rfl, by decide +kernel, by decide +kernel⟩, by decide +kernel, fun _ _ _ _ _ _ us hl => match us, hl with | [_], _ => rfl⟩
theorem ok_law_met : DefOk (namesD GT) d_law_met (topS 35) := ⟨⟨rfl, rfl, rfl, by decide +kernel, rfl, by decide +kernel, by decide +kernel⟩, by decide +kernel, fun _ _ _ _ _ _ us hl => match us, hl with | [_], _ => rfl⟩
theorem ok_law_alike : DefOk (namesD GT) d_law_alike (topS 24) := ⟨⟨rfl, rfl, rfl, by decide +kernel, rfl, by decide +kernel, by decide +kernel⟩, by decide +kernel, fun _ _ _ _ _ _ us hl => match us, hl with | [_, _], _ => rfl⟩
theorem ok_said_all : DefOk (namesD GT) d_said_all (topS 14) := ⟨⟨rfl, rfl, rfl, by decide +kernel, rfl, by decide +kernel, by decide +kernel⟩, by decide +kernel, fun _ _ _ _ _ _ us hl => match us, hl with | [_], _ => rfl⟩
theorem ok_meanings : DefOk (namesD GT) d_meanings (topS 16) := ⟨⟨rfl, rfl, rfl, by decide +kernel, rfl, by decide +kernel, by decide +kernel⟩, by decide +kernel, fun _ _ _ _ _ _ us hl => match us, hl with | [_], _ => rfl⟩
theorem ok_by_first : DefOk (namesD GT) d_by_first (topS 6) := ⟨⟨rfl, rfl, rfl, by decide +kernel, rfl, by decide +kernel, by decide +kernel⟩, by decide +kernel, fun _ _ _ _ _ _ us hl => match us, hl with | [_], _ => rfl⟩
theorem ok_first_half : DefOk (namesD GT) d_first_half (topS 9) := ⟨⟨rfl, rfl, rfl, by decide +kernel, rfl, by decide +kernel, by decide +kernel⟩, by decide +kernel, fun _ _ _ _ _ _ us hl => match us, hl with | [_], _ => rfl⟩
theorem ok_turned : DefOk (namesD GT) d_turned (topS 7) := ⟨⟨rfl, rfl, rfl, by decide +kernel, rfl, by decide +kernel, by decide +kernel⟩, by decide +kernel, fun _ _ _ _ _ _ us hl => match us, hl with | [_], _ => rfl⟩
theorem ok_last_half : DefOk (namesD GT) d_last_half (topS 10) := ⟨⟨rfl, rfl, rfl, by decide +kernel, rfl, by decide +kernel, by decide +kernel⟩, by decide +kernel, fun _ _ _ _ _ _ us hl => match us, hl with | [_], _ => rfl⟩
theorem ok_words_of : DefOk (namesD GT) d_words_of (topS 5) := ⟨⟨rfl, rfl, rfl, by decide +kernel, rfl, by decide +kernel, by decide +kernel⟩, by decide +kernel, fun _ _ _ _ _ _ us hl => match us, hl with | [_], _ => rfl⟩
theorem ok_number_of : DefOk (namesD GT) d_number_of (topS 18) := ⟨⟨rfl, rfl, rfl, by decide +kernel, rfl, by decide +kernel, by decide +kernel⟩, by decide +kernel, fun _ _ _ _ _ _ us hl => match us, hl with | [_], _ => rfl⟩
theorem ok_laid : DefOk (namesD GT) d_laid (topS 12) := ⟨⟨rfl, rfl, rfl, by decide +kernel, rfl, by decide +kernel, by decide +kernel⟩, by decide +kernel, fun _ _ _ _ _ _ us hl => match us, hl with | [_, _], _ => rfl⟩
theorem ok_others : DefOk (namesD GT) d_others (topS 19) := ⟨⟨rfl, rfl, rfl, by decide +kernel, rfl, by decide +kernel, by decide +kernel⟩, by decide +kernel, fun _ _ _ _ _ _ us hl => match us, hl with | [_, _], _ => rfl⟩
theorem ok_speech_of : DefOk (namesD GT) d_speech_of (topS 20) := ⟨⟨rfl, rfl, rfl, by decide +kernel, rfl, by decide +kernel, by decide +kernel⟩, by decide +kernel, fun _ _ _ _ _ _ us hl => match us, hl with | [_, _], _ => rfl⟩
theorem ok_law_part_right : DefOk (namesD GT) d_law_part_right (topS 36) := ⟨⟨rfl, rfl, rfl, by decide +kernel, rfl, by decide +kernel, by decide +kernel⟩, by decide +kernel, fun _ _ _ _ _ _ us hl => match us, hl with | [_], _ => rfl⟩
theorem ok_law_parts : DefOk (namesD GT) d_law_parts (topS 33) := ⟨⟨rfl, rfl, rfl, by decide +kernel, rfl, by decide +kernel, by decide +kernel⟩, by decide +kernel, fun _ _ _ _ _ _ us hl => match us, hl with | [_], _ => rfl⟩
theorem ok_law_take : DefOk (namesD GT) d_law_take (topS 23) := ⟨⟨rfl, rfl, rfl, by decide +kernel, rfl, by decide +kernel, by decide +kernel⟩, by decide +kernel, fun _ _ _ _ _ _ us hl => match us, hl with | [_, _], _ => rfl⟩
theorem ok_law_speech_2 : DefOk (namesD GT) d_law_speech_2 (topS 27) := ⟨⟨rfl, rfl, rfl, by decide +kernel, rfl, by decide +kernel, by decide +kernel⟩, by decide +kernel, fun _ _ _ _ _ _ us hl => match us, hl with | [_, _, _], _ => rfl⟩
theorem ok_law_tongue : DefOk (namesD GT) d_law_tongue (topS 25) := ⟨⟨rfl, rfl, rfl, by decide +kernel, rfl, by decide +kernel, by decide +kernel⟩, by decide +kernel, fun _ _ _ _ _ _ us hl => match us, hl with | [_, _], _ => rfl⟩
theorem ok_law_words : DefOk (namesD GT) d_law_words (topS 26) := ⟨⟨rfl, rfl, rfl, by decide +kernel, rfl, by decide +kernel, by decide +kernel⟩, by decide +kernel, fun _ _ _ _ _ _ us hl => match us, hl with | [_, _], _ => rfl⟩
theorem ok_parts_many : DefOk (namesD GT) d_parts_many (topS 15) := ⟨⟨rfl, rfl, rfl, by decide +kernel, rfl, by decide +kernel, by decide +kernel⟩, by decide +kernel, fun _ _ _ _ _ _ us hl => match us, hl with | [_, _], _ => rfl⟩
theorem ok_all_meanings : DefOk (namesD GT) d_all_meanings (topS 17) := ⟨⟨rfl, rfl, rfl, by decide +kernel, rfl, by decide +kernel, by decide +kernel⟩, by decide +kernel, fun _ _ _ _ _ _ us hl => match us, hl with | [_], _ => rfl⟩
theorem ok_law_k44 : DefOk (namesD GT) d_law_k44 (topS 37) := ⟨⟨rfl, rfl, rfl, by decide +kernel, rfl, by decide +kernel, by decide +kernel⟩, by decide +kernel, fun _ _ _ _ _ _ us hl => match us, hl with | [_], _ => rfl⟩
theorem okx_NoWords : EngX.InitOk none (inClass (topS 2) 0) := ⟨⟨rfl, rfl, rfl, by decide +kernel, rfl, by decide +kernel, by decide +kernel⟩, by decide +kernel, by decide +kernel, fun _ _ _ _ _ _ _ us hl => match us, hl with | [_], _ => rfl⟩
theorem okx_NoNumber : EngX.InitOk (some "number") (inClass (topS 3) 0) := ⟨⟨rfl, rfl, rfl, by decide +kernel, rfl, by decide +kernel, by decide +kernel⟩, by decide +kernel, by decide +kernel, fun _ _ _ _ _ _ _ us hl => match us, hl with | [_, _], _ => rfl⟩
theorem xok {K : PySem.W.Frag} {a1 a9 a10 : Addr} (c1 : ClF K "SaidError" a1) (c9 : ClF K "NoWords" a9) (c10 : ClF K "NoNumber" a10) (ve : PySem.W.subIn K (.type "ValueError") (.type "BaseException") = some true) (s9_0 : PySem.W.subIn K (.ref a9) (.type "ValueError") = some true) (s9_1 : PySem.W.subIn K (.ref a9) (.ref a1) = some true) (s9_9 : PySem.W.subIn K (.ref a9) (.ref a9) = some true) (s9_10 : PySem.W.subIn K (.ref a9) (.ref a10) = some false) (s10_0 : PySem.W.subIn K (.ref a10) (.type "ValueError") = some true) (s10_1 : PySem.W.subIn K (.ref a10) (.ref a1) = some true) (s10_9 : PySem.W.subIn K (.ref a10) (.ref a9) = some false) (s10_10 : PySem.W.subIn K (.ref a10) (.ref a10) = some true) (x9 : EngX.XcC K a9) (i9 : EngX.XcI K (gvN K) a1 a9 "NoWords" none) (x10 : EngX.XcC K a10) (i10 : EngX.XcI K (gvN K) a1 a10 "NoNumber" (some "number")) : XOk K (gvN K) (caN K GT.xs) GT.xs := by
  have e1 : caN K GT.xs 1 = a1 := caN_of c1.ns rfl
  have e9 : caN K GT.xs 9 = a9 := caN_of c9.ns rfl
  have e10 : caN K GT.xs 10 = a10 := caN_of c10.ns rfl
  have mem : ∀ {c : Nat} {x : Str} {f : Option Str}, lookX GT.xs c = some (x, f) → (c = 0 ∧ x = "ValueError" ∧ f = none) ∨ (c = 1 ∧ x = "SaidError" ∧ f = none) ∨ (c = 9 ∧ x = "NoWords" ∧ f = none) ∨ (c = 10 ∧ x = "NoNumber" ∧ f = some ("number" : Str)) := fun {c x f} h => by
    have := lookX_mem h
    simpa only [GT, List.mem_cons, List.not_mem_nil, or_false, Prod.mk.injEq] using this
  refine ⟨fun c x f h => ?_, fun d x f c y g hd h2 hc => ?_, fun d x f h h2 => ?_⟩
  · rcases mem h with ⟨rfl, rfl, rfl⟩ | ⟨rfl, rfl, rfl⟩ | ⟨rfl, rfl, rfl⟩ | ⟨rfl, rfl, rfl⟩
    · show (if (0 : Nat) = 0 then _ else _); rw [if_pos rfl]
    · rw [if_neg (by decide), e1]; exact c1.ns
    · rw [if_neg (by decide), e9]; exact c9.ns
    · rw [if_neg (by decide), e10]; exact c10.ns
  · rcases mem hd with ⟨rfl, rfl, rfl⟩ | ⟨rfl, rfl, rfl⟩ | ⟨rfl, rfl, rfl⟩ | ⟨rfl, rfl, rfl⟩
    · exact absurd h2 (by decide)
    · exact absurd h2 (by decide)
    · rcases mem hc with ⟨rfl, rfl, rfl⟩ | ⟨rfl, rfl, rfl⟩ | ⟨rfl, rfl, rfl⟩ | ⟨rfl, rfl, rfl⟩
      · rw [e9]; exact sub_ve s9_0 ve
      · rw [e9, show cvX (caN K GT.xs) 1 = .ref a1 from (if_neg (by decide)).trans (by rw [e1])]; exact sub_ref c1 s9_9 s9_1
      · rw [e9, show cvX (caN K GT.xs) 9 = .ref a9 from (if_neg (by decide)).trans (by rw [e9])]; exact sub_ref c9 s9_9 s9_9
      · rw [e9, show cvX (caN K GT.xs) 10 = .ref a10 from (if_neg (by decide)).trans (by rw [e10])]; exact sub_ref c10 s9_9 s9_10
    · rcases mem hc with ⟨rfl, rfl, rfl⟩ | ⟨rfl, rfl, rfl⟩ | ⟨rfl, rfl, rfl⟩ | ⟨rfl, rfl, rfl⟩
      · rw [e10]; exact sub_ve s10_0 ve
      · rw [e10, show cvX (caN K GT.xs) 1 = .ref a1 from (if_neg (by decide)).trans (by rw [e1])]; exact sub_ref c1 s10_10 s10_1
      · rw [e10, show cvX (caN K GT.xs) 9 = .ref a9 from (if_neg (by decide)).trans (by rw [e9])]; exact sub_ref c9 s10_10 s10_9
      · rw [e10, show cvX (caN K GT.xs) 10 = .ref a10 from (if_neg (by decide)).trans (by rw [e10])]; exact sub_ref c10 s10_10 s10_10
  · rcases mem h with ⟨rfl, rfl, rfl⟩ | ⟨rfl, rfl, rfl⟩ | ⟨rfl, rfl, rfl⟩ | ⟨rfl, rfl, rfl⟩
    · exact absurd h2 (by decide)
    · exact absurd h2 (by decide)
    · rw [e9]; exact ⟨x9, a1, i9⟩
    · rw [e10]; exact ⟨x10, a1, i10⟩

end G
local macro_rules | `(tactic| walk_at "wp") => `(tactic| simp only [Eng.Ew_ok, Eng.Ew_ex, Eng.Ew_none, Eng.Sv_some, Eng.Sv_none, Eng.Ew_bnd, Eng.Ew_fst, Eng.Ew_noex, Eng.outA_val, Eng.outA_new, Eng.outA_none, Eng.ev_int, Eng.ev_str, Eng.ev_bl, Eng.ev_non, Eng.ev_var, Eng.varA_val, Eng.varA_own, Eng.evs_nil, Eng.evs_cons, Eng.ev_bin, Eng.ev_cmp, Eng.ev_ix, Eng.part_abs, Eng.ev_sl, Eng.ev_call, Eng.ev_blt, Eng.evT_notE, Eng.evT_bl, Eng.ss_nil, Eng.ss_cons, Eng.ss_frz, Eng.ss_own, Eng.ss_cell, Eng.ss_par, Eng.ss_expr, Eng.ss_whl, Eng.ss_ret, Eng.ss_retN, Eng.ss_brk, Eng.ss_cnt, Eng.ss_pass, Eng.seqQ_nx, Eng.seqQ_rt, Eng.seqQ_bk, Eng.seqQ_ct, Eng.seqQ_ex, Eng.loopQ_nx, Eng.loopQ_ct, Eng.loopQ_bk, Eng.loopQ_rt, Eng.loopQ_ex, Eng.defQ_nx, Eng.defQ_rt, Eng.defQ_ex, Eng.der_int, Eng.der_str, Eng.der_bl, Eng.der_non, Eng.der_lst, Eng.der_tup, Eng.der_gt, Eng.der_scr, Eng.der_dK, Eng.der_dT, Eng.der_slot, Eng.der_cell, Eng.slD_lst, Eng.slD_dK, Eng.slD_dT, Eng.clD_lst, Eng.clD_dK, Eng.ders_nil, Eng.ders_cons, Eng.Ew_val, Eng.Ew_new, Eng.Ew_out0, Eng.op_add, Eng.op_sub, Eng.op_mul, Eng.op_div, Eng.op_mod, Eng.op_pow, Eng.add_int, Eng.sub_int, Eng.ix_lst, Eng.ix_tup, Eng.ix_gt, Eng.ix_dKs, Eng.ix_dKi, Eng.at_0, Eng.at_1, Eng.at_2, Eng.at_3, Eng.at_4, Eng.at_5, Eng.cut_lst, Eng.cut_scr, Eng.cmp_two, Eng.eq_int, Eng.ne_int, Eng.eq_str, Eng.ne_str, Eng.lt_int, Eng.le_int, Eng.gt_int, Eng.ge_int, Eng.isBl_bl, Eng.tru_def, Eng.tru_int, Eng.tru_bl, Eng.tru_non, Eng.tru_lst, Eng.tru_tup, Eng.bf_len, Eng.bf_abs, Eng.bf_max, Eng.bf_min, Eng.bf_int, Eng.bf_list, Eng.bf_repr, Eng.max_int, Eng.min_int, Eng.int_int, Eng.int_bl, Eng.list_lst, Eng.list_scr, Eng.sol_int, Eng.sol_str, Eng.sol_bl, Eng.sol_non, Eng.sol_lst, Eng.sol_tup, Eng.sol_gt, Eng.sol_scr, Eng.sol_cell, Eng.sol_dK, Eng.solL_nil, Eng.solL_cons, Eng.ret_int, Eng.ret_str, Eng.ret_bl, Eng.ret_non, Eng.ret_lst, Eng.ret_tup, Eng.ret_slot, Eng.retO_own, Eng.frz_o, Eng.frzO_own, Eng.frzO_val, Eng.frzO_non, Eng.ip_addI, Eng.ip_subI, Eng.setF_0, Eng.setF_1, Eng.setF_2, Eng.setF_3, Eng.getO_some', Eng.getF_lst, Eng.put_cell, Eng.put_slot, Eng.isLst_lst, Eng.it_lst, Eng.it_scr, Eng.it_tupl, Eng.bx_some, Eng.bx_none, Eng.bx_map, Eng.bx_bind, Eng.bx_if, Eng.an_true, Eng.an_false, Eng.an_and, Eng.br_true, Eng.br_false, Eng.br_not, Eng.w_lift, Eng.w_prim, Eng.w_lst, Eng.w_tup, Eng.isInt_int, Eng.w_neg, Eng.w_notE, Eng.w_andE, Eng.w_orE, Eng.w_ife, Eng.pt_int, Eng.pt_var, Eng.pt_bin, Eng.pt_neg, Eng.pt_ix, Eng.pt_call, Eng.pt_blt, Eng.pt_ife, Eng.pt_meth, Eng.lstO_lst, Eng.w_rev, Eng.test_abs, Eng.tf_cmp, Eng.tf_chain, Eng.tf_var, Eng.tf_andE, Eng.tf_orE, Eng.tf_notE, Eng.tf_ix, Eng.tf_call, Eng.tf_blt, Eng.tf_bin, Eng.w_lc, Eng.w_chain, Eng.t_cmp, Eng.t_chain, Eng.t_andE, Eng.t_orE, Eng.t_var, Eng.t_call, Eng.t_blt, Eng.t_ix, Eng.t_bin, Eng.t_sl, Eng.w_asg, Eng.w_star, Eng.w_ifs, Eng.w_for, Eng.w_sset, Eng.w_saug, Eng.w_aug, Eng.valR_o, Eng.slV_val, Eng.w_mut, Eng.o_if, Eng.o_map, Eng.o_bind, Eng.w_cut, Eng.b_nm, Eng.b_tp, Eng.b_nil, Eng.b_cons, Eng.o_lst, Eng.o_dK, Eng.o_val, Eng.c_lst, Eng.p_two, Eng.s_der, Eng.a_der, Eng.a_one, Eng.m_app, Eng.len_lst, Eng.len_tup, Eng.len_gt, Eng.len_scr, Eng.len_dK, Eng.abs_int, Eng.midQ_nx, Eng.midQ_rt, Eng.midQ_bk, Eng.midQ_ct, Eng.midQ_ex, Eng.w_meth, Eng.mk_lindex, Eng.mk_lcount, Eng.ty_lstc, Eng.mk_join, Eng.ty_strj, Eng.ty_lst, Eng.ne_strs, Eng.eqs_strs, Eng.ne_nils, Eng.eqs_nils, Eng.eqs_nil2, Eng.nin_strs, Eng.inn_strs, Eng.ne_strs2, Eng.cutL_take, Eng.cutL_drop, Eng.zip_map, Eng.enum_map, Eng.it_enum_l, Eng.it_zip_l, Eng.it_rvs_l, Eng.o_mul_str, Eng.o_mul_lst, Eng.o_add_str, Eng.o_add_lst, Eng.o_add_tup, Eng.o_mul_int, Eng.o_div_int, Eng.o_mod_int, Eng.o_pow_int, Eng.o_ix_str, Eng.o_cut_str, Eng.o_len_str, Eng.b_rng1, Eng.b_rng2, Eng.b_rng3, Eng.n_f2_two, Eng.len_one, Eng.map_app, Eng.str_snoc, Eng.int_snoc, Eng.lst_one, Eng.lst_two, Eng.wipe_nil, Eng.wipe_cons, Eng.o_sortll, Eng.it_txt, Eng.w_box, Eng.t_box, Eng.tf_box, Eng.pt_box, Eng.ob_lst, Eng.b_star, Eng.nt_nil, Eng.nt_cons, Eng.take_s, Eng.take_z, Eng.drop_s, Eng.drop_z, Eng.m_pop, Eng.b_mpop, Eng.b_tpl, Eng.is_bl, Eng.isn_bl, Eng.list_txt, Eng.w_lend, Eng.t_lend, Eng.tf_lend, Eng.pt_lend, Eng.kb_int, Eng.kb_bl, Eng.kb_str, Eng.kb_non, Eng.kb_strs, Eng.kb_ints, Eng.kb_nil, Eng.o_repr_int, Eng.o_repr_bl, Eng.o_repr_non, Eng.w_ofset, Eng.t_ofset, Eng.tf_ofset, Eng.o_sets, Eng.o_setl, Eng.o_maxl, Eng.o_minl, Eng.o_maxf, Eng.o_minf, Eng.o_dm, Eng.o_sorted, Eng.o_tuple, Eng.sortW_len, Eng.ne_bl, Eng.eq_bl, Eng.beq_dec, Eng.beq_strD, Eng.m_ext, Eng.m_ins, Eng.m_rev, Eng.m_clr, Eng.b_mext, Eng.b_mins, Eng.b_mrev, Eng.b_mclr, Eng.w_glb, Eng.eqs_intnil, Eng.eqs_ints2, Eng.ne_ints2, Eng.ne_intnil, Eng.t_glb, Eng.pt_glb, Eng.nc_add, Eng.nc_addl, Eng.nc_ladd, Eng.nc_mul, Eng.nc_mull, Eng.nc_lmul, Eng.nc_modl, Eng.nc_divl, Eng.cutL_mid, Eng.cutL_take_l, Eng.cutL_drop_l, Eng.cutL_mid_ll, Eng.cutL_mid_lc, Eng.cutL_mid_cl, Eng.w_dctK, Eng.w_dctT, Eng.w_isi, Eng.t_isi, Eng.tf_isi, Eng.w_dget, Eng.t_dget, Eng.b_dgs, Eng.b_dgi, Eng.ty_non, Eng.ty_bl, Eng.ty_int, Eng.ty_str, Eng.ty_tup, Eng.ty_gt, Eng.ty_lstD, Eng.ty_scr, Eng.ty_dK, Eng.ty_dT, Eng.isi_non_bl, Eng.isi_non_int, Eng.isi_non_str, Eng.isi_non_tup, Eng.isi_non_lst, Eng.isi_non_dct, Eng.isi_bl_bl, Eng.isi_bl_int, Eng.isi_bl_str, Eng.isi_bl_tup, Eng.isi_bl_lst, Eng.isi_bl_dct, Eng.isi_int_bl, Eng.isi_int_int, Eng.isi_int_str, Eng.isi_int_tup, Eng.isi_int_lst, Eng.isi_int_dct, Eng.isi_str_bl, Eng.isi_str_int, Eng.isi_str_str, Eng.isi_str_tup, Eng.isi_str_lst, Eng.isi_str_dct, Eng.isi_tup_bl, Eng.isi_tup_int, Eng.isi_tup_str, Eng.isi_tup_tup, Eng.isi_tup_lst, Eng.isi_tup_dct, Eng.isi_lst_bl, Eng.isi_lst_int, Eng.isi_lst_str, Eng.isi_lst_tup, Eng.isi_lst_lst, Eng.isi_lst_dct, Eng.isi_dct_bl, Eng.isi_dct_int, Eng.isi_dct_str, Eng.isi_dct_tup, Eng.isi_dct_lst, Eng.isi_dct_dct, Eng.nml_some, Eng.nml_none, Eng.inx_some, Eng.inx_none, Eng.outx_some, Eng.outx_none, Eng.w_exis, Eng.t_exis, Eng.tf_exis, Eng.w_exfd, Eng.t_exfd, Eng.tf_exfd, Eng.ss_raise, Eng.ss_try, Eng.endQ_nx, Eng.endQ_rt, Eng.endQ_bk, Eng.endQ_ct, Eng.tryQ_nx, Eng.tryQ_rt, Eng.tryQ_bk, Eng.tryQ_ct, Eng.o_join, Eng.w_dsp, Eng.ss_forC, Eng.ss_parA, Eng.ss_parB, Eng.w_evsO0, Eng.w_evsO, Eng.p_grp, Eng.p_put0, Eng.p_put, Eng.nrm_lst, Eng.nrm_dK, Eng.nrm_dT, Eng.nrm_tup, Eng.nrm_int, Eng.nrm_str, Eng.nrm_bl, Eng.nrm_non, Eng.nrm_val, Eng.pto_own, Eng.pto_val, Eng.w_dsp1, Eng.b_key1, Eng.keys_nil, Eng.keys_strs, Eng.w_lc2, Eng.o_rng, Eng.b_ltll, List.getElem?_cons_zero, List.getElem?_cons_succ, List.set_cons_zero, List.set_cons_succ, List.length_cons, List.length_nil, Option.bind_some, Option.map_some, Option.bind_none, Option.map_none, List.getElem?_nil, Bool.and_true, Bool.true_and, Bool.and_self, Bool.false_and, Bool.and_false, Bool.or_true, Bool.true_or, Bool.or_false, Bool.false_or, reduceIte, List.length_set, Nat.reduceAdd, Nat.reduceLT, Nat.reduceLeDiff, Nat.zero_lt_succ, Int.reduceLT, Int.reduceLE, Int.reduceNeg, Int.reducePow, Int.reduceAdd, Int.reduceSub, Int.reduceMul, Nat.reducePow, or_true, true_or, and_self, decide_true, decide_false, Bool.not_true, Bool.not_false, List.length_map, List.length_append, List.length_reverse, Int.toNat_natCast, List.cons_append, List.nil_append, List.reverse_cons, List.reverse_nil, Eng.cut_map, Int.zero_add, Int.sub_zero, Nat.one_mul, Nat.mul_one, beq_self_eq_true, Nat.reduceMul, Nat.reduceSub, Nat.zero_add, Nat.add_zero])
local macro_rules | `(tactic| walk_at "side") => `(tactic| first | with_reducible exact True.intro | with_reducible assumption | omega | with_reducible exact Eng.lim_ok (by omega) (by omega) | with_reducible exact Eng.log_ok (by omega) (by omega) | with_reducible exact Eng.fits_l (by omega) (by omega) | with_reducible exact Eng.fits_r (by omega) (by omega) | with_reducible exact Eng.fits_b (by omega) (by omega) (by omega) (by omega) | (simp only [List.length_map, List.length_append, List.length_take, List.length_drop, List.length_reverse, List.length_cons, List.length_nil, Eng.strRep_len]; omega) | exact (rfl : @Eq Bool _ _))
local macro_rules | `(tactic| walk_at "an") => `(tactic| ((with_reducible refine Eng.An.mk ?_ ?_); (· walk_at "side")))
local macro_rules | `(tactic| walk_at "br") => `(tactic| first | ((with_reducible refine Eng.Br.pos ?_ ?_); (· walk_at "side")) | ((with_reducible refine Eng.Br.neg ?_ ?_); (· walk_at "side")))
local macro_rules | `(tactic| walk_at "call") => `(tactic| fail)
local macro_rules | `(tactic| walk_at "go") => `(tactic| repeat (first | walk_at "wp" | walk_at "an" | walk_at "br" | walk_at "glb" | walk_at "call"))
local macro_rules | `(tactic| walk_at "q") => `(tactic| first | done | exact True.intro | exact rfl | exact ⟨rfl, rfl⟩ | exact ⟨rfl, rfl, rfl⟩ | assumption | omega)
local macro_rules | `(tactic| walk_at "tr") => `(tactic| first | exact True.intro | rfl | omega)

local macro_rules | `(tactic| walk_at "glb") => `(tactic| fail)

namespace G
open PySem PySem.Spec PyProof.Rows L2 Eng
theorem by_first_c {k : Nat} (hk : 1 ≤ k) {w : List Str} {b : Cells} {P : D × Bool → Cells → Prop} {E : D → Cells → Prop} (hl : w.length ≤ 100000) (hQ : P (.lst ((FB.firsts w).map .str), true) b) :
    Ew (callA ((semT GT k).f i_by_first) [.lst (w.map .str)] b) P E := by
  obtain ⟨k, rfl⟩ : ∃ j, k = j + 1 := ⟨k - 1, by omega⟩
  rw [sem_by_first]
  refine callC rfl rfl (run_def.mpr ?_)
  show Sv (exSs _ d_by_first.body [.val (.lst (w.map .str)), .non, .non] _) _
  unfold d_by_first
  simp only
  have zs : sizeLine = 16777216 := rfl
  walk_at "go"
  refine for_m (ys := w) (f := D.str) (fun j ρ c => c = b ∧ (∃ (s2 : Sl), ρ = [.val (.lst (w.map .str)), .own (.lst ((FB.firsts (w.take j)).map .str)), s2])) ⟨rfl, ⟨_, rfl⟩⟩ ?_ ?_
  · rintro j z ρ c hz ⟨rfl, ⟨s2, rfl⟩⟩
    have e := take_snoc hz
    have len : (FB.firsts (w.take j)).length ≤ (w.take j).length := FB.firsts_len _
    rw [List.length_take] at len
    walk_at "go"
    refine Br.dec (fun h => ?_) (fun h => ?_)
    · walk_at "go"
      exact ⟨by walk_at "q", _, by rw [e, FB.firsts_snoc, if_pos h]⟩
    · walk_at "go"
      exact ⟨by walk_at "q", _, by rw [e, FB.firsts_snoc, if_neg h]⟩
  · rintro ρ c ⟨rfl, ⟨s2, rfl⟩⟩
    rw [List.take_length]
    walk_at "go"
    exact hQ
local macro_rules | `(tactic| walk_at "call") => `(tactic| ((with_reducible refine G.by_first_c ?_ ?_ ?_); (· omega); (· walk_at "side")))
theorem turned_c {k : Nat} (hk : 1 ≤ k) {w : List Str} {b : Cells} {P : D × Bool → Cells → Prop} {E : D → Cells → Prop} (hQ : P (.lst (w.reverse.map .str), true) b) :
    Ew (callA ((semT GT k).f i_turned) [.lst (w.map .str)] b) P E := by
  obtain ⟨k, rfl⟩ : ∃ j, k = j + 1 := ⟨k - 1, by omega⟩
  rw [sem_turned]
  refine callC rfl rfl (run_def.mpr ?_)
  show Sv (exSs _ d_turned.body [.val (.lst (w.map .str))] _) _
  unfold d_turned
  simp only
  have zs : sizeLine = 16777216 := rfl
  walk_at "go"
  rw [← List.map_reverse]
  exact hQ
local macro_rules | `(tactic| walk_at "call") => `(tactic| ((with_reducible refine G.turned_c ?_ ?_); (· omega)))
theorem laid_c {k : Nat} (hk : 1 ≤ k) {u v : List Str} {b : Cells} {P : D × Bool → Cells → Prop} {E : D → Cells → Prop} (hu : u.length ≤ 100000) (hv : v.length ≤ 100000) (hQ : P (.lst ((FB.lay u v).map .str), true) b) :
    Ew (callA ((semT GT k).f i_laid) [.lst (u.map .str), .lst (v.map .str)] b) P E := by
  obtain ⟨k, rfl⟩ : ∃ j, k = j + 1 := ⟨k - 1, by omega⟩
  rw [sem_laid]
  refine callC rfl rfl (run_def.mpr ?_)
  show Sv (exSs _ d_laid.body [.val (.lst (u.map .str)), .val (.lst (v.map .str)), .non] _) _
  unfold d_laid
  simp only
  have zs : sizeLine = 16777216 := rfl
  walk_at "go"
  have em : (if (v.length : Int) < (u.length : Int) then (v.length : Int) else (u.length : Int)) = ((min u.length v.length : Nat) : Int) := by
    split <;> omega
  rw [em]
  walk_at "go"
  refine for_d (fun j ρ c => c = b ∧ FB.lay u v = FB.layGo u v (min u.length v.length - j) ∧ (∃ (s2 : Sl), ρ = [.val (.lst (u.map .str)), .val (.lst (v.map .str)), s2])) ⟨rfl, rfl, ⟨_, rfl⟩⟩ ?_ ?_
  · rintro j ρ c hj ⟨rfl, hlay, ⟨s2, rfl⟩⟩
    obtain ⟨k, hk⟩ : ∃ k : Nat, min u.length v.length - j = k + 1 := ⟨min u.length v.length - j - 1, by omega⟩
    have e1 : ((min u.length v.length : Nat) : Int) - (j : Int) = ((k + 1 : Nat) : Int) := by omega
    have e2 : ((u.length : Nat) : Int) - ((k + 1 : Nat) : Int) = ((u.length - (k + 1) : Nat) : Int) := by omega
    rw [e1]
    rw [hk] at hlay
    walk_at "go"
    rw [e2]
    walk_at "go"
    refine Br.dec (fun h => ?_) (fun h => ?_)
    · walk_at "go"
      have e : FB.lay u v = u ++ v.drop (k + 1) := by
        rw [hlay]
        unfold FB.layGo
        rw [if_pos h]
      rw [← e]
      exact hQ
    · walk_at "go"
      refine ⟨by walk_at "q", ?_, _, rfl⟩
      rw [hlay]
      conv => lhs; unfold FB.layGo
      rw [if_neg h]
      congr 1
      omega
  · rintro ρ c ⟨rfl, hlay, ⟨s2, rfl⟩⟩
    walk_at "go"
    rw [Nat.sub_self] at hlay
    have e : FB.lay u v = u ++ v := hlay
    rw [← e]
    exact hQ
local macro_rules | `(tactic| walk_at "call") => `(tactic| ((with_reducible refine G.laid_c ?_ ?_ ?_ ?_); (· omega); (· walk_at "side"); (· walk_at "side")))
theorem first_half_c {k : Nat} (hk : 2 ≤ k) {w p : List Str} {a : Str} {b : Cells} {P : D × Bool → Cells → Prop} {E : D → Cells → Prop} (f : FB.FH w p a) (hl : w.length ≤ 100000) (hQ : P (.tup [.lst (p.map .str), .str a], true) b) :
    Ew (callA ((semT GT k).f i_first_half) [.lst (w.map .str)] b) P E := by
  obtain ⟨k, rfl⟩ : ∃ j, k = j + 1 := ⟨k - 1, by omega⟩
  rw [sem_first_half]
  refine callC rfl rfl (run_def.mpr ?_)
  show Sv (exSs _ d_first_half.body [.val (.lst (w.map .str)), .non] _) _
  unfold d_first_half
  simp only
  have zs : sizeLine = 16777216 := rfl
  have hne : w ≠ [] := f.ne
  walk_at "go"
  refine Bx.intro (D.str a) (by rw [f.firsts]; exact atI_last' (by simp)) ?_
  walk_at "go"
  have ha : a ∈ w := (f.mem a).mp (by simp)
  rw [index_strs ha]
  walk_at "go"
  rw [f.take]
  exact hQ
theorem last_half_c {k : Nat} (hk : 3 ≤ k) {w s : List Str} {a : Str} {b : Cells} {P : D × Bool → Cells → Prop} {E : D → Cells → Prop} (f : FB.FH w.reverse s.reverse a) (hl : w.length ≤ 100000) (hQ : P (.tup [.str a, .lst (s.map .str)], true) b) :
    Ew (callA ((semT GT k).f i_last_half) [.lst (w.map .str)] b) P E := by
  obtain ⟨k, rfl⟩ : ∃ j, k = j + 1 := ⟨k - 1, by omega⟩
  rw [sem_last_half]
  refine callC rfl rfl (run_def.mpr ?_)
  show Sv (exSs _ d_last_half.body [.val (.lst (w.map .str)), .non, .non] _) _
  unfold d_last_half
  simp only
  have zs : sizeLine = 16777216 := rfl
  walk_at "go"
  refine first_half_c (by omega) f (by walk_at "side") ?_
  walk_at "go"
  rw [List.reverse_reverse]
  walk_at "go"
  exact hQ
def bagD (cur seed idx : Int) (cs : List Int) : D := .lst [.int cur, .int seed, .int idx, .lst (cs.map .int)]
def Bag (d : D) : Prop := ∃ (cur seed idx : Int) (cs : List Int), d = bagD cur seed idx cs ∧ 0 ≤ cur ∧ 0 ≤ seed ∧ seed < 2147483647 ∧ 0 ≤ idx ∧ ∀ z ∈ cs, 0 ≤ z
theorem take_c {k : Nat} (hk : 1 ≤ k) {m : Int} {b : D} {cs0 : Cells} {P : D × Bool → Cells → Prop} {E : D → Cells → Prop} (hb : Bag b) (hm : 0 < m) (hm2 : m.natAbs.log2 < 9000)
    (hQ : ∀ (v : Nat) b', (v : Int) < m → Bag b' → P (.int v, false) (some b' :: cs0)) : Ew (callA ((semT GT k).f i_law_take) [.cell 0, .int m] (some b :: cs0)) P E := by
  obtain ⟨k, rfl⟩ : ∃ j, k = j + 1 := ⟨k - 1, by omega⟩
  have hQ : ∀ (v : Int) b', 0 ≤ v → v < m → Bag b' → P (.int v, false) (some b' :: cs0) := fun v b' h0 h1 h2 => by
    have := hQ v.toNat b' (by omega) h2
    rwa [Int.toNat_of_nonneg h0] at this
  obtain ⟨cur, seed, idx, cs, rfl, h1, h2, h3, h4, h5⟩ := hb
  rw [sem_law_take]
  refine callC rfl rfl (run_def.mpr ?_)
  show Sv (exSs _ d_law_take.body [.val (.cell 0), .val (.int m), .non, .non, .non, .non] _) _
  unfold d_law_take
  simp only
  have zs : sizeLine = 16777216 := rfl
  refine Sv.cut (fun ρ c => ∃ cur seed idx x, ρ = [.val (.cell 0), .val (.int m), .non, .non, x, .non] ∧ c = some (bagD cur seed idx cs) :: cs0 ∧ 0 ≤ cur ∧ 0 ≤ seed ∧ seed < 2147483647 ∧ 0 ≤ idx) ?_ ?_
  · unfold bagD
    walk_at "go"
    refine Br.dec (fun h => ?_) (fun h => ?_)
    · walk_at "go"
      refine Br.join (fun ρ c => ∃ z, 0 ≤ z ∧ ρ = [.val (.cell 0), .val (.int m), .non, .non, .val (.int z), .non] ∧ c = some (bagD cur seed idx cs) :: cs0) ?_ ?_
      · unfold bagD
        refine Br.dec (fun h => ?_) (fun h => ?_)
        · walk_at "go"
          refine Bx.any h4 h fun z hz => ?_
          walk_at "go"
          exact ⟨z, h5 z hz, by walk_at "tr", by walk_at "tr"⟩
        · walk_at "go"
          exact ⟨0, Int.le_refl 0, by walk_at "tr", by walk_at "tr"⟩
      · rintro _ _ ⟨z, hz, rfl, rfl⟩
        unfold bagD
        walk_at "go"
        refine Br.dec (fun h => ?_) (fun h => ?_)
        · walk_at "go"
          exact ⟨z, _, idx + 1, _, rfl, rfl, hz, Int.emod_nonneg _ (by decide), Int.emod_lt_of_pos _ (by decide), by omega⟩
        · walk_at "go"
          exact ⟨cur, _, idx + 1, _, rfl, rfl, h1, Int.emod_nonneg _ (by decide), Int.emod_lt_of_pos _ (by decide), by omega⟩
    · walk_at "go"
      exact ⟨cur, seed, idx, _, rfl, rfl, h1, h2, h3, h4⟩
  · rintro _ _ ⟨cur, seed, idx, x, rfl, rfl, h1, h2, h3, h4⟩
    unfold bagD
    walk_at "go"
    refine Br.dec (fun h => ?_) (fun h => ?_)
    · walk_at "go"
      exact hQ _ _ (Int.emod_nonneg _ (by omega)) (Int.emod_lt_of_pos _ hm) ⟨_, _, _, _, rfl, Int.ediv_nonneg h1 (by omega), h2, h3, h4, h5⟩
    · walk_at "wp"
      have e1 : 0 ≤ (seed + 1) * 39373 % 1000000007 := Int.emod_nonneg _ (by decide)
      have e2 : (seed + 1) * 39373 % 1000000007 < 1000000007 := Int.emod_lt_of_pos _ (by decide)
      generalize (seed + 1) * 39373 % 1000000007 = first at e1 e2 ⊢
      walk_at "go"
      have e3 : 0 ≤ first * first % 998244353 * 30011 % 998244353 := Int.emod_nonneg _ (by decide)
      have e4 : first * first % 998244353 * 30011 % 998244353 < 998244353 := Int.emod_lt_of_pos _ (by decide)
      generalize first * first % 998244353 * 30011 % 998244353 = second at e3 e4 ⊢
      refine Br.dec (fun h => ?_) (fun h => ?_)
      · walk_at "go"
        exact hQ _ _ (Int.emod_nonneg _ (by omega)) (Int.emod_lt_of_pos _ hm) ⟨_, _, _, _, rfl, h1, h2, h3, h4, h5⟩
      · walk_at "go"
        exact hQ _ _ (Int.emod_nonneg _ (by omega)) (Int.emod_lt_of_pos _ hm) ⟨_, _, _, _, rfl, h1, h2, h3, h4, h5⟩
local macro_rules | `(tactic| walk_at "call") => `(tactic| ((with_reducible refine G.take_c ?_ ?_ ?_ ?_ ?_); (· omega); (· with_reducible assumption); (· omega); (· walk_at "side"); intro v b hv hb))
theorem bag_c {k : Nat} (hk : 1 ≤ k) {ns : List Int} {P : D × Bool → Cells → Prop} {E : D → Cells → Prop} (hQ : ∀ xs, Bag (.lst xs) → P (.lst xs, true) []) : Ew (callA ((semT GT k).f i_law_bag) [.scr ns] []) P E := by
  obtain ⟨k, rfl⟩ : ∃ j, k = j + 1 := ⟨k - 1, by omega⟩
  rw [sem_law_bag]
  refine callC rfl rfl (run_def.mpr ?_)
  show Sv (exSs _ d_law_bag.body [.val (.scr ns), .non] _) _
  unfold d_law_bag
  simp only
  have zs : sizeLine = 16777216 := rfl
  walk_at "go"
  have h63 : (cutI ns none (some 63)).length ≤ 63 := by
    unfold cutI
    rw [HT.sIx_none, show (some (63 : Int)) = some ((63 : Nat) : Int) from rfl, HT.sIx_nat, List.length_take]
    omega
  refine lc_p D.int (fun z : Int => ((z.natAbs : Nat) : Int)) (fun _ => rfl) (by walk_at "side") (fun i y hy => ?_) ?_
  · walk_at "go"
    walk_at "q"
  · walk_at "go"
    refine hQ _ ⟨0, 1234567891, 0, _, rfl, by decide, by decide, by decide, by decide, fun z hz => ?_⟩
    obtain ⟨y, _, rfl⟩ := List.mem_map.mp hz
    omega
theorem Bx.ints {zs : List Int} {xs : List D} {i : Int} {p : D → Prop} (e : xs = zs.map D.int) (h0 : 0 ≤ i) (h1 : i < zs.length) (k : ∀ z ∈ zs, p (.int z)) : Bx (atI xs i) p := by
  subst e
  exact Bx.any h0 h1 k

/-- the signs of a text -/
abbrev sg (x : Str) : List Nat := x.cps.toList
theorem sg_len (x : Str) : x.length = (sg x).length := (Array.length_toList).symm
theorem sg_app (x y : Str) : sg (x ++ y) = sg x ++ sg y := by
  show ((x ++ y).cps).toList = _
  have e : (x ++ y).cps = x.cps ++ y.cps := rfl
  rw [e, Array.toList_append]
theorem sg_cut (x : Str) (lo hi : Option Int) : sg (cutS x lo hi) = cutL (sg x) lo hi := by
  have e : (sg x).length = x.length := (sg_len x).symm
  unfold cutL
  rw [e]
  show ((x.cps.toList.drop _).take _).toArray.toList = _
  rw [List.toList_toArray]
theorem sg_one (c : Nat) : sg ⟨#[c]⟩ = [c] := rfl
theorem sg_rep (x : Str) (k : Nat) : sg (strRep x k) = (List.replicate k (sg x)).flatten := by
  rw [show sg (strRep x k) = (strRep x k).cps.toList from rfl, strRep_toList]
theorem sg_rep1 (c : Nat) (k : Nat) : sg (strRep ⟨#[c]⟩ k) = List.replicate k c := by
  rw [sg_rep, sg_one]
  induction k with
  | zero => rfl
  | succ k ih => rw [List.replicate_succ, List.flatten_cons, ih, List.replicate_succ]; rfl
/-- small letters -/
def Low (l : List Nat) : Prop := ∀ c ∈ l, 97 ≤ c ∧ c < 123
/-- a word -/
def Wd (x : Str) : Prop := 1 ≤ x.length ∧ x.length ≤ 8 ∧ Low (sg x)
theorem Wd.w {x : Str} (h : Wd x) : IsW x := ⟨by have := h.2.1; omega, fun c hc => by have := h.2.2 c hc; omega⟩
theorem letters_l : ∀ i : Nat, i < 26 → (sg "abcdefghijklmnopqrstuvwxyz")[i]? = some (97 + i) := by decide +kernel
theorem letter_at {i : Int} {p : Nat → Prop} (h0 : 0 ≤ i) (h1 : i < 26) (h : ∀ c, c = 97 + i.toNat → p c) : Bx (atI ("abcdefghijklmnopqrstuvwxyz" : Str).cps.toList i) p := by
  obtain ⟨c, e, f⟩ := at_in (xs := ("abcdefghijklmnopqrstuvwxyz" : Str).cps.toList) (i := i) h0 (by
    have : ("abcdefghijklmnopqrstuvwxyz" : Str).cps.toList.length = 26 := by decide +kernel
    rw [this]; omega)
  rw [letters_l i.toNat (by omega)] at f
  exact ⟨c, e, h c (Option.some.inj f).symm⟩
theorem nodup_range {α : Type} {n : Nat} {h : Nat → α} (inj : ∀ i j, i < j → j < n → h i ≠ h j) : ((List.range n).map h).Nodup := by
  refine List.pairwise_map.mpr ?_
  refine (List.pairwise_lt_range (n := n)).imp_of_mem fun {a b} ha hb hab => ?_
  exact inj a b hab (List.mem_range.mp hb)
theorem tongue_c {k : Nat} (hk : 2 ≤ k) {m : Int} {b : D} {cs0 : Cells} {P : D × Bool → Cells → Prop} {E : D → Cells → Prop} (hb : Bag b) (hm0 : 0 ≤ m) (hm : m ≤ 8)
    (hQ : ∀ (ws : List Str) (b' : D), (ws.length : Int) = m → (∀ x ∈ ws, Wd x) → ws.Nodup → Bag b' → P (.lst (ws.map .str), true) (some b' :: cs0)) : Ew (callA ((semT GT k).f i_law_tongue) [.cell 0, .int m] (some b :: cs0)) P E := by
  obtain ⟨k, rfl⟩ : ∃ j, k = j + 1 := ⟨k - 1, by omega⟩
  obtain ⟨n, rfl⟩ : ∃ n : Nat, m = n := ⟨m.toNat, by omega⟩
  rw [sem_law_tongue]
  refine callC rfl rfl (run_def.mpr ?_)
  show Sv (exSs _ d_law_tongue.body [.val (.cell 0), .val (.int n), .non, .non, .non, .non, .non, .non] _) _
  unfold d_law_tongue
  simp only
  have zs : sizeLine = 16777216 := rfl
  have zl : ("abcdefghijklmnopqrstuvwxyz" : Str).length ≤ sizeLine := by decide +kernel
  walk_at "go"
  refine letter_at (by omega) (by omega) fun l1 f1 => ?_
  have n1 : ∀ c, (⟨#[c]⟩ : Str).length = 1 := fun c => rfl
  walk_at "go"
  rename_i v1 b1 p1 hb1 v2 b2 p2 hb2
  have nb : (strRep ⟨#[l1]⟩ (1 + v2)).length = 1 + v2 := by rw [strRep_len, n1, Nat.one_mul]
  have wb : Low (sg (strRep ⟨#[l1]⟩ (1 + v2))) := fun c hc => by
    rw [sg_rep1] at hc
    have := List.eq_of_mem_replicate hc
    omega
  generalize strRep ⟨#[l1]⟩ (1 + v2) = base at nb wb ⊢
  walk_at "go"
  rename_i v3 b3 p3 hb3 v4 b4 p4 hb4 v5 b5 p5 hb5
  have hnl : (sg base).length = v2 + 1 := by rw [← sg_len]; omega
  -- a list of words by a rule
  have fin : ∀ (h : Nat → Str), (∀ i, i < n → Wd (h i)) → (∀ i j, i < j → j < n → h i ≠ h j) → P (D.lst (((List.range n).map h).map .str), true) (some b5 :: cs0) := fun h h1 h2 =>
    hQ _ _ (by simp) (fun x hx => by
      obtain ⟨i, hi, rfl⟩ := List.mem_map.mp hx
      exact h1 i (List.mem_range.mp hi)) (nodup_range h2) hb5
  refine Br.intro (fun h => ?_) (fun h => ?_)
  · walk_at "go"
    refine lc_rp (β := Str) D.str (fun i => cutS (strRep ⟨#[97 + v4]⟩ 8) none (some ((i + 1 : Nat) : Int))) (fun _ => rfl) (by omega) (fun i hi => ?_) ?_
    · walk_at "go"
      refine letter_at (by omega) (by omega) fun l2 f2 => ?_
      walk_at "go"
      rw [strRep_len, n1, show (Int.toNat 8) = 8 from rfl]
      walk_at "go"
      obtain rfl : l2 = 97 + v4 := by omega
      exact ⟨by walk_at "q", by walk_at "q"⟩
    · walk_at "go"
      have e : ∀ i : Nat, i < n → sg (cutS (strRep ⟨#[97 + v4]⟩ 8) none (some ((i + 1 : Nat) : Int))) = List.replicate (i + 1) (97 + v4) := fun i hi => by
        rw [sg_cut, sg_rep1, cutL_take, List.take_replicate, Nat.min_eq_left (by omega)]
      refine fin _ (fun i hi => ⟨?_, ?_, ?_⟩) fun i j hij hj he => ?_
      · rw [sg_len, e i hi, List.length_replicate]; omega
      · rw [sg_len, e i hi, List.length_replicate]; omega
      · rw [e i hi]
        intro c hc
        have := List.eq_of_mem_replicate hc
        omega
      · have this : (sg _).length = (sg _).length := congrArg (fun x => (sg x).length) he
        rw [e i (by omega), e j hj, List.length_replicate, List.length_replicate] at this
        omega
  · walk_at "wp"
    refine Br.intro (fun h => ?_) (fun h => ?_)
    · walk_at "go"
      refine lc_rp (β := Str) D.str (fun i => strRep ⟨#[97 + (v4 + 5 * i) % 26]⟩ (1 + (v3 + 3 * i) % 8)) (fun _ => rfl) (by omega) (fun i hi => ?_) ?_
      · walk_at "go"
        refine letter_at (by omega) (by omega) fun l2 f2 => ?_
        walk_at "go"
        obtain rfl : l2 = 97 + (v4 + 5 * i) % 26 := by omega
        exact ⟨by walk_at "q", by walk_at "q"⟩
      · walk_at "go"
        refine fin _ (fun i hi => ⟨?_, ?_, ?_⟩) fun i j hij hj he => ?_
        · rw [sg_len, sg_rep1, List.length_replicate]; omega
        · rw [sg_len, sg_rep1, List.length_replicate]; omega
        · rw [sg_rep1]
          intro c hc
          have := List.eq_of_mem_replicate hc
          omega
        · have this : (sg _)[0]? = (sg _)[0]? := congrArg (fun x => (sg x)[0]?) he
          rw [sg_rep1, sg_rep1, List.getElem?_replicate, List.getElem?_replicate, if_pos (by omega), if_pos (by omega)] at this
          have := Option.some.inj this
          omega
    · walk_at "go"
      refine lc_rp (β := Str) D.str (fun i => cutS base none (some (v3 : Int)) ++ ⟨#[97 + (v4 + i) % 26]⟩ ++ cutS base (some ((v3 + 1 : Nat) : Int)) none) (fun _ => rfl) (by omega) (fun i hi => ?_) ?_
      · have c1 : (cutS base none (some (v3 : Int))).length = v3 := by rw [sg_len, sg_cut, cutL_take, List.length_take]; omega
        have c2 : (cutS base (some ((v3 + 1 : Nat) : Int)) none).length = v2 - v3 := by
          rw [sg_len, sg_cut, cutL_drop, List.length_drop]; omega
        walk_at "go"
        refine letter_at (by omega) (by omega) fun l2 f2 => ?_
        walk_at "go"
        have c3 : (cutS base none (some (v3 : Int)) ++ (⟨#[l2]⟩ : Str)).length = v3 + 1 := by rw [sg_len, sg_app, List.length_append, ← sg_len, c1]; rfl
        walk_at "go"
        obtain rfl : l2 = 97 + (v4 + i) % 26 := by omega
        exact ⟨by walk_at "q", by walk_at "q"⟩
      · walk_at "go"
        have e : ∀ i : Nat, i < n → sg (cutS base none (some (v3 : Int)) ++ (⟨#[97 + (v4 + i) % 26]⟩ : Str) ++ cutS base (some ((v3 + 1 : Nat) : Int)) none) = (sg base).take v3 ++ [97 + (v4 + i) % 26] ++ (sg base).drop (v3 + 1) := fun i hi => by
          rw [sg_app, sg_app, sg_cut, sg_cut, cutL_take, cutL_drop]
        refine fin _ (fun i hi => ⟨?_, ?_, ?_⟩) fun i j hij hj he => ?_
        · rw [sg_len, e i hi, List.length_append, List.length_append, List.length_take, List.length_drop, hnl]; simp; omega
        · rw [sg_len, e i hi, List.length_append, List.length_append, List.length_take, List.length_drop, hnl]; simp; omega
        · rw [e i hi]
          intro c hc
          rcases List.mem_append.mp hc with hc | hc
          · rcases List.mem_append.mp hc with hc | hc
            · exact wb c (List.mem_of_mem_take hc)
            · have := List.mem_singleton.mp hc
              omega
          · exact wb c (List.mem_of_mem_drop hc)
        · have h1 : (sg _)[v3]? = (sg _)[v3]? := congrArg (fun x => (sg x)[v3]?) he
          rw [e i (by omega), e j hj] at h1
          have g : ∀ q, ((sg base).take v3 ++ [q] ++ (sg base).drop (v3 + 1))[v3]? = some q := fun q => by
            have hl : ((sg base).take v3).length = v3 := by rw [List.length_take]; omega
            rw [List.append_assoc, List.getElem?_append_right (by omega), hl, Nat.sub_self]; rfl
          rw [g, g] at h1
          have := Option.some.inj h1
          omega
local macro_rules | `(tactic| walk_at "call") => `(tactic| ((with_reducible refine G.tongue_c ?_ ?_ ?_ ?_ ?_); (· omega); (· with_reducible assumption); (· omega); (· omega); intro ws b hl hw hnd hb))

theorem speech2_c {k : Nat} (hk : 2 ≤ k) {ws : List Str} {most : Int} {b : D} {cs0 : Cells} {P : D × Bool → Cells → Prop} {E : D → Cells → Prop} (hb : Bag b) (hm0 : 0 ≤ most) (hm : most ≤ 1000) (hw : ws.length ≤ 1000)
    (hQ : ∀ (sp : List Str) (b' : D), (sp.length : Int) ≤ most → (∀ x ∈ sp, x ∈ ws) → Bag b' → P (.lst (sp.map .str), true) (some b' :: cs0)) :
    Ew (callA ((semT GT k).f i_law_speech_2) [.cell 0, .lst (ws.map .str), .int most] (some b :: cs0)) P E := by
  obtain ⟨k, rfl⟩ : ∃ j, k = j + 1 := ⟨k - 1, by omega⟩
  obtain ⟨most, rfl⟩ : ∃ n : Nat, most = n := ⟨most.toNat, by omega⟩
  rw [sem_law_speech_2]
  refine callC rfl rfl (run_def.mpr ?_)
  show Sv (exSs _ d_law_speech_2.body [.val (.cell 0), .val (.lst (ws.map .str)), .val (.int most), .non, .non, .non, .non] _) _
  unfold d_law_speech_2
  simp only
  have zs : sizeLine = 16777216 := rfl
  walk_at "go"
  rename_i v1 b1 p1 hb1
  have hk : ∃ k : Nat, k ≤ most ∧ (k = 0 ∨ ws ≠ []) ∧ (v1 : Int) * (if (!decide (ws = [])) = true then 1 else 0) = (k : Int) := by
    by_cases h : ws = []
    · exact ⟨0, Nat.zero_le _, .inl rfl, by simp [h]⟩
    · exact ⟨v1, by omega, .inr h, by simp [h]⟩
  obtain ⟨k', k1, k2, k3⟩ := hk
  rw [k3]
  walk_at "go"
  refine lc_r (β := Str) (g := D.str) (fun _ => rfl) (by omega) (fun i sp c => ∃ b, Bag b ∧ c = some b :: cs0 ∧ ∀ x ∈ sp, x ∈ ws) ⟨b1, hb1, rfl, fun _ hx => by cases hx⟩ ?_ ?_
  · rintro i sp c hi hl ⟨b2, hb2, rfl, hs⟩
    have hne : 0 < ws.length := by
      rcases k2 with z | z
      · omega
      · exact List.length_pos_iff.mpr z
    walk_at "go"
    refine Bx.any (by omega) (by omega) fun y hy => ?_
    walk_at "go"
    refine ⟨y, rfl, _, by assumption, by walk_at "q", fun z hz => ?_⟩
    rcases List.mem_append.mp hz with q | q
    · exact hs z q
    · rw [List.mem_singleton.mp q]; exact hy
  · rintro sp c hl ⟨b2, hb2, rfl, hs⟩
    walk_at "go"
    refine for_r (fun i ρ c => ∃ (b : D) (sp : List Str), Bag b ∧ c = some b :: cs0 ∧ sp.length ≤ most ∧ (∀ x ∈ sp, x ∈ ws) ∧ (∃ (s4 s5 s6 : Sl), ρ = [.val (.cell 0), .val (.lst (ws.map .str)), .val (.int most), .own (.lst (sp.map .str)), s4, s5, s6]))
      ⟨_, sp, by assumption, rfl, by omega, hs, ⟨_, _, _, rfl⟩⟩ ?_ ?_
    · rintro i ρ c hi ⟨b4, sp4, hb4, rfl, hl4, hs4, ⟨s4, s5, s6, rfl⟩⟩
      walk_at "go"
      rename_i v3 b5 p3 hb5 v4 b6 p4 hb6
      refine Br.dec (fun h => ?_) (fun h => ?_)
      · have c2 : ((sp4.take (v3 + 1 + v4)).drop v3).length ≤ sp4.length := by rw [List.length_drop, List.length_take]; omega
        walk_at "go"
        refine ⟨b6, sp4.take v3 ++ (sp4.take (v3 + 1 + v4)).drop v3 ++ sp4.drop v3, hb6, by walk_at "q", ?_, fun x hx => ?_, _, _, _, rfl⟩
        · simp only [List.length_append, List.length_take, List.length_drop] at h ⊢
          omega
        · rcases List.mem_append.mp hx with q | q
          · rcases List.mem_append.mp q with q | q
            · exact hs4 x (List.mem_of_mem_take q)
            · exact hs4 x (List.mem_of_mem_take (List.mem_of_mem_drop q))
          · exact hs4 x (List.mem_of_mem_drop q)
      · walk_at "go"
        exact ⟨b6, sp4, hb6, by walk_at "q", hl4, hs4, _, _, _, rfl⟩
    · rintro ρ c ⟨b4, sp4, hb4, rfl, hl4, hs4, ⟨s4, s5, s6, rfl⟩⟩
      walk_at "go"
      exact hQ sp4 b4 (by omega) hs4 hb4
local macro_rules | `(tactic| walk_at "call") => `(tactic| ((with_reducible refine G.speech2_c ?_ ?_ ?_ ?_ ?_ ?_); (· omega); (· with_reducible assumption); (· omega); (· omega); (· omega); intro sp b hl hm hb))

theorem firsts_c {k : Nat} (hk : 1 ≤ k) {w : List Str} {b : Cells} {P : D × Bool → Cells → Prop} {E : D → Cells → Prop} (hl : w.length ≤ 100000) (hQ : P (.lst ((FB.firsts w).map .str), true) b) :
    Ew (callA ((semT GT k).f i_law_firsts) [.lst (w.map .str)] b) P E := by
  obtain ⟨k, rfl⟩ : ∃ j, k = j + 1 := ⟨k - 1, by omega⟩
  rw [sem_law_firsts]
  refine callC rfl rfl (run_def.mpr ?_)
  show Sv (exSs _ d_law_firsts.body [.val (.lst (w.map .str)), .non, .non] _) _
  unfold d_law_firsts
  simp only
  have zs : sizeLine = 16777216 := rfl
  walk_at "go"
  refine for_m (ys := w) (f := D.str) (fun j ρ c => c = b ∧ (∃ (s2 : Sl), ρ = [.val (.lst (w.map .str)), .own (.lst ((FB.firsts (w.take j)).map .str)), s2])) ⟨rfl, ⟨_, rfl⟩⟩ ?_ ?_
  · rintro j z ρ c hz ⟨rfl, ⟨s2, rfl⟩⟩
    have e := take_snoc hz
    have len : (FB.firsts (w.take j)).length ≤ (w.take j).length := FB.firsts_len _
    rw [List.length_take] at len
    walk_at "go"
    refine Br.dec (fun h => ?_) (fun h => ?_)
    · walk_at "go"
      exact ⟨by walk_at "q", _, by rw [e, FB.firsts_snoc, if_pos h]⟩
    · walk_at "go"
      exact ⟨by walk_at "q", _, by rw [e, FB.firsts_snoc, if_neg h]⟩
  · rintro ρ c ⟨rfl, ⟨s2, rfl⟩⟩
    rw [List.take_length]
    walk_at "go"
    exact hQ
local macro_rules | `(tactic| walk_at "call") => `(tactic| ((with_reducible refine G.firsts_c ?_ ?_ ?_); (· omega); (· walk_at "side")))
theorem lasts_c {k : Nat} (hk : 2 ≤ k) {w : List Str} {b : Cells} {P : D × Bool → Cells → Prop} {E : D → Cells → Prop} (hl : w.length ≤ 100000) (hQ : P (.lst ((FB.firsts w.reverse).reverse.map .str), true) b) :
    Ew (callA ((semT GT k).f i_law_lasts) [.lst (w.map .str)] b) P E := by
  obtain ⟨k, rfl⟩ : ∃ j, k = j + 1 := ⟨k - 1, by omega⟩
  rw [sem_law_lasts]
  refine callC rfl rfl (run_def.mpr ?_)
  show Sv (exSs _ d_law_lasts.body [.val (.lst (w.map .str))] _) _
  unfold d_law_lasts
  simp only
  have zs : sizeLine = 16777216 := rfl
  walk_at "go"
  rw [← List.map_reverse]
  walk_at "go"
  rw [← List.map_reverse]
  exact hQ
local macro_rules | `(tactic| walk_at "call") => `(tactic| ((with_reducible refine G.lasts_c ?_ ?_ ?_); (· omega); (· walk_at "side")))
theorem llaid_c {k : Nat} (hk : 1 ≤ k) {u v : List Str} {b : Cells} {P : D × Bool → Cells → Prop} {E : D → Cells → Prop} (hu : u.length ≤ 100000) (hv : v.length ≤ 100000) (hQ : P (.lst ((FB.lay u v).map .str), true) b) :
    Ew (callA ((semT GT k).f i_law_laid) [.lst (u.map .str), .lst (v.map .str)] b) P E := by
  obtain ⟨k, rfl⟩ : ∃ j, k = j + 1 := ⟨k - 1, by omega⟩
  rw [sem_law_laid]
  refine callC rfl rfl (run_def.mpr ?_)
  show Sv (exSs _ d_law_laid.body [.val (.lst (u.map .str)), .val (.lst (v.map .str)), .non] _) _
  unfold d_law_laid
  simp only
  have zs : sizeLine = 16777216 := rfl
  walk_at "go"
  have em : (if (v.length : Int) < (u.length : Int) then (v.length : Int) else (u.length : Int)) = ((min u.length v.length : Nat) : Int) := by
    split <;> omega
  rw [em]
  walk_at "go"
  refine whl_br (n0 := min u.length v.length) (fun n ρ c => c = b ∧ n ≤ min u.length v.length ∧ FB.lay u v = FB.layGo u v n ∧ ρ = [.val (.lst (u.map .str)), .val (.lst (v.map .str)), .val (.int n)]) ⟨rfl, Nat.le_refl _, rfl, rfl⟩ (by unfold wfuel; omega) ?_
  rintro n ρ c ⟨rfl, hn, hlay, rfl⟩
  walk_at "go"
  have e2 : ((u.length : Nat) : Int) - (n : Int) = ((u.length - n : Nat) : Int) := by omega
  rw [e2]
  walk_at "wp"
  refine Br.dec (fun h => ?_) fun h => ?_
  · have e : FB.lay u v = u ++ v.drop n := by
      rw [hlay]
      cases n with
      | zero => rfl
      | succ n => unfold FB.layGo; rw [if_pos h]
    walk_at "go"
    rw [← e]
    exact hQ
  · walk_at "go"
    cases n with
    | zero => exact absurd (by simp) h
    | succ n =>
      refine ⟨n, by omega, by walk_at "q", by omega, ?_, ?_⟩
      · rw [hlay]
        conv => lhs; unfold FB.layGo
        rw [if_neg h]
      · rw [show ((n + 1 : Nat) : Int) - 1 = (n : Int) by omega]
local macro_rules | `(tactic| walk_at "call") => `(tactic| ((with_reducible refine G.llaid_c ?_ ?_ ?_ ?_); (· omega); (· walk_at "side"); (· walk_at "side")))
theorem lhalves_c {k : Nat} (hk : 3 ≤ k) {w p s : List Str} {a d : Str} {b : Cells} {P : D × Bool → Cells → Prop} {E : D → Cells → Prop} (f : FB.FH w p a) (g : FB.FH w.reverse s.reverse d) (hl : w.length ≤ 100000) (hQ : P (.tup [.lst (p.map .str), .str a, .str d, .lst (s.map .str)], true) b) :
    Ew (callA ((semT GT k).f i_law_halves) [.lst (w.map .str)] b) P E := by
  obtain ⟨k, rfl⟩ : ∃ j, k = j + 1 := ⟨k - 1, by omega⟩
  rw [sem_law_halves]
  refine callC rfl rfl (run_def.mpr ?_)
  show Sv (exSs _ d_law_halves.body [.val (.lst (w.map .str)), .non, .non] _) _
  unfold d_law_halves
  simp only
  have zs : sizeLine = 16777216 := rfl
  walk_at "go"
  refine Bx.intro (D.str a) (by rw [f.firsts]; exact atI_last' (by simp)) ?_
  walk_at "go"
  refine Bx.intro (D.str d) (by rw [g.firsts]; simp [at_0]) ?_
  walk_at "go"
  have ha : a ∈ w := (f.mem a).mp (by simp)
  have hd : d ∈ w.reverse := (g.mem d).mp (by simp)
  rw [index_strs ha]
  walk_at "go"
  rw [← List.map_reverse]
  rw [index_strs hd]
  walk_at "go"
  have hle : s.length ≤ w.length := by
    obtain ⟨r, e1, e2, e3⟩ := g
    have := congrArg List.length e1
    simp at this
    omega
  have hs : w.reverse.idxOf d = s.length ∧ w.drop (w.length - s.length) = s := by
    constructor
    · have e := congrArg List.length g.take
      have := List.idxOf_lt_length_of_mem hd
      simp only [List.length_take, List.length_reverse] at e this
      omega
    · obtain ⟨r, e1, e2, e3⟩ := g
      have ew : w = (r.reverse ++ [d]) ++ s := by
        have := congrArg List.reverse e1
        simpa using this
      have el : w.length - s.length = (r.reverse ++ [d]).length := by rw [ew, List.length_append]; omega
      rw [el, ew, List.drop_left]
  rw [hs.1, show ((w.length : Nat) : Int) - ((s.length : Nat) : Int) = ((w.length - s.length : Nat) : Int) by omega]
  walk_at "go"
  rw [f.take, hs.2]
  exact hQ
theorem lshort_c : ∀ (n : Nat) {k : Nat} {w : List Str} {b : Cells} {P : D × Bool → Cells → Prop} {E : D → Cells → Prop}, n + 4 ≤ k → FB.card w ≤ n → n ≤ 10 → w.length ≤ 100000 → P (.lst ((FB.short w).map .str), true) b →
    Ew (callA ((semT GT k).f i_law_short) [.lst (w.map .str)] b) P E := by
  intro n
  induction n with
  | zero =>
    intro k w b P E hk h _ _ hQ
    have hw : w = [] := Decidable.byContradiction fun z => by have := FB.card_pos z; omega
    subst hw
    obtain ⟨k, rfl⟩ : ∃ j, k = j + 1 := ⟨k - 1, by omega⟩
    rw [sem_law_short]
    refine callC rfl rfl (run_def.mpr ?_)
    show Sv (exSs _ d_law_short.body [.val (.lst (List.map D.str [])), .non, .non, .non, .non] _) _
    unfold d_law_short
    simp only
    have zs : sizeLine = 16777216 := rfl
    walk_at "go"
    exact hQ
  | succ n ih =>
    intro k w b P E hk h h10 hl hQ
    obtain ⟨k, rfl⟩ : ∃ j, k = j + 1 := ⟨k - 1, by omega⟩
    rw [sem_law_short]
    refine callC rfl rfl (run_def.mpr ?_)
    show Sv (exSs _ d_law_short.body [.val (.lst (w.map .str)), .non, .non, .non, .non] _) _
    unfold d_law_short
    simp only
    have zs : sizeLine = 16777216 := rfl
    walk_at "go"
    refine Br.dec (fun hw => ?_) (fun hw => ?_)
    · subst hw
      walk_at "go"
      exact hQ
    · obtain ⟨p, a, s, b', f, g, l1, l2⟩ := FB.both hw
      have c1 := f.card
      have c2 := g.cardR
      have k1 := FB.short_len n p (by omega)
      have k2 := FB.short_len n s (by omega)
      have k3 : 2 ^ (n + 1) ≤ 2 ^ 11 := Nat.pow_le_pow_right (by decide) (by omega)
      walk_at "go"
      refine lhalves_c (by omega) f g hl ?_
      walk_at "go"
      refine ih (by omega) (by omega) (by omega) (by omega) ?_
      walk_at "go"
      refine ih (by omega) (by omega) (by omega) (by omega) ?_
      walk_at "go"
      rw [FB.short_of f g] at hQ
      exact hQ
theorem lshort7_c {k : Nat} (hk : 11 ≤ k) {w : List Str} {b : Cells} {P : D × Bool → Cells → Prop} {E : D → Cells → Prop} (hc : FB.card w ≤ 7) (hl : w.length ≤ 100000) (hQ : P (.lst ((FB.short w).map .str), true) b) :
    Ew (callA ((semT GT k).f i_law_short) [.lst (w.map .str)] b) P E := lshort_c 7 (by omega) hc (by omega) hl hQ
local macro_rules | `(tactic| walk_at "call") => `(tactic| ((with_reducible refine G.lshort7_c ?_ ?_ ?_ ?_); (· omega); (· walk_at "side"); (· walk_at "side")))

section
variable {α : Type} [DecidableEq α] {f : α → Str} (inj : ∀ a b, f a = f b → a = b)
include inj
end
def FF : Nat → Nat
  | 0 => 1
  | n + 1 => ((n + 1) * FF n) ^ 2
theorem FF_le : ∀ n : Fin 7, FF n.val ≤ 300000000000000000000000000 := by decide +kernel
theorem FF_sm : ∀ n : Fin 7, n.val ≤ 5 → FF n.val ≤ 3000000000000 := by decide +kernel
theorem said_all_c {k : Nat} (hk : 1 ≤ k) {n : Nat} {b : Cells} {P : D × Bool → Cells → Prop} {E : D → Cells → Prop} (hn : n ≤ 6) (hQ : P (.int (FF n : Nat), false) b) :
    Ew (callA ((semT GT k).f i_said_all) [.int (n : Nat)] b) P E := by
  obtain ⟨k, rfl⟩ : ∃ j, k = j + 1 := ⟨k - 1, by omega⟩
  rw [sem_said_all]
  refine callC rfl rfl (run_def.mpr ?_)
  show Sv (exSs _ d_said_all.body [.val (.int (n : Nat)), .non, .non] _) _
  unfold d_said_all
  simp only
  have zs : sizeLine = 16777216 := rfl
  walk_at "go"
  have e1 : (((n + 1 : Nat) : Int) - 1).toNat = n := by omega
  rw [e1]
  refine for_r (fun i ρ c => c = b ∧ (∃ (s2 : Sl), ρ = [.val (.int n), .val (.int (FF i : Nat)), s2])) ⟨rfl, ⟨_, rfl⟩⟩ ?_ ?_
  · rintro i ρ c hi ⟨rfl, ⟨s2, rfl⟩⟩
    have b1 := FF_le ⟨i, by omega⟩
    have b2 := FF_sm ⟨i, by omega⟩ (by show i ≤ 5; omega)
    have b3 : (1 + i) * FF i ≤ 6 * 3000000000000 := Nat.mul_le_mul (by omega) b2
    have e4 : (1 + i) * FF i * ((1 + i) * FF i) = FF (i + 1) := by
      rw [show FF (i + 1) = ((i + 1) * FF i) ^ 2 from rfl, Nat.pow_two, Nat.add_comm 1 i]
    walk_at "go"
    rw [e4]
    exact ⟨by walk_at "q", ⟨_, rfl⟩⟩
  · rintro ρ c ⟨rfl, ⟨s2, rfl⟩⟩
    walk_at "go"
    exact hQ
local macro_rules | `(tactic| walk_at "call") => `(tactic| ((with_reducible refine G.said_all_c ?_ ?_ ?_); (· omega); (· walk_at "side")))
abbrev SW (w : List Str) : List Str := sortW (FB.firsts w)
/-- two sorted lists of the same unlike words -/
theorem sw_uniq {u v : List Str} (hu : u.Pairwise fun a b => leW a b = true) (hv : v.Pairwise fun a b => leW a b = true) (nu : u.Nodup) (nv : v.Nodup) (h : ∀ x, x ∈ u ↔ x ∈ v) : u = v :=
  List.Perm.eq_of_pairwise (fun a b _ _ h1 h2 => leW_antisymm h1 h2) hu hv ((List.perm_ext_iff_of_nodup nu nv).mpr h)
theorem sw_nodup (w : List Str) : (SW w).Nodup := (sortW_perm _).nodup_iff.mpr (FB.firsts_nodup w)
theorem sw_mem {w : List Str} {x : Str} : x ∈ SW w ↔ x ∈ w := (sortW_perm _).mem_iff.trans FB.mem_firsts
theorem sw_len (w : List Str) : (SW w).length = FB.card w := (sortW_perm _).length_eq
theorem sw_same {u v : List Str} (h : ∀ x, x ∈ u ↔ x ∈ v) : SW u = SW v := sw_uniq (sortW_pw _) (sortW_pw _) (sw_nodup u) (sw_nodup v) fun x => by rw [sw_mem, sw_mem, h]
theorem sw_sort {l : List Str} (h : l.Pairwise fun a b => leW a b = true) (n : l.Nodup) {w : List Str} (hm : ∀ x, x ∈ w ↔ x ∈ l) : SW w = l := sw_uniq (sortW_pw _) h (sw_nodup w) n fun x => by rw [sw_mem, hm]
theorem sort_sorted {l : List Str} (h : l.Pairwise fun a b => leW a b = true) (n : l.Nodup) : sortW l = l := sw_uniq (sortW_pw _) h ((sortW_perm _).nodup_iff.mpr n) n fun x => (sortW_perm _).mem_iff
/-- the number of a meaning -/
def NB : Nat → List Str → Nat
  | 0, _ => 0
  | n + 1, w => match FB.half w, FB.half w.reverse with
    | some (p, a), some (s, b) => (((SW w).idxOf a * FF (FB.card w - 1) + NB n p) * FB.card w + (SW w).idxOf b) * FF (FB.card w - 1) + NB n s.reverse
    | _, _ => 0
theorem NB_of {n : Nat} {w p s : List Str} {a b : Str} (f : FB.FH w p a) (g : FB.FH w.reverse s.reverse b) :
    NB (n + 1) w = (((SW w).idxOf a * FF (FB.card w - 1) + NB n p) * FB.card w + (SW w).idxOf b) * FF (FB.card w - 1) + NB n s := by
  show (match FB.half w, FB.half w.reverse with
    | some (p, a), some (s, b) => (((SW w).idxOf a * FF (FB.card w - 1) + NB n p) * FB.card w + (SW w).idxOf b) * FF (FB.card w - 1) + NB n s.reverse
    | _, _ => 0) = _
  rw [f.half, g.half]
  simp only [List.reverse_reverse]
theorem NB_nil : ∀ n, NB n [] = 0
  | 0 => rfl
  | n + 1 => rfl
theorem NB_same : ∀ (n : Nat) {u v : List Str}, FB.Same u v → FB.card u ≤ n → NB n u = NB n v
  | 0, u, v, h, hc => rfl
  | n + 1, u, v, h, hc => by
    by_cases hu : u = []
    · subst hu
      have : v = [] := List.eq_nil_iff_forall_not_mem.mpr fun x hx => absurd ((h.mem x).mpr hx) List.not_mem_nil
      rw [this]
    · obtain ⟨p, a, s, b, f, g, _, _⟩ := FB.both hu
      have hv : v ≠ [] := fun e => by
        obtain ⟨x, hx⟩ := List.exists_mem_of_ne_nil u hu
        rw [e] at h
        exact absurd ((h.mem x).mp hx) List.not_mem_nil
      obtain ⟨q, c, t, d, f', g', _, _⟩ := FB.both hv
      obtain ⟨e1, h1⟩ := h.first f f'
      obtain ⟨e2, h2⟩ := h.rev.first g g'
      subst e1 e2
      have h2 := h2.rev
      rw [List.reverse_reverse, List.reverse_reverse] at h2
      have c1 := f.card
      have c2 := FB.FH.cardR g
      rw [NB_of f g, NB_of f' g', sw_same h.mem, FB.card_eq h.mem, NB_same n h1 (by omega), NB_same n h2 (by omega)]
theorem idx_lt {w : List Str} {a : Str} (h : a ∈ w) : (SW w).idxOf a < FB.card w := by
  rw [← sw_len]
  exact List.idxOf_lt_length_of_mem (sw_mem.mpr h)
theorem comb_lt {i p j s C L : Nat} (hi : i < C) (hp : p < L) (hj : j < C) (hs : s < L) : ((i * L + p) * C + j) * L + s < (C * L) ^ 2 := by
  have h1 : i * L + p + 1 ≤ C * L := by
    have : (i + 1) * L ≤ C * L := Nat.mul_le_mul_right _ hi
    rw [Nat.add_mul] at this; omega
  have h2 : (i * L + p) * C + j + 1 ≤ C * L * C := by
    have : (i * L + p + 1) * C ≤ C * L * C := Nat.mul_le_mul_right _ h1
    rw [Nat.add_mul] at this; omega
  have h3 : ((i * L + p) * C + j) * L + s + 1 ≤ C * L * C * L := by
    have : ((i * L + p) * C + j + 1) * L ≤ C * L * C * L := Nat.mul_le_mul_right _ h2
    rw [Nat.add_mul] at this; omega
  rw [Nat.pow_two, ← Nat.mul_assoc]; omega
theorem NB_lt : ∀ (n : Nat) (w : List Str), FB.card w ≤ n → NB n w < FF (FB.card w)
  | 0, w, hc => by
    have : FB.card w = 0 := by omega
    rw [this]; exact Nat.zero_lt_one
  | n + 1, w, hc => by
    by_cases hu : w = []
    · subst hu; rw [NB_nil]; exact Nat.zero_lt_one
    · obtain ⟨p, a, s, b, f, g, _, _⟩ := FB.both hu
      have c1 := f.card
      have c2 := FB.FH.cardR g
      have i1 := NB_lt n p (by omega)
      have i2 := NB_lt n s (by omega)
      have ha : a ∈ w := (f.mem a).mp (by simp)
      have hb : b ∈ w := List.mem_reverse.mp ((g.mem b).mp (by simp))
      rw [NB_of f g]
      obtain ⟨m, hm⟩ : ∃ m, FB.card w = m + 1 := ⟨FB.card p, c1⟩
      rw [show FB.card p = FB.card w - 1 by omega] at i1
      rw [show FB.card s = FB.card w - 1 by omega] at i2
      have := comb_lt (idx_lt ha) i1 (idx_lt hb) i2
      rw [hm] at this ⊢
      exact this
/-- the speech of a number -/
def SPd : Nat → List Str → Nat → List Str
  | 0, _, _ => []
  | n + 1, ns, x => if ns = [] then [] else
    FB.lay (SPd n (ns.filter fun y => decide (y ≠ (ns[x / FF (ns.length - 1) / ns.length / FF (ns.length - 1)]?).getD "")) (x / FF (ns.length - 1) / ns.length % FF (ns.length - 1)) ++ [(ns[x / FF (ns.length - 1) / ns.length / FF (ns.length - 1)]?).getD ""])
      ([(ns[x / FF (ns.length - 1) % ns.length]?).getD ""] ++ SPd n (ns.filter fun y => decide (y ≠ (ns[x / FF (ns.length - 1) % ns.length]?).getD "")) (x % FF (ns.length - 1)))
theorem SPd_of {n : Nat} {ns : List Str} {x i j p s : Nat} {a b : Str} (hn : ns ≠ []) (hx : x = ((i * FF (ns.length - 1) + p) * ns.length + j) * FF (ns.length - 1) + s) (hp : p < FF (ns.length - 1)) (hs : s < FF (ns.length - 1)) (hj : j < ns.length)
    (ha : ns[i]? = some a) (hb : ns[j]? = some b) : SPd (n + 1) ns x = FB.lay (SPd n (ns.filter fun y => decide (y ≠ a)) p ++ [a]) ([b] ++ SPd n (ns.filter fun y => decide (y ≠ b)) s) := by
  have L0 : 0 < FF (ns.length - 1) := by omega
  have C0 : 0 < ns.length := by omega
  have e1 : x % FF (ns.length - 1) = s := by rw [hx, Nat.add_comm, Nat.add_mul_mod_self_right, Nat.mod_eq_of_lt hs]
  have e2 : x / FF (ns.length - 1) = (i * FF (ns.length - 1) + p) * ns.length + j := by rw [hx, Nat.add_comm, Nat.add_mul_div_right _ _ L0, Nat.div_eq_of_lt hs, Nat.zero_add]
  have e3 : x / FF (ns.length - 1) % ns.length = j := by rw [e2, Nat.add_comm, Nat.add_mul_mod_self_right, Nat.mod_eq_of_lt hj]
  have e4 : x / FF (ns.length - 1) / ns.length = i * FF (ns.length - 1) + p := by rw [e2, Nat.add_comm, Nat.add_mul_div_right _ _ C0, Nat.div_eq_of_lt hj, Nat.zero_add]
  have e5 : x / FF (ns.length - 1) / ns.length / FF (ns.length - 1) = i := by rw [e4, Nat.add_comm, Nat.add_mul_div_right _ _ L0, Nat.div_eq_of_lt hp, Nat.zero_add]
  have e6 : x / FF (ns.length - 1) / ns.length % FF (ns.length - 1) = p := by rw [e4, Nat.add_comm, Nat.add_mul_mod_self_right, Nat.mod_eq_of_lt hp]
  conv => lhs; unfold SPd
  rw [if_neg hn, e1, e3, e5, e6, ha, hb]
  rfl
theorem SPd_nil : ∀ n x, SPd n [] x = []
  | 0, _ => rfl
  | n + 1, x => rfl
theorem sw_less {w p : List Str} {a : Str} (f : FB.FH w p a) (ha : a ∉ p) : (SW w).filter (fun y => decide (y ≠ a)) = SW p := by
  refine sw_uniq ((sortW_pw _).sublist (List.filter_sublist)) (sortW_pw _) ((sw_nodup w).sublist List.filter_sublist) (sw_nodup p) fun x => ?_
  rw [List.mem_filter, sw_mem, sw_mem, ← f.mem x, List.mem_append, List.mem_singleton, decide_eq_true_eq]
  exact ⟨fun h => h.1.elim id fun e => absurd e h.2, fun h => ⟨.inl h, fun e => ha (e ▸ h)⟩⟩
theorem SPd_NB : ∀ (n : Nat) (w : List Str), FB.card w ≤ n → SPd n (SW w) (NB n w) = FB.short w
  | 0, w, hc => by
    have : w = [] := Decidable.byContradiction fun z => by have := FB.card_pos z; omega
    subst this; rfl
  | n + 1, w, hc => by
    by_cases hu : w = []
    · subst hu
      rw [show SW ([] : List Str) = [] from List.eq_nil_of_length_eq_zero (sw_len []), SPd_nil]; rfl
    · obtain ⟨p, a, s, b, f, g, _, _⟩ := FB.both hu
      have c1 := f.card
      have c2 := FB.FH.cardR g
      have i1 := NB_lt n p (by omega)
      have i2 := NB_lt n s (by omega)
      have ha : a ∈ w := (f.mem a).mp (by simp)
      have hb : b ∈ w := List.mem_reverse.mp ((g.mem b).mp (by simp))
      have hl := sw_len w
      have hn : SW w ≠ [] := fun e => by rw [e] at hl; simp at hl; omega
      have hap : a ∉ p := by obtain ⟨r, e, q, _⟩ := f; exact q
      have hbs : b ∉ s := by obtain ⟨r, e, q, _⟩ := g; exact fun h => q (List.mem_reverse.mpr h)
      have gs : ∀ x, x ∈ s ++ [b] ↔ x ∈ w := fun x => by
        have h := g.mem x
        rw [List.mem_reverse] at h
        rw [← h]
        simp
      have fs : (SW w).filter (fun y => decide (y ≠ b)) = SW s := by
        refine sw_uniq ((sortW_pw _).sublist (List.filter_sublist)) (sortW_pw _) ((sw_nodup w).sublist List.filter_sublist) (sw_nodup s) fun x => ?_
        rw [List.mem_filter, sw_mem, sw_mem, ← gs x, List.mem_append, List.mem_singleton, decide_eq_true_eq]
        exact ⟨fun h => h.1.elim id fun e => absurd e h.2, fun h => ⟨.inl h, fun e => hbs (e ▸ h)⟩⟩
      have ix : ∀ c, c ∈ SW w → (SW w)[(SW w).idxOf c]? = some c := fun c hc => by rw [List.getElem?_eq_getElem (List.idxOf_lt_length_of_mem hc), List.getElem_idxOf]
      have ia := ix a (sw_mem.mpr ha)
      have ib := ix b (sw_mem.mpr hb)
      rw [SPd_of (i := (SW w).idxOf a) (j := (SW w).idxOf b) (p := NB n p) (s := NB n s) hn (by rw [NB_of f g, hl]) (by rw [hl]; rw [show FB.card w - 1 = FB.card p by omega]; exact i1) (by rw [hl]; rw [show FB.card w - 1 = FB.card s by omega]; exact i2)
        (by rw [hl]; exact idx_lt hb) ia ib, sw_less f hap, fs, SPd_NB n p (by omega), SPd_NB n s (by omega), FB.short_of f g]
theorem SPd_ok : ∀ (n : Nat) (ns : List Str) (x : Nat), (ns.Pairwise fun a b => leW a b = true) → ns.Nodup → ns.length ≤ n → x < FF ns.length → (∀ y, y ∈ SPd n ns x ↔ y ∈ ns) ∧ FB.short (SPd n ns x) = SPd n ns x ∧ NB n (SPd n ns x) = x
  | 0, ns, x, hs, hn, hl, hx => by
    obtain rfl : ns = [] := List.eq_nil_of_length_eq_zero (by omega)
    have : x = 0 := Nat.lt_one_iff.mp hx
    subst this
    exact ⟨fun y => Iff.rfl, rfl, rfl⟩
  | n + 1, ns, x, hs, hn, hl, hx => by
    by_cases h0 : ns = []
    · subst h0
      have : x = 0 := Nat.lt_one_iff.mp hx
      subst this
      exact ⟨fun y => Iff.rfl, rfl, rfl⟩
    · have C0 : 0 < ns.length := List.length_pos_iff.mpr h0
      obtain ⟨m, hm⟩ : ∃ m, ns.length = m + 1 := ⟨ns.length - 1, by omega⟩
      have L0 : 0 < FF (ns.length - 1) := by
        rcases Nat.eq_zero_or_pos (FF (ns.length - 1)) with z | z
        · rw [hm] at hx
          rw [hm, Nat.add_sub_cancel] at z
          have : x < ((m + 1) * FF m) ^ 2 := hx
          rw [z] at this; simp at this
        · exact z
      have hx2 : x < (ns.length * FF (ns.length - 1)) ^ 2 := by rw [hm] at hx ⊢; exact hx
      generalize hL : FF (ns.length - 1) = L at L0 hx2
      have q1 : x / L < ns.length * L * ns.length := by
        refine (Nat.div_lt_iff_lt_mul L0).mpr ?_
        rw [Nat.pow_two, ← Nat.mul_assoc] at hx2; exact hx2
      have q2 : x / L / ns.length < ns.length * L := (Nat.div_lt_iff_lt_mul C0).mpr q1
      have q3 : x / L / ns.length / L < ns.length := (Nat.div_lt_iff_lt_mul L0).mpr q2
      have q4 : x / L % ns.length < ns.length := Nat.mod_lt _ C0
      obtain ⟨a, ha⟩ : ∃ a, ns[x / L / ns.length / L]? = some a := ⟨_, List.getElem?_eq_getElem q3⟩
      obtain ⟨b, hb⟩ : ∃ b, ns[x / L % ns.length]? = some b := ⟨_, List.getElem?_eq_getElem q4⟩
      have am : a ∈ ns := List.mem_of_getElem? ha
      have bm : b ∈ ns := List.mem_of_getElem? hb
      have hxe : x = ((x / L / ns.length / L * L + x / L / ns.length % L) * ns.length + x / L % ns.length) * L + x % L := by
        rw [Nat.mul_comm (x / L / ns.length / L) L, Nat.div_add_mod, Nat.mul_comm (x / L / ns.length) ns.length, Nat.div_add_mod, Nat.mul_comm (x / L) L, Nat.div_add_mod]
      have less : ∀ c, c ∈ ns → (ns.filter fun y => decide (y ≠ c)).length = m ∧ (∀ y, y ∈ (ns.filter fun y => decide (y ≠ c)) ↔ y ∈ ns ∧ y ≠ c) := fun c hc => by
        have hp : (ns.filter fun y => decide (y ≠ c)) = ns.erase c := by
          rw [hn.erase_eq_filter]
          refine List.filter_congr fun y _ => ?_
          by_cases e : y = c <;> simp [e]
        refine ⟨by rw [hp, List.length_erase_of_mem hc]; omega, fun y => by rw [List.mem_filter, decide_eq_true_eq]⟩
      obtain ⟨la, ma⟩ := less a am
      obtain ⟨lb, mb⟩ := less b bm
      have hLm : L = FF m := by rw [← hL, hm, Nat.add_sub_cancel]
      obtain ⟨a1, a2, a3⟩ := SPd_ok n (ns.filter fun y => decide (y ≠ a)) (x / L / ns.length % L) (hs.sublist List.filter_sublist) (hn.sublist List.filter_sublist) (by omega) (by rw [la, ← hLm]; exact Nat.mod_lt _ L0)
      obtain ⟨b1, b2, b3⟩ := SPd_ok n (ns.filter fun y => decide (y ≠ b)) (x % L) (hs.sublist List.filter_sublist) (hn.sublist List.filter_sublist) (by omega) (by rw [lb, ← hLm]; exact Nat.mod_lt _ L0)
      have hz := SPd_of (n := n) (ns := ns) (x := x) (i := x / L / ns.length / L) (j := x / L % ns.length) (p := x / L / ns.length % L) (s := x % L) h0 (by rw [hL]; exact hxe) (by rw [hL]; exact Nat.mod_lt _ L0) (by rw [hL]; exact Nat.mod_lt _ L0) q4 ha hb
      generalize SPd n (ns.filter fun y => decide (y ≠ a)) (x / L / ns.length % L) = y1 at a1 a2 a3 hz
      generalize SPd n (ns.filter fun y => decide (y ≠ b)) (x % L) = y2 at b1 b2 b3 hz
      have ay : a ∉ y1 := fun h => ((ma a).mp ((a1 a).mp h)).2 rfl
      have by' : b ∉ y2 := fun h => ((mb b).mp ((b1 b).mp h)).2 rfl
      have all1 : ∀ y, y ∈ y1 ++ [a] ↔ y ∈ ns := fun y => by
        rw [List.mem_append, List.mem_singleton, a1, ma]
        exact ⟨fun h => h.elim (fun h => h.1) fun e => e ▸ am, fun h => (Decidable.em (y = a)).elim .inr fun e => .inl ⟨h, e⟩⟩
      have all2 : ∀ y, y ∈ [b] ++ y2 ↔ y ∈ ns := fun y => by
        rw [List.mem_append, List.mem_singleton, b1, mb]
        exact ⟨fun h => h.elim (fun e => e ▸ bm) fun h => h.1, fun h => (Decidable.em (y = b)).elim .inl fun e => .inr ⟨h, e⟩⟩
      have f : FB.FH ((y1 ++ [a]) ++ ([b] ++ y2)) y1 a := (FB.FH.last ay).more fun y hy => (all1 y).mpr ((all2 y).mp hy)
      have g : FB.FH ((y1 ++ [a]) ++ ([b] ++ y2)).reverse y2.reverse b := by
        rw [List.reverse_append, List.reverse_append]
        exact (FB.FH.last fun h => by' (List.mem_reverse.mp h)).more fun y hy => by
          have := (all2 y).mpr ((all1 y).mp (List.mem_reverse.mp hy))
          rw [← List.mem_reverse] at this
          simpa using this
      have sm : FB.Same (FB.lay (y1 ++ [a]) ([b] ++ y2)) ((y1 ++ [a]) ++ ([b] ++ y2)) := FB.lay_same _ _
      have mem : ∀ y, y ∈ (y1 ++ [a]) ++ ([b] ++ y2) ↔ y ∈ ns := fun y => by
        rw [List.mem_append, all1, all2]; exact or_self_iff
      have hsw := sw_sort hs hn mem
      have hcd : FB.card ((y1 ++ [a]) ++ ([b] ++ y2)) = ns.length := by rw [← sw_len, hsw]
      rw [hz]
      refine ⟨fun y => (sm.mem y).trans (mem y), ?_, ?_⟩
      · rw [FB.short_iff.mpr sm, FB.short_of f g, a2, b2]
      · rw [NB_same (n + 1) sm (by rw [FB.card_eq sm.mem, hcd]; omega), NB_of f g, hsw, hcd, hL, a3, b3]
        have ea : ns.idxOf a = x / L / ns.length / L := by
          obtain ⟨h1, h2⟩ := List.getElem?_eq_some_iff.mp ha
          rw [← h2]; exact hn.idxOf_getElem _ _
        have eb : ns.idxOf b = x / L % ns.length := by
          obtain ⟨h1, h2⟩ := List.getElem?_eq_some_iff.mp hb
          rw [← h2]; exact hn.idxOf_getElem _ _
        rw [ea, eb]
        exact hxe.symm
theorem less_len {ns : List Str} (hn : ns.Nodup) {c : Str} (hc : c ∈ ns) : (ns.filter fun y => decide (y ≠ c)).length = ns.length - 1 := by
  have hp : (ns.filter fun y => decide (y ≠ c)) = ns.erase c := by
    rw [hn.erase_eq_filter]
    refine List.filter_congr fun y _ => ?_
    by_cases e : y = c <;> simp [e]
  rw [hp, List.length_erase_of_mem hc]
theorem SPd_step {n : Nat} {ns : List Str} {x L : Nat} (h0 : ns ≠ []) (hL : L = FF (ns.length - 1)) (hx : x < FF ns.length) : 0 < L ∧ x / L / ns.length / L < ns.length ∧ ∀ a b, ns[x / L / ns.length / L]? = some a → ns[x / L % ns.length]? = some b →
    SPd (n + 1) ns x = FB.lay (SPd n (ns.filter fun y => decide (y ≠ a)) (x / L / ns.length % L) ++ [a]) ([b] ++ SPd n (ns.filter fun y => decide (y ≠ b)) (x % L)) := by
  subst hL
  have C0 : 0 < ns.length := List.length_pos_iff.mpr h0
  obtain ⟨m, hm⟩ : ∃ m, ns.length = m + 1 := ⟨ns.length - 1, by omega⟩
  have hx2 : x < (ns.length * FF (ns.length - 1)) ^ 2 := by rw [hm] at hx ⊢; exact hx
  have L0 : 0 < FF (ns.length - 1) := by
    rcases Nat.eq_zero_or_pos (FF (ns.length - 1)) with z | z
    · rw [z] at hx2; simp at hx2
    · exact z
  have q1 : x / FF (ns.length - 1) < ns.length * FF (ns.length - 1) * ns.length := by
    refine (Nat.div_lt_iff_lt_mul L0).mpr ?_
    rw [Nat.pow_two, ← Nat.mul_assoc] at hx2; exact hx2
  have q2 : x / FF (ns.length - 1) / ns.length < ns.length * FF (ns.length - 1) := (Nat.div_lt_iff_lt_mul C0).mpr q1
  have q3 : x / FF (ns.length - 1) / ns.length / FF (ns.length - 1) < ns.length := (Nat.div_lt_iff_lt_mul L0).mpr q2
  refine ⟨L0, q3, fun a b ha hb => SPd_of h0 ?_ (Nat.mod_lt _ L0) (Nat.mod_lt _ L0) (Nat.mod_lt _ C0) ha hb⟩
  rw [Nat.mul_comm (x / FF (ns.length - 1) / ns.length / FF (ns.length - 1)) (FF (ns.length - 1)), Nat.div_add_mod, Nat.mul_comm (x / FF (ns.length - 1) / ns.length) ns.length, Nat.div_add_mod, Nat.mul_comm (x / FF (ns.length - 1)) (FF (ns.length - 1)), Nat.div_add_mod]
theorem SPd_len {n : Nat} {ns : List Str} {x : Nat} (hs : ns.Pairwise fun a b => leW a b = true) (hn : ns.Nodup) (hl : ns.length ≤ n) (h6 : ns.length ≤ 6) (hx : x < FF ns.length) : (SPd n ns x).length ≤ 126 := by
  obtain ⟨h1, h2, _⟩ := SPd_ok n ns x hs hn hl hx
  have hc : FB.card (SPd n ns x) ≤ 6 := Nat.le_trans (FB.card_le fun y hy => (h1 y).mp hy) h6
  have := FB.short_len 6 _ hc
  rw [h2] at this
  omega

theorem same_filter (p : Str → Bool) {u v : List Str} (h : FB.Same u v) : FB.Same (u.filter p) (v.filter p) := by
  induction h with
  | refl u => exact .refl _
  | step h =>
    obtain ⟨c, x, d⟩ := h
    simp only [List.filter_append]
    exact FB.Same.ctx (FB.Same.dbl _) _ _
  | symm _ ih => exact .symm ih
  | trans _ _ i j => exact .trans i j
theorem nub_card (xs : List Str) : (nubW xs).length = FB.card xs := by
  rw [← FB.card_nodup (nubW_nodup xs)]
  exact FB.card_eq fun x => nubW_mem
theorem nub_sw (w : List Str) : sortW (nubW w) = SW w := sw_uniq (sortW_pw _) (sortW_pw _) ((sortW_perm _).nodup_iff.mpr (nubW_nodup w)) (sw_nodup w) fun x => by rw [(sortW_perm _).mem_iff, nubW_mem, sw_mem]
theorem words_of_c {k : Nat} (hk : 1 ≤ k) {w : List Str} {b : Cells} {P : D × Bool → Cells → Prop} {E : D → Cells → Prop} (hl : w.length ≤ 3000) (hc : FB.card w ≤ 7) (hQ : P (.lst ((SW w).map .str), true) b) :
    Ew (callA ((semT GT k).f i_words_of) [.lst (w.map .str)] b) P E := by
  obtain ⟨k, rfl⟩ : ∃ j, k = j + 1 := ⟨k - 1, by omega⟩
  have hn := nub_card w
  rw [sem_words_of]
  refine callC rfl rfl (run_def.mpr ?_)
  show Sv (exSs _ d_words_of.body [.val (.lst (w.map .str))] _) _
  unfold d_words_of
  simp only
  have zs : sizeLine = 16777216 := rfl
  walk_at "go"
  rw [nub_sw]
  exact hQ
local macro_rules | `(tactic| walk_at "call") => `(tactic| ((with_reducible refine G.words_of_c ?_ ?_ ?_ ?_); (· omega); (· walk_at "side"); (· walk_at "side")))
theorem FF_b : ∀ n : Nat, n ≤ 6 → FF n ≤ 300000000000000000000000000 := fun n h => FF_le ⟨n, by omega⟩
theorem FF_s : ∀ n : Nat, n ≤ 5 → FF n ≤ 3000000000000 := fun n h => FF_sm ⟨n, by omega⟩ h
theorem number_of_c : ∀ (n : Nat) {k : Nat} {w : List Str} {b : Cells} {P : D × Bool → Cells → Prop} {E : D → Cells → Prop}, n + 4 ≤ k → FB.card w ≤ n → n ≤ 6 → w.length ≤ 3000 → P (.int (NB n w : Nat), false) b →
    Ew (callA ((semT GT k).f i_number_of) [.lst (w.map .str)] b) P E
  | 0, k, w, b, P, E, hk, hc, hn, hl, hQ => by
    have hw : w = [] := Decidable.byContradiction fun z => by have := FB.card_pos z; omega
    subst hw
    obtain ⟨k, rfl⟩ : ∃ j, k = j + 1 := ⟨k - 1, by omega⟩
    rw [sem_number_of]
    refine callC rfl rfl (run_def.mpr ?_)
    show Sv (exSs _ d_number_of.body [.val (.lst (List.map D.str [])), .non, .non, .non, .non, .non, .non, .non] _) _
    unfold d_number_of
    simp only
    have zs : sizeLine = 16777216 := rfl
    walk_at "go"
    refine Br.dec (fun h => ?_) fun h => absurd (List.eq_nil_of_length_eq_zero (sw_len [])) h
    walk_at "go"
    exact hQ
  | n + 1, k, w, b, P, E, hk, hc, hn, hl, hQ => by
    obtain ⟨k, rfl⟩ : ∃ j, k = j + 1 := ⟨k - 1, by omega⟩
    have hsl := sw_len w
    rw [sem_number_of]
    refine callC rfl rfl (run_def.mpr ?_)
    show Sv (exSs _ d_number_of.body [.val (.lst (w.map .str)), .non, .non, .non, .non, .non, .non, .non] _) _
    unfold d_number_of
    simp only
    have zs : sizeLine = 16777216 := rfl
    walk_at "go"
    refine Br.dec (fun h0 => ?_) (fun h0 => ?_)
    · have hw : w = [] := Decidable.byContradiction fun z => by have := FB.card_pos z; rw [h0] at hsl; simp at hsl; omega
      subst hw
      walk_at "go"
      rw [NB_nil] at hQ
      exact hQ
    · have hw : w ≠ [] := fun e => h0 (List.eq_nil_of_length_eq_zero (by rw [hsl, e]; rfl))
      obtain ⟨p, a, s, d, f, g, l1, l2⟩ := FB.both hw
      have c1 := f.card
      have c2 := FB.FH.cardR g
      have i1 := NB_lt n p (by omega)
      have i2 := NB_lt n s (by omega)
      have ha : a ∈ w := (f.mem a).mp (by simp)
      have hd : d ∈ w := List.mem_reverse.mp ((g.mem d).mp (by simp))
      have ja := idx_lt ha
      have jd := idx_lt hd
      rw [NB_of f g] at hQ
      walk_at "go"
      refine first_half_c (by omega) f (by omega) ?_
      walk_at "go"
      refine last_half_c (by omega) g (by omega) ?_
      walk_at "go"
      have e1 : ((FB.firsts w).length : Int) - 1 = ((FB.card w - 1 : Nat) : Int) := by
        have : (FB.firsts w).length = FB.card w := rfl
        omega
      have b1 := FF_s (FB.card w - 1) (by omega)
      have b2 : FF (FB.card p) = FF (FB.card w - 1) := by rw [show FB.card p = FB.card w - 1 by omega]
      have b3 : FF (FB.card s) = FF (FB.card w - 1) := by rw [show FB.card s = FB.card w - 1 by omega]
      rw [e1]
      walk_at "go"
      rw [index_strs (sw_mem.mpr ha)]
      walk_at "go"
      refine number_of_c n (by omega) (by omega) (by omega) (by omega) ?_
      walk_at "go"
      rw [index_strs (sw_mem.mpr hd)]
      walk_at "go"
      refine number_of_c n (by omega) (by omega) (by omega) (by omega) ?_
      walk_at "go"
      exact hQ
theorem number6_c {k : Nat} (hk : 10 ≤ k) {w : List Str} {b : Cells} {P : D × Bool → Cells → Prop} {E : D → Cells → Prop} (hc : FB.card w ≤ 6) (hl : w.length ≤ 3000) (hQ : P (.int (NB 6 w : Nat), false) b) :
    Ew (callA ((semT GT k).f i_number_of) [.lst (w.map .str)] b) P E := number_of_c 6 (by omega) hc (by omega) hl hQ
local macro_rules | `(tactic| walk_at "call") => `(tactic| ((with_reducible refine G.number6_c ?_ ?_ ?_ ?_); (· omega); (· walk_at "side"); (· walk_at "side")))
theorem smeanings_c {k : Nat} (hk : 2 ≤ k) {ws : List Str} {b : Cells} {P : D × Bool → Cells → Prop} {E : D → Cells → Prop} (hn : ws.length ≤ 6) (hQ : P (.int (FF ws.length : Nat), false) b) :
    Ew (callA ((semT GT k).f i_meanings) [.lst (ws.map .str)] b) P E := by
  obtain ⟨k, rfl⟩ : ∃ j, k = j + 1 := ⟨k - 1, by omega⟩
  rw [sem_meanings]
  refine callC rfl rfl (run_def.mpr ?_)
  show Sv (exSs _ d_meanings.body [.val (.lst (ws.map .str))] _) _
  unfold d_meanings
  simp only
  have zs : sizeLine = 16777216 := rfl
  walk_at "go"
  exact hQ
local macro_rules | `(tactic| walk_at "call") => `(tactic| ((with_reducible refine G.smeanings_c ?_ ?_ ?_); (· omega); (· walk_at "side")))
theorem others_c {k : Nat} (hk : 1 ≤ k) {ws : List Str} {a : Str} {b : Cells} {P : D × Bool → Cells → Prop} {E : D → Cells → Prop} (hn : ws.length ≤ 1000) (hQ : P (.lst ((ws.filter fun y => decide (y ≠ a)).map .str), true) b) :
    Ew (callA ((semT GT k).f i_others) [.lst (ws.map .str), .str a] b) P E := by
  obtain ⟨k, rfl⟩ : ∃ j, k = j + 1 := ⟨k - 1, by omega⟩
  rw [sem_others]
  refine callC rfl rfl (run_def.mpr ?_)
  show Sv (exSs _ d_others.body [.val (.lst (ws.map .str)), .val (.str a), .non] _) _
  unfold d_others
  simp only
  have zs : sizeLine = 16777216 := rfl
  walk_at "go"
  refine lc_pt (β := Str) D.str (fun x => x) (fun x => decide (x ≠ a)) (fun _ => rfl) (by omega) (fun i y hy => ?_) ?_
  · walk_at "go"
    simp
  rw [List.map_id']
  walk_at "go"
  exact hQ
local macro_rules | `(tactic| walk_at "call") => `(tactic| ((with_reducible refine G.others_c ?_ ?_ ?_); (· omega); (· walk_at "side")))
theorem nat_ediv (a b : Nat) : (a : Int) / (b : Int) = ((a / b : Nat) : Int) := (Int.natCast_ediv a b).symm
theorem nat_emod (a b : Nat) : (a : Int) % (b : Int) = ((a % b : Nat) : Int) := (Int.natCast_emod a b).symm
theorem speech_of_c : ∀ (n : Nat) {k x : Nat} {ws : List Str} {b : Cells} {P : D × Bool → Cells → Prop} {E : D → Cells → Prop}, n + 3 ≤ k → ws.Nodup → ws.length ≤ n → n ≤ 6 → x < FF ws.length → P (.lst ((SPd n (sortW ws) x).map .str), true) b →
    Ew (callA ((semT GT k).f i_speech_of) [.lst (ws.map .str), .int (x : Nat)] b) P E := by
  intro n
  induction n with
  | zero =>
    intro k x ws b P E hk hd hc hn hx hQ
    obtain rfl : ws = [] := List.eq_nil_of_length_eq_zero (by omega)
    obtain ⟨k, rfl⟩ : ∃ j, k = j + 1 := ⟨k - 1, by omega⟩
    rw [sem_speech_of]
    refine callC rfl rfl (run_def.mpr ?_)
    show Sv (exSs _ d_speech_of.body [.val (.lst (List.map D.str [])), .val (.int (x : Nat)), .non, .non, .non, .non, .non, .non, .non, .non] _) _
    unfold d_speech_of
    simp only
    have zs : sizeLine = 16777216 := rfl
    have hx0 : x < 1 := hx
    walk_at "go"
    rw [show FF 0 = 1 from rfl]
    walk_at "go"
    rw [show sortW ([] : List Str) = [] from List.eq_nil_of_length_eq_zero sortW_len, SPd_nil] at hQ
    exact hQ
  | succ n ih =>
    intro k x ws b P E hk hd hc hn hx hQ
    obtain ⟨k, rfl⟩ : ∃ j, k = j + 1 := ⟨k - 1, by omega⟩
    have fb := FF_b ws.length (by omega)
    rw [sem_speech_of]
    refine callC rfl rfl (run_def.mpr ?_)
    show Sv (exSs _ d_speech_of.body [.val (.lst (ws.map .str)), .val (.int (x : Nat)), .non, .non, .non, .non, .non, .non, .non, .non] _) _
    unfold d_speech_of
    simp only
    have zs : sizeLine = 16777216 := rfl
    walk_at "go"
    refine Br.dec (fun h0 => ?_) (fun h0 => ?_)
    · subst h0
      walk_at "go"
      rw [show sortW ([] : List Str) = [] from List.eq_nil_of_length_eq_zero sortW_len, SPd_nil] at hQ
      exact hQ
    · have hp := sortW_perm ws
      have hsd : (sortW ws).Nodup := hp.nodup_iff.mpr hd
      have hsp := sortW_pw ws
      have hlen : (sortW ws).length = ws.length := hp.length_eq
      have hne : sortW ws ≠ [] := fun e => h0 (List.eq_nil_of_length_eq_zero (by rw [← hlen, e]; rfl))
      obtain ⟨L, hL⟩ : ∃ L, L = FF (ws.length - 1) := ⟨_, rfl⟩
      have fL : L ≤ 3000000000000 := by rw [hL]; exact FF_s _ (by omega)
      obtain ⟨L0, q3, step⟩ := SPd_step (n := n) (ns := sortW ws) (x := x) (L := L) hne (by rw [hlen]; exact hL) (by rw [hlen]; exact hx)
      have C0 : 0 < ws.length := List.length_pos_iff.mpr h0
      have e1 : (ws.length : Int) - 1 = ((ws.length - 1 : Nat) : Int) := by omega
      walk_at "go"
      rw [e1]
      walk_at "go"
      rw [← hL]
      rw [nat_ediv x L, nat_ediv (x / L) ws.length, nat_ediv (x / L / ws.length) L, nat_emod (x / L / ws.length) L, nat_emod x L, nat_emod (x / L) ws.length]
      have d1 : x / L / ws.length ≤ x := Nat.le_trans (Nat.div_le_self _ _) (Nat.div_le_self _ _)
      have d2 : x / L % ws.length < ws.length := Nat.mod_lt _ C0
      have d3 : x / L / ws.length % L < L := Nat.mod_lt _ L0
      have d4 : x % L < L := Nat.mod_lt _ L0
      rw [hlen] at q3 step
      generalize x / L / ws.length / L = i at q3 step ⊢
      generalize x / L / ws.length % L = p at d3 step ⊢
      generalize x / L / ws.length = q at d1 ⊢
      generalize x / L % ws.length = j at d2 step ⊢
      generalize x % L = s at d4 step ⊢
      refine An.mk (.inr (by omega)) ?_
      walk_at "go"
      refine Bx.at (xs := sortW ws) (by omega) (by omega) fun a ha => ?_
      rw [Int.toNat_natCast] at ha
      have am : a ∈ sortW ws := List.mem_of_getElem? ha
      have la := less_len hsd am
      have na : ((sortW ws).filter fun y => decide (y ≠ a)).Nodup := hsd.sublist List.filter_sublist
      have pa : ((sortW ws).filter fun y => decide (y ≠ a)).Pairwise fun a b => leW a b = true := hsp.sublist List.filter_sublist
      have xa : p < FF ((sortW ws).filter fun y => decide (y ≠ a)).length := by rw [la, hlen, ← hL]; exact d3
      have ea := SPd_len (n := n) pa na (by omega) (by omega) xa
      walk_at "go"
      refine ih (by omega) na (by omega) (by omega) xa ?_
      rw [sort_sorted pa na]
      walk_at "go"
      refine Bx.at (xs := sortW ws) (by omega) (by omega) fun a' ha' => ?_
      rw [Int.toNat_natCast, ha] at ha'
      cases ha'
      walk_at "go"
      refine Bx.at (xs := sortW ws) (by omega) (by omega) fun d hd' => ?_
      rw [Int.toNat_natCast] at hd'
      have dm : d ∈ sortW ws := List.mem_of_getElem? hd'
      have ld := less_len hsd dm
      have nd : ((sortW ws).filter fun y => decide (y ≠ d)).Nodup := hsd.sublist List.filter_sublist
      have pd : ((sortW ws).filter fun y => decide (y ≠ d)).Pairwise fun a b => leW a b = true := hsp.sublist List.filter_sublist
      have xd : s < FF ((sortW ws).filter fun y => decide (y ≠ d)).length := by rw [ld, hlen, ← hL]; exact d4
      have ed := SPd_len (n := n) pd nd (by omega) (by omega) xd
      walk_at "go"
      refine Bx.at (xs := sortW ws) (by omega) (by omega) fun d' hd2 => ?_
      rw [Int.toNat_natCast, hd'] at hd2
      cases hd2
      walk_at "go"
      refine ih (by omega) nd (by omega) (by omega) xd ?_
      rw [sort_sorted pd nd]
      rw [step a d ha hd'] at hQ
      walk_at "go"
      exact hQ
theorem speech6_of_c {k x : Nat} {ws : List Str} {b : Cells} {P : D × Bool → Cells → Prop} {E : D → Cells → Prop} (hk : 9 ≤ k) (hn : ws.Nodup) (hl : ws.length ≤ 6) (hx : x < FF ws.length) (hQ : P (.lst ((SPd 6 (sortW ws) x).map .str), true) b) :
    Ew (callA ((semT GT k).f i_speech_of) [.lst (ws.map .str), .int (x : Nat)] b) P E := speech_of_c 6 (by omega) hn hl (by omega) hx hQ
local macro_rules | `(tactic| walk_at "call") => `(tactic| ((with_reducible refine G.speech6_of_c ?_ ?_ ?_ ?_ ?_); (· omega); (· with_reducible assumption); (· walk_at "side"); (· with_reducible assumption)))

/-! all that can be said with words -/
def PARTS (ws : List Str) : List (List Str) := ws.foldl (fun acc w => acc ++ acc.map (· ++ [w])) [[]]
theorem parts_nil : PARTS [] = [[]] := rfl
theorem parts_snoc (ws : List Str) (w : Str) : PARTS (ws ++ [w]) = PARTS ws ++ (PARTS ws).map (· ++ [w]) := by
  unfold PARTS
  rw [List.foldl_append]; rfl
/-- how many words each part has -/
def PL : Nat → List Nat
  | 0 => [0]
  | n + 1 => PL n ++ (PL n).map (· + 1)
theorem snoc_ind {p : List Str → Prop} (h0 : p []) (h1 : ∀ ws w, p ws → p (ws ++ [w])) : ∀ ws, p ws := by
  intro ws
  have : ∀ us : List Str, p us.reverse := fun us => by
    induction us with
    | nil => exact h0
    | cons u us ih => rw [List.reverse_cons]; exact h1 _ _ ih
  have := this ws.reverse
  rwa [List.reverse_reverse] at this
theorem parts_lens : ∀ ws : List Str, (PARTS ws).map List.length = PL ws.length := by
  refine snoc_ind rfl fun ws w ih => ?_
  rw [parts_snoc, List.map_append, List.map_map, List.length_append, ih]
  show _ = PL ws.length ++ (PL ws.length).map (· + 1)
  rw [← ih, List.map_map]
  congr 2
  funext u
  simp
theorem parts_sub : ∀ ws : List Str, ∀ A ∈ PARTS ws, A.Sublist ws := by
  refine snoc_ind (fun A h => by rw [parts_nil] at h; rw [List.mem_singleton.mp h]; exact List.Sublist.refl _) fun ws w ih A h => ?_
  rw [parts_snoc] at h
  rcases List.mem_append.mp h with h | h
  · exact (ih A h).trans (List.sublist_append_left _ _)
  · obtain ⟨B, hB, rfl⟩ := List.mem_map.mp h
    exact (ih B hB).append (List.Sublist.refl _)
theorem parts_ex : ∀ ws : List Str, ∀ u : List Str, (∀ x ∈ u, x ∈ ws) → ∃ A ∈ PARTS ws, ∀ x, x ∈ A ↔ x ∈ u := by
  refine snoc_ind (fun u h => ⟨[], List.mem_singleton.mpr rfl, fun x => ⟨fun z => (by cases z), fun z => absurd (h x z) (by simp)⟩⟩) fun ws w ih u h => ?_
  obtain ⟨A, hA, e⟩ := ih (u.filter fun x => decide (x ≠ w)) fun x hx => by
    obtain ⟨h1, h2⟩ := List.mem_filter.mp hx
    rcases List.mem_append.mp (h x h1) with z | z
    · exact z
    · exact absurd (List.mem_singleton.mp z) (of_decide_eq_true h2)
  rw [parts_snoc]
  by_cases hw : w ∈ u
  · refine ⟨A ++ [w], List.mem_append_right _ (List.mem_map.mpr ⟨A, hA, rfl⟩), fun x => ?_⟩
    rw [List.mem_append, List.mem_singleton, e, List.mem_filter, decide_eq_true_iff]
    by_cases hx : x = w
    · subst hx; exact ⟨fun _ => hw, fun _ => .inr rfl⟩
    · exact ⟨fun z => z.elim (fun q => q.1) fun q => absurd q hx, fun z => .inl ⟨z, hx⟩⟩
  · refine ⟨A, List.mem_append_left _ hA, fun x => ?_⟩
    rw [e, List.mem_filter, decide_eq_true_iff]
    exact ⟨fun z => z.1, fun z => ⟨z, fun q => hw (q ▸ z)⟩⟩
theorem parts_pw : ∀ ws : List Str, ws.Nodup → (PARTS ws).Pairwise fun A B => ¬ ∀ x, x ∈ A ↔ x ∈ B := by
  refine snoc_ind (fun _ => List.pairwise_singleton _ _) fun ws w ih hn => ?_
  rw [List.nodup_append] at hn
  obtain ⟨n1, _, n3⟩ := hn
  have hw : w ∉ ws := fun z => n3 w z w (by simp) rfl
  have no : ∀ A ∈ PARTS ws, w ∉ A := fun A hA z => hw ((parts_sub ws A hA).subset z)
  rw [parts_snoc, List.pairwise_append]
  refine ⟨ih n1, ?_, fun A hA B hB e => ?_⟩
  · rw [List.pairwise_map]
    refine (List.pairwise_iff_forall_sublist.mpr fun {A B} hs e => ?_)
    have hAB : A ∈ PARTS ws ∧ B ∈ PARTS ws := ⟨hs.subset (by simp), hs.subset (by simp)⟩
    refine (List.pairwise_iff_forall_sublist.mp (ih n1)) hs fun x => ?_
    have := e x
    simp only [List.mem_append, List.mem_singleton] at this
    by_cases hx : x = w
    · subst hx
      exact ⟨fun z => absurd z (no A hAB.1), fun z => absurd z (no B hAB.2)⟩
    · exact ⟨fun z => (this.mp (.inl z)).elim id fun q => absurd q hx, fun z => (this.mpr (.inl z)).elim id fun q => absurd q hx⟩
  · obtain ⟨C, hC, rfl⟩ := List.mem_map.mp hB
    exact no A hA ((e w).mpr (by simp))
/-- the shortest speeches of all meanings that have just these words, by their numbers -/
def JUST (A : List Str) : List (List Str) := (List.range (FF A.length)).map (SPd 6 (sortW A))
def CAN (ws : List Str) : List (List Str) := (PARTS ws).flatMap JUST
/-- it is the shortest of its meaning, of these words -/
def Nf (ws u : List Str) : Prop := FB.short u = u ∧ ∀ x ∈ u, x ∈ ws
section
variable {A : List Str} (hn : A.Nodup) (h6 : A.length ≤ 6)
include hn h6
theorem sorted_ok : (sortW A).Pairwise (fun a b => leW a b = true) ∧ (sortW A).Nodup ∧ (sortW A).length = A.length :=
  ⟨sortW_pw A, (sortW_perm A).nodup_iff.mpr hn, (sortW_perm A).length_eq⟩
theorem just_ok {u : List Str} : u ∈ JUST A ↔ FB.short u = u ∧ ∀ x, x ∈ u ↔ x ∈ A := by
  obtain ⟨s1, s2, s3⟩ := sorted_ok hn h6
  unfold JUST
  rw [List.mem_map]
  constructor
  · rintro ⟨x, hx, rfl⟩
    rw [List.mem_range] at hx
    obtain ⟨a1, a2, a3⟩ := SPd_ok 6 (sortW A) x s1 s2 (by omega) (by rw [s3]; exact hx)
    exact ⟨a2, fun y => (a1 y).trans (sortW_perm A).mem_iff⟩
  · rintro ⟨h1, h2⟩
    have hc : FB.card u = A.length := (FB.card_eq h2).trans (FB.card_nodup hn)
    have e : SW u = sortW A := sw_sort s1 s2 fun x => (h2 x).trans (sortW_perm A).mem_iff.symm
    refine ⟨NB 6 u, ?_, ?_⟩
    · rw [List.mem_range, ← hc]
      exact NB_lt 6 u (by omega)
    · rw [← e, SPd_NB 6 u (by omega), h1]
theorem just_nodup : (JUST A).Nodup := by
  obtain ⟨s1, s2, s3⟩ := sorted_ok hn h6
  unfold JUST
  have : ∀ x ∈ List.range (FF A.length), ∀ y ∈ List.range (FF A.length), SPd 6 (sortW A) x = SPd 6 (sortW A) y → x = y := fun x hx y hy e => by
    rw [List.mem_range] at hx hy
    obtain ⟨_, _, a3⟩ := SPd_ok 6 (sortW A) x s1 s2 (by omega) (by rw [s3]; exact hx)
    obtain ⟨_, _, b3⟩ := SPd_ok 6 (sortW A) y s1 s2 (by omega) (by rw [s3]; exact hy)
    rw [← a3, e, b3]
  have hr : (List.range (FF A.length)).Nodup := List.nodup_range
  revert this hr
  generalize List.range (FF A.length) = l
  intro this hr
  induction l with
  | nil => exact List.nodup_nil
  | cons x l ih =>
    rw [List.nodup_cons] at hr
    rw [List.map_cons, List.nodup_cons]
    refine ⟨fun z => ?_, ih (fun a ha b hb => this a (List.mem_cons_of_mem _ ha) b (List.mem_cons_of_mem _ hb)) hr.2⟩
    obtain ⟨y, hy, e⟩ := List.mem_map.mp z
    exact hr.1 (this y (List.mem_cons_of_mem _ hy) x List.mem_cons_self e ▸ hy)
theorem just_len : (JUST A).length = FF A.length := by unfold JUST; rw [List.length_map, List.length_range]
end
section
variable {ws : List Str} (hn : ws.Nodup) (h6 : ws.length ≤ 6)
include hn h6
theorem part_ok {A : List Str} (h : A ∈ PARTS ws) : A.Nodup ∧ A.length ≤ 6 ∧ ∀ x ∈ A, x ∈ ws :=
  ⟨hn.sublist (parts_sub ws A h), Nat.le_trans (parts_sub ws A h).length_le h6, fun x hx => (parts_sub ws A h).subset hx⟩
theorem can_ok {u : List Str} : u ∈ CAN ws ↔ Nf ws u := by
  unfold CAN
  rw [List.mem_flatMap]
  constructor
  · rintro ⟨A, hA, hu⟩
    obtain ⟨a1, a2, a3⟩ := part_ok hn h6 hA
    obtain ⟨b1, b2⟩ := (just_ok a1 a2).mp hu
    exact ⟨b1, fun x hx => a3 x ((b2 x).mp hx)⟩
  · rintro ⟨h1, h2⟩
    obtain ⟨A, hA, e⟩ := parts_ex ws u h2
    obtain ⟨a1, a2, a3⟩ := part_ok hn h6 hA
    exact ⟨A, hA, (just_ok a1 a2).mpr ⟨h1, fun x => (e x).symm⟩⟩
theorem can_nodup : (CAN ws).Nodup := by
  have pw := parts_pw ws hn
  have ok : ∀ A ∈ PARTS ws, A.Nodup ∧ A.length ≤ 6 := fun A h => ⟨(part_ok hn h6 h).1, (part_ok hn h6 h).2.1⟩
  unfold CAN
  revert pw ok
  generalize PARTS ws = l
  intro pw ok
  induction l with
  | nil => exact List.nodup_nil
  | cons A l ih =>
    rw [List.pairwise_cons] at pw
    rw [List.flatMap_cons, List.nodup_append]
    refine ⟨just_nodup (ok A List.mem_cons_self).1 (ok A List.mem_cons_self).2, ih pw.2 fun B hB => ok B (List.mem_cons_of_mem _ hB), fun u hu v hv e => ?_⟩
    subst e
    obtain ⟨B, hB, hv⟩ := List.mem_flatMap.mp hv
    obtain ⟨_, a⟩ := (just_ok (ok A List.mem_cons_self).1 (ok A List.mem_cons_self).2).mp hu
    obtain ⟨_, b⟩ := (just_ok (ok B (List.mem_cons_of_mem _ hB)).1 (ok B (List.mem_cons_of_mem _ hB)).2).mp hv
    exact pw.1 B hB fun x => (a x).symm.trans (b x)
theorem can_len : (CAN ws).length = ((PL ws.length).map FF).sum := by
  rw [← parts_lens]
  have ok : ∀ A ∈ PARTS ws, A.Nodup ∧ A.length ≤ 6 := fun A h => ⟨(part_ok hn h6 h).1, (part_ok hn h6 h).2.1⟩
  unfold CAN
  revert ok
  generalize PARTS ws = l
  intro ok
  induction l with
  | nil => rfl
  | cons A l ih => rw [List.flatMap_cons, List.length_append, ih fun B hB => ok B (List.mem_cons_of_mem _ hB), just_len (ok A List.mem_cons_self).1 (ok A List.mem_cons_self).2]; rfl
end

theorem alike_law_c {k : Nat} (hk : 1 ≤ k) {d : D} {kk n : Nat} {b : Cells} {P : D × Bool → Cells → Prop} {E : D → Cells → Prop} (h : Pl kk n d) (hs : isSeq d = true) (h1 : kk < 12) (h2 : n ≤ sizeLine) (hQ : P (.bl true, false) b) :
    Ew (callA ((semT GT k).f i_law_alike) [d, d] b) P E := by
  obtain ⟨k, rfl⟩ : ∃ j, k = j + 1 := ⟨k - 1, by omega⟩
  obtain ⟨s, hr⟩ := h.repr hs (by omega) h2
  have hsol : sol d = true := by obtain ⟨p, h⟩ := h; exact h.sol
  rw [sem_law_alike]
  refine callC (by simp [solL, hsol]) rfl (run_def.mpr ?_)
  show Sv (exSs _ d_law_alike.body [.val d, .val d] _) _
  have hd : ∀ c, derC c d = some d := by
    cases d <;> first | (intro c; rfl) | cases hs
  have hd2 : ∀ ρ c, derS ρ c d = some d := by
    cases d <;> first | (intro ρ c; rfl) | cases hs
  unfold d_law_alike
  simp only
  repeat (first | walk_at "wp" | simp only [hd2, h.eq h1, hr, beq_self_eq_true] | walk_at "an")
  exact hQ
theorem lwords_c {k : Nat} (hk : 3 ≤ k) {m : Int} {b : D} {cs0 : Cells} {P : D × Bool → Cells → Prop} {E : D → Cells → Prop} (hb : Bag b) (hm0 : 0 ≤ m) (hm : m ≤ 8)
    (hQ : ∀ (ws : List Str) (b' : D), (ws.length : Int) ≤ m → ws.length ≤ 6 → (∀ x ∈ ws, Wd x) → ws.Nodup → Bag b' → P (.lst (ws.map .str), true) (some b' :: cs0)) : Ew (callA ((semT GT k).f i_law_words) [.cell 0, .int m] (some b :: cs0)) P E := by
  obtain ⟨k, rfl⟩ : ∃ j, k = j + 1 := ⟨k - 1, by omega⟩
  rw [sem_law_words]
  refine callC rfl rfl (run_def.mpr ?_)
  show Sv (exSs _ d_law_words.body [.val (.cell 0), .val (.int m), .non, .non] _) _
  unfold d_law_words
  simp only
  have zs : sizeLine = 16777216 := rfl
  walk_at "go"
  refine Bx.ints (zs := [0, 1, 2, 2, 3, 3, 4, 5, 6]) rfl (by omega) (by simp; omega) fun z hz => ?_
  have hz2 : 0 ≤ z ∧ z ≤ 6 := by revert z; decide
  walk_at "wp"
  have hmin : 0 ≤ (if z < m then z else m) ∧ (if z < m then z else m) ≤ m ∧ (if z < m then z else m) ≤ 6 := by split <;> omega
  generalize (if z < m then z else m) = q at hmin ⊢
  walk_at "go"
  rename_i ws b1 hl hw hnd hb1 v b2 hv hb2
  refine hQ (ws.drop v ++ ws.take v) _ ?_ ?_ (fun x hx => ?_) ?_ hb2
  · rw [List.length_append, List.length_drop, List.length_take]; omega
  · rw [List.length_append, List.length_drop, List.length_take]; omega
  · rcases List.mem_append.mp hx with h | h
    · exact hw x (List.mem_of_mem_drop h)
    · exact hw x (List.mem_of_mem_take h)
  · have : (ws.take v ++ ws.drop v).Nodup := by rw [List.take_append_drop]; exact hnd
    exact (List.perm_append_comm.nodup_iff).mp this
local macro_rules | `(tactic| walk_at "call") => `(tactic| ((with_reducible refine G.lwords_c ?_ ?_ ?_ ?_ ?_); (· omega); (· with_reducible assumption); (· omega); (· omega); intro ws b hl hl6 hw hnd hb))
/-! sums of what words mean -/
theorem o_sum {c : Cells} {xs : List Int} {P : D × Bool → Cells → Prop} {E : D → Cells → Prop} : Ew (outA (bfF .sum c [.lst (xs.map D.int)]) c) P E ↔ P (.int xs.sum, false) c := by
  have : intsD (xs.map D.int) = some xs := by
    have := intsD_mapf (g := fun x : Int => x) xs
    rwa [List.map_id'] at this
  show Ew (outA ((intsD (xs.map D.int)).map fun bs => Out.val (.int bs.sum)) c) P E ↔ _
  rw [this]; exact Iff.rfl
theorem sum_nat {α : Type} (f : α → Nat) : ∀ l : List α, (l.map fun x => ((f x : Nat) : Int)).sum = (((l.map f).sum : Nat) : Int)
  | [] => rfl
  | x :: l => by rw [List.map_cons, List.sum_cons, sum_nat f l, List.map_cons, List.sum_cons]; omega
/-- how many parts of so many words have so many of them, as it is reckoned -/
def BN (n : Nat) : Nat → Nat
  | 0 => 1
  | k + 1 => BN n k * (n - k) / (k + 1)
theorem BN_le : ∀ (n : Fin 7) (k : Fin 8), BN n.val k.val ≤ 20 := by decide +kernel
/-- of so many words, with some of them -/
def AM (n : Nat) : Nat := ((List.range (n + 1)).map fun s => BN n s * FF s).sum
theorem AM_eq : ∀ n : Fin 7, ((PL n.val).map FF).sum = AM n.val := by decide +kernel
theorem parts_many_c {k : Nat} (hk : 1 ≤ k) {n s : Nat} {b : Cells} {P : D × Bool → Cells → Prop} {E : D → Cells → Prop} (hn : n ≤ 6) (hs : s ≤ n) (hQ : P (.int (BN n s : Nat), false) b) :
    Ew (callA ((semT GT k).f i_parts_many) [.int (n : Nat), .int (s : Nat)] b) P E := by
  obtain ⟨k, rfl⟩ : ∃ j, k = j + 1 := ⟨k - 1, by omega⟩
  rw [sem_parts_many]
  refine callC rfl rfl (run_def.mpr ?_)
  show Sv (exSs _ d_parts_many.body [.val (.int (n : Nat)), .val (.int (s : Nat)), .non, .non] _) _
  unfold d_parts_many
  simp only
  have zs : sizeLine = 16777216 := rfl
  walk_at "go"
  refine for_r (fun i ρ c => c = b ∧ (∃ (s3 : Sl), ρ = [.val (.int (n : Nat)), .val (.int (s : Nat)), .val (.int (BN n i : Nat)), s3])) ⟨rfl, ⟨_, rfl⟩⟩ ?_ ?_
  · rintro i ρ c hi ⟨rfl, ⟨s3, rfl⟩⟩
    have hb := BN_le ⟨n, by omega⟩ ⟨i, by omega⟩
    have e1 : (n : Int) - (0 + (i : Int)) = ((n - i : Nat) : Int) := by omega
    have e2 : (0 + (i : Int)) + 1 = ((i + 1 : Nat) : Int) := by omega
    walk_at "go"
    have e3 : (((BN n i * (n - i) : Nat) : Int) / ((i + 1 : Nat) : Int)) = ((BN n (i + 1) : Nat) : Int) := (Int.natCast_ediv _ _).symm
    rw [show ((BN n i : Nat) : Int) * ((n : Int) - (i : Int)) = ((BN n i * (n - i) : Nat) : Int) by rw [Int.natCast_mul, Int.natCast_sub (by omega)], e3]
    exact ⟨by walk_at "q", ⟨_, rfl⟩⟩
  · rintro ρ c ⟨rfl, ⟨s3, rfl⟩⟩
    walk_at "go"
    exact hQ
local macro_rules | `(tactic| walk_at "call") => `(tactic| ((with_reducible refine G.parts_many_c ?_ ?_ ?_ ?_); (· omega); (· walk_at "side"); (· omega)))
theorem all_meanings_c {k : Nat} (hk : 3 ≤ k) {ws : List Str} {b : Cells} {P : D × Bool → Cells → Prop} {E : D → Cells → Prop} (hn : ws.length ≤ 6) (hQ : P (.int (AM ws.length : Nat), false) b) :
    Ew (callA ((semT GT k).f i_all_meanings) [.lst (ws.map .str)] b) P E := by
  obtain ⟨k, rfl⟩ : ∃ j, k = j + 1 := ⟨k - 1, by omega⟩
  rw [sem_all_meanings]
  refine callC rfl rfl (run_def.mpr ?_)
  show Sv (exSs _ d_all_meanings.body [.val (.lst (ws.map .str)), .non, .non] _) _
  unfold d_all_meanings
  simp only
  have zs : sizeLine = 16777216 := rfl
  walk_at "go"
  refine lc_rp (β := Int) D.int (fun i => ((BN ws.length i * FF i : Nat) : Int)) (fun _ => rfl) (by omega) (fun i hi => ?_) ?_
  · have hi : i ≤ ws.length := by omega
    have b1 := BN_le ⟨ws.length, by omega⟩ ⟨i, by omega⟩
    have b1 : BN ws.length i ≤ 20 := b1
    walk_at "go"
    try exact ⟨by rw [Int.natCast_mul], by walk_at "q"⟩
  · walk_at "go"
    rw [o_sum, sum_nat fun i => BN ws.length i * FF i]
    walk_at "go"
    exact hQ
local macro_rules | `(tactic| walk_at "call") => `(tactic| ((with_reducible refine G.all_meanings_c ?_ ?_ ?_); (· omega); (· walk_at "side")))
/-! all meanings of just these words, by their numbers, are those that come of all halves -/
theorem range_mul {β : Type} (A B : Nat) (f : Nat → β) : (List.range (A * B)).map f = (List.range A).flatMap fun q => (List.range B).map fun r => f (q * B + r) := by
  induction A with
  | zero => simp
  | succ A ih => rw [Nat.succ_mul, List.range_add, List.map_append, ih, List.range_succ, List.flatMap_append, List.map_map]; simp [Function.comp_def]
theorem range_at {α : Type} (l : List α) : (List.range l.length).map (fun i => l[i]?) = l.map some := by
  refine List.ext_getElem? fun i => ?_
  rw [List.getElem?_map, List.getElem?_map]
  by_cases h : i < l.length
  · simp [h]
  · rw [List.getElem?_eq_none (by simp; omega), List.getElem?_eq_none (by omega)]; rfl
theorem flat_at {α β : Type} (l : List α) (g : Option α → List β) : (List.range l.length).flatMap (fun i => g l[i]?) = l.flatMap fun a => g (some a) := by
  have e : (List.range l.length).flatMap (fun i => g l[i]?) = ((List.range l.length).map fun i => l[i]?).flatMap g := by rw [List.flatMap_map]
  rw [e, range_at, List.flatMap_map]
def EVL (n : Nat) (ns : List Str) : List (List Str) := (List.range (FF ns.length)).map (SPd n ns)
def EVF (n : Nat) (ns : List Str) : List (List Str) := ns.flatMap fun a => (EVL n (ns.filter fun y => decide (y ≠ a))).map fun r => r ++ [a]
def EVB (n : Nat) (ns : List Str) : List (List Str) := ns.flatMap fun a => (EVL n (ns.filter fun y => decide (y ≠ a))).map fun r => [a] ++ r
theorem flat_congr {α β : Type} {l : List α} {f g : α → List β} (h : ∀ a ∈ l, f a = g a) : l.flatMap f = l.flatMap g := by
  induction l with
  | nil => rfl
  | cons a l ih => rw [List.flatMap_cons, List.flatMap_cons, h a List.mem_cons_self, ih fun b hb => h b (List.mem_cons_of_mem _ hb)]
theorem evf_rng {n : Nat} {ns : List Str} (hn : ns.Nodup) {L : Nat} (hL : L = FF (ns.length - 1)) (g : Str → List Str → List Str) :
    (ns.flatMap fun a => (EVL n (ns.filter fun y => decide (y ≠ a))).map (g a)) = (List.range (ns.length * L)).map fun y => g ((ns[y / L]?).getD "") (SPd n (ns.filter fun x => decide (x ≠ (ns[y / L]?).getD "")) (y % L)) := by
  rw [range_mul]
  have e : ∀ q ∈ List.range ns.length, ((List.range L).map fun r => g ((ns[(q * L + r) / L]?).getD "") (SPd n (ns.filter fun x => decide (x ≠ (ns[(q * L + r) / L]?).getD "")) ((q * L + r) % L))) = (fun o : Option Str => (List.range L).map fun r => g (o.getD "") (SPd n (ns.filter fun x => decide (x ≠ o.getD "")) r)) ns[q]? := fun q hq => by
    refine List.map_congr_left fun r hr => ?_
    rw [List.mem_range] at hr
    have L0 : 0 < L := by omega
    rw [show (q * L + r) / L = q by rw [Nat.mul_comm, Nat.mul_add_div L0, Nat.div_eq_of_lt hr, Nat.add_zero], show (q * L + r) % L = r by rw [Nat.mul_comm, Nat.mul_add_mod, Nat.mod_eq_of_lt hr]]
  rw [flat_congr e, flat_at ns (fun o : Option Str => (List.range L).map fun r => g (o.getD "") (SPd n (ns.filter fun x => decide (x ≠ o.getD "")) r))]
  refine flat_congr fun a ha => ?_
  unfold EVL
  rw [less_len hn ha, ← hL, List.map_map]
  rfl
theorem evl_step {n : Nat} {ns : List Str} (hn : ns.Nodup) (h0 : ns ≠ []) : EVL (n + 1) ns = (EVF n ns).flatMap fun one => (EVB n ns).map fun other => FB.lay one other := by
  obtain ⟨L, hL⟩ : ∃ L, L = FF (ns.length - 1) := ⟨_, rfl⟩
  have C0 : 0 < ns.length := List.length_pos_iff.mpr h0
  have hF : FF ns.length = (ns.length * L) * (ns.length * L) := by
    obtain ⟨m, hm⟩ : ∃ m, ns.length = m + 1 := ⟨ns.length - 1, by omega⟩
    rw [hm] at hL ⊢
    rw [Nat.add_sub_cancel] at hL
    rw [hL, ← Nat.pow_two]
    rfl
  unfold EVF EVB
  rw [evf_rng hn hL fun a r => r ++ [a], evf_rng hn hL fun a r => [a] ++ r]
  show (List.range (FF ns.length)).map _ = _
  rw [hF, range_mul, List.flatMap_map]
  refine flat_congr fun y hy => ?_
  rw [List.map_map]
  refine List.map_congr_left fun z hz => ?_
  rw [List.mem_range] at hz
  have L0 : 0 < L := by
    rcases Nat.eq_zero_or_pos L with e | e
    · rw [e, Nat.mul_zero] at hz; omega
    · exact e
  have q1 : (y * (ns.length * L) + z) / L = y * ns.length + z / L := by rw [← Nat.mul_assoc, Nat.mul_comm, Nat.mul_add_div L0]
  have hzl : z / L < ns.length := Nat.div_lt_of_lt_mul (by rw [Nat.mul_comm]; exact hz)
  have q2 : (y * (ns.length * L) + z) / L / ns.length = y := by rw [q1, Nat.mul_comm, Nat.mul_add_div C0, Nat.div_eq_of_lt hzl, Nat.add_zero]
  have q3 : (y * (ns.length * L) + z) / L % ns.length = z / L := by rw [q1, Nat.mul_comm, Nat.mul_add_mod, Nat.mod_eq_of_lt hzl]
  have q4 : (y * (ns.length * L) + z) % L = z % L := by rw [← Nat.mul_assoc, Nat.mul_comm, Nat.mul_add_mod]
  show SPd (n + 1) ns _ = FB.lay _ _
  conv => lhs; unfold SPd
  rw [if_neg h0, ← hL, q2, q3, q4]
theorem evl_nil (n : Nat) : EVL n [] = [[]] := by
  show [SPd n [] 0] = [[]]
  rw [SPd_nil]
theorem evl_just (A : List Str) : JUST A = EVL 6 (sortW A) := by unfold JUST EVL; rw [sortW_len]
theorem evl_len (n : Nat) (ns : List Str) : (EVL n ns).length = FF ns.length := by unfold EVL; rw [List.length_map, List.length_range]

/-! going through all by saying one word more -/
def wD (u : List Str) : D := .lst (u.map .str)
def kE (u : List Str) : List Key := u.map Sum.inr
theorem kE_inj {u v : List Str} : kE u = kE v ↔ u = v := ⟨fun h => by
  have := congrArg (List.map fun k : Key => match k with | .inr x => x | .inl _ => "") h
  simpa [kE, List.map_map, Function.comp_def] using this, fun h => h ▸ rfl⟩
theorem has_kE {F : List (List Str)} {u : List Str} : dhas (F.map kE) (kE u) = decide (u ∈ F) := by
  unfold dhas
  rw [List.any_map, Bool.eq_iff_iff, List.any_eq_true, decide_eq_true_iff]
  constructor
  · rintro ⟨v, hv, e⟩
    have e : kE v = kE u := of_decide_eq_true e
    rw [kE_inj] at e
    exact e ▸ hv
  · exact fun h => ⟨u, h, by show decide (kE u = kE u) = true; rw [decide_eq_true_iff]⟩
theorem nin_dT {c : Cells} {F : List (List Str)} {vs : List D} {u : List Str} : cmpB c .NotIn (.tup (u.map .str)) (.dT (F.map kE) vs) = some (!decide (u ∈ F)) := by
  rw [cmp_nin]
  show (Option.map (dhas (F.map kE)) (keysD (u.map .str))).map _ = _
  rw [keys_strs, ← has_kE]; rfl
theorem set_dT {F : List (List Str)} {vs : List D} {u : List Str} {d : D} (h : u ∉ F) (hl : F.length < 10000000) : setF (.dT (F.map kE) vs) (.tup (u.map .str)) d = some (.dT ((F ++ [u]).map kE) (vs ++ [d])) := by
  have zs : sizeLine = 16777216 := rfl
  show (if (F.map kE).length < sizeLine then (keysD (u.map .str)).map fun k => D.dT (dputK (F.map kE) k) (dputV (F.map kE) vs k d) else none) = _
  rw [if_pos (by rw [List.length_map]; omega), keys_strs]
  show some (D.dT (dputK (F.map kE) (kE u)) (dputV (F.map kE) vs (kE u) d)) = _
  unfold dputK dputV
  rw [has_kE, decide_eq_false h, if_neg Bool.false_ne_true, if_neg Bool.false_ne_true, List.map_append]
  rfl
theorem o_dT {i : Nat} {ks : List (List Key)} {vs : List D} {ρ : Rho} {c : Cells} {Q : Fl → Rho → Cells → Prop} : Sv (ownF i (.dT ks vs, true) ρ c) Q ↔ An (i < ρ.length) (Q .nx (ρ.set i (.own (.dT ks vs))) c) := by
  unfold ownF
  by_cases h : i < ρ.length
  · rw [if_pos (decide_eq_true h), if_pos (show (true && isObjD (.dT ks vs)) = true from rfl)]
    exact ⟨fun q => ⟨h, q⟩, fun q => q.2⟩
  · rw [if_neg (by rw [decide_eq_true_iff]; exact h)]
    exact ⟨fun q => q.elim, fun q => absurd q.1 h⟩
local macro_rules | `(tactic| walk_at "call") => `(tactic| simp only [G.o_dT, G.nin_dT])
/-- what has been met -/
structure Mt (ws : List Str) (F : List (List Str)) : Prop where
  nd : F.Nodup
  nf : ∀ u ∈ F, Nf ws u
  nl : [] ∈ F
theorem nf_nil (ws : List Str) : Nf ws [] := ⟨FB.short_nil, fun x h => by cases h⟩
theorem nf_say {ws u : List Str} {w : Str} (h : Nf ws u) (hw : w ∈ ws) : Nf ws (FB.short (u ++ [w])) := ⟨FB.short_idem _, fun x hx => by
  have := ((FB.short_same (u ++ [w])).mem x).mp hx
  rcases List.mem_append.mp this with z | z
  · exact h.2 x z
  · rw [List.mem_singleton.mp z]; exact hw⟩
theorem say_short (u : List Str) (w : Str) : FB.short (FB.short u ++ [w]) = FB.short (u ++ [w]) := FB.short_iff.mpr ((FB.short_same u).right [w])
theorem mt_all {ws : List Str} {F : List (List Str)} (h : Mt ws F) (cl : ∀ u ∈ F, ∀ w ∈ ws, FB.short (u ++ [w]) ∈ F) (u : List Str) : u ∈ F ↔ Nf ws u := by
  refine ⟨h.nf u, fun hu => ?_⟩
  have : ∀ v : List Str, (∀ x ∈ v, x ∈ ws) → FB.short v ∈ F := by
    refine snoc_ind (fun _ => by rw [FB.short_nil]; exact h.nl) fun v w ih hv => ?_
    rw [← say_short]
    exact cl _ (ih fun x hx => hv x (List.mem_append_left _ hx)) w (hv w (by simp))
  rw [← hu.1]
  exact this u hu.2
theorem mt_len {ws : List Str} (hn : ws.Nodup) (h3 : ws.length ≤ 3) {F : List (List Str)} (h : Mt ws F) : F.length ≤ 160 := by
  have h1 : F.length ≤ (CAN ws).length := FB.nodup_len h.nd fun u hu => (can_ok hn (by omega)).mpr (h.nf u hu)
  rw [can_len hn (by omega)] at h1
  have : ∀ n : Fin 4, ((PL n.val).map FF).sum ≤ 160 := by decide +kernel
  exact Nat.le_trans h1 (this ⟨ws.length, by omega⟩)
theorem mt_add {ws : List Str} {F : List (List Str)} {u : List Str} (h : Mt ws F) (hu : Nf ws u) (hx : u ∉ F) : Mt ws (F ++ [u]) := by
  refine ⟨List.nodup_append.mpr ⟨h.nd, by simp, fun a ha b hb e => ?_⟩, fun v hv => ?_, List.mem_append_left _ h.nl⟩
  · rw [List.mem_singleton] at hb
    subst hb e
    exact hx ha
  · rcases List.mem_append.mp hv with z | z
    · exact h.nf v z
    · rw [List.mem_singleton.mp z]; exact hu
theorem nf_len {ws u : List Str} {n : Nat} (hl : ws.length ≤ n) (h : Nf ws u) : FB.card u ≤ n ∧ u.length + 2 ≤ 2 ^ (n + 1) := by
  have hc : FB.card u ≤ n := Nat.le_trans (FB.card_le h.2) hl
  have := FB.short_len n u hc
  rw [h.1] at this
  exact ⟨hc, this⟩

def FRp (n : Nat) (S l : List Str) : List (List Str) := l.flatMap fun a => (EVL n (S.filter fun y => decide (y ≠ a))).map fun r => r ++ [a]
def LSp (n : Nat) (S l : List Str) : List (List Str) := l.flatMap fun a => (EVL n (S.filter fun y => decide (y ≠ a))).map fun r => [a] ++ r
theorem snocW {X U : List (List Str)} {u : List Str} {g : List Str → List Str} : (X ++ (U ++ [u]).map g).map wD = (X ++ U.map g).map wD ++ [wD (g u)] := by
  rw [List.map_append, List.map_append, List.map_append, List.map_append, ← List.append_assoc]; rfl
theorem evl_le {n : Nat} {ws : List Str} (hn : ws.Nodup) (hl : ws.length ≤ n) (h6 : ws.length ≤ 6) {u : List Str} (hu : u ∈ EVL n (sortW ws)) : u.length ≤ 126 := by
  unfold EVL at hu
  obtain ⟨x, hx, rfl⟩ := List.mem_map.mp hu
  rw [List.mem_range] at hx
  exact SPd_len (sortW_pw ws) ((sortW_perm ws).nodup_iff.mpr hn) (by rw [sortW_len]; exact hl) (by rw [sortW_len]; exact h6) hx
theorem sort_less {ws : List Str} (hn : ws.Nodup) (a : Str) : sortW (ws.filter fun y => decide (y ≠ a)) = (sortW ws).filter fun y => decide (y ≠ a) := by
  refine sw_uniq (sortW_pw _) ((sortW_pw ws).sublist List.filter_sublist) ((sortW_perm _).nodup_iff.mpr (hn.sublist List.filter_sublist)) (((sortW_perm ws).nodup_iff.mpr hn).sublist List.filter_sublist) fun x => ?_
  rw [(sortW_perm _).mem_iff, List.mem_filter, List.mem_filter, (sortW_perm ws).mem_iff]
theorem every_c : ∀ (n : Nat) {k : Nat} {ws : List Str} {b : Cells} {P : D × Bool → Cells → Prop} {E : D → Cells → Prop}, n + 3 ≤ k → ws.Nodup → ws.length ≤ n → ws.length ≤ 3 → (∀ fr, P (.lst ((EVL n (sortW ws)).map wD), fr) b) →
    Ew (callA ((semT GT k).f i_law_every) [.lst (ws.map .str)] b) P E := by
  intro n
  induction n with
  | zero =>
    intro k ws b P E hk hn hl h3 hQ
    obtain rfl : ws = [] := List.eq_nil_of_length_eq_zero (by omega)
    obtain ⟨k, rfl⟩ : ∃ j, k = j + 1 := ⟨k - 1, by omega⟩
    rw [sem_law_every]
    refine callC rfl rfl (run_def.mpr ?_)
    show Sv (exSs _ d_law_every.body [.val (.lst (List.map D.str [])), .non, .non, .non, .non, .non, .non, .non] _) _
    unfold d_law_every
    simp only
    have zs : sizeLine = 16777216 := rfl
    walk_at "go"
    have hQ := hQ true
    rw [show sortW ([] : List Str) = [] from List.eq_nil_of_length_eq_zero sortW_len, evl_nil] at hQ
    exact hQ
  | succ n ih =>
    intro k ws b P E hk hn hl h3 hQ
    obtain ⟨k, rfl⟩ : ∃ j, k = j + 1 := ⟨k - 1, by omega⟩
    have hsn : (sortW ws).Nodup := (sortW_perm ws).nodup_iff.mpr hn
    have hsl : (sortW ws).length = ws.length := sortW_len
    rw [sem_law_every]
    refine callC rfl rfl (run_def.mpr ?_)
    show Sv (exSs _ d_law_every.body [.val (.lst (ws.map .str)), .non, .non, .non, .non, .non, .non, .non] _) _
    unfold d_law_every
    simp only
    have zs : sizeLine = 16777216 := rfl
    walk_at "go"
    refine Br.dec (fun h0 => ?_) (fun h0 => ?_)
    · subst h0
      walk_at "go"
      have hQ := hQ true
      rw [show sortW ([] : List Str) = [] from List.eq_nil_of_length_eq_zero sortW_len, evl_nil] at hQ
      exact hQ
    · have hs0 : sortW ws ≠ [] := fun e => h0 (List.eq_nil_of_length_eq_zero (by rw [← hsl, e]; rfl))
      walk_at "go"
      have each : ∀ a ∈ sortW ws, (EVL n ((sortW ws).filter fun y => decide (y ≠ a))).length ≤ 4 ∧ ∀ u ∈ EVL n ((sortW ws).filter fun y => decide (y ≠ a)), u.length ≤ 126 := fun a ha => by
        have hla := less_len hsn ha
        have C0 : 0 < (sortW ws).length := List.length_pos_iff.mpr hs0
        rw [evl_len, hla, ← sort_less hn]
        have hfl : (ws.filter fun y => decide (y ≠ a)).length = ws.length - 1 := less_len hn ((sortW_perm ws).mem_iff.mp ha)
        have h2 : ∀ n : Fin 3, FF n.val ≤ 4 := by decide +kernel
        exact ⟨h2 ⟨(sortW ws).length - 1, by omega⟩, fun u hu => evl_le (hn.sublist List.filter_sublist) (by omega) (by omega) hu⟩
      have part : ∀ j, (((sortW ws).take j).flatMap fun a => EVL n ((sortW ws).filter fun y => decide (y ≠ a))).length ≤ 4 * j := fun j => by
        have : ∀ l : List Str, (∀ a ∈ l, a ∈ sortW ws) → (l.flatMap fun a => EVL n ((sortW ws).filter fun y => decide (y ≠ a))).length ≤ 4 * l.length := fun l => by
          induction l with
          | nil => intro _; simp
          | cons a l ih2 =>
            intro h
            have := ih2 fun b hb => h b (List.mem_cons_of_mem _ hb)
            have := (each a (h a List.mem_cons_self)).1
            rw [List.flatMap_cons, List.length_append, List.length_cons]; omega
        have h1 := this _ fun a ha => List.mem_of_mem_take (i := j) ha
        rw [List.length_take] at h1; omega
      have partF : ∀ j, (FRp n (sortW ws) ((sortW ws).take j)).length ≤ 4 * j := fun j => by
        have e := part j
        rw [List.length_flatMap] at e
        unfold FRp
        rw [List.length_flatMap]
        simpa using e
      have partL : ∀ j, (LSp n (sortW ws) ((sortW ws).take j)).length ≤ 4 * j := fun j => by
        have e := part j
        rw [List.length_flatMap] at e
        unfold LSp
        rw [List.length_flatMap]
        simpa using e
      have lenF : ∀ l, (∀ a ∈ l, a ∈ sortW ws) → ∀ u ∈ FRp n (sortW ws) l, u.length ≤ 127 := fun l hm u hu => by
        obtain ⟨a, ha, hu⟩ := List.mem_flatMap.mp hu
        obtain ⟨r, hr, rfl⟩ := List.mem_map.mp hu
        have := (each a (hm a ha)).2 r hr
        rw [List.length_append, List.length_singleton]; omega
      have lenL : ∀ l, (∀ a ∈ l, a ∈ sortW ws) → ∀ u ∈ LSp n (sortW ws) l, u.length ≤ 127 := fun l hm u hu => by
        obtain ⟨a, ha, hu⟩ := List.mem_flatMap.mp hu
        obtain ⟨r, hr, rfl⟩ := List.mem_map.mp hu
        have := (each a (hm a ha)).2 r hr
        rw [List.length_append, List.length_singleton]; omega
      refine for_m (ys := sortW ws) (f := D.str) (fun j ρ c => c = b ∧ (∃ (s1 s2 s6 s7 : Sl), ρ = [.val (.lst (ws.map .str)), s1, s2, .own (.lst ((FRp n (sortW ws) ((sortW ws).take j)).map wD)), .own (.lst ((LSp n (sortW ws) ((sortW ws).take j)).map wD)), .own (.lst []), s6, s7])) ⟨rfl, ⟨_, _, _, _, rfl⟩⟩ ?_ ?_
      · rintro j a ρ c ha ⟨rfl, ⟨s1, s2, s6, s7, rfl⟩⟩
        have ham := List.mem_of_getElem? ha
        obtain ⟨e1, e2⟩ := each a ham
        have hjl : j < 3 := by have := (List.getElem?_eq_some_iff.mp ha).1; omega
        walk_at "go"
        refine lc_pt (ys := ws) (β := Str) D.str (fun x => x) (fun y => decide (y ≠ a)) (fun _ => rfl) (by omega) (fun i y hy => ?_) ?_
        · walk_at "go"
          simp
        rw [List.map_id']
        walk_at "go"
        have hfl : (ws.filter fun y => decide (y ≠ a)).length = ws.length - 1 := less_len hn ((sortW_perm ws).mem_iff.mp ham)
        refine ih (by omega) (hn.sublist List.filter_sublist) (by omega) (by omega) fun fr => ?_
        rw [sort_less hn]
        walk_at "go"
        have f1 := partF j
        have f2 := partL j
        generalize hU : EVL n ((sortW ws).filter fun y => decide (y ≠ a)) = U at e1 e2 ⊢
        refine for_m (ys := U) (f := wD) (fun i ρ c' => c' = c ∧ (∃ (s2 s6 s7 : Sl), ρ = [.val (.lst (ws.map .str)), .val (.str a), s2, .own (.lst ((FRp n (sortW ws) ((sortW ws).take j) ++ (U.take i).map fun r => r ++ [a]).map wD)), .own (.lst ((LSp n (sortW ws) ((sortW ws).take j) ++ (U.take i).map fun r => [a] ++ r).map wD)), .own (.lst []), s6, s7])) ⟨rfl, ?_⟩ ?_ ?_
        · rw [List.take_zero, List.map_nil, List.append_nil, List.map_nil, List.append_nil]
          exact ⟨_, _, _, rfl⟩
        · rintro i u ρ c' hu ⟨rfl, ⟨s2, s6, s7, rfl⟩⟩
          have hul := e2 u (List.mem_of_getElem? hu)
          have hiU : i < U.length := (List.getElem?_eq_some_iff.mp hu).1
          show Bx (bindT _ (.lst (u.map .str)) _) _
          walk_at "go"
          refine ⟨by walk_at "q", ?_⟩
          rw [take_snoc hu]
          rw [snocW, snocW]
          exact ⟨_, _, _, rfl⟩
        · rintro ρ c' ⟨rfl, ⟨s2, s6, s7, rfl⟩⟩
          rw [List.take_length]
          walk_at "go"
          refine ⟨by walk_at "q", ?_⟩
          rw [take_snoc ha]
          have g1 : FRp n (sortW ws) ((sortW ws).take j ++ [a]) = FRp n (sortW ws) ((sortW ws).take j) ++ U.map fun r => r ++ [a] := by
            unfold FRp
            rw [List.flatMap_append, List.flatMap_cons, List.flatMap_nil, List.append_nil, hU]
          have g2 : LSp n (sortW ws) ((sortW ws).take j ++ [a]) = LSp n (sortW ws) ((sortW ws).take j) ++ U.map fun r => [a] ++ r := by
            unfold LSp
            rw [List.flatMap_append, List.flatMap_cons, List.flatMap_nil, List.append_nil, hU]
          rw [g1, g2]
          exact ⟨_, _, _, _, rfl⟩
      · rintro ρ c ⟨rfl, ⟨s1, s2, s6, s7, rfl⟩⟩
        rw [List.take_length]
        have f1 := partF (sortW ws).length
        have f2 := partL (sortW ws).length
        rw [List.take_length] at f1 f2
        have g1 := lenF (sortW ws) fun _ h => h
        have g2 := lenL (sortW ws) fun _ h => h
        have hQ := evl_step hsn hs0 (n := n) ▸ hQ
        have hQ : ∀ fr, P (.lst (((FRp n (sortW ws) (sortW ws)).flatMap fun one => (LSp n (sortW ws) (sortW ws)).map fun other => FB.lay one other).map wD), fr) c := hQ
        generalize FRp n (sortW ws) (sortW ws) = FS at f1 g1 hQ ⊢
        generalize LSp n (sortW ws) (sortW ws) = LS at f2 g2 hQ ⊢
        walk_at "go"
        refine for_m (ys := FS) (f := wD) (fun i ρ c' => c' = c ∧ ∃ s4, (s4 = .own (.lst (LS.map wD)) ∨ s4 = .val (.lst (LS.map wD))) ∧ (∃ (s1 s2 s3 s6 s7 : Sl), ρ = [.val (.lst (ws.map .str)), s1, s2, s3, s4, .own (.lst (((FS.take i).flatMap fun one => LS.map fun other => FB.lay one other).map wD)), s6, s7])) ⟨rfl, _, .inl rfl, ⟨_, _, _, _, _, rfl⟩⟩ ?_ ?_
        · rintro i u ρ c' hu ⟨rfl, s4, h4, ⟨s1, s2, s3, s6, s7, rfl⟩⟩
          have hul := g1 u (List.mem_of_getElem? hu)
          have hiF : i < FS.length := (List.getElem?_eq_some_iff.mp hu).1
          have hft : ((FS.take i).flatMap fun one => LS.map fun other => FB.lay one other).length ≤ 12 * i := by
            rw [List.length_flatMap]
            simp only [List.length_map]
            have : ∀ l : List (List Str), (l.map fun _ => LS.length).sum ≤ 12 * l.length := fun l => by
              induction l with
              | nil => simp
              | cons a l ih3 => rw [List.map_cons, List.sum_cons, List.length_cons]; omega
            have := this (FS.take i)
            rw [List.length_take] at this
            omega
          show Bx (bindT _ (.lst (u.map .str)) _) _
          rcases h4 with rfl | rfl
          · walk_at "go"
            refine lc_p (ys := LS) (f := wD) (β := List Str) wD (fun v => FB.lay u v) (fun _ => rfl) (by omega) (fun q v hv => ?_) ?_
            · have hvl := g2 v (List.mem_of_getElem? hv)
              show Bx (bindT _ (.lst (v.map .str)) _) _
              walk_at "go"
              refine ⟨rfl, by walk_at "q"⟩
            · walk_at "go"
              refine ⟨by walk_at "q", _, .inr rfl, ?_⟩
              rw [take_snoc hu, List.flatMap_append, List.flatMap_cons, List.flatMap_nil, List.append_nil, List.map_append]
              exact ⟨_, _, _, _, _, rfl⟩
          · walk_at "go"
            refine lc_p (ys := LS) (f := wD) (β := List Str) wD (fun v => FB.lay u v) (fun _ => rfl) (by omega) (fun q v hv => ?_) ?_
            · have hvl := g2 v (List.mem_of_getElem? hv)
              show Bx (bindT _ (.lst (v.map .str)) _) _
              walk_at "go"
              refine ⟨rfl, by walk_at "q"⟩
            · walk_at "go"
              refine ⟨by walk_at "q", _, .inr rfl, ?_⟩
              rw [take_snoc hu, List.flatMap_append, List.flatMap_cons, List.flatMap_nil, List.append_nil, List.map_append]
              exact ⟨_, _, _, _, _, rfl⟩
        · rintro ρ c' ⟨rfl, s4, h4, ⟨s1, s2, s3, s6, s7, rfl⟩⟩
          rw [List.take_length]
          walk_at "go"
          exact hQ _

theorem met_c {k : Nat} (hk : 13 ≤ k) {ws : List Str} (hn : ws.Nodup) (h3 : ws.length ≤ 3) {b : Cells} {P : D × Bool → Cells → Prop} {E : D → Cells → Prop} (hQ : ∀ (L : List (List Str)) fr, L.Nodup → (∀ u, u ∈ L ↔ Nf ws u) → P (.lst (L.map wD), fr) b) :
    Ew (callA ((semT GT k).f i_law_met) [.lst (ws.map .str)] b) P E := by
  obtain ⟨k, rfl⟩ : ∃ j, k = j + 1 := ⟨k - 1, by omega⟩
  rw [sem_law_met]
  refine callC rfl rfl (run_def.mpr ?_)
  show Sv (exSs _ d_law_met.body [.val (.lst (ws.map .str)), .non, .non, .non, .non, .non] _) _
  unfold d_law_met
  simp only
  have zs : sizeLine = 16777216 := rfl
  walk_at "go"
  refine whl_br (n0 := 161) (fun n ρ c => ∃ (F : List (List Str)) (t : Nat), n = 161 - t ∧ t ≤ F.length ∧ Mt ws F ∧ (∀ (i : Nat) (u : List Str), i < t → F[i]? = some u → ∀ w ∈ ws, FB.short (u ++ [w]) ∈ F) ∧ c = b ∧
    (∃ (s4 s5 : Sl), ρ = [.val (.lst (ws.map .str)), .own (.lst (F.map wD)), .own (.dT (F.map kE) (F.map fun _ => .bl true)), .val (.int (t : Nat)), s4, s5])) ⟨[[]], 0, rfl, by decide, ⟨by simp, fun u hu => by rw [List.mem_singleton.mp hu]; exact nf_nil ws, by simp⟩, fun i u hi => by omega, rfl, ⟨_, _, rfl⟩⟩ (by unfold wfuel; omega) ?_
  rintro n ρ c ⟨F, t, rfl, ht, mt, cl, rfl, ⟨s4, s5, rfl⟩⟩
  have hF := mt_len hn h3 mt
  walk_at "go"
  refine Br.dec (fun hlt => ?_) (fun hlt => ?_)
  · have hlt : t < F.length := by omega
    obtain ⟨u, hu⟩ : ∃ u, F[t]? = some u := ⟨_, List.getElem?_eq_getElem hlt⟩
    have nfu := mt.nf u (List.mem_of_getElem? hu)
    obtain ⟨cu, lu⟩ := nf_len h3 nfu
    walk_at "go"
    refine for_m (ys := ws) (f := D.str) (fun j ρ c' => ∃ G : List (List Str), Mt ws G ∧ (∀ v ∈ F, v ∈ G) ∧ (∀ (i : Nat) (v : List Str), F[i]? = some v → G[i]? = some v) ∧ (∀ w ∈ ws.take j, FB.short (u ++ [w]) ∈ G) ∧ (∀ (i : Nat) (v : List Str), i < t → G[i]? = some v → F[i]? = some v) ∧ c' = c ∧
      (∃ (s4 s5 : Sl), ρ = [.val (.lst (ws.map .str)), .own (.lst (G.map wD)), .own (.dT (G.map kE) (G.map fun _ => .bl true)), .val (.int (t : Nat)), s4, s5])) ⟨F, mt, fun v h => h, fun i v h => h, fun w h => (by cases h), fun i v _ h => h, rfl, ⟨_, _, rfl⟩⟩ ?_ ?_
    · rintro j w ρ c hw ⟨G, mg, sub, pre, hj, back, rfl, ⟨s4, s5, rfl⟩⟩
      have hG := mt_len hn h3 mg
      have hwm : w ∈ ws := List.mem_of_getElem? hw
      have nfs := nf_say nfu hwm
      have hcw : FB.card (u ++ [w]) ≤ 7 := Nat.le_trans (FB.card_le fun x hx => (List.mem_append.mp hx).elim (nfu.2 x) fun z => (List.mem_singleton.mp z) ▸ hwm) (by omega)
      obtain ⟨cs, ls⟩ := nf_len h3 nfs
      have htG : t < G.length := (List.getElem?_eq_some_iff.mp (pre t u hu)).1
      walk_at "go"
      refine Bx.intro (D.lst (u.map .str)) (by rw [Eng.atI_nat, List.getElem?_map, pre t u hu]; rfl) ?_
      walk_at "go"
      refine Br.dec (fun h => ?_) (fun h => ?_)
      · walk_at "go"
        refine ⟨G, mg, sub, pre, fun w' hw' => ?_, back, by walk_at "q", ⟨_, _, rfl⟩⟩
        rw [take_snoc hw] at hw'
        rcases List.mem_append.mp hw' with z | z
        · exact hj w' z
        · rw [List.mem_singleton.mp z]; exact h
      · walk_at "go"
        refine Bx.intro _ (set_dT h (by omega)) ?_
        walk_at "go"
        have hlen : ∀ {i : Nat} {v : List Str}, G[i]? = some v → i < G.length := fun z => (List.getElem?_eq_some_iff.mp z).1
        refine ⟨G ++ [FB.short (u ++ [w])], mt_add mg nfs h, fun v hv => List.mem_append_left _ (sub v hv), fun i v hv => by rw [List.getElem?_append_left (hlen (pre i v hv))]; exact pre i v hv, fun w' hw' => ?_, fun i v hi hv => ?_, by walk_at "q", ?_⟩
        · rw [take_snoc hw] at hw'
          rcases List.mem_append.mp hw' with z | z
          · exact List.mem_append_left _ (hj w' z)
          · rw [List.mem_singleton.mp z]; exact List.mem_append_right _ List.mem_cons_self
        · rw [List.getElem?_append_left (by omega)] at hv
          exact back i v hi hv
        · refine ⟨.val (.str w), .val (.lst ((FB.short (u ++ [w])).map .str)), ?_⟩
          simp only [List.map_append, List.map_cons, List.map_nil]
          rfl
    · rintro ρ c' ⟨G, mg, sub, pre, hj, back, rfl, ⟨s4, s5, rfl⟩⟩
      rw [List.take_length] at hj
      have hG := mt_len hn h3 mg
      walk_at "go"
      refine ⟨161 - (t + 1), by omega, G, t + 1, rfl, ?_, mg, fun i v hi hv w hw => ?_, by walk_at "q", ⟨_, _, rfl⟩⟩
      · have := (List.getElem?_eq_some_iff.mp (pre t u hu)).1
        omega
      · by_cases hit : i < t
        · exact sub _ (cl i v hit (back i v hit hv) w hw)
        · have : i = t := by omega
          subst this
          rw [pre _ u hu] at hv
          cases hv
          exact hj w hw
  · walk_at "go"
    refine hQ F true mt.nd (mt_all mt fun u hu w hw => ?_)
    obtain ⟨i, hi⟩ := List.getElem?_of_mem hu
    exact cl i u (by have := (List.getElem?_eq_some_iff.mp hi).1; omega) hi w hw

/-- odd things that stand within things -/
inductive Od : D → Prop
  | str {x : Str} : IsW x → Od (.str x)
  | non : Od .non
  | bl : Od (.bl true)
  | i0 : Od (.int 0)
  | i5 : Od (.int 5)
  | nil : Od (.lst [])
  | tnil : Od (.tup [])
  | dct : Od (.dK [] [])
  | l1 : Od (.lst [.str "a"])
  | tab : Od (.tup [.str "a", .str "b"])
  | l2 : Od (.lst [.lst [.str "a"]])
  | l3 : Od (.lst [.lst [.lst [.str "a"]]])
  | l4 : Od (.lst [.lst [.lst [.lst [.str "a"]]]])
theorem Od.sol {d : D} (h : Od d) : sol d = true := by cases h <;> rfl
theorem wb : IsW "b" := ⟨by decide, by decide⟩
/-! choices of so many words -/
/-! the four: twins of halves -/
def hF (w : List Str) : List Str × Str := (FB.half w).getD ([], "")
def hL (w : List Str) : Str × List Str := (((FB.half w.reverse).getD ([], "")).2, ((FB.half w.reverse).getD ([], "")).1.reverse)
def SB (f : List Str × Str) (l : Str × List Str) : List Str := FB.lay (FB.short f.1 ++ [f.2]) ([l.1] ++ FB.short l.2)
/-- what a first half and a last half make -/
theorem sb_ok {p s : List Str} {a b : Str} (ha : a ∉ p) (hb : b ∉ s) (hm : ∀ x, (x ∈ p ∨ x = a) ↔ (x ∈ s ∨ x = b)) : FB.FH (p ++ [a] ++ ([b] ++ s)) p a ∧ FB.FH (p ++ [a] ++ ([b] ++ s)).reverse s.reverse b ∧ SB (p, a) (b, s) = FB.short (p ++ [a] ++ ([b] ++ s)) := by
  have f : FB.FH (p ++ [a] ++ ([b] ++ s)) p a := ⟨[b] ++ s, by simp, ha, fun x hx => by
    rw [hm]
    rcases List.mem_append.mp hx with h | h
    · exact .inr (List.mem_singleton.mp h)
    · exact .inl h⟩
  have g : FB.FH (p ++ [a] ++ ([b] ++ s)).reverse s.reverse b := ⟨(p ++ [a]).reverse, by simp, fun h => hb (List.mem_reverse.mp h), fun x hx => by
    rw [List.mem_reverse, ← hm]
    rw [List.mem_reverse] at hx
    rcases List.mem_append.mp hx with h | h
    · exact .inl h
    · exact .inr (List.mem_singleton.mp h)⟩
  exact ⟨f, g, (FB.short_of f g).symm⟩
/-- what is true of a twin -/
structure TwO (p : List Str) (a : Str) (q : List Str × Str) : Prop where
  sh : FB.short q.1 = q.1
  mem : ∀ x, (x ∈ q.1 ∨ x = q.2) ↔ (x ∈ p ∨ x = a)
  new : q.2 ∉ q.1
theorem card_snoc {p : List Str} {a : Str} (h : a ∉ p) : FB.card (p ++ [a]) = FB.card p + 1 := (FB.FH.last h).card
theorem TwO.card {p : List Str} {a : Str} {q : List Str × Str} (h : TwO p a q) (ha : a ∉ p) : FB.card q.1 = FB.card p := by
  have e : FB.card (q.1 ++ [q.2]) = FB.card (p ++ [a]) := FB.card_eq fun x => by rw [List.mem_append, List.mem_append, List.mem_singleton, List.mem_singleton]; exact h.mem x
  rw [card_snoc h.new, card_snoc ha] at e
  omega
theorem TwO.len {p : List Str} {a : Str} {q : List Str × Str} (h : TwO p a q) (ha : a ∉ p) (h7 : FB.card p ≤ 7) : q.1.length ≤ 254 := by
  have := FB.short_len 7 q.1 (by rw [h.card ha]; exact h7)
  rw [h.sh] at this
  omega
theorem o_sortwD {c : Cells} {xss : List (List Str)} {P : D × Bool → Cells → Prop} {E : D → Cells → Prop} : Ew (outA (bfF .sorted c [.lst (xss.map wD)]) c) P E ↔ P (.lst ((sortLL xss).map wD), true) c := by
  rw [show bfF .sorted c [.lst (xss.map wD)] = some (.new (.lst ((sortLL xss).map wD))) from o_sortll]; exact Iff.rfl
local macro_rules | `(tactic| walk_at "call") => `(tactic| simp only [G.o_sortwD])
/-- a first half, a last half, and their twins -/
structure Hv (p : List Str) (a b : Str) (s : List Str) : Prop where
  p0 : p ≠ []
  s0 : s ≠ []
  ha : a ∉ p
  hb : b ∉ s
  cp : FB.card p ≤ 6
  cs : FB.card s ≤ 6
theorem Hv.of {w p s : List Str} {a b : Str} (f : FB.FH w p a) (g : FB.FH w.reverse s.reverse b) (h2 : 2 ≤ FB.card w) (h7 : FB.card w ≤ 6) : Hv p a b s := by
  have cf := f.card
  have cS := g.cardR
  exact ⟨fun e => by subst e; rw [FB.card_nil] at cf; omega, fun e => by subst e; rw [FB.card_nil] at cS; omega, f.choose_spec.2.1, fun q => g.choose_spec.2.1 (List.mem_reverse.mpr q), by omega, by omega⟩
/-! what the laws of listeners draw -/
theorem der_wD {ρ : Rho} {c : Cells} {u : List Str} : derS ρ c (wD u) = some (wD u) := rfl
theorem wD_eq {c : Cells} {u v : List Str} : cmpB c .Eq (wD u) (wD v) = some (decide (u = v)) := eqs_strs
theorem wD_ne {c : Cells} {u v : List Str} : cmpB c .NotEq (wD u) (wD v) = some (!decide (u = v)) := ne_strs
theorem wDs_eq {c : Cells} {xs ys : List (List Str)} : cmpB c .Eq (.lst (xs.map wD)) (.lst (ys.map wD)) = some (decide (xs = ys)) := by
  rw [cmp_eq, show deep = (9 + 2) + 1 from rfl]
  exact eqL_dec (fun a b => eq_strs a b) xs ys
theorem wDs_ne {c : Cells} {xs ys : List (List Str)} : cmpB c .NotEq (.lst (xs.map wD)) (.lst (ys.map wD)) = some (!decide (xs = ys)) := by
  have e := wDs_eq (c := c) (xs := xs) (ys := ys)
  rw [cmp_eq] at e
  rw [cmp_ne, e]; rfl
local macro_rules | `(tactic| walk_at "call") => `(tactic| simp only [G.der_wD, G.wD_eq, G.wD_ne, G.wDs_eq, G.wDs_ne])
/-! the four are just those that all who are deaf to one word hear alike -/
abbrev del (w : Str) (u : List Str) : List Str := u.filter fun x => decide (x ≠ w)
theorem del_same {w : Str} {u v : List Str} (h : FB.Same u v) : FB.Same (del w u) (del w v) := same_filter _ h
/-- of one first half -/
def FS (u v : List Str) : Prop := ∀ p a q c, FB.FH u p a → FB.FH v q c → a = c ∧ FB.Same p q
theorem FS.of {u v p q : List Str} {a c : Str} (f : FB.FH u p a) (g : FB.FH v q c) (h : a = c ∧ FB.Same p q) : FS u v := fun p2 a2 q2 c2 f2 g2 => by
  obtain ⟨e1, e2⟩ := f.uniq f2
  obtain ⟨e3, e4⟩ := g.uniq g2
  rw [← e1, ← e2, ← e3, ← e4]
  exact h
theorem FS.same {u v : List Str} (h : FB.Same u v) : FS u v := fun _ _ _ _ f g => h.first f g
theorem FS.more {x r v : List Str} (hr : ∀ d ∈ r, d ∈ x) : FS x v ↔ FS (x ++ r) v := by
  by_cases h : x = []
  · subst h
    have : r = [] := List.eq_nil_iff_forall_not_mem.mpr fun d hd => by have := hr d hd; cases this
    subst this; exact Iff.rfl
  · obtain ⟨p, a, f⟩ := FB.FH.ex x h
    have f2 := f.more hr
    exact ⟨fun k p2 a2 q2 c2 g1 g2 => by
      obtain ⟨e1, e2⟩ := f2.uniq g1
      rw [← e1, ← e2]
      exact k _ _ _ _ f g2, fun k p2 a2 q2 c2 g1 g2 => by
      obtain ⟨e1, e2⟩ := f.uniq g1
      rw [← e1, ← e2]
      exact k _ _ _ _ f2 g2⟩
/-- first halves that all who are deaf to one word hear alike -/
def E1 (p : List Str) (a : Str) (q : List Str) (c : Str) : Prop := (∀ x, (x ∈ p ∨ x = a) ↔ (x ∈ q ∨ x = c)) ∧ ∀ w, (w ∈ p ∨ w = a) → FS (del w (p ++ [a])) (del w (q ++ [c]))
/-- speeches of the same words that all who are deaf to one word hear alike -/
def DW (u v : List Str) : Prop := (∀ x, x ∈ u ↔ x ∈ v) ∧ ∀ w ∈ u, FB.Same (del w u) (del w v)
theorem E1.same {p q : List Str} {a : Str} (ha : a ∉ p) (h : FB.Same p q) : E1 p a q a := ⟨fun x => by rw [h.mem x], fun w _ => FS.same (del_same (h.right [a]))⟩
/-! the four, as those who are deaf to one word hear them -/
theorem DW.tr {u v z : List Str} (h : DW u v) (k : DW v z) : DW u z := ⟨fun x => (h.1 x).trans (k.1 x), fun w hw => (h.2 w hw).trans (k.2 w ((h.1 w).mp hw))⟩
theorem DW.of {u v : List Str} (h : FB.Same u v) : DW u v := ⟨h.mem, fun w _ => del_same h⟩
structure Pt (W : List Str) (f : List Str × Str) (l : Str × List Str) : Prop where
  f1 : f.2 ∉ f.1
  l1 : l.1 ∉ l.2
  fm : ∀ x, (x ∈ f.1 ∨ x = f.2) ↔ x ∈ W
  lm : ∀ x, (x ∈ l.2 ∨ x = l.1) ↔ x ∈ W
theorem Pt.ok {W : List Str} {f : List Str × Str} {l : Str × List Str} (h : Pt W f l) : FB.FH (f.1 ++ [f.2] ++ ([l.1] ++ l.2)) f.1 f.2 ∧ FB.FH (f.1 ++ [f.2] ++ ([l.1] ++ l.2)).reverse l.2.reverse l.1 ∧ SB f l = FB.short (f.1 ++ [f.2] ++ ([l.1] ++ l.2)) ∧ ∀ x, x ∈ f.1 ++ [f.2] ++ ([l.1] ++ l.2) ↔ x ∈ W := by
  obtain ⟨F, G, e⟩ := sb_ok h.f1 h.l1 (fun x => by rw [h.fm, h.lm])
  exact ⟨F, G, e, fun x => by rw [← F.mem x, List.mem_append, List.mem_singleton, h.fm]⟩
/-- the sorted four, whoever of them is asked -/
theorem sort_same {L M : List (List Str)} (hL : L.Nodup) (hM : M.Nodup) (h : ∀ x, x ∈ L ↔ x ∈ M) : sortLL L = sortLL M := by
  have hp : L.Perm M := (List.perm_ext_iff_of_nodup hL hM).mpr h
  refine sortLL_eq ((sortLL_perm L).trans hp) ?_
  exact (List.pairwise_mergeSort leLL_trans leLL_total L).imp fun h => leLL_iff.mp h
/-! known: what those who are deaf to one word hear -/
theorem FF_3 : ∀ n : Nat, n ≤ 3 → FF n ≤ 144 := fun n h => by
  have : ∀ n : Fin 4, FF n.val ≤ 144 := by decide +kernel
  exact this ⟨n, by omega⟩
theorem parts_le : ∀ us : List Str, us.length ≤ 6 → (PARTS us).length ≤ 64 := fun us hu => by
  have := congrArg List.length (parts_lens us)
  rw [List.length_map] at this
  have h2 : ∀ n : Fin 7, (PL n.val).length ≤ 64 := by decide +kernel
  have := h2 ⟨us.length, by omega⟩
  have : (PL us.length).length ≤ 64 := this
  omega
theorem parts_c {k : Nat} (hk : 1 ≤ k) {ws : List Str} {b : Cells} {P : D × Bool → Cells → Prop} {E : D → Cells → Prop} (hn : ws.length ≤ 6) (hQ : P (.lst ((PARTS ws).map wD), false) b) :
    Ew (callA ((semT GT k).f i_law_parts) [.lst (ws.map .str)] b) P E := by
  obtain ⟨k, rfl⟩ : ∃ j, k = j + 1 := ⟨k - 1, by omega⟩
  rw [sem_law_parts]
  refine callC rfl rfl (run_def.mpr ?_)
  show Sv (exSs _ d_law_parts.body [.val (.lst (ws.map .str)), .non, .non, .non] _) _
  unfold d_law_parts
  simp only
  have zs : sizeLine = 16777216 := rfl
  walk_at "go"
  refine for_m (ys := ws) (f := D.str) (fun j ρ c => c = b ∧ (∃ (s2 s3 : Sl), ρ = [.val (.lst (ws.map .str)), .val (.lst ((PARTS (ws.take j)).map wD)), s2, s3])) ⟨rfl, ⟨_, _, rfl⟩⟩ ?_ ?_
  · rintro j w ρ c hw ⟨rfl, ⟨s2, s3, rfl⟩⟩
    have l1 := parts_le (ws.take j) (by rw [List.length_take]; omega)
    have hsz : ∀ A ∈ PARTS (ws.take j), A.length ≤ 6 := fun A hA => by
      have := (parts_sub _ A hA).length_le
      rw [List.length_take] at this; omega
    walk_at "go"
    refine lc_p (ys := PARTS (ws.take j)) (f := wD) (β := List Str) wD (fun A => A ++ [w]) (fun _ => rfl) (by omega) (fun i A hA => ?_) ?_
    · have := hsz A (List.mem_of_getElem? hA)
      show Bx (bindT _ (.lst (A.map .str)) _) _
      walk_at "go"
      refine ⟨?_, by walk_at "q"⟩
      show D.lst _ = D.lst _
      rw [List.map_append]
    · walk_at "go"
      refine ⟨by walk_at "q", ?_⟩
      rw [take_snoc hw, parts_snoc, List.map_append]
      exact ⟨_, _, rfl⟩
  · rintro ρ c ⟨rfl, ⟨s2, s3, rfl⟩⟩
    rw [List.take_length]
    walk_at "go"
    exact hQ
local macro_rules | `(tactic| walk_at "call") => `(tactic| ((with_reducible refine G.parts_c ?_ ?_ ?_); (· omega); (· walk_at "side")))
/-! one part: its meanings by their numbers -/
theorem ev_at {A : List Str} {i : Nat} (h : i < FF A.length) : (EVL 6 (sortW A))[i]? = some (SPd 6 (sortW A) i) := by
  unfold EVL
  rw [List.getElem?_map, List.getElem?_range (by rw [sortW_len]; exact h)]; rfl
theorem ev_rng {A : List Str} : (List.range (FF A.length)).map (SPd 6 (sortW A)) = EVL 6 (sortW A) := by unfold EVL; rw [sortW_len]
theorem sp_ok {A : List Str} (hn : A.Nodup) (h6 : A.length ≤ 6) {i : Nat} (h : i < FF A.length) : (SPd 6 (sortW A) i).length ≤ 126 ∧ NB 6 (SPd 6 (sortW A) i) = i ∧ FB.card (SPd 6 (sortW A) i) ≤ 6 ∧ ∀ y, y ∈ SPd 6 (sortW A) i ↔ y ∈ A := by
  obtain ⟨s1, s2, s3⟩ := sorted_ok hn h6
  obtain ⟨a1, a2, a3⟩ := SPd_ok 6 (sortW A) i s1 s2 (by omega) (by rw [s3]; exact h)
  have hm : ∀ y, y ∈ SPd 6 (sortW A) i ↔ y ∈ A := fun y => (a1 y).trans (sortW_perm A).mem_iff
  exact ⟨SPd_len s1 s2 (by omega) (by omega) (by rw [s3]; exact h), a3, Nat.le_trans (FB.card_le fun x hx => (hm x).mp hx) h6, hm⟩
theorem part_right_c {k : Nat} (hk : 13 ≤ k) {A : List Str} (hn : A.Nodup) (h3 : A.length ≤ 3) (hW : ∀ x ∈ A, IsW x) {b : Cells} {P : D × Bool → Cells → Prop} {E : D → Cells → Prop} (hQ : P (.bl true, false) b) :
    Ew (callA ((semT GT k).f i_law_part_right) [.lst (A.map .str)] b) P E := by
  obtain ⟨k, rfl⟩ : ∃ j, k = j + 1 := ⟨k - 1, by omega⟩
  have hF := FF_3 A.length h3
  have hJl : (EVL 6 (sortW A)).length = FF A.length := by rw [evl_len, sortW_len]
  rw [sem_law_part_right]
  refine callC rfl rfl (run_def.mpr ?_)
  show Sv (exSs _ d_law_part_right.body [.val (.lst (A.map .str)), .non, .non, .non, .non] _) _
  unfold d_law_part_right
  simp only
  have zs : sizeLine = 16777216 := rfl
  walk_at "go"
  refine every_c 6 (by omega) hn (by omega) h3 fun fr => ?_
  walk_at "go"
  rw [hJl]
  walk_at "go"
  refine lc_rp (β := List Str) wD (SPd 6 (sortW A)) (fun _ => rfl) (by omega) (fun i hi => ?_) ?_
  · walk_at "go"
    try exact ⟨rfl, trivial⟩
  · rw [ev_rng]
    have pJ : Pl 3 ((404 * 126 + 3 + 2) * 144 + 3) (.lst ((EVL 6 (sortW A)).map wD)) := Pl.lst (k := 2) (n := 404 * 126 + 3) (m := 144) (fun y hy => by
      obtain ⟨u, hu, rfl⟩ := List.mem_map.mp hy
      obtain ⟨i, hi, e⟩ := List.mem_iff_getElem.mp hu
      have h := List.getElem?_eq_getElem hi
      rw [ev_at (by omega), e] at h
      obtain ⟨l1, l2, l3, l4⟩ := sp_ok hn (by omega) (show i < FF A.length by omega)
      rw [Option.some.inj h] at l1 l4
      exact Pl.strs (fun x hx => hW x ((l4 x).mp hx)) l1) (by rw [List.length_map]; omega)
    walk_at "go"
    refine alike_law_c (by omega) pJ rfl (by decide) (by decide) ?_
    walk_at "go"
    refine lc_p (ys := EVL 6 (sortW A)) (f := wD) (β := Int) D.int (fun u => ((NB 6 u : Nat) : Int)) (fun _ => rfl) (by omega) (fun i u hu => ?_) ?_
    · have hi : i < FF A.length := by have := (List.getElem?_eq_some_iff.mp hu).1; omega
      rw [ev_at hi] at hu
      obtain ⟨l1, l2, l3, l4⟩ := sp_ok hn (by omega) hi
      rw [Option.some.inj hu] at l1 l3
      show Bx (bindT _ (.lst (u.map .str)) _) _
      walk_at "go"
      try exact ⟨rfl, trivial⟩
    · walk_at "go"
      have eN : ((EVL 6 (sortW A)).map fun u => ((NB 6 u : Nat) : Int)).map D.int = (List.range (EVL 6 (sortW A)).length).map fun i => D.int (i : Nat) := by
        rw [hJl, ← ev_rng, List.map_map, List.map_map]
        refine List.map_congr_left fun i hi => ?_
        rw [List.mem_range] at hi
        show D.int ((NB 6 (SPd 6 (sortW A) i) : Nat) : Int) = _
        rw [(sp_ok hn (by omega) hi).2.1]
      rw [eN, hJl]
      have pN : Pl 2 ((1921 + 2) * 144 + 3) (.lst ((List.range (FF A.length)).map fun i => D.int (i : Nat))) := Pl.lst (k := 1) (n := 1921) (m := 144) (fun y hy => by
        obtain ⟨i, hi, rfl⟩ := List.mem_map.mp hy
        rw [List.mem_range] at hi
        exact Pl.nat (by omega)) (by rw [List.length_map, List.length_range]; omega)
      refine Bx.intro true (pN.eq (by decide)) ?_
      walk_at "go"
      exact hQ
local macro_rules | `(tactic| walk_at "call") => `(tactic| ((with_reducible refine G.part_right_c ?_ ?_ ?_ ?_ ?_); (· omega); (· with_reducible assumption); (· omega); (· with_reducible assumption)))
theorem sum_le {m : Nat} : ∀ {l : List (List Str)} {f : List Str → Nat}, (∀ x ∈ l, f x ≤ m) → (l.map f).sum ≤ l.length * m
  | [], _, _ => by simp
  | x :: l, f, h => by
    rw [List.map_cons, List.sum_cons, List.length_cons, Nat.succ_mul]
    have := sum_le fun y hy => h y (List.mem_cons_of_mem _ hy)
    have := h x List.mem_cons_self
    omega
def CANs (L : List (List Str)) : List (List Str) := L.flatMap fun A => EVL 6 (sortW A)
theorem law_ok {k : Nat} (hk : 20 ≤ k) {ns : List Int} : ∃ fr c, runD (semT GT k) d_law_k44 [.scr ns] [] = some (.ok (.bl true, fr), c) := by
  refine law_of ?_
  rw [run_def]
  show Sv (exSs _ d_law_k44.body [.val (.scr ns), .non, .non, .non, .non, .non, .non, .non] _) _
  unfold d_law_k44
  simp only
  have zs : sizeLine = 16777216 := rfl
  walk_at "go"
  refine bag_c (by omega) fun xs hb => ?_
  walk_at "go"
  rename_i ws b1 hl hl6 hwd hnd hb1
  have hpl := parts_le ws (by omega)
  walk_at "go"
  refine for_m (ys := PARTS ws) (f := wD) (fun i ρ c => c = [some b1] ∧ (∃ (s4 s5 s6 s7 : Sl), ρ = [.val (.scr ns), .val (.cell 0), .val (.lst (ws.map .str)), .val (.lst ((CANs ((PARTS ws).take i)).map wD)), s4, s5, s6, s7])) ⟨rfl, ⟨_, _, _, _, rfl⟩⟩ ?_ ?_
  · rintro i A ρ c hA ⟨rfl, ⟨s4, s5, s6, s7, rfl⟩⟩
    obtain ⟨a1, a2, a3⟩ := part_ok hnd (by omega) (List.mem_of_getElem? hA)
    have al : A.length ≤ 3 := Nat.le_trans (parts_sub ws A (List.mem_of_getElem? hA)).length_le (by omega)
    have aW : ∀ x ∈ A, IsW x := fun x hx => Wd.w (hwd x (a3 x hx))
    have cl : (CANs ((PARTS ws).take i)).length ≤ 64 * 144 := by
      unfold CANs
      rw [List.length_flatMap]
      refine Nat.le_trans (sum_le (m := 144) fun A hA => ?_) (Nat.mul_le_mul_right _ (Nat.le_trans (List.length_take_le' _ _) hpl))
      have h := parts_sub ws A (List.mem_of_mem_take hA)
      rw [evl_len, sortW_len]
      exact FF_3 _ (Nat.le_trans h.length_le (by omega))
    have jl : (EVL 6 (sortW A)).length ≤ 144 := by rw [evl_len, sortW_len]; exact FF_3 _ al
    show Bx (bindT _ (.lst (A.map .str)) _) _
    walk_at "go"
    refine every_c 6 (by omega) a1 (by omega) al fun fr => ?_
    walk_at "go"
    have e : CANs ((PARTS ws).take i) ++ EVL 6 (sortW A) = CANs ((PARTS ws).take (i + 1)) := by
      rw [take_snoc hA]
      unfold CANs
      rw [List.flatMap_append]; simp
    rw [e]
    exact ⟨by walk_at "q", ⟨_, _, _, _, rfl⟩⟩
  · rintro ρ c ⟨rfl, ⟨s4, s5, s6, s7, rfl⟩⟩
    have eC : CANs ((PARTS ws).take (PARTS ws).length) = CAN ws := by
      rw [List.take_length]
      unfold CANs CAN
      exact flat_congr fun A _ => (evl_just A).symm
    rw [eC]
    have cl : (CAN ws).length = AM ws.length := (can_len hnd (by omega)).trans (AM_eq ⟨ws.length, by omega⟩)
    have ab : AM ws.length ≤ 600 := by
      have : ∀ n : Fin 4, AM n.val ≤ 600 := by decide +kernel
      exact this ⟨ws.length, by omega⟩
    walk_at "go"
    refine met_c (by omega) hnd (by omega) fun L fr hL hm => ?_
    walk_at "go"
    rw [sort_same (can_nodup hnd (by omega)) hL fun x => (can_ok hnd (by omega)).trans (hm x).symm]
    walk_at "go"
    refine for_r (fun i ρ c => ∃ (b : D), Bag b ∧ c = [some b] ∧ (∃ (s3 s4 s5 s6 s7 : Sl), ρ = [.val (.scr ns), .val (.cell 0), .val (.lst (ws.map .str)), s3, s4, s5, s6, s7])) ⟨_, hb1, rfl, ⟨_, _, _, _, _, rfl⟩⟩ ?_ ?_
    · rintro i ρ c hi ⟨b, hb, rfl, ⟨s3, s4, s5, s6, s7, rfl⟩⟩
      walk_at "go"
      rename_i sp b2 hsl hsm hb2
      have cs : FB.card sp ≤ 3 := Nat.le_trans (FB.card_le hsm) (by omega)
      have fl : (FB.firsts sp).length ≤ 3 := cs
      have f1 : (sortW (FB.firsts sp)).length = FB.card sp := sortW_len
      have f2 : (sortW (FB.firsts sp)).Nodup := (sortW_perm _).nodup_iff.mpr (FB.firsts_nodup sp)
      have eS : SW sp = sortW (sortW (FB.firsts sp)) := sw_sort (sortW_pw _) ((sortW_perm _).nodup_iff.mpr f2) fun x => by rw [(sortW_perm _).mem_iff, (sortW_perm _).mem_iff, FB.mem_firsts]
      have hlt : NB 6 sp < FF (sortW (FB.firsts sp)).length := by rw [f1]; exact NB_lt 6 sp (by omega)
      have hat := ev_at hlt
      rw [← eS, SPd_NB 6 sp (by omega)] at hat
      walk_at "go"
      refine every_c 6 (by omega) f2 (by omega) (by omega) fun fr2 => ?_
      rw [← eS]
      walk_at "go"
      refine Bx.intro (D.lst ((FB.short sp).map .str)) (by rw [Eng.atI_nat, List.getElem?_map, hat]; rfl) ?_
      walk_at "go"
      exact ⟨b2, hb2, by walk_at "q", ⟨_, _, _, _, _, rfl⟩⟩
    · rintro ρ c ⟨b, hb, rfl, ⟨s3, s4, s5, s6, s7, rfl⟩⟩
      walk_at "go"
theorem the_law : ∀ ns : List Int, ns.length ≤ 63 → ∃ fr c, runD (semT GT 20) d_law_k44 [.scr ns] [] = some (.ok (.bl true, fr), c) := fun ns _ => law_ok (by decide)

end G
open PySem PySem.W PyProof.Rows
set_option maxHeartbeats 0 in
theorem PySem.Challenge.cw_twicesaid_k44_whole_all_of_three_words_holds : PySem.Challenge.rw_twicesaid_k44_whole_all_of_three_words.Holds := by
  w_on; o_law; k_head; (case hw => w_witness2)
  k_fill
  refine Eng.walkG (l := PySem.Challenge.rw_twicesaid_k44_whole_all_of_three_words) (n := 63) (k := 20) (x := "_law_script") (ds := G.GT) (d0 := G.d_law_k44) rfl (by decide) rfl ⟨rfl, by decide, by decide⟩ (fun w h Y => PySem.W.kIn_of Y) (by simp [G.GT]) rfl rfl ?hz ?hgl ?hx ?hd G.the_law
  case hz =>
    intro w
    refine' Eng.hz_cons ?z0 (Eng.hz_cons ?z1 (Eng.hz_cons ?z2 (Eng.hz_cons ?z3 (Eng.hz_cons ?z4 (Eng.hz_cons ?z5 (Eng.hz_cons ?z6 (Eng.hz_cons ?z7 (Eng.hz_cons ?z8 (Eng.hz_cons ?z9 (Eng.hz_cons ?z10 (Eng.hz_cons ?z11 (Eng.hz_cons ?z12 (Eng.hz_cons ?z13 (Eng.hz_cons ?z14 (Eng.hz_cons ?z15 (Eng.hz_cons ?z16 (Eng.hz_cons ?z17 (Eng.hz_cons ?z18 (Eng.hz_cons ?z19 (Eng.hz_cons ?z20 (Eng.hz_cons ?z21 (Eng.hz_cons ?z22 (Eng.hz_nil)))))))))))))))))))))))
    (case z0 => k_is)
    (case z1 => k_is)
    (case z2 => k_is)
    (case z3 => k_is)
    (case z4 => k_is)
    (case z5 => k_is)
    (case z6 => k_is)
    (case z7 => k_is)
    (case z8 => k_is)
    (case z9 => k_is)
    (case z10 => k_is)
    (case z11 => k_is)
    (case z12 => k_is)
    (case z13 => k_is)
    (case z14 => k_is)
    (case z15 => k_is)
    (case z16 => k_is)
    (case z17 => k_is)
    (case z18 => k_is)
    (case z19 => k_is)
    (case z20 => k_is)
    (case z21 => k_is)
    (case z22 => k_is)
  case hgl =>
    intro w
    refine' Eng.gl_nil
  case hx =>
    intro w
    refine' G.xok ⟨?n1, ?e1, ?t1, ?h1⟩ ⟨?n9, ?e9, ?t9, ?h9⟩ ⟨?n10, ?e10, ?t10, ?h10⟩ ?ve ?s9_0 ?s9_1 ?s9_9 ?s9_10 ?s10_0 ?s10_1 ?s10_9 ?s10_10 ?x9 ?i9 ?x10 ?i10
    (case n1 => k_is); (case e1 => k_is); (case t1 => k_is); (case h1 => k_is); (case n9 => k_is); (case e9 => k_is); (case t9 => k_is); (case h9 => k_is); (case n10 => k_is); (case e10 => k_is); (case t10 => k_is); (case h10 => k_is); (case ve => k_is); (case s9_0 => k_is); (case s9_1 => k_is); (case s9_9 => k_is); (case s9_10 => k_is); (case s10_0 => k_is); (case s10_1 => k_is); (case s10_9 => k_is); (case s10_10 => k_is)
    (case x9 => (refine' Eng.xcC_of (x := "NoWords") ⟨?n, ?e, ?t, ?h⟩ ?xl ?vb ?sa ?kc ?ga ?gg ?ha ?hn ?ht ?hm; (case n => k_is); (case e => k_is); (case t => k_is); (case h => k_is); (case xl => k_is); (case vb => decide +kernel); (case sa => k_is); (case kc => k_is); (case ga => k_is); (case gg => k_is); (case ha => k_is); (case hn => k_is); (case ht => k_is); (case hm => k_is)))
    (case x10 => (refine' Eng.xcC_of (x := "NoNumber") ⟨?n, ?e, ?t, ?h⟩ ?xl ?vb ?sa ?kc ?ga ?gg ?ha ?hn ?ht ?hm; (case n => k_is); (case e => k_is); (case t => k_is); (case h => k_is); (case xl => k_is); (case vb => decide +kernel); (case sa => k_is); (case kc => k_is); (case ga => k_is); (case gg => k_is); (case ha => k_is); (case hn => k_is); (case ht => k_is); (case hm => k_is)))
    (case i9 => (refine' Eng.xcI_of0 (Eng.xcS_of ⟨?n1, ?e1, ?t1, ?h1⟩ ?rd ?fi ?gs) ⟨?n, ?e, ?t, ?h⟩ (Eng.xcC_of (x := "NoWords") ⟨?n2, ?e2, ?t2, ?h2⟩ ?xl ?vb ?sa ?kc ?ga ?gg ?ha ?hn ?ht ?hm) ?ic ?ti ?lk ?cd G.okx_NoWords; (case n1 => k_is); (case e1 => k_is); (case t1 => k_is); (case h1 => k_is); (case rd => k_is); (case fi => k_is); (case gs => k_is); (case n => k_is); (case e => k_is); (case t => k_is); (case h => k_is); (case n2 => k_is); (case e2 => k_is); (case t2 => k_is); (case h2 => k_is); (case xl => k_is); (case vb => decide +kernel); (case sa => k_is); (case kc => k_is); (case ga => k_is); (case gg => k_is); (case ha => k_is); (case hn => k_is); (case ht => k_is); (case hm => k_is); (case ic => k_is); (case ti => k_is); (case lk => k_is); (case cd => k_is)))
    (case i10 => (refine' Eng.xcI_of (Eng.xcS_of ⟨?n1, ?e1, ?t1, ?h1⟩ ?rd ?fi ?gs) ⟨?n, ?e, ?t, ?h⟩ (Eng.xcC_of (x := "NoNumber") ⟨?n2, ?e2, ?t2, ?h2⟩ ?xl ?vb ?sa ?kc ?ga ?gg ?ha ?hn ?ht ?hm) ?no ?ic ?ti ?lk ?cd G.okx_NoNumber; (case n1 => k_is); (case e1 => k_is); (case t1 => k_is); (case h1 => k_is); (case rd => k_is); (case fi => k_is); (case gs => k_is); (case n => k_is); (case e => k_is); (case t => k_is); (case h => k_is); (case n2 => k_is); (case e2 => k_is); (case t2 => k_is); (case h2 => k_is); (case xl => k_is); (case vb => decide +kernel); (case sa => k_is); (case kc => k_is); (case ga => k_is); (case gg => k_is); (case ha => k_is); (case hn => k_is); (case ht => k_is); (case hm => k_is); (case no => k_is); (case ic => k_is); (case ti => k_is); (case lk => k_is); (case cd => k_is)))
  case hd =>
    intro w
    refine' Eng.hd_cons (Eng.def_in ?a0 ?l0 ?c0 ?k0) G.ok_law_bag (Eng.hd_cons (Eng.def_in ?a1 ?l1 ?c1 ?k1) G.ok_law_laid (Eng.hd_cons (Eng.def_in ?a2 ?l2 ?c2 ?k2) G.ok_law_every (Eng.hd_cons (Eng.def_in ?a3 ?l3 ?c3 ?k3) G.ok_law_firsts (Eng.hd_cons (Eng.def_in ?a4 ?l4 ?c4 ?k4) G.ok_law_lasts (Eng.hd_cons (Eng.def_in ?a5 ?l5 ?c5 ?k5) G.ok_law_halves (Eng.hd_cons (Eng.def_in ?a6 ?l6 ?c6 ?k6) G.ok_law_short (Eng.hd_cons (Eng.def_in ?a7 ?l7 ?c7 ?k7) G.ok_law_met (Eng.hd_cons (Eng.def_in ?a8 ?l8 ?c8 ?k8) G.ok_law_alike (Eng.hd_cons (Eng.def_in ?a9 ?l9 ?c9 ?k9) G.ok_said_all (Eng.hd_cons (Eng.def_in ?a10 ?l10 ?c10 ?k10) G.ok_meanings (Eng.hd_cons (Eng.def_in ?a11 ?l11 ?c11 ?k11) G.ok_by_first (Eng.hd_cons (Eng.def_in ?a12 ?l12 ?c12 ?k12) G.ok_first_half (Eng.hd_cons (Eng.def_in ?a13 ?l13 ?c13 ?k13) G.ok_turned (Eng.hd_cons (Eng.def_in ?a14 ?l14 ?c14 ?k14) G.ok_last_half (Eng.hd_cons (Eng.def_in ?a15 ?l15 ?c15 ?k15) G.ok_words_of (Eng.hd_cons (Eng.def_in ?a16 ?l16 ?c16 ?k16) G.ok_number_of (Eng.hd_cons (Eng.def_in ?a17 ?l17 ?c17 ?k17) G.ok_laid (Eng.hd_cons (Eng.def_in ?a18 ?l18 ?c18 ?k18) G.ok_others (Eng.hd_cons (Eng.def_in ?a19 ?l19 ?c19 ?k19) G.ok_speech_of (Eng.hd_cons (Eng.def_in ?a20 ?l20 ?c20 ?k20) G.ok_law_part_right (Eng.hd_cons (Eng.def_in ?a21 ?l21 ?c21 ?k21) G.ok_law_parts (Eng.hd_cons (Eng.def_in ?a22 ?l22 ?c22 ?k22) G.ok_law_take (Eng.hd_cons (Eng.def_in ?a23 ?l23 ?c23 ?k23) G.ok_law_speech_2 (Eng.hd_cons (Eng.def_in ?a24 ?l24 ?c24 ?k24) G.ok_law_tongue (Eng.hd_cons (Eng.def_in ?a25 ?l25 ?c25 ?k25) G.ok_law_words (Eng.hd_cons (Eng.def_in ?a26 ?l26 ?c26 ?k26) G.ok_parts_many (Eng.hd_cons (Eng.def_in ?a27 ?l27 ?c27 ?k27) G.ok_all_meanings (Eng.hd_cons (Eng.def_in ?a28 ?l28 ?c28 ?k28) G.ok_law_k44 (Eng.hd_nil)))))))))))))))))))))))))))))
    (case a0 => k_is); (case l0 => k_is); (case c0 => k_is); (case k0 => k_is)
    (case a1 => k_is); (case l1 => k_is); (case c1 => k_is); (case k1 => k_is)
    (case a2 => k_is); (case l2 => k_is); (case c2 => k_is); (case k2 => k_is)
    (case a3 => k_is); (case l3 => k_is); (case c3 => k_is); (case k3 => k_is)
    (case a4 => k_is); (case l4 => k_is); (case c4 => k_is); (case k4 => k_is)
    (case a5 => k_is); (case l5 => k_is); (case c5 => k_is); (case k5 => k_is)
    (case a6 => k_is); (case l6 => k_is); (case c6 => k_is); (case k6 => k_is)
    (case a7 => k_is); (case l7 => k_is); (case c7 => k_is); (case k7 => k_is)
    (case a8 => k_is); (case l8 => k_is); (case c8 => k_is); (case k8 => k_is)
    (case a9 => k_is); (case l9 => k_is); (case c9 => k_is); (case k9 => k_is)
    (case a10 => k_is); (case l10 => k_is); (case c10 => k_is); (case k10 => k_is)
    (case a11 => k_is); (case l11 => k_is); (case c11 => k_is); (case k11 => k_is)
    (case a12 => k_is); (case l12 => k_is); (case c12 => k_is); (case k12 => k_is)
    (case a13 => k_is); (case l13 => k_is); (case c13 => k_is); (case k13 => k_is)
    (case a14 => k_is); (case l14 => k_is); (case c14 => k_is); (case k14 => k_is)
    (case a15 => k_is); (case l15 => k_is); (case c15 => k_is); (case k15 => k_is)
    (case a16 => k_is); (case l16 => k_is); (case c16 => k_is); (case k16 => k_is)
    (case a17 => k_is); (case l17 => k_is); (case c17 => k_is); (case k17 => k_is)
    (case a18 => k_is); (case l18 => k_is); (case c18 => k_is); (case k18 => k_is)
    (case a19 => k_is); (case l19 => k_is); (case c19 => k_is); (case k19 => k_is)
    (case a20 => k_is); (case l20 => k_is); (case c20 => k_is); (case k20 => k_is)
    (case a21 => k_is); (case l21 => k_is); (case c21 => k_is); (case k21 => k_is)
    (case a22 => k_is); (case l22 => k_is); (case c22 => k_is); (case k22 => k_is)
    (case a23 => k_is); (case l23 => k_is); (case c23 => k_is); (case k23 => k_is)
    (case a24 => k_is); (case l24 => k_is); (case c24 => k_is); (case k24 => k_is)
    (case a25 => k_is); (case l25 => k_is); (case c25 => k_is); (case k25 => k_is)
    (case a26 => k_is); (case l26 => k_is); (case c26 => k_is); (case k26 => k_is)
    (case a27 => k_is); (case l27 => k_is); (case c27 => k_is); (case k27 => k_is)
    (case a28 => k_is); (case l28 => k_is); (case c28 => k_is); (case k28 => k_is)
