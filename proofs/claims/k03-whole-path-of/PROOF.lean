import PyProof.Rows.All
import Wide.All
import OpenK.AllK
import Wide.FinOn
import HandS.ForMost
import HandS.ForExc
import HandS.Walk
import HandS.Evl
import HandS.SetTxt0
import HandS.SetFor
import HandS.TupSets
import HandS.ExcCtx
import HandS.HotCalls
import HandS.ExcIs
import HandS.Iter
import KE.KDictKeyed
import KE.KDictDisplayH
import HandS.IsInst
import HandS.Wide
import HandS.TupAny
import HandS.TupMul
import HandS.DeepEq
import HandS.Zip
import HandS.ListItems
import HandS.TupLe
import HandS.DictComp
import KE.DataMinMax
import KE.SortData
import KE.SortKeyHeap
import HandS.SortKw
import PyProof.ListStr
import HandS.More
import HandS.Style
import HandS.SortInts
import HandS.Deep
import KE.GoesMore
import PyProof.EnumMake
import HandS.Conv
import HandS.Strs
import HandS.Flow
import HandS.SetKeys
import KE.KDictPairs
import KE.KDictZip
import KE.KDictList
import KE.KDictCopyH
import KE.KExcIs
import KE.DataFind
import HandS.Text
import KE.RegKIsAll
import KE.RegKTryMore
import HandS.WordsDict
import PySem.Challenge.RW_pathroutes_k03_whole_path_of
set_option Elab.async false
set_option linter.all false
set_option maxRecDepth 100000
set_option maxHeartbeats 4000000
/-! FX: sets made of a list of texts, on the heap -/
namespace FX
open PySem PySem.Spec PyProof.Rows L2

abbrev emptyO (w : World) : Obj := { cls := .type "set", dict := none, data := .set #[] 0 (.fresh 0 0 (!w.params.followText "set-order")) }
structure Tx (P : Program) (w : World) (D : Froz.SD) (l : List Str) : Prop where
  ok : Froz.TxOk P w D l
  nd : l.Nodup
  ris : Ris D.2.2.place.toList
  led : w.params.followText "set-order" = true ∨ D.2.2.led = true
def addNew (l : List Str) (k : Str) : List Str := if k ∈ l then l else k :: l
/-- the set at a -/
def TxAt (P : Program) (w : World) (h : Heap) (a : Addr) (l : List Str) : Prop := ∃ D, h.get? a = some (Froz.sObj "set" D) ∧ Tx P w D l
section
variable {P : Program} {w : World} {A : Around} {E : Value → Shared → Prop} {s : Shared}
theorem Tx.zero : Tx P w (#[], 0, .fresh 0 0 (!w.params.followText "set-order")) [] where
  ok := Froz.TxOk.nil rfl
  nd := List.nodup_nil
  ris := List.Pairwise.nil
  led := by
    cases q : w.params.followText "set-order" with
    | true => exact .inl rfl
    | false => exact .inr rfl
theorem Tx.more {D : Froz.SD} {l : List Str} (T : Tx P w D l) {k : Str} (u : Tok) (hk : k ∉ l) : Tx P w (Froz.addTx (hashStr w k) (.str k u) D) (k :: l) := by
  have r1 := layNew_ris D.2.2 D.1 (hashStr w k) (.str k u) T.ris
  have l1 := layNew_led D.2.2 D.1 (hashStr w k) (.str k u)
  have two : Ris (Froz.addTx (hashStr w k) (.str k u) D).2.2.place.toList ∧ (Froz.addTx (hashStr w k) (.str k u) D).2.2.led = D.2.2.led := by
    unfold Froz.addTx Froz.tailTx
    generalize layNew D.2.2 D.1 (hashStr w k) (.str k u) = Z at r1 l1
    obtain ⟨es1, t1, d1, g1⟩ := Z
    dsimp only at r1 l1 ⊢
    have r2 : Ris (if t1.plain = true then { t1 with plain := false } else t1).place.toList := by split <;> exact r1
    have l2 : (if t1.plain = true then { t1 with plain := false } else t1).led = D.2.2.led := by split <;> exact l1
    generalize (if t1.plain = true then { t1 with plain := false } else t1) = t2 at r2 l2 ⊢
    by_cases c : (!d1 && t2.tooFull) = true
    · rw [if_pos c]
      exact ⟨relayAll_ris _ _ _, (relayAll_led _ _ _).trans l2⟩
    · rw [if_neg c]
      exact ⟨r2, l2⟩
  exact ⟨Froz.add_ok u T.ok, List.nodup_cons.mpr ⟨hk, T.nd⟩, two.1, T.led.imp id fun z => two.2.trans z⟩
theorem same_x {a : Addr} {D : Froz.SD} {l : List Str} {k : Str} {u : Tok} {Q : Bool → Shared → Prop} (ho : s.heap.get? a = some (Froz.sObj "set" D)) (F : Froz.TxOk P w D l) (hk : k ∈ l) (hb : l.length < scanBound)
    (h : Q false s) : wpAny (model P w) A (setAddHashed a (.str k u) (hashStr w k)) Q E s := by
  obtain ⟨es, ep, t⟩ := D
  have hq : (Froz.sObj "set" (es, ep, t)).data = .set es ep t := rfl
  have hf : t.fits es.size = true := F.fit
  have hel : ElemsOf (PySem.strKind P w) es.toList := F.el
  have hz : es.size = l.length := F.sz
  obtain ⟨e0, he0, ek0⟩ := (F.mem k).mp hk
  have he0 : e0 ∈ es.toList := he0
  unfold setAddHashed setAddHashedIn
  refine wpAny_holding (wpAny_bind (wpAny_setState_of ho hq hf ?_))
  dsimp only
  rw [byScan_of rfl (by rw [hz]; exact hb) hel]
  simp only [↓reduceIte]
  unfold setAddByScan
  refine wpAny_bind ?_
  refine wpAny_bind (wpAny_rule ?_)
  refine wpAny_bind (wpAny_setScan_of (knd := PySem.strKind P w) (k := k) (Froz.is_str k u) ho hq hf hel ?_)
  cases hi : List.findIdx? (fun e => (PySem.strKind P w).is k e.2) es.toList with
  | none =>
    have c := List.findIdx?_eq_none_iff.mp hi e0 he0
    rw [ek0] at c
    cases c
  | some j =>
    dsimp only
    exact wpAny_pure (wpAny_pure h)
theorem tx_add {a : Addr} {l : List Str} {k : Str} {u : Tok} {Q : Bool → Shared → Prop} (T : TxAt P w s.heap a l) (hb : l.length + 1 < scanBound)
    (h : ∀ b h', Heap.SameBut a s.heap h' → TxAt P w h' a (addNew l k) → Q b { s with heap := h' }) : wpAny (model P w) A (setAddHashed a (.str k u) (hashStr w k)) Q E s := by
  obtain ⟨D, ho, T⟩ := T
  by_cases hk : k ∈ l
  · refine same_x ho T.ok hk (Nat.lt_of_succ_lt hb) ?_
    exact h false s.heap (Heap.SameBut.refl a _) ⟨D, ho, by unfold addNew; rw [if_pos hk]; exact T⟩
  · refine Froz.add_x ho T.ok hk hb ?_
    refine h true _ (Heap.SameBut.update s.heap a _) ⟨_, Froz.get_upd _ ho rfl, ?_⟩
    unfold addNew
    rw [if_neg hk]
    exact T.more u hk
theorem addNew_le (l : List Str) (k : Str) : (addNew l k).length ≤ l.length + 1 := by
  unfold addNew; split
  · exact Nat.le_succ _
  · exact Nat.le_refl _
theorem got_le (xs : List Str) : ∀ l : List Str, (xs.foldl addNew l).length ≤ l.length + xs.length := by
  induction xs with
  | nil => exact fun l => Nat.le_refl _
  | cons x r ih => intro l; have a := ih (addNew l x); have b := addNew_le l x; simp only [List.foldl_cons, List.length_cons]; omega
/-- the loop of set.update over texts -/
theorem tx_loop {I : Addr} {fp wr : List Addr} {G : Array GenState → Array GenState → Prop} {n : Nat} {Pv : Nat → Value → Prop} {St : Nat → Shared → Prop} {R : Result → Shared → Prop} (W : WalksS P w A.in1 I fp wr G n Pv St) (S : Addr) (hSf : S ∉ fp) (xs : List Str) (hn : n = xs.length)
    (hval : ∀ i v, Pv i v → ∃ x u, xs[i]? = some x ∧ v = .str x u) (hfew : n + 1 < scanBound) :
    ∀ (k i : Nat) (s : Shared), n - i = k → i ≤ n → St i s → TxAt P w s.heap S ((xs.take i).foldl addNew []) →
      (∀ s', Moved (S :: wr) G s s' → TxAt P w s'.heap S (xs.foldl addNew []) → R (.ok (.ret .none)) s') → codeAny (model P w) A (.builtin "set.update.loop" ⟨[.ref S, .ref I], []⟩) R s := by
  have away : S ∉ wr := fun h => hSf (W.sub _ h)
  have up : ∀ b ∈ wr, b ∈ S :: wr := fun b hb => List.mem_cons_of_mem _ hb
  intro k
  induction k with
  | zero =>
    intro i s hk hi st T hR
    obtain rfl : i = n := by omega
    refine codeAny_builtin F.entry_set_update_loop ?_
    rw [Around.under_plainId F.plain_set_update_loop _]
    show wpAny _ A.in1 (pyNext (.ref I) >>= _) _ _ s
    refine wpAny_bind (W.done s _ _ st fun s1 mv => ?_)
    show wpAny _ A.in1 (ret Value.none) _ _ s1
    obtain ⟨D, ho, T⟩ := T
    rw [hn, List.take_length] at T
    exact wpAny_pure (hR s1 (mv.mono up) ⟨D, mv.heap S _ away ho, T⟩)
  | succ k ih =>
    intro i s hk hi st T hR
    have lt : i < n := by omega
    refine codeAny_builtin F.entry_set_update_loop ?_
    rw [Around.under_plainId F.plain_set_update_loop _]
    show wpAny _ A.in1 (pyNext (.ref I) >>= _) _ _ s
    refine wpAny_bind (W.item i s _ _ lt st fun v s1 pv st1 mv => ?_)
    obtain ⟨x, u, hx, rfl⟩ := hval i v pv
    have T1 : TxAt P w s1.heap S ((xs.take i).foldl addNew []) := by
      obtain ⟨D, ho, T⟩ := T
      exact ⟨D, mv.heap S _ away ho, T⟩
    show wpAny _ A.in1 (holding [Value.str x u] (setAdd S (.str x u)) >>= _) _ _ s1
    refine wpAny_bind (wpAny_holding ?_)
    unfold setAdd
    refine wpAny_holding (wpAny_bind ((PySem.strKind P w).pyHash (k := x) (Froz.is_str x u) ?_))
    have few : ((xs.take i).foldl addNew []).length + 1 < scanBound := by
      have a := got_le (xs.take i) []
      rw [List.length_take, List.length_nil] at a
      omega
    refine tx_add (s := { s1 with toks := s1.toks + 1 }) T1 few fun b h1 sb T2 => ?_
    have T3 : TxAt P w h1 S ((xs.take (i + 1)).foldl addNew []) := by
      rw [List.take_succ, hx]
      show TxAt P w h1 S ((xs.take i ++ [x]).foldl addNew [])
      rw [List.foldl_append]
      exact T2
    refine wpAny_pure ⟨plainId_quiet F.plain_set_update_loop _, ih (i + 1) _ (by omega) lt (W.frame _ s1 _ _ st1 (Nat.le_succ _) fun b hb o e => ?_) T3 fun s2 mv2 T4 => ?_⟩
    · exact (sb.2 b (fun z : b = S => hSf (by rw [← z]; exact hb))).trans e
    · exact hR s2 (Moved.trans W.gtrans ((mv.mono up).then_heap (Nat.le_succ _) fun b o hb e => (sb.2 b (fun z : b = S => hb (by rw [z]; exact List.mem_cons_self))).trans e) mv2) T4
set_option maxHeartbeats 3200000 in
/-- set(xs), xs a list of texts -/
theorem call_setTx {l : Addr} {items : Array Value} (xs : List Str) {Q : Value → Shared → Prop} (hh : A.handled = none) (hl : s.heap.IsList l items) (hlen : items.size = xs.length) (hit : ∀ (i : Nat) (v : Value), items[i]? = some v → ∃ x u, xs[i]? = some x ∧ v = .str x u) (hfew : xs.length + 1 < scanBound)
    (h : ∀ (h' : Heap) (tk : Nat), TxAt P w h' s.heap.objs.size (xs.foldl addNew []) → (∀ b o, s.heap.get? b = some o → h'.get? b = some o) → Q (.ref s.heap.objs.size) { s with heap := h', toks := tk }) :
    wpAny (model P w) A (call (.type "set") [.ref l]) Q E s := by
  obtain ⟨c, tl, mro⟩ := F.called_set.mro
  have made := F.called_set.made
  have su := F.called_set.sub
  refine wpAny_call (codeAny_of_tree ?_)
  show wpAny _ _ (callAny (.type "set") _) _ _ _
  refine wpAny_pure ⟨Code.quiet_builtin _ (by decide +kernel), codeAny_builtin F.entry_type_call ?_⟩
  rw [Around.under_plain (weight_type_call_type "set" [.ref l] []) rfl]
  have q1 := F.called_set.notType
  have q2 := F.called_set.canCreate
  have q3 := PySem.F.typeCall_set_1 (.ref l)
  repeat (any_goals (first | assumption | wp_step))
  refine codeAny_mono (code_set_led1 (.ref l) (E := E) (Q₁ := fun v t => v = .ref s.heap.objs.size ∧ t = { s with heap := s.heap.push (emptyO w) }) ⟨rfl, rfl⟩) fun r t hr => ?_
  cases r with
  | error e => exact hr
  | ok fl =>
    cases fl with
    | ret obj =>
      obtain ⟨rfl, rfl⟩ := hr
      have at0 : (s.heap.push (emptyO w)).get? s.heap.objs.size = some (emptyO w) := Heap.get?_push_size _ rfl
      have ty0 : Shared.TypeIs { s with heap := s.heap.push (emptyO w) } (.ref s.heap.objs.size) "set" := ⟨_, at0, rfl⟩
      have q4 := F.called_set.init.lookup
      have q5 := F.called_set.init.bind (.ref s.heap.objs.size)
      repeat (any_goals (first | assumption | wp_step))
      refine codeAny_mono (codeAny_call_builtin (R := wants (fun v t => v = .none ∧ ∃ h' tk, t = { s with heap := h', toks := tk } ∧ TxAt P w h' s.heap.objs.size (xs.foldl addNew []) ∧ ∀ b o, s.heap.get? b = some o → h'.get? b = some o) E) F.called_set.init.plain F.entry_set_init (check_set_init_1 ty0 ?_)) fun r2 t2 hr2 => ?_
      · obtain ⟨ol, hol, hcl, nl, hdl⟩ := hl
        obtain ⟨ocls, odict, odata, oslots⟩ := ol
        simp only at hcl hdl
        subst hcl; subst hdl
        have q6 := PySem.F.sub_list_set
        have q7 := PySem.F.sub_list_frozenset
        have q8 : (Value.type "list" == Value.type "dict") = false := by decide
        have at1 : (s.heap.push (emptyO w)).get? l = some { cls := .type "list", dict := odict, data := .seq items nl, slots := oslots } := Heap.get?_push_of_some _ hol
        have li1 : (s.heap.push (emptyO w)).IsList l items := ⟨_, at1, rfl, nl, rfl⟩
        unfold Builtin.«set.__init__» noKeywords Builtin.Frozenset.updateFrom
        generalize hPI : pyIter = PI
        wp_walk
        subst hPI
        refine wpAny_pyIter_list li1 ?_
        refine wpAny_bind (wpAny_runValue ?_)
        have lt0 : l < s.heap.objs.size := Heap.lt_size hol
        have sz1 : (s.heap.push (emptyO w)).objs.size = s.heap.objs.size + 1 := Heap.size_push ..
        have ne1 : l ≠ (s.heap.push (emptyO w)).objs.size := by rw [sz1]; exact Nat.ne_of_lt (Nat.lt_succ_of_lt lt0)
        have no0 : ∀ b, s.heap.objs.size ≤ b → s.heap.get? b = none := fun b hb => by
          cases q : s.heap.get? b with
          | none => rfl
          | some o => exact absurd (Nat.lt_of_lt_of_le (Heap.lt_size q) hb) (Nat.lt_irrefl _)
        have hSf : s.heap.objs.size ∉ [(s.heap.push (emptyO w)).objs.size, l] := by
          rw [sz1]; intro z
          rcases List.mem_cons.mp z with z | z
          · exact absurd z (Nat.ne_of_lt (Nat.lt_succ_self _))
          · exact absurd (List.mem_singleton.mp z) (Nat.ne_of_gt lt0)
        refine tx_loop ((Walks.list (by simp [hh]) _ l ne1 items).toS) s.heap.objs.size hSf xs hlen hit (by omega) (items.size - 0) 0 _ (by omega) (Nat.zero_le _) ⟨⟨_, Heap.get?_push_size _ rfl, rfl, rfl⟩, (li1.push _)⟩ ?start ?fin
        case start => exact ⟨(#[], 0, .fresh 0 0 (!w.params.followText "set-order")), Heap.get?_push_of_some _ at0, Tx.zero⟩
        case fin =>
          intro s1 mv T
          obtain ⟨h1, g1, d1, k1, o1⟩ := s1
          have e1 : g1 = s.gens := mv.gens
          have e2 : d1 = s.drawn := mv.drawn
          have e3 : o1 = s.os := mv.os
          subst e1; subst e2; subst e3
          show wpAny _ _ _ _ _ _
          refine wpAny_pure ?_
          show wpAny _ _ (ret Value.none) _ _ _
          refine wpAny_pure ⟨rfl, h1, k1, rfl, T, fun b o e => mv.heap b o (fun z => ?_) (Heap.get?_push_of_some _ (Heap.get?_push_of_some _ e))⟩
          have hb := Heap.lt_size e
          rcases List.mem_cons.mp z with z | z
          · exact absurd z (Nat.ne_of_lt hb)
          · rw [sz1] at z
            exact absurd (List.mem_singleton.mp z) (Nat.ne_of_lt (Nat.lt_succ_of_lt hb))
      · cases r2 with
        | error e => exact hr2
        | ok fl2 =>
          cases fl2 with
          | ret v =>
            obtain ⟨rfl, h1, k1, rfl, T, kp⟩ := hr2
            repeat (any_goals (first | assumption | wp_step))
            exact h _ _ T kp
          | _ => exact hr2.elim
    | _ => exact hr.elim
end
end FX

/-! FX: a functional layer over HandS. Data by value (D), a def as a Lean function of data; lists and dicts that a def fills stand in its own slots. -/
namespace FX
open PySem L2

/-! ### data -/
inductive D where
  | non
  | bl (b : Bool)
  | int (i : Int)
  | str (x : Str)
  | tup (l : List D)
  | lst (l : List D)
  | dic (l : List (D × D))
  | obj (c : Str) (l : List (Str × D))
  | cell (n : Nat)
  | scr (l : List Int)
  | kdc (l : List (D × D))
  | ldc (l : List (D × D))
  | raw (a : Addr)

/-- what can be changed: a list, a dict, an instance -/
inductive Ob where
  | lst (l : List D)
  | dic (l : List (D × D))
  | ins (c : Str) (l : List (Str × D))
  | kd (l : List (D × D))
  | ld (l : List (D × D))

/-- a slot: a value that stays, or a thing of this def alone -/
inductive Sl where
  | val (d : D)
  | own (o : Ob)

structure S where
  e : List (Option Sl)
  g : List Ob

inductive R (α : Type) where
  | ok (a : α) (s : S)
  | ex (c : Str) (s : S)
  | no

abbrev M (α : Type) := S → R α

inductive Out where
  | nx | rt (d : D) | bk | ct

@[reducible] def mpure {α : Type} (a : α) : M α := fun s => .ok a s
@[reducible] def mno {α : Type} : M α := fun _ => .no
def mbind {α β : Type} (m : M α) (f : α → M β) : M β := fun s => match m s with
  | .ok a s' => f a s'
  | .ex c s' => .ex c s'
  | .no => .no
def mopt {α : Type} : Option α → M α
  | some a => mpure a
  | none => mno

/-! ### how data lie in the heap -/
structure Sb where
  K : PySem.W.Frag
  mg : Str → Option Value
  P : Program
  w : World

def kD : Key → D
  | .inl i => .int i
  | .inr x => .str x

mutual
/-- a key of texts, numbers, None and tuples of such -/
def nk : D → Option NestedKey
  | .non => some .none
  | .int i => some (.num i)
  | .str x => some (.text x)
  | .tup l => (nks l).map .tup
  | _ => none
def nks : List D → Option (List NestedKey)
  | [] => some []
  | d :: r => match nk d, nks r with
    | some q, some l => some (q :: l)
    | _, _ => none
end
/-- .. of a tuple, not too deep -/
def nk8 (d : D) : Option NestedKey := match d with
  | .tup l => (nk (.tup l)).bind fun q => if q.depth ≤ 8 then some q else none
  | _ => none
/-- the dict at d, its keys tuples that stand elsewhere -/
def ND0 (P : Program) (w : World) (d : Addr) (xs : List (NestedKey × Addr × V)) : Heap → Prop := fun h => ∃ o es ep ys, h.get? d = some o ∧ o.ExactDict ∧ o.data = .dict es ep ∧
  Paired (fun (x : NestedKey × Addr × V) (y : NestedKey × Addr × Value) => x.1 = y.1 ∧ x.2.1 = y.2.1 ∧ RelV x.2.2 y.2.2) xs ys ∧ es.toList = ys.map (entryOfKey (nestedKind P w)) ∧ (ys.map (·.1)).Nodup ∧ (d == sysModules) = false
/-- keys carried by value: None, numbers, texts -/
def lfD : Leaf → D
  | .none => .non
  | .num i => .int i
  | .text x => .str x
/-- the dict at d, its keys carried by value -/
def LD0 (P : Program) (w : World) (d : Addr) (xs : List (Leaf × V)) : Heap → Prop := fun h => (d == sysModules) = false ∧ ∃ ys : List (Leaf × Value),
  Paired (fun (x : Leaf × V) (y : Leaf × Value) => x.1 = y.1 ∧ RelV x.2 y.2) xs ys ∧ h.DictOf (leafKind P w) d ys
mutual
inductive Rep (B : Sb) (F : Hp) (k : List Addr) : V → D → Prop
  | non : Rep B F k .non .non
  | bl (b : Bool) : Rep B F k (.bl b) (.bl b)
  | int (i : Int) : Rep B F k (.int i) (.int i)
  | str (x : Str) : Rep B F k (.str x) (.str x)
  | tup {a : Addr} {xs : List V} {ds : List D} : SqT B.K F a xs → RepL B F k xs ds → Rep B F k (.ref a) (.tup ds)
  | lst {a : Addr} {xs : List V} {ds : List D} : F a = some (.lst xs) → RepL B F k xs ds → Rep B F k (.ref a) (.lst ds)
  | dic {a : Addr} {ob : Obj} {xs : List (Key × V)} {ds : List (D × D)} : F a = some (.frz ob (.dK xs)) → RepK B F k xs ds → Rep B F k (.ref a) (.dic ds)
  | obj {a C dx : Addr} {c : Str} {xs : List (Str × V)} {ds : List (Str × D)} : B.mg c = some (.ref C) → F a = some (.ins C dx xs) → RepF B F k xs ds → Rep B F k (.ref a) (.obj c ds)
  | cell {a : Addr} {n : Nat} : k[n]? = some a → Rep B F k (.ref a) (.cell n)
  | scr {a : Addr} {l : List Int} : SqL B.K F a (l.map V.int) → Rep B F k (.ref a) (.scr l)
  | kdc {a : Addr} {ob : Obj} {xs : List (NestedKey × Addr × V)} {ds : List (D × D)} : F a = some (.frz ob (.ext (ND0 B.P B.w a xs))) → RepN B F k xs ds → Rep B F k (.ref a) (.kdc ds)
  | ldc {a : Addr} {ob : Obj} {xs : List (Leaf × V)} {ds : List (D × D)} : F a = some (.frz ob (.ext (LD0 B.P B.w a xs))) → RepE B F k xs ds → Rep B F k (.ref a) (.ldc ds)
  | raw {a : Addr} : Rep B F k (.ref a) (.raw a)
inductive RepL (B : Sb) (F : Hp) (k : List Addr) : List V → List D → Prop
  | nil : RepL B F k [] []
  | cons {v : V} {d : D} {vs : List V} {ds : List D} : Rep B F k v d → RepL B F k vs ds → RepL B F k (v :: vs) (d :: ds)
inductive RepK (B : Sb) (F : Hp) (k : List Addr) : List (Key × V) → List (D × D) → Prop
  | nil : RepK B F k [] []
  | cons {q : Key} {v : V} {d : D} {vs : List (Key × V)} {ds : List (D × D)} : Rep B F k v d → RepK B F k vs ds → RepK B F k ((q, v) :: vs) ((kD q, d) :: ds)
inductive RepF (B : Sb) (F : Hp) (k : List Addr) : List (Str × V) → List (Str × D) → Prop
  | nil : RepF B F k [] []
  | cons {q : Str} {v : V} {d : D} {vs : List (Str × V)} {ds : List (Str × D)} : Rep B F k v d → RepF B F k vs ds → RepF B F k ((q, v) :: vs) ((q, d) :: ds)
inductive RepN (B : Sb) (F : Hp) (k : List Addr) : List (NestedKey × Addr × V) → List (D × D) → Prop
  | nil : RepN B F k [] []
  | cons {q : NestedKey} {a : Addr} {v : V} {e d : D} {vs : List (NestedKey × Addr × V)} {ds : List (D × D)} : nk8 e = some q → Rep B F k (.ref a) e → Rep B F k v d → RepN B F k vs ds → RepN B F k ((q, a, v) :: vs) ((e, d) :: ds)
inductive RepE (B : Sb) (F : Hp) (k : List Addr) : List (Leaf × V) → List (D × D) → Prop
  | nil : RepE B F k [] []
  | cons {q : Leaf} {v : V} {d : D} {vs : List (Leaf × V)} {ds : List (D × D)} : Rep B F k v d → RepE B F k vs ds → RepE B F k ((q, v) :: vs) ((lfD q, d) :: ds)
end

abbrev Ex := Evl.Ex
/-- the cells grow -/
abbrev Pre (k k' : List Addr) : Prop := k <+: k'
theorem Pre.get {k k' : List Addr} (h : Pre k k') {n : Nat} {a : Addr} (e : k[n]? = some a) : k'[n]? = some a := by
  obtain ⟨t, rfl⟩ := h
  have hn : n < k.length := (List.getElem?_eq_some_iff.mp e).1
  rw [List.getElem?_append_left hn]
  exact e

section
variable {B : Sb} {F F' : Hp} {k k' : List Addr}
mutual
theorem Rep.mono (e : Ex F F') (p : Pre k k') : ∀ {v : V} {d : D}, Rep B F k v d → Rep B F' k' v d
  | _, _, .non => .non
  | _, _, .bl b => .bl b
  | _, _, .int i => .int i
  | _, _, .str x => .str x
  | _, _, .tup h r => .tup (Evl.ex_t e h) (RepL.mono e p r)
  | _, _, .lst h r => .lst (e _ _ h) (RepL.mono e p r)
  | _, _, .dic h r => .dic (e _ _ h) (RepK.mono e p r)
  | _, _, .obj m h r => .obj m (e _ _ h) (RepF.mono e p r)
  | _, _, .cell h => .cell (p.get h)
  | _, _, .scr h => .scr (Evl.ex_l e h)
  | _, _, .kdc h r => .kdc (e _ _ h) (RepN.mono e p r)
  | _, _, .ldc h r => .ldc (e _ _ h) (RepE.mono e p r)
  | _, _, .raw => .raw
theorem RepL.mono (e : Ex F F') (p : Pre k k') : ∀ {v : List V} {d : List D}, RepL B F k v d → RepL B F' k' v d
  | _, _, .nil => .nil
  | _, _, .cons h r => .cons (Rep.mono e p h) (RepL.mono e p r)
theorem RepK.mono (e : Ex F F') (p : Pre k k') : ∀ {v : List (Key × V)} {d : List (D × D)}, RepK B F k v d → RepK B F' k' v d
  | _, _, .nil => .nil
  | _, _, .cons h r => .cons (Rep.mono e p h) (RepK.mono e p r)
theorem RepF.mono (e : Ex F F') (p : Pre k k') : ∀ {v : List (Str × V)} {d : List (Str × D)}, RepF B F k v d → RepF B F' k' v d
  | _, _, .nil => .nil
  | _, _, .cons h r => .cons (Rep.mono e p h) (RepF.mono e p r)
theorem RepN.mono (e : Ex F F') (p : Pre k k') : ∀ {v : List (NestedKey × Addr × V)} {d : List (D × D)}, RepN B F k v d → RepN B F' k' v d
  | _, _, .nil => .nil
  | _, _, .cons n h1 h2 r => .cons n (Rep.mono e p h1) (Rep.mono e p h2) (RepN.mono e p r)
theorem RepE.mono (e : Ex F F') (p : Pre k k') : ∀ {v : List (Leaf × V)} {d : List (D × D)}, RepE B F k v d → RepE B F' k' v d
  | _, _, .nil => .nil
  | _, _, .cons h r => .cons (Rep.mono e p h) (RepE.mono e p r)
end
end

theorem RepL.length {B : Sb} {F : Hp} {k : List Addr} : ∀ {v : List V} {d : List D}, RepL B F k v d → v.length = d.length
  | _, _, .nil => rfl
  | _, _, .cons _ r => by rw [List.length_cons, List.length_cons, r.length]
theorem RepL.get {B : Sb} {F : Hp} {k : List Addr} : ∀ {v : List V} {d : List D} {i : Nat} {x : V}, RepL B F k v d → v[i]? = some x → ∃ y, d[i]? = some y ∧ Rep B F k x y
  | _, _, _, _, .nil, e => by simp at e
  | _, _, 0, _, .cons h _, e => by simp at e; subst e; exact ⟨_, rfl, h⟩
  | _, _, i + 1, _, .cons _ r, e => by
    obtain ⟨y, h1, h2⟩ := r.get (i := i) (by simpa using e)
    exact ⟨y, by simpa using h1, h2⟩
theorem RepL.getD {B : Sb} {F : Hp} {k : List Addr} : ∀ {v : List V} {d : List D} {i : Nat} {y : D}, RepL B F k v d → d[i]? = some y → ∃ x, v[i]? = some x ∧ Rep B F k x y
  | _, _, _, _, .nil, e => by simp at e
  | _, _, 0, _, .cons h _, e => by simp at e; subst e; exact ⟨_, rfl, h⟩
  | _, _, i + 1, _, .cons _ r, e => by
    obtain ⟨y, h1, h2⟩ := r.getD (i := i) (by simpa using e)
    exact ⟨y, by simpa using h1, h2⟩
theorem RepL.append {B : Sb} {F : Hp} {k : List Addr} : ∀ {v v' : List V} {d d' : List D}, RepL B F k v d → RepL B F k v' d' → RepL B F k (v ++ v') (d ++ d')
  | _, _, _, _, .nil, h => h
  | _, _, _, _, .cons a r, h => .cons a (r.append h)
theorem RepL.take {B : Sb} {F : Hp} {k : List Addr} : ∀ {v : List V} {d : List D} (n : Nat), RepL B F k v d → RepL B F k (v.take n) (d.take n)
  | _, _, 0, _ => .nil
  | _, _, _ + 1, .nil => .nil
  | _, _, n + 1, .cons a r => .cons a (r.take n)
theorem RepL.drop {B : Sb} {F : Hp} {k : List Addr} : ∀ {v : List V} {d : List D} (n : Nat), RepL B F k v d → RepL B F k (v.drop n) (d.drop n)
  | _, _, 0, h => h
  | _, _, _ + 1, .nil => .nil
  | _, _, n + 1, .cons _ r => r.drop n

/-! ### the state of a def -/
/-- a thing that is changed, as it lies now -/
def ObAt (B : Sb) (F : Hp) (k : List Addr) (H : Hp) (a : Addr) : Ob → Prop
  | .lst ds => ∃ xs, H a = some (.lst xs) ∧ RepL B F k xs ds
  | .dic ds => ∃ xs, H a = some (.dK xs) ∧ RepK B F k xs ds
  | .ins c ds => ∃ C dx xs, B.mg c = some (.ref C) ∧ H a = some (.ins C dx xs) ∧ RepF B F k xs ds
  | .kd ds => ∃ xs, H a = some (.ext (ND0 B.P B.w a xs)) ∧ RepN B F k xs ds
  | .ld ds => ∃ xs, H a = some (.ext (LD0 B.P B.w a xs)) ∧ RepE B F k xs ds
theorem ObAt.has {B : Sb} {F : Hp} {k : List Addr} {H : Hp} {a : Addr} {o : Ob} (h : ObAt B F k H a o) : ∃ u, H a = some u := by
  cases o with
  | lst l => obtain ⟨_, e, _⟩ := h; exact ⟨_, e⟩
  | dic l => obtain ⟨_, e, _⟩ := h; exact ⟨_, e⟩
  | ins c l => obtain ⟨_, _, _, _, e, _⟩ := h; exact ⟨_, e⟩
  | kd l => obtain ⟨_, e, _⟩ := h; exact ⟨_, e⟩
  | ld l => obtain ⟨_, e, _⟩ := h; exact ⟨_, e⟩
theorem ObAt.mono {B : Sb} {F F' : Hp} {k k' : List Addr} {H H' : Hp} {a : Addr} {o : Ob} (e : Ex F F') (p : Pre k k') (hh : ∀ u, H a = some u → H' a = some u) (h : ObAt B F k H a o) : ObAt B F' k' H' a o := by
  cases o with
  | lst l => obtain ⟨x, q, r⟩ := h; exact ⟨x, hh _ q, r.mono e p⟩
  | dic l => obtain ⟨x, q, r⟩ := h; exact ⟨x, hh _ q, r.mono e p⟩
  | ins c l => obtain ⟨C, dx, x, m, q, r⟩ := h; exact ⟨C, dx, x, m, hh _ q, r.mono e p⟩
  | kd l => obtain ⟨x, q, r⟩ := h; exact ⟨x, hh _ q, r.mono e p⟩
  | ld l => obtain ⟨x, q, r⟩ := h; exact ⟨x, hh _ q, r.mono e p⟩

/-- Hb, Fb, kb: the heap, the part that stays, the cells, at the entry; F: the part of H that stays; k, g: the cells and what they hold -/
structure Bs (B : Sb) (Hb Fb : Hp) (kb k : List Addr) (F : Hp) (g : List Ob) (H : Hp) : Prop where
  sub : Ex F H
  keep : ∀ a o, Hb a = some o → a ∉ kb → H a = some o
  frz : ∀ a o, F a = some o → Fb a = some o ∨ Hb a = none
  fb : Ex Fb F
  pre : Pre kb k
  nd : k.Nodup
  new : ∀ a ∈ k, a ∈ kb ∨ Hb a = none
  vol : ∀ a ∈ k, F a = none
  len : k.length = g.length
  cel : ∀ (n : Nat) a o, k[n]? = some a → g[n]? = some o → ObAt B F k H a o

structure Ok (B : Sb) (Hb Fb : Hp) (kb k : List Addr) (F : Hp) (s : S) (σ : St) (H : Hp) : Prop where
  bs : Bs B Hb Fb kb k F s.g H
  val : ∀ (i : Nat) d, s.e[i]? = some (some (.val d)) → ∃ v, σ[i]? = some (some v) ∧ Rep B F k v d
  own : ∀ (i : Nat) o, s.e[i]? = some (some (.own o)) → ∃ a, σ[i]? = some (some (.ref a)) ∧ F a = none ∧ a ∉ k ∧ Hb a = none ∧ ObAt B F k H a o
  sep : ∀ (i j : Nat) o o' a, i ≠ j → s.e[i]? = some (some (.own o)) → s.e[j]? = some (some (.own o')) → σ[i]? = some (some (.ref a)) → σ[j]? = some (some (.ref a)) → False
  elen : s.e.length = σ.length

section
variable {B : Sb} {Hb Fb : Hp} {kb k k' : List Addr} {F F' : Hp} {g g' : List Ob} {s s' : S} {σ : St} {H H' : Hp}
theorem Bs.there (h : Bs B Hb Fb kb k F g H) {a : Addr} (ha : a ∈ k) : ∃ u, H a = some u := by
  obtain ⟨n, hn, e⟩ := List.getElem_of_mem ha
  have e1 : k[n]? = some a := by rw [List.getElem?_eq_getElem hn, e]
  have hg : n < g.length := by rw [← h.len]; exact hn
  exact (h.cel n a _ e1 (List.getElem?_eq_getElem hg)).has
theorem Bs.fresh (h : Bs B Hb Fb kb k F g H) {a : Addr} (e : H a = none) : Hb a = none := by
  cases q : Hb a with
  | none => rfl
  | some o =>
    by_cases hm : a ∈ kb
    · obtain ⟨u, hu⟩ := h.there (h.pre.subset hm)
      rw [hu] at e; cases e
    · rw [h.keep a o q hm] at e; cases e
theorem Bs.freshF (h : Bs B Hb Fb kb k F g H) {a : Addr} (e : H a = none) : F a = none := by
  cases q : F a with
  | none => rfl
  | some o => rw [h.sub a o q] at e; cases e
theorem Bs.freshk (h : Bs B Hb Fb kb k F g H) {a : Addr} (e : H a = none) : a ∉ k := fun z => by
  obtain ⟨u, hu⟩ := h.there z
  rw [hu] at e; cases e

/-- new things are laid, that stay -/
structure Grow (F H F' H' : Hp) : Prop where
  ff : Ex F F'
  hh : Ex H H'
  sub : Ex F' H'
  new : ∀ a o, F' a = some o → F a = some o ∨ H a = none
theorem Grow.refl (h : Ex F H) : Grow F H F H := ⟨Evl.Ex.refl _, Evl.Ex.refl _, h, fun _ _ e => .inl e⟩
theorem Grow.one {p : Addr} {o : HO} (h : Ex F H) (n : H p = none) : Grow F H (upd F p o) (upd H p o) := by
  have nF : F p = none := by
    cases q : F p with
    | none => rfl
    | some u => rw [h p u q] at n; cases n
  refine ⟨Evl.Ex.new nF, Evl.Ex.new n, fun a u e => ?_, fun a u e => ?_⟩
  · by_cases ha : a = p
    · subst ha; rw [upd_same] at e ⊢; exact e
    · rw [upd_ne ha] at e ⊢; exact h a u e
  · by_cases ha : a = p
    · subst ha; exact .inr n
    · rw [upd_ne ha] at e; exact .inl e
theorem Grow.trans {F2 H2 : Hp} (a : Grow F H F' H') (b : Grow F' H' F2 H2) : Grow F H F2 H2 :=
  ⟨a.ff.trans b.ff, a.hh.trans b.hh, b.sub, fun x o e => (b.new x o e).elim (fun z => a.new x o z) fun z => .inr (Evl.fresh_back a.hh z)⟩
/-- garbage is laid -/
theorem Grow.junk {p : Addr} {o : HO} (h : Ex F H) (n : H p = none) : Grow F H F (upd H p o) :=
  ⟨Evl.Ex.refl _, Evl.Ex.new n, h.trans (Evl.Ex.new n), fun _ _ e => .inl e⟩

theorem Bs.grow (h : Bs B Hb Fb kb k F g H) (w : Grow F H F' H') : Bs B Hb Fb kb k F' g H' where
  sub := w.sub
  keep := fun a o e n => w.hh a o (h.keep a o e n)
  frz := fun a o e => (w.new a o e).elim (h.frz a o) fun z => .inr (h.fresh z)
  fb := h.fb.trans w.ff
  pre := h.pre
  nd := h.nd
  new := h.new
  vol := fun a ha => by
    cases q : F' a with
    | none => rfl
    | some o =>
      rcases w.new a o q with z | z
      · rw [h.vol a ha] at z; cases z
      · obtain ⟨u, hu⟩ := h.there ha
        rw [hu] at z; cases z
  len := h.len
  cel := fun n a o e1 e2 => (h.cel n a o e1 e2).mono w.ff (List.prefix_refl k) fun u e => w.hh a u e
theorem Ok.grow (h : Ok B Hb Fb kb k F s σ H) (w : Grow F H F' H') : Ok B Hb Fb kb k F' s σ H' where
  bs := h.bs.grow w
  val := fun i d e => by
    obtain ⟨v, e1, r⟩ := h.val i d e
    exact ⟨v, e1, r.mono w.ff (List.prefix_refl k)⟩
  own := fun i o e => by
    obtain ⟨a, e1, n, nk, nb, q⟩ := h.own i o e
    refine ⟨a, e1, ?_, nk, nb, q.mono w.ff (List.prefix_refl k) fun u e => w.hh a u e⟩
    cases z : F' a with
    | none => rfl
    | some o' =>
      rcases w.new a o' z with y | y
      · rw [n] at y; cases y
      · obtain ⟨u, hu⟩ := q.has
        rw [hu] at y; cases y
  sep := h.sep
  elen := h.elen
/-- behind a call -/
theorem Ok.evo (h : Ok B Hb Fb kb k F s σ H) (w : Bs B H F k k' F' g' H') : Ok B Hb Fb kb k' F' ⟨s.e, g'⟩ σ H' where
  bs := {
    sub := w.sub
    keep := fun a o e n => w.keep a o (h.bs.keep a o e n) fun z => (h.bs.new a z).elim n fun y => by rw [y] at e; cases e
    frz := fun a o e => (w.frz a o e).elim (h.bs.frz a o) fun z => .inr (h.bs.fresh z)
    fb := h.bs.fb.trans w.fb
    pre := h.bs.pre.trans w.pre
    nd := w.nd
    new := fun a ha => (w.new a ha).elim (h.bs.new a) fun z => .inr (h.bs.fresh z)
    vol := w.vol
    len := w.len
    cel := w.cel }
  val := fun i d e => by
    obtain ⟨v, e1, r⟩ := h.val i d e
    exact ⟨v, e1, r.mono w.fb w.pre⟩
  own := fun i o e => by
    obtain ⟨a, e1, n, nk, nb, q⟩ := h.own i o e
    obtain ⟨u, hu⟩ := q.has
    refine ⟨a, e1, ?_, fun z => ?_, nb, q.mono w.fb w.pre fun u e => w.keep a u e nk⟩
    · cases z : F' a with
      | none => rfl
      | some o' =>
        rcases w.frz a o' z with y | y
        · rw [n] at y; cases y
        · rw [hu] at y; cases y
    · rcases w.new a z with y | y
      · exact nk y
      · rw [hu] at y; cases y
  sep := h.sep
  elen := h.elen
theorem Bs.start (h : Bs B Hb Fb kb k F g H) : Bs B H F k k F g H where
  sub := h.sub
  keep := fun _ _ e _ => e
  frz := fun _ _ e => .inl e
  fb := Evl.Ex.refl _
  pre := List.prefix_refl _
  nd := h.nd
  new := fun _ ha => .inl ha
  vol := h.vol
  len := h.len
  cel := h.cel

/-! ### what is wanted behind a run -/
def Fin {α : Type} (B : Sb) (Hb Fb : Hp) (kb k : List Addr) (F : Hp) (σ : St) (W : WX) (r : R α) (P : α → S → Hp → List Addr → Hp → Prop) : Prop := match r with
  | .ok a s' => ∀ H' F' k', Ex F F' → Pre k k' → Ok B Hb Fb kb k' F' s' σ H' → P a s' F' k' H'
  | .ex c s' => ∀ C H' F' k', B.mg c = some C → Ok B Hb Fb kb k' F' s' σ H' → W C none σ H'
  | .no => False
theorem Fin.imp {α : Type} {W : WX} {r : R α} {P P' : α → S → Hp → List Addr → Hp → Prop} (h : Fin B Hb Fb kb k F σ W r P) (i : ∀ a s' F' k' H', Ex F F' → Pre k k' → Ok B Hb Fb kb k' F' s' σ H' → P a s' F' k' H' → P' a s' F' k' H') : Fin B Hb Fb kb k F σ W r P' := by
  cases r with
  | ok a s' => exact fun H' F' k' e p o => i a s' F' k' H' e p o (h H' F' k' e p o)
  | ex c s' => exact h
  | no => exact h
theorem Fin.bind {α β : Type} {W : WX} {m : M α} {f : α → M β} {P : β → S → Hp → List Addr → Hp → Prop} (h : Fin B Hb Fb kb k F σ W (mbind m f s) P) : Fin B Hb Fb kb k F σ W (m s) fun a s' F' k' _ => Fin B Hb Fb kb k' F' σ W (f a s') P := by
  unfold mbind at h
  cases e : m s with
  | ok a s' =>
    rw [e] at h
    intro H' F' k' e1 p1 _
    show Fin B Hb Fb kb k' F' σ W (f a s') P
    have h : Fin B Hb Fb kb k F σ W (f a s') P := h
    cases q : f a s' with
    | ok b s2 =>
      rw [q] at h
      exact fun H2 F2 k2 e2 p2 o => h H2 F2 k2 (e1.trans e2) (p1.trans p2) o
    | ex c s2 => rw [q] at h; exact h
    | no => rw [q] at h; exact h
  | ex c s' => rw [e] at h; exact h
  | no => rw [e] at h; exact h
end

def tE (B : Sb) (W : WX) (m : M D) : TE := fun σ H Q => ∃ Hb Fb kb k F s, Ok B Hb Fb kb k F s σ H ∧ Fin B Hb Fb kb k F σ W (m s) fun d _ F' k' H' => ∀ v, Rep B F' k' v d → Q v H'
def tT (B : Sb) (W : WX) (m : M Bool) : TT := fun σ H Q => ∃ Hb Fb kb k F s, Ok B Hb Fb kb k F s σ H ∧ Fin B Hb Fb kb k F σ W (m s) fun b _ _ _ H' => Q b H'
def tA (B : Sb) (W : WX) (m : M (List D)) : TA := fun σ H Q => ∃ Hb Fb kb k F s, Ok B Hb Fb kb k F s σ H ∧ Fin B Hb Fb kb k F σ W (m s) fun ds _ F' k' H' => ∀ vs, RepL B F' k' vs ds → Q vs H'

abbrev sbOf (X : Cx) : Sb := ⟨X.K, X.mg, X.prog, X.w⟩
abbrev SE (X : Cx) (W : WX) (e : Expr) (m : M D) : Prop := PE X e (tE (sbOf X) W m)
abbrev ST (X : Cx) (W : WX) (e : Expr) (m : M Bool) : Prop := PT X e (tT (sbOf X) W m)
abbrev SA (X : Cx) (W : WX) (es : List Expr) (m : M (List D)) : Prop := PA X es (tA (sbOf X) W m)

theorem PE_imp {X : Cx} {e : Expr} {t t' : TE} (h : PE X e t) (i : ∀ σ H Q, t' σ H Q → t σ H Q) : PE X e t' := ⟨fun pins s σ H Q I q => h.run pins s σ H Q I (i σ H Q q)⟩
theorem PT_imp {X : Cx} {e : Expr} {t t' : TT} (h : PT X e t) (i : ∀ σ H Q, t' σ H Q → t σ H Q) : PT X e t' := ⟨fun pins s σ H Q I q => h.run pins s σ H Q I (i σ H Q q)⟩
theorem PA_imp {X : Cx} {e : List Expr} {t t' : TA} (h : PA X e t) (i : ∀ σ H Q, t' σ H Q → t σ H Q) : PA X e t' := ⟨fun pos pins s σ H Q I q => h.run pos pins s σ H Q I (i σ H Q q)⟩

/-! ### names, constants, operators -/
def mVar (i : Nat) : M D := fun s => match s.e[i]? with
  | some (some (.val d)) => .ok d s
  | _ => .no
def mC (d : D) : M D := fun s => .ok d s

section
variable {X : Cx} {W : WX} {pos : Pos}
theorem se_var {i : Nat} {x : Str} (hN : X.N[i]? = some x := by rfl) (hv : Vis X.env.scope x := by first | exact Or.inl rfl | exact Or.inr (Or.inl rfl) | exact Or.inr (Or.inr rfl)) (hd : (x == ("__debug__" : Str)) = false := by decide)
    (hcd : (x == ("__classdict__" : Str)) = false := by decide) : SE X W (.Name x pos) (mVar i) := PE_imp (pe_var hN hv hd hcd) fun σ H Q ⟨Hb, Fb, kb, k, F, s, ok, h⟩ => by
  unfold mVar at h
  cases e : s.e[i]? with
  | none => rw [e] at h; exact h.elim
  | some z =>
    cases z with
    | none => rw [e] at h; exact h.elim
    | some y =>
      cases y with
      | own o => rw [e] at h; exact h.elim
      | val d =>
        rw [e] at h
        obtain ⟨v, e1, r⟩ := ok.val i d e
        exact ⟨v, e1, h H F k (Evl.Ex.refl _) (List.prefix_refl _) ok v r⟩
/-- a constant, by its rule -/
theorem se_const {e : Expr} {v : V} {d : D} (h : PE X e (tC v)) (r : ∀ F k, Rep (sbOf X) F k v d) : SE X W e (mC d) := PE_imp h fun σ H Q ⟨Hb, Fb, kb, k, F, s, ok, h⟩ => h H F k (Evl.Ex.refl _) (List.prefix_refl _) ok v (r F k)
theorem se_int {i j} : SE X W (.Constant (.int i) j pos) (mC (.int i)) := se_const pe_int fun _ _ => .int i
theorem se_bl {b j} : SE X W (.Constant (.bool b) j pos) (mC (.bl b)) := se_const pe_bl fun _ _ => .bl b
theorem se_non {j} : SE X W (.Constant .none j pos) (mC .non) := se_const pe_non fun _ _ => .non
theorem se_str {x j} : SE X W (.Constant (.str x) j pos) (mC (.str x)) := se_const pe_str fun _ _ => .str x

def m2 (f : D → D → Option D) (ma mb : M D) : M D := mbind ma fun x => mbind mb fun y => mopt (f x y)
/-- what an operation's reading does to data -/
def OpD (B : Sb) (r : R2) (f : D → D → Option D) : Prop :=
  ∀ (F : Hp) (k : List Addr) (H : Hp) (x y : V) (dx dy z : D) (Q : VK), Ex F H → Rep B F k x dx → Rep B F k y dy → f dx dy = some z → (∀ v F' H', Grow F H F' H' → Rep B F' k v z → Q v H') → r x y H Q
theorem t2_imp {B : Sb} {r : R2} {f : D → D → Option D} (hf : OpD B r f) {ma mb : M D} (σ : St) (H : Hp) (Q : VK) : tE B W (m2 f ma mb) σ H Q → tOp r (tE B W ma) (tE B W mb) σ H Q := fun ⟨Hb, Fb, kb, k, F, s, ok, h⟩ =>
  ⟨Hb, Fb, kb, k, F, s, ok, h.bind.imp fun dx s1 F1 k1 H1 e1 p1 ok1 h1 v rv => ⟨Hb, Fb, kb, k1, F1, s1, ok1, h1.bind.imp fun dy s2 F2 k2 H2 e2 p2 ok2 h2 u ru => by
    cases q : f dx dy with
    | none => rw [q] at h2; exact h2.elim
    | some z =>
      rw [q] at h2
      exact hf F2 k2 H2 v u dx dy z Q ok2.bs.sub (rv.mono e2 p2) ru q fun w F3 H3 gr rw' => h2 H3 F3 k2 gr.ff (List.prefix_refl _) (ok2.grow gr) w rw'⟩⟩
variable {a b : Expr} {ma mb : M D}
theorem se_op {op : Operator} {r : R2} {f : D → D → Option D} (ho : OpR X (binaryOp op) r) (hf : OpD (sbOf X) r f) (ha : SE X W a ma) (hb : SE X W b mb) : SE X W (.BinOp a op b pos) (m2 f ma mb) := PE_imp (pe_op ho ha hb) (t2_imp hf)
theorem se_cmp {op : CmpOp} {r : R2} {f : D → D → Option D} (ho : OpR X (compareOp op) r) (hf : OpD (sbOf X) r f) (ha : SE X W a ma) (hb : SE X W b mb) (hm : behindInMarks op b = false) : SE X W (.Compare a [op] [b] pos) (m2 f ma mb) := PE_imp (pe_cmpR ho ha hb hm) (t2_imp hf)
theorem se_ix {r : R2} {f : D → D → Option D} (ho : IxR X r) (hf : OpD (sbOf X) r f) (ha : SE X W a ma) (hb : SE X W b mb) (hs : PlainIx b) : SE X W (.Subscript a b pos) (m2 f ma mb) := PE_imp (pe_ix ho ha hb hs) (t2_imp hf)

def m1 (f : D → Option D) (ma : M D) : M D := mbind ma fun x => mopt (f x)
def UnD (B : Sb) (r : V → Hp → VK → Prop) (f : D → Option D) : Prop :=
  ∀ (F : Hp) (k : List Addr) (H : Hp) (x : V) (dx z : D) (Q : VK), Ex F H → Rep B F k x dx → f dx = some z → (∀ v F' H', Grow F H F' H' → Rep B F' k v z → Q v H') → r x H Q
theorem se_un {op : UnaryOp} {r : V → Hp → VK → Prop} {f : D → Option D} (ho : UnR X (unaryOp op) r) (hf : UnD (sbOf X) r f) (ha : SE X W a ma) : SE X W (.UnaryOp op a pos) (m1 f ma) := PE_imp (pe_un ho ha) fun σ H Q ⟨Hb, Fb, kb, k, F, s, ok, h⟩ =>
  ⟨Hb, Fb, kb, k, F, s, ok, h.bind.imp fun dx s1 F1 k1 H1 e1 p1 ok1 h1 v rv => by
    cases q : f dx with
    | none => rw [q] at h1; exact h1.elim
    | some z =>
      rw [q] at h1
      exact hf F1 k1 H1 v dx z Q ok1.bs.sub rv q fun w F3 H3 gr rw' => h1 H3 F3 k1 gr.ff (List.prefix_refl _) (ok1.grow gr) w rw'⟩

/-! ### arguments, calls of built-ins by values -/
def mNil : M (List D) := mpure []
def mCons (m : M D) (r : M (List D)) : M (List D) := mbind m fun x => mbind r fun xs => mpure (x :: xs)
theorem sa_nil : SA X W [] mNil := PA_imp pa_nil fun σ H Q ⟨Hb, Fb, kb, k, F, s, ok, h⟩ => h H F k (Evl.Ex.refl _) (List.prefix_refl _) ok [] .nil
theorem sa_cons {e : Expr} {es : List Expr} {m : M D} {r : M (List D)} (ha : SE X W e m) (hr : SA X W es r) (hs : starEach (e :: es) X.env = (false, eval e X.env) :: starEach es X.env := by rfl) : SA X W (e :: es) (mCons m r) :=
  PA_imp (pa_cons ha hr hs) fun σ H Q ⟨Hb, Fb, kb, k, F, s, ok, h⟩ => ⟨Hb, Fb, kb, k, F, s, ok, h.bind.imp fun dx s1 F1 k1 H1 e1 p1 ok1 h1 v rv => ⟨Hb, Fb, kb, k1, F1, s1, ok1, h1.bind.imp fun ds s2 F2 k2 H2 e2 p2 ok2 h2 vs rvs =>
    h2 H2 F2 k2 (Evl.Ex.refl _) (List.prefix_refl _) ok2 (v :: vs) (.cons (rv.mono e2 p2) rvs)⟩⟩
def mCall (f : List D → Option D) (ma : M (List D)) : M D := mbind ma fun xs => mopt (f xs)
def CallD (B : Sb) (r : List V → Hp → VK → Prop) (f : List D → Option D) : Prop :=
  ∀ (F : Hp) (k : List Addr) (H : Hp) (xs : List V) (ds : List D) (z : D) (Q : VK), Ex F H → RepL B F k xs ds → f ds = some z → (∀ v F' H', Grow F H F' H' → Rep B F' k v z → Q v H') → r xs H Q
theorem tC_imp {B : Sb} {r : List V → Hp → VK → Prop} {f : List D → Option D} (hf : CallD B r f) {ma : M (List D)} (σ : St) (H : Hp) (Q : VK) : tE B W (mCall f ma) σ H Q → tCB r (tA B W ma) σ H Q := fun ⟨Hb, Fb, kb, k, F, s, ok, h⟩ =>
  ⟨Hb, Fb, kb, k, F, s, ok, h.bind.imp fun ds s1 F1 k1 H1 e1 p1 ok1 h1 vs rv => by
    cases q : f ds with
    | none => rw [q] at h1; exact h1.elim
    | some z =>
      rw [q] at h1
      exact hf F1 k1 H1 vs ds z Q ok1.bs.sub rv q fun w F3 H3 gr rw' => h1 H3 F3 k1 gr.ff (List.prefix_refl _) (ok1.grow gr) w rw'⟩
end
end FX

/-! FX: statements, tests, loops, comprehensions, defs -/
namespace FX
open PySem L2

/-! ### tests -/
def mB (m : M D) : M Bool := mbind m fun d => match d with
  | .bl b => mpure b
  | _ => mno
def mAnd (a b : M Bool) : M Bool := mbind a fun x => if x = true then b else mpure false
def mOr (a b : M Bool) : M Bool := mbind a fun x => if x = true then mpure true else b
def mNot (a : M Bool) : M Bool := mbind a fun x => mpure (!x)
def mIfE (c : M Bool) (a b : M D) : M D := mbind c fun x => if x = true then a else b
def mAndV (a b : M D) : M D := mbind a fun d => match d with
  | .bl true => b
  | .bl false => mpure (.bl false)
  | _ => mno
def mOrV (a b : M D) : M D := mbind a fun d => match d with
  | .bl true => mpure (.bl true)
  | .bl false => b
  | _ => mno
def mNotV (a : M D) : M D := mbind a fun d => match d with
  | .bl c => mpure (.bl (!c))
  | _ => mno

section
variable {X : Cx} {W : WX} {pos : Pos} {a b e : Expr} {ma mb : M D} {ta tb : M Bool} {rest : List Expr} {B : Sb}
theorem Rep.bl_inv {F : Hp} {k : List Addr} {v : V} {c : Bool} (h : Rep B F k v (.bl c)) : v = .bl c := by cases h; rfl
theorem tB_imp {m : M D} (σ : St) (H : Hp) (Q : Bool → Hp → Prop) : tT B W (mB m) σ H Q → tB (tE B W m) σ H Q := fun ⟨Hb, Fb, kb, k, F, s, ok, h⟩ =>
  ⟨Hb, Fb, kb, k, F, s, ok, h.bind.imp fun d s1 F1 k1 H1 e1 p1 ok1 h1 v rv => by
    cases d with
    | bl c =>
      cases rv
      exact ⟨c, rfl, h1 H1 F1 k1 (Evl.Ex.refl _) (List.prefix_refl _) ok1⟩
    | _ => exact h1.elim⟩
theorem st_val (h : SE X W e ma) (he : ∀ whole, isTrue e X.env whole = (do let v ← whole; standAt e.pos; holding [v] (truthy v)) := by intro _; rfl) : ST X W e (mB ma) := PT_imp (pt_val h he) tB_imp
theorem st_cmp {op : CmpOp} {r : R2} {f : D → D → Option D} (ho : OpR X (compareOp op) r) (hf : OpD (sbOf X) r f) (ha : SE X W a ma) (hb : SE X W b mb) (hm : behindInMarks op b = false) : ST X W (.Compare a [op] [b] pos) (mB (m2 f ma mb)) :=
  PT_imp (pt_cmpR ho ha hb hm) fun σ H Q h => t2_imp hf σ H _ (tB_imp σ H Q h)
abbrev SW (X : Cx) (W : WX) (e : Expr) (m : M Bool) : Prop := PW X e (tT (sbOf X) W m)
theorem PW_imp {t t' : TT} (h : PW X e t) (i : ∀ σ H Q, t' σ H Q → t σ H Q) : PW X e t' := ⟨fun wh pins s σ H Q I q => h.run wh pins s σ H Q I (i σ H Q q)⟩
theorem tAnd_imp (σ : St) (H : Hp) (Q : Bool → Hp → Prop) : tT B W (mAnd ta tb) σ H Q → tAnd (tT B W ta) (tT B W tb) σ H Q := fun ⟨Hb, Fb, kb, k, F, s, ok, h⟩ =>
  ⟨Hb, Fb, kb, k, F, s, ok, h.bind.imp fun c s1 F1 k1 H1 e1 p1 ok1 h1 => by
    cases c with
    | true => exact ⟨Hb, Fb, kb, k1, F1, s1, ok1, h1⟩
    | false => exact h1 H1 F1 k1 (Evl.Ex.refl _) (List.prefix_refl _) ok1⟩
theorem tOr_imp (σ : St) (H : Hp) (Q : Bool → Hp → Prop) : tT B W (mOr ta tb) σ H Q → tOr (tT B W ta) (tT B W tb) σ H Q := fun ⟨Hb, Fb, kb, k, F, s, ok, h⟩ =>
  ⟨Hb, Fb, kb, k, F, s, ok, h.bind.imp fun c s1 F1 k1 H1 e1 p1 ok1 h1 => by
    cases c with
    | false => exact ⟨Hb, Fb, kb, k1, F1, s1, ok1, h1⟩
    | true => exact h1 H1 F1 k1 (Evl.Ex.refl _) (List.prefix_refl _) ok1⟩
theorem sw_and1 (h : ST X W a ta) : SW X W (.BoolOp .And [a] pos) ta := pw_and1 h
theorem sw_or1 (h : ST X W a ta) : SW X W (.BoolOp .Or [a] pos) ta := pw_or1 h
theorem sw_and (h : ST X W a ta) (h2 : SW X W (.BoolOp .And (b :: rest) pos) tb) : SW X W (.BoolOp .And (a :: b :: rest) pos) (mAnd ta tb) := PW_imp (pw_and h h2) tAnd_imp
theorem sw_or (h : ST X W a ta) (h2 : SW X W (.BoolOp .Or (b :: rest) pos) tb) : SW X W (.BoolOp .Or (a :: b :: rest) pos) (mOr ta tb) := PW_imp (pw_or h h2) tOr_imp
theorem st_w (h : SW X W e ta) : ST X W e ta := h.pt
theorem st_not (h : ST X W a ta) : ST X W (.UnaryOp .Not a pos) (mNot ta) := PT_imp (pt_not h) fun σ H Q ⟨Hb, Fb, kb, k, F, s, ok, h⟩ =>
  ⟨Hb, Fb, kb, k, F, s, ok, h.bind.imp fun c s1 F1 k1 H1 e1 p1 ok1 h1 => h1 H1 F1 k1 (Evl.Ex.refl _) (List.prefix_refl _) ok1⟩
theorem se_one {op} (h : SE X W a ma) : SE X W (.BoolOp op [a] pos) ma := pe_one h
theorem se_and (h : SE X W a ma) (h2 : SE X W (.BoolOp .And (b :: rest) pos) mb) : SE X W (.BoolOp .And (a :: b :: rest) pos) (mAndV ma mb) := PE_imp (pe_and h h2) fun σ H Q ⟨Hb, Fb, kb, k, F, s, ok, h⟩ =>
  ⟨Hb, Fb, kb, k, F, s, ok, h.bind.imp fun d s1 F1 k1 H1 e1 p1 ok1 h1 v rv => by
    cases d with
    | bl c =>
      cases rv
      cases c with
      | true => exact ⟨true, rfl, Hb, Fb, kb, k1, F1, s1, ok1, h1⟩
      | false => exact ⟨false, rfl, h1 H1 F1 k1 (Evl.Ex.refl _) (List.prefix_refl _) ok1 _ (.bl false)⟩
    | _ => exact h1.elim⟩
theorem se_or (h : SE X W a ma) (h2 : SE X W (.BoolOp .Or (b :: rest) pos) mb) : SE X W (.BoolOp .Or (a :: b :: rest) pos) (mOrV ma mb) := PE_imp (pe_or h h2) fun σ H Q ⟨Hb, Fb, kb, k, F, s, ok, h⟩ =>
  ⟨Hb, Fb, kb, k, F, s, ok, h.bind.imp fun d s1 F1 k1 H1 e1 p1 ok1 h1 v rv => by
    cases d with
    | bl c =>
      cases rv
      cases c with
      | false => exact ⟨false, rfl, Hb, Fb, kb, k1, F1, s1, ok1, h1⟩
      | true => exact ⟨true, rfl, h1 H1 F1 k1 (Evl.Ex.refl _) (List.prefix_refl _) ok1 _ (.bl true)⟩
    | _ => exact h1.elim⟩
theorem se_not (h : SE X W a ma) : SE X W (.UnaryOp .Not a pos) (mNotV ma) := PE_imp (pe_not h) fun σ H Q ⟨Hb, Fb, kb, k, F, s, ok, h⟩ =>
  ⟨Hb, Fb, kb, k, F, s, ok, h.bind.imp fun d s1 F1 k1 H1 e1 p1 ok1 h1 v rv => by
    cases d with
    | bl c =>
      cases rv
      exact ⟨c, rfl, h1 H1 F1 k1 (Evl.Ex.refl _) (List.prefix_refl _) ok1 _ (.bl _)⟩
    | _ => exact h1.elim⟩
theorem se_if {c : Expr} (hc : ST X W c ta) (ha : SE X W a ma) (hb : SE X W b mb) : SE X W (.IfExp c a b pos) (mIfE ta ma mb) := PE_imp (pe_ifExp hc ha hb) fun σ H Q ⟨Hb, Fb, kb, k, F, s, ok, h⟩ =>
  ⟨Hb, Fb, kb, k, F, s, ok, h.bind.imp fun d s1 F1 k1 H1 e1 p1 ok1 h1 => by
    cases d with
    | true => exact ⟨Hb, Fb, kb, k1, F1, s1, ok1, h1⟩
    | false => exact ⟨Hb, Fb, kb, k1, F1, s1, ok1, h1⟩⟩
/-- a < b < c -/
def mChain (f g : D → D → Option D) (ma mb mc : M D) : M D := mbind ma fun x => mbind mb fun y => mbind (mopt (f x y)) fun z => match z with
  | .bl true => mbind mc fun w => mopt (g y w)
  | .bl false => mpure (.bl false)
  | _ => mno
theorem tChain_imp {B : Sb} {r r' : R2} {f g : D → D → Option D} {mc : M D} (hf : OpD B r f) (hg : OpD B r' g) (σ : St) (H : Hp) (Q : VK) : tE B W (mChain f g ma mb mc) σ H Q → tChain r r' (tE B W ma) (tE B W mb) (tE B W mc) σ H Q := fun ⟨Hb, Fb, kb, k, F, s, ok, h⟩ =>
  ⟨Hb, Fb, kb, k, F, s, ok, h.bind.imp fun dx s1 F1 k1 H1 e1 p1 ok1 h1 v rv => ⟨Hb, Fb, kb, k1, F1, s1, ok1, h1.bind.imp fun dy s2 F2 k2 H2 e2 p2 ok2 h2 u ru => by
    have h3 := h2.bind
    cases q : f dx dy with
    | none => rw [q] at h3; exact h3.elim
    | some z =>
      rw [q] at h3
      refine hf F2 k2 H2 v u dx dy z _ ok2.bs.sub (rv.mono e2 p2) ru q fun w F3 H3 gr rw' => ?_
      have h4 := h3 H3 F3 k2 gr.ff (List.prefix_refl _) (ok2.grow gr)
      cases z with
      | bl b =>
        cases rw'
        cases b with
        | true =>
          refine ⟨true, rfl, ?_⟩
          rw [if_pos rfl]
          exact ⟨Hb, Fb, kb, k2, F3, _, ok2.grow gr, h4.bind.imp fun dw s5 F5 k5 H5 e5 p5 ok5 h5 u' ru' => by
            cases q' : g dy dw with
            | none => rw [q'] at h5; exact h5.elim
            | some z' =>
              rw [q'] at h5
              exact hg F5 k5 H5 u u' dy dw z' Q ok5.bs.sub (ru.mono (gr.ff.trans e5) p5) ru' q' fun w' F6 H6 gr' rw2 => h5 H6 F6 k5 gr'.ff (List.prefix_refl _) (ok5.grow gr') w' rw2⟩
        | false =>
          refine ⟨false, rfl, ?_⟩
          rw [if_neg Bool.false_ne_true]
          exact h4 H3 F3 k2 (Evl.Ex.refl _) (List.prefix_refl _) (ok2.grow gr) _ (.bl false)
      | _ => exact h4.elim⟩⟩
theorem se_chain {op op' : CmpOp} {r r' : R2} {f g : D → D → Option D} {c : Expr} {mc : M D} (ho : OpR X (compareOp op) r) (hf : OpD (sbOf X) r f) (ho' : OpR X (compareOp op') r') (hg : OpD (sbOf X) r' g) (ha : SE X W a ma) (hb : SE X W b mb) (hc : SE X W c mc)
    (hm : lastMarks [op, op'] [b, c] = false := by with_unfolding_all rfl) : SE X W (.Compare a [op, op'] [b, c] pos) (mChain f g ma mb mc) := PE_imp (pe_chain ho ho' ha hb hc hm) (tChain_imp hf hg)
theorem st_chain {op op' : CmpOp} {r r' : R2} {f g : D → D → Option D} {c : Expr} {mc : M D} (ho : OpR X (compareOp op) r) (hf : OpD (sbOf X) r f) (ho' : OpR X (compareOp op') r') (hg : OpD (sbOf X) r' g) (ha : SE X W a ma) (hb : SE X W b mb) (hc : SE X W c mc)
    (hm : lastMarks [op, op'] [b, c] = false := by with_unfolding_all rfl) : ST X W (.Compare a [op, op'] [b, c] pos) (mB (mChain f g ma mb mc)) := PT_imp (pt_chain ho ho' ha hb hc hm) fun σ H Q h => tChain_imp hf hg σ H _ (tB_imp σ H Q h)
end

/-! ### statements -/
def FinS (B : Sb) (Hb Fb : Hp) (kb k : List Addr) (F : Hp) (W : WX) (r : R Out) (E : Ends) : Prop := match r with
  | .ok .nx s' => ∀ σ' H' F' k', Ex F F' → Pre k k' → Ok B Hb Fb kb k' F' s' σ' H' → E.nx σ' H'
  | .ok (.rt d) s' => ∀ v H' F' k', Ex F F' → Pre k k' → Bs B Hb Fb kb k' F' s'.g H' → Rep B F' k' v d → E.rt v H'
  | .ok .bk s' => ∀ σ' H' F' k', Ex F F' → Pre k k' → Ok B Hb Fb kb k' F' s' σ' H' → E.bk σ' H'
  | .ok .ct s' => ∀ σ' H' F' k', Ex F F' → Pre k k' → Ok B Hb Fb kb k' F' s' σ' H' → E.ct σ' H'
  | .ex c s' => ∀ C σ' H' F' k', B.mg c = some C → Ok B Hb Fb kb k' F' s' σ' H' → W C none σ' H'
  | .no => False
def tS (B : Sb) (W : WX) (m : M Out) : TS := fun E σ H => ∃ Hb Fb kb k F s, Ok B Hb Fb kb k F s σ H ∧ FinS B Hb Fb kb k F W (m s) E
abbrev SS (X : Cx) (W : WX) (st : Stmt) (m : M Out) : Prop := PS X st (tS (sbOf X) W m)
abbrev SSs (X : Cx) (W : WX) (st : List Stmt) (m : M Out) : Prop := PSs X st (tS (sbOf X) W m)
theorem PS_imp {X : Cx} {st : Stmt} {t t' : TS} (h : PS X st t) (i : ∀ E σ H, t' E σ H → t E σ H) : PS X st t' := ⟨fun pins s σ H E I q => h.run pins s σ H E I (i E σ H q)⟩
theorem PSs_imp {X : Cx} {st : List Stmt} {t t' : TS} (h : PSs X st t) (i : ∀ E σ H, t' E σ H → t E σ H) : PSs X st t' := ⟨fun pins s σ H E I q => h.run pins s σ H E I (i E σ H q)⟩

def mSeq (a b : M Out) : M Out := fun s => match a s with
  | .ok .nx s' => b s'
  | r => r
def mIf (c : M Bool) (a b : M Out) : M Out := fun s => match c s with
  | .ok true s' => a s'
  | .ok false s' => b s'
  | .ex c s' => .ex c s'
  | .no => .no
def mRet (m : M D) : M Out := mbind m fun d => mpure (.rt d)
def mDrop (m : M D) : M Out := mbind m fun _ => mpure .nx
/-- the i-th slot -/
def setV (i : Nat) (d : D) (s : S) : S := ⟨s.e.set i (some (.val d)), s.g⟩
def setO (i : Nat) (o : Ob) (s : S) : S := ⟨s.e.set i (some (.own o)), s.g⟩
def mSet (i : Nat) (m : M D) : M Out := mbind m fun d => fun s => .ok .nx (setV i d s)

section
variable {B : Sb} {Hb Fb : Hp} {kb k k' : List Addr} {F F' : Hp} {s : S} {σ : St} {H : Hp} {W : WX}
theorem FinS.weak {r : R Out} {E : Ends} (e : Ex F F') (p : Pre k k') (h : FinS B Hb Fb kb k F W r E) : FinS B Hb Fb kb k' F' W r E := by
  cases r with
  | ok o s' =>
    cases o with
    | nx => exact fun σ' H' F2 k2 e2 p2 ok => h σ' H' F2 k2 (e.trans e2) (p.trans p2) ok
    | rt d => exact fun v H' F2 k2 e2 p2 ok r => h v H' F2 k2 (e.trans e2) (p.trans p2) ok r
    | bk => exact fun σ' H' F2 k2 e2 p2 ok => h σ' H' F2 k2 (e.trans e2) (p.trans p2) ok
    | ct => exact fun σ' H' F2 k2 e2 p2 ok => h σ' H' F2 k2 (e.trans e2) (p.trans p2) ok
  | ex c s' => exact h
  | no => exact h
/-- from an expression's run to a statement's -/
theorem FinS.ofBind {α : Type} {m : M α} {f : α → M Out} {E : Ends} (h : FinS B Hb Fb kb k F W (mbind m f s) E) : Fin B Hb Fb kb k F σ W (m s) fun a s' F' k' _ => FinS B Hb Fb kb k' F' W (f a s') E := by
  unfold mbind at h
  cases e : m s with
  | ok a s' =>
    rw [e] at h
    exact fun H' F' k' e1 p1 _ => FinS.weak e1 p1 h
  | ex c s' => rw [e] at h; exact fun C H' F' k' m ok => h C σ H' F' k' m ok
  | no => rw [e] at h; exact h
theorem Ok.setV {v : V} {d : D} {i : Nat} (h : Ok B Hb Fb kb k F s σ H) (r : Rep B F k v d) : Ok B Hb Fb kb k F (FX.setV i d s) (σ.set i (some v)) H where
  bs := h.bs
  val := fun j d' e => by
    by_cases hj : i = j
    · subst hj
      have e : (s.e.set i (some (.val d)))[i]? = some (some (.val d')) := e
      have hl : i < s.e.length := by
        by_cases hl : i < s.e.length
        · exact hl
        · rw [List.getElem?_eq_none (by simpa using hl)] at e; cases e
      rw [List.getElem?_set_self hl] at e
      cases e
      exact ⟨v, List.getElem?_set_self (by rw [← h.elen]; exact hl), r⟩
    · have e : (s.e.set i (some (.val d)))[j]? = some (some (.val d')) := e
      rw [List.getElem?_set_ne hj] at e
      obtain ⟨v', e1, r'⟩ := h.val j d' e
      exact ⟨v', by rw [List.getElem?_set_ne hj]; exact e1, r'⟩
  own := fun j o e => by
    by_cases hj : i = j
    · subst hj
      have e : (s.e.set i (some (.val d)))[i]? = some (some (.own o)) := e
      have hl : i < s.e.length := by
        by_cases hl : i < s.e.length
        · exact hl
        · rw [List.getElem?_eq_none (by simpa using hl)] at e; cases e
      rw [List.getElem?_set_self hl] at e
      cases e
    · have e : (s.e.set i (some (.val d)))[j]? = some (some (.own o)) := e
      rw [List.getElem?_set_ne hj] at e
      obtain ⟨a, e1, r'⟩ := h.own j o e
      exact ⟨a, by rw [List.getElem?_set_ne hj]; exact e1, r'⟩
  sep := fun j l o o' a hn e1 e2 e3 e4 => by
    have nw : ∀ {j : Nat} {o : Ob}, (FX.setV i d s).e[j]? = some (some (.own o)) → i ≠ j ∧ s.e[j]? = some (some (.own o)) := fun {j o} e => by
      by_cases hj : i = j
      · subst hj
        have e : (s.e.set i (some (.val d)))[i]? = some (some (.own o)) := e
        have hl : i < s.e.length := by
          by_cases hl : i < s.e.length
          · exact hl
          · rw [List.getElem?_eq_none (by simpa using hl)] at e; cases e
        rw [List.getElem?_set_self hl] at e
        cases e
      · have e : (s.e.set i (some (.val d)))[j]? = some (some (.own o)) := e
        rw [List.getElem?_set_ne hj] at e
        exact ⟨hj, e⟩
    obtain ⟨n1, q1⟩ := nw e1
    obtain ⟨n2, q2⟩ := nw e2
    rw [List.getElem?_set_ne n1] at e3
    rw [List.getElem?_set_ne n2] at e4
    exact h.sep j l o o' a hn q1 q2 e3 e4
  elen := by
    show (s.e.set i (some (.val d))).length = _
    rw [List.length_set, List.length_set]; exact h.elen
end

section
variable {X : Cx} {W : WX} {pos : Pos} {e : Expr} {m : M D} {st : Stmt} {rest : List Stmt} {ms mr : M Out}
theorem sss_nil : SSs X W [] (mpure .nx) := PSs_imp pss_nil fun E σ H ⟨Hb, Fb, kb, k, F, s, ok, h⟩ => h σ H F k (Evl.Ex.refl _) (List.prefix_refl _) ok
theorem sss_cons (h1 : SS X W st ms) (h2 : SSs X W rest mr) : SSs X W (st :: rest) (mSeq ms mr) := PSs_imp (pss_cons h1 h2) fun E σ H ⟨Hb, Fb, kb, k, F, s, ok, h⟩ =>
  ⟨Hb, Fb, kb, k, F, s, ok, by
    unfold mSeq at h
    cases q : ms s with
    | ok o s' =>
      cases o with
      | nx =>
        rw [q] at h
        exact fun σ' H' F' k' e p ok' => ⟨Hb, Fb, kb, k', F', s', ok', FinS.weak e p h⟩
      | rt d => rw [q] at h; exact h
      | bk => rw [q] at h; exact h
      | ct => rw [q] at h; exact h
    | ex c s' => rw [q] at h; exact h
    | no => rw [q] at h; exact h⟩
theorem sss_one (h1 : SS X W st ms) : SSs X W [st] ms := pss_one h1
theorem ss_pass : SS X W (.Pass pos) (mpure .nx) := PS_imp ps_pass fun E σ H ⟨Hb, Fb, kb, k, F, s, ok, h⟩ => h σ H F k (Evl.Ex.refl _) (List.prefix_refl _) ok
theorem ss_break : SS X W (.Break pos) (mpure .bk) := PS_imp ps_break fun E σ H ⟨Hb, Fb, kb, k, F, s, ok, h⟩ => h σ H F k (Evl.Ex.refl _) (List.prefix_refl _) ok
theorem ss_continue : SS X W (.Continue pos) (mpure .ct) := PS_imp ps_continue fun E σ H ⟨Hb, Fb, kb, k, F, s, ok, h⟩ => h σ H F k (Evl.Ex.refl _) (List.prefix_refl _) ok
theorem ss_never : SS X W st mno := PS_imp ps_never fun E σ H ⟨Hb, Fb, kb, k, F, s, ok, h⟩ => h
theorem ss_expr (he : SE X W e m) (hs : swapsWith e none pos.line X.env = pure false := by rfl) : SS X W (.Expr e pos) (mDrop m) := PS_imp (ps_expr he hs) fun E σ H ⟨Hb, Fb, kb, k, F, s, ok, h⟩ =>
  ⟨Hb, Fb, kb, k, F, s, ok, (FinS.ofBind h).imp fun d s1 F1 k1 H1 e1 p1 ok1 h1 v rv => h1 σ H1 F1 k1 (Evl.Ex.refl _) (List.prefix_refl _) ok1⟩
theorem ss_ret (he : SE X W e m) : SS X W (.Return (some e) pos) (mRet m) := PS_imp (ps_ret he) fun E σ H ⟨Hb, Fb, kb, k, F, s, ok, h⟩ =>
  ⟨Hb, Fb, kb, k, F, s, ok, (FinS.ofBind h).imp fun d s1 F1 k1 H1 e1 p1 ok1 h1 v rv => h1 v H1 F1 k1 (Evl.Ex.refl _) (List.prefix_refl _) ok1.bs rv⟩
theorem ss_retN : SS X W (.Return none pos) (mpure (.rt .non)) := PS_imp ps_retN fun E σ H ⟨Hb, Fb, kb, k, F, s, ok, h⟩ => h .non H F k (Evl.Ex.refl _) (List.prefix_refl _) ok.bs .non
theorem ss_if {c : Expr} {mc : M Bool} {a b : List Stmt} {m1 m2 : M Out} (hc : ST X W c mc) (ha : SSs X W a m1) (hb : SSs X W b m2) : SS X W (.If c a b pos) (mIf mc m1 m2) := PS_imp (ps_if hc ha hb) fun E σ H ⟨Hb, Fb, kb, k, F, s, ok, h⟩ =>
  ⟨Hb, Fb, kb, k, F, s, ok, by
    unfold mIf at h
    cases q : mc s with
    | ok c s' =>
      cases c with
      | true =>
        rw [q] at h
        exact fun H' F' k' e p ok' => ⟨Hb, Fb, kb, k', F', s', ok', FinS.weak e p h⟩
      | false =>
        rw [q] at h
        exact fun H' F' k' e p ok' => ⟨Hb, Fb, kb, k', F', s', ok', FinS.weak e p h⟩
    | ex c s' => rw [q] at h; exact fun C H' F' k' m ok => h C σ H' F' k' m ok
    | no => rw [q] at h; exact h⟩
theorem ss_set {i : Nat} {x : Str} {pos' : Pos} (hN : X.N.Nodup) (he : SE X W e m) (hi : X.N[i]? = some x := by rfl) (hx : Loc X.env.scope x := by first | exact Or.inl rfl | exact Or.inr rfl) (hs : swapsWith e (some (.Name x pos')) pos.line X.env = pure false := by rfl)
    (hf : X.fn x = true ∨ X.env.scope.names.lookup x = some .local := by first | exact .inl rfl | exact .inr rfl | assumption) : SS X W (.Assign [.Name x pos'] e pos) (mSet i m) := PS_imp (ps_set hN hi hx he hs hf) fun E σ H ⟨Hb, Fb, kb, k, F, s, ok, h⟩ =>
  ⟨Hb, Fb, kb, k, F, s, ok, (FinS.ofBind h).imp fun d s1 F1 k1 H1 e1 p1 ok1 h1 v rv => h1 _ H1 F1 k1 (Evl.Ex.refl _) (List.prefix_refl _) (ok1.setV rv)⟩
end

/-! ### targets -/
/-- the slots but us are as they were -/
def Agree (us : List Nat) (σ σ' : St) : Prop := σ'.length = σ.length ∧ ∀ i : Nat, i ∉ us → σ'[i]? = σ[i]?
theorem Agree.refl (us : List Nat) (σ : St) : Agree us σ σ := ⟨rfl, fun _ _ => rfl⟩
theorem Agree.trans {us us' : List Nat} {σ σ1 σ2 : St} (a : Agree us σ σ1) (b : Agree us' σ1 σ2) : Agree (us ++ us') σ σ2 :=
  ⟨b.1.trans a.1, fun i hi => (b.2 i fun z => hi (List.mem_append_right _ z)).trans (a.2 i fun z => hi (List.mem_append_left _ z))⟩
theorem Agree.set (i : Nat) (σ : St) (v : Option V) : Agree [i] σ (σ.set i v) := ⟨List.length_set, fun j hj => List.getElem?_set_ne fun e => hj (by rw [e]; exact List.mem_singleton.mpr rfl)⟩
def tG (B : Sb) (us : List Nat) (g : D → M Unit) : TG := fun v σ H Q => ∃ Hb Fb kb k F s d, Ok B Hb Fb kb k F s σ H ∧ Rep B F k v d ∧ match g d s with
  | .ok _ s' => ∀ σ' H' F' k', Ex F F' → Pre k k' → Agree us σ σ' → Ok B Hb Fb kb k' F' s' σ' H' → Q σ' H'
  | _ => False
def tGs (B : Sb) (us : List Nat) (g : List D → M Unit) : TGs := fun vs σ H Q => ∃ Hb Fb kb k F s ds, Ok B Hb Fb kb k F s σ H ∧ RepL B F k vs ds ∧ match g ds s with
  | .ok _ s' => ∀ σ' H' F' k', Ex F F' → Pre k k' → Agree us σ σ' → Ok B Hb Fb kb k' F' s' σ' H' → Q σ' H'
  | _ => False
abbrev SG (X : Cx) (tg : Expr) (us : List Nat) (g : D → M Unit) : Prop := PG X tg (tG (sbOf X) us g)
abbrev SGs (X : Cx) (tg : List Expr) (us : List Nat) (g : List D → M Unit) : Prop := PGs X tg (tGs (sbOf X) us g)
theorem PG_imp {X : Cx} {e : Expr} {t t' : TG} (h : PG X e t) (i : ∀ v σ H Q, t' v σ H Q → t v σ H Q) : PG X e t' := ⟨fun pins s σ H v u Q I r q => h.run pins s σ H v u Q I r (i v σ H Q q)⟩
theorem PGs_imp {X : Cx} {e : List Expr} {t t' : TGs} (h : PGs X e t) (i : ∀ v σ H Q, t' v σ H Q → t v σ H Q) : PGs X e t' := ⟨fun pins s σ H v u Q I r q => h.run pins s σ H v u Q I r (i v σ H Q q)⟩
def gV (i : Nat) : D → M Unit := fun d s => .ok () (setV i d s)
def gsNil : List D → M Unit := fun ds s => match ds with
  | [] => .ok () s
  | _ => .no
def gsCons (g : D → M Unit) (r : List D → M Unit) : List D → M Unit := fun ds s => match ds with
  | d :: ds' => (match g d s with
    | .ok _ s' => r ds' s'
    | _ => .no)
  | [] => .no
def gT (n : Nat) (r : List D → M Unit) : D → M Unit := fun d s => match d with
  | .tup ds => if ds.length = n then r ds s else .no
  | _ => .no
section
variable {X : Cx} {W : WX} {pos : Pos}
theorem sg_name {i : Nat} {x : Str} (hN : X.N.Nodup) (hi : X.N[i]? = some x := by rfl) (hx : Loc X.env.scope x := by first | exact Or.inl rfl | exact Or.inr rfl)
    (hf : X.fn x = true ∨ X.env.scope.names.lookup x = some .local := by first | exact .inl rfl | exact .inr rfl | assumption) : SG X (.Name x pos) [i] (gV i) :=
  PG_imp (pg_name hN hi hx hf) fun v σ H Q ⟨Hb, Fb, kb, k, F, s, d, ok, r, h⟩ => h _ H F k (Evl.Ex.refl _) (List.prefix_refl _) (Agree.set i σ _) (ok.setV r)
theorem sgs_nil : SGs X [] [] gsNil := PGs_imp pgs_nil fun v σ H Q ⟨Hb, Fb, kb, k, F, s, ds, ok, r, h⟩ => by
  cases r with
  | nil => exact ⟨rfl, h σ H F k (Evl.Ex.refl _) (List.prefix_refl _) (Agree.refl _ _) ok⟩
  | cons a b => exact h.elim
theorem sgs_cons {e : Expr} {es : List Expr} {g : D → M Unit} {r : List D → M Unit} {us us' : List Nat} (h1 : SG X e us g) (h2 : SGs X es us' r) (hs : (assignEach (e :: es) X.env).map (·.2) = assign e X.env :: (assignEach es X.env).map (·.2) := by rfl) : SGs X (e :: es) (us ++ us') (gsCons g r) :=
  PGs_imp (pgs_cons h1 h2 hs) fun v σ H Q ⟨Hb, Fb, kb, k, F, s, ds, ok, rr, h⟩ => by
    cases rr with
    | nil => exact h.elim
    | @cons v d vs ds a b =>
      refine ⟨_, _, rfl, Hb, Fb, kb, k, F, s, d, ok, a, ?_⟩
      have h : (match (match g d s with | .ok _ s' => r ds s' | _ => .no) with | .ok _ s' => ∀ σ' H' F' k', Ex F F' → Pre k k' → Agree (us ++ us') σ σ' → Ok (sbOf X) Hb Fb kb k' F' s' σ' H' → Q σ' H' | _ => False) := h
      cases q : g d s with
      | ok u s' =>
        rw [q] at h
        intro σ' H' F' k' e p ag ok'
        refine ⟨Hb, Fb, kb, k', F', s', ds, ok', b.mono e p, ?_⟩
        have h : (match r ds s' with | .ok _ s' => ∀ σ' H' F' k', Ex F F' → Pre k k' → Agree (us ++ us') σ σ' → Ok (sbOf X) Hb Fb kb k' F' s' σ' H' → Q σ' H' | _ => False) := h
        cases q' : r ds s' with
        | ok u' s2 =>
          rw [q'] at h
          exact fun σ2 H2 F2 k2 e2 p2 ag2 ok2 => h σ2 H2 F2 k2 (e.trans e2) (p.trans p2) (ag.trans ag2) ok2
        | ex c s2 => rw [q'] at h; exact h.elim
        | no => rw [q'] at h; exact h.elim
      | ex c s' => rw [q] at h; exact h.elim
      | no => rw [q] at h; exact h.elim
theorem sg_tup {es : List Expr} {kk : Nat} {us : List Nat} {r : List D → M Unit} {n : Nat} (h : SGs X es us r) (hc : X.calm = true := by rfl) (hn : (assignEach es X.env).length = n := by rfl) (hst : (assignEach es X.env).findIdx? (·.1) = none := by rfl) : SG X (.Tuple es kk pos) us (gT n r) :=
  PG_imp (pg_tup hc h hn hst) fun v σ H Q ⟨Hb, Fb, kb, k, F, s, d, ok, rr, h⟩ => by
    cases rr with
    | @tup a xs ds hq rl =>
      have h : (match (if ds.length = n then r ds s else .no) with | .ok _ s' => ∀ σ' H' F' k', Ex F F' → Pre k k' → Agree us σ σ' → Ok (sbOf X) Hb Fb kb k' F' s' σ' H' → Q σ' H' | _ => False) := h
      by_cases hl : ds.length = n
      · rw [if_pos hl] at h
        exact ⟨a, xs, rfl, Evl.ex_t ok.bs.sub hq, rl.length.trans hl, Hb, Fb, kb, k, F, s, ds, ok, rl, h⟩
      · rw [if_neg hl] at h; exact h.elim
    | _ => exact h.elim
/-- target = e -/
def mAsg (g : D → M Unit) (m : M D) : M Out := mbind m fun d => fun s => match g d s with
  | .ok _ s' => .ok .nx s'
  | _ => .no
theorem ss_asg {tg e : Expr} {us : List Nat} {g : D → M Unit} {m : M D} (he : SE X W e m) (hg : SG X tg us g) (hs : swapsWithSole [tg] e pos.line X.env = pure false := by rfl) (hw : swappedStores [tg] e X.env = pure none := by rfl)
    (h1 : (assignEach [tg] X.env).map (·.2) = [assign tg X.env] := by rfl) : SS X W (.Assign [tg] e pos) (mAsg g m) := PS_imp (ps_asg he hg hs hw h1) fun E σ H ⟨Hb, Fb, kb, k, F, s, ok, h⟩ =>
  ⟨Hb, Fb, kb, k, F, s, ok, (FinS.ofBind h).imp fun d s1 F1 k1 H1 e1 p1 ok1 h1 v rv => by
    refine ⟨Hb, Fb, kb, k1, F1, s1, d, ok1, rv, ?_⟩
    cases q : g d s1 with
    | ok u s' => rw [q] at h1; exact fun σ' H' F' k' e p _ ok => h1 σ' H' F' k' e p ok
    | ex c s2 => rw [q] at h1; exact h1.elim
    | no => rw [q] at h1; exact h1.elim⟩
end

/-! ### what is walked -/
def WalkD (B : Sb) (F : Hp) (k : List Addr) (J : It) (ds : List D) : Prop :=
  ∀ F' H' k', Ex F F' → Pre k k' → Ex F' H' → (∀ i, i < ds.length → J.go i H') ∧ J.stop ds.length H' ∧ ∀ i x H2, i < ds.length → J.yld i H' x H2 → ∃ F2 d, Grow F' H' F2 H2 ∧ ds[i]? = some d ∧ Rep B F2 k' x d
theorem WalkD.mono {B : Sb} {F F' : Hp} {k k' : List Addr} {J : It} {ds : List D} (w : WalkD B F k J ds) (e : Ex F F') (p : Pre k k') : WalkD B F' k' J ds := fun F2 H2 k2 e2 p2 sub => w F2 H2 k2 (e.trans e2) (p.trans p2) sub
def tI (B : Sb) (W : WX) (m : M (List D)) : TI := fun σ H Q => ∃ Hb Fb kb k F s, Ok B Hb Fb kb k F s σ H ∧ Fin B Hb Fb kb k F σ W (m s) fun ds _ F' k' H' => ∀ J, WalkD B F' k' J ds → Q J H'
abbrev SI (X : Cx) (W : WX) (tg iter : Expr) (m : M (List D)) : Prop := PI X tg iter (tI (sbOf X) W m)
theorem PI_imp {X : Cx} {tg e : Expr} {t t' : TI} (h : PI X tg e t) (i : ∀ σ H Q, t' σ H Q → t σ H Q) : PI X tg e t' := ⟨fun pins s σ H Q I q => h.run pins s σ H Q I (i σ H Q q)⟩

def forR (g : D → M Unit) (body : M Out) : List D → M Out
  | [] => mpure .nx
  | d :: r => fun s => match g d s with
    | .ok _ s1 => (match body s1 with
      | .ok .nx s2 => forR g body r s2
      | .ok .ct s2 => forR g body r s2
      | .ok .bk s2 => .ok .nx s2
      | .ok (.rt d) s2 => .ok (.rt d) s2
      | .ex c s2 => .ex c s2
      | .no => .no)
    | _ => .no
def mFor (mi : M (List D)) (g : D → M Unit) (body : M Out) : M Out := mbind mi fun ds => forR g body ds
def whileR (c : M Bool) (body : M Out) : Nat → M Out
  | 0 => mno
  | n + 1 => fun s => match c s with
    | .ok true s1 => (match body s1 with
      | .ok .nx s2 => whileR c body n s2
      | .ok .ct s2 => whileR c body n s2
      | .ok .bk s2 => .ok .nx s2
      | .ok (.rt d) s2 => .ok (.rt d) s2
      | .ex c s2 => .ex c s2
      | .no => .no)
    | .ok false s1 => .ok .nx s1
    | .ex c s1 => .ex c s1
    | .no => .no

section
variable {X : Cx} {W : WX} {pos : Pos}
theorem drop_get {α : Type} {l : List α} {i : Nat} {d : α} (h : l[i]? = some d) : l.drop i = d :: l.drop (i + 1) := by
  obtain ⟨hi, e⟩ := List.getElem?_eq_some_iff.mp h
  rw [List.drop_eq_getElem_cons hi, e]
theorem ss_for {tg iter : Expr} {body : List Stmt} {mi : M (List D)} {us : List Nat} {g : D → M Unit} {mb : M Out} (hp : PassesOwn (model X.prog X.w) X.A X.env X.xe) (hi : SI X W tg iter mi) (hg : SG X tg us g) (hb : SSs X W body mb) (hc : X.calm = true := by rfl)
    (hs : ∀ x, foldedSetIterable iter X.env x = pure x := by intro _; rfl) : SS X W (.For tg iter body [] pos) (mFor mi g mb) := PS_imp (ps_for hp hc hi hg hb hs) fun E σ H ⟨Hb, Fb, kb, k, F, s, ok, h⟩ =>
  ⟨Hb, Fb, kb, k, F, s, ok, (FinS.ofBind h).imp fun ds s1 F1 k1 H1 e1 p1 ok1 h1 J wk => by
    refine ⟨fun i m σ' H' => m = ds.length - i ∧ i ≤ ds.length ∧ ∃ F2 k2 s2, Ex F1 F2 ∧ Pre k1 k2 ∧ Ok (sbOf X) Hb Fb kb k2 F2 s2 σ' H' ∧ FinS (sbOf X) Hb Fb kb k2 F2 W (forR g mb (ds.drop i) s2) E, ⟨ds.length, by simp, Nat.zero_le _, F1, k1, s1, Evl.Ex.refl _, List.prefix_refl _, ok1, h1⟩, ?_⟩
    rintro i m σ' H' ⟨rfl, hi', F2, k2, s2, e2, p2, ok2, h2⟩
    obtain ⟨go, stop, yld⟩ := wk F2 H' k2 e2 p2 ok2.bs.sub
    by_cases hlt : i < ds.length
    · refine .inr ⟨go i hlt, fun σ3 H3 => ∃ F3 k3 s3, Ex F1 F3 ∧ Pre k1 k3 ∧ Ok (sbOf X) Hb Fb kb k3 F3 s3 σ3 H3 ∧ FinS (sbOf X) Hb Fb kb k3 F3 W (forR g mb (ds.drop (i + 1)) s3) E, fun σ3 H3 ⟨F3, k3, s3, a, b, c, d⟩ => ⟨ds.length - (i + 1), by omega, rfl, hlt, F3, k3, s3, a, b, c, d⟩, fun x H3 y => ?_⟩
      obtain ⟨F3, d, gr, hd, rd⟩ := yld i x H3 hlt y
      rw [drop_get hd] at h2
      refine ⟨Hb, Fb, kb, k2, F3, s2, d, ok2.grow gr, rd, ?_⟩
      unfold forR at h2
      cases q : g d s2 with
      | ok u s3 =>
        rw [q] at h2
        intro σ4 H4 F4 k4 e4 p4 _ ok4
        refine ⟨Hb, Fb, kb, k4, F4, s3, ok4, ?_⟩
        have h2 : FinS (sbOf X) Hb Fb kb k2 F2 W (match mb s3 with | .ok .nx s2 => forR g mb (ds.drop (i + 1)) s2 | .ok .ct s2 => forR g mb (ds.drop (i + 1)) s2 | .ok .bk s2 => .ok .nx s2 | .ok (.rt d) s2 => .ok (.rt d) s2 | .ex c s2 => .ex c s2 | .no => .no) E := h2
        have e24 : Ex F2 F4 := gr.ff.trans e4
        cases q' : mb s3 with
        | ok o s5 =>
          rw [q'] at h2
          cases o with
          | nx => exact fun σ5 H5 F5 k5 e5 p5 ok5 => ⟨F5, k5, s5, e2.trans (e24.trans e5), p2.trans (p4.trans p5), ok5, FinS.weak (e24.trans e5) (p4.trans p5) h2⟩
          | ct => exact fun σ5 H5 F5 k5 e5 p5 ok5 => ⟨F5, k5, s5, e2.trans (e24.trans e5), p2.trans (p4.trans p5), ok5, FinS.weak (e24.trans e5) (p4.trans p5) h2⟩
          | bk => exact FinS.weak (r := .ok .nx s5) e24 p4 h2
          | rt d => exact FinS.weak (r := .ok (.rt d) s5) e24 p4 h2
        | ex c s5 => rw [q'] at h2; exact h2
        | no => rw [q'] at h2; exact h2
      | ex c s3 => rw [q] at h2; exact h2.elim
      | no => rw [q] at h2; exact h2.elim
    · have e : i = ds.length := by omega
      subst e
      rw [List.drop_length] at h2
      exact .inl ⟨stop, h2 σ' H' F2 k2 (Evl.Ex.refl _) (List.prefix_refl _) ok2⟩⟩
theorem ss_while {c : Expr} {body : List Stmt} {mc : M Bool} {mb : M Out} (n : Nat) (hp : PassesOwn (model X.prog X.w) X.A X.env X.xe) (hc : ST X W c mc) (hb : SSs X W body mb) : SS X W (.While c body [] pos) (whileR mc mb n) := PS_imp (ps_while hp hc hb) fun E σ H ⟨Hb, Fb, kb, k, F, s, ok, h⟩ => by
  refine ⟨fun m σ' H' => ∃ F2 k2 s2, Ok (sbOf X) Hb Fb kb k2 F2 s2 σ' H' ∧ FinS (sbOf X) Hb Fb kb k2 F2 W (whileR mc mb m s2) E, ⟨n, F, k, s, ok, h⟩, ?_⟩
  rintro m σ' H' ⟨F2, k2, s2, ok2, h2⟩
  refine ⟨Hb, Fb, kb, k2, F2, s2, ok2, ?_⟩
  cases m with
  | zero => exact h2.elim
  | succ m =>
    unfold whileR at h2
    cases q : mc s2 with
    | ok b s3 =>
      rw [q] at h2
      intro H3 F3 k3 e3 p3 ok3
      cases b with
      | true =>
        rw [if_pos rfl]
        refine ⟨fun σ4 H4 => ∃ F4 k4 s4, Ok (sbOf X) Hb Fb kb k4 F4 s4 σ4 H4 ∧ FinS (sbOf X) Hb Fb kb k4 F4 W (whileR mc mb m s4) E, fun σ4 H4 h4 => ⟨m, Nat.lt_succ_self _, h4⟩, Hb, Fb, kb, k3, F3, s3, ok3, ?_⟩
        have h2 : FinS (sbOf X) Hb Fb kb k2 F2 W (match mb s3 with | .ok .nx s2 => whileR mc mb m s2 | .ok .ct s2 => whileR mc mb m s2 | .ok .bk s2 => .ok .nx s2 | .ok (.rt d) s2 => .ok (.rt d) s2 | .ex c s2 => .ex c s2 | .no => .no) E := h2
        cases q' : mb s3 with
        | ok o s5 =>
          rw [q'] at h2
          cases o with
          | nx => exact fun σ5 H5 F5 k5 e5 p5 ok5 => ⟨F5, k5, s5, ok5, FinS.weak (e3.trans e5) (p3.trans p5) h2⟩
          | ct => exact fun σ5 H5 F5 k5 e5 p5 ok5 => ⟨F5, k5, s5, ok5, FinS.weak (e3.trans e5) (p3.trans p5) h2⟩
          | bk => exact FinS.weak (r := .ok .nx s5) e3 p3 h2
          | rt d => exact FinS.weak (r := .ok (.rt d) s5) e3 p3 h2
        | ex c s5 => rw [q'] at h2; exact h2
        | no => rw [q'] at h2; exact h2
      | false =>
        rw [if_neg Bool.false_ne_true]
        exact h2 σ' H3 F3 k3 e3 p3 ok3
    | ex c s3 => rw [q] at h2; exact fun C H' F' k' m ok => h2 C σ' H' F' k' m ok
    | no => rw [q] at h2; exact h2
end
end FX

/-! FX: new things, things of a def's own, cells, comprehensions, defs and their calls -/
namespace FX
open PySem L2

def obD : Ob → D
  | .lst l => .lst l
  | .dic l => .dic l
  | .ins c l => .obj c l
  | .kd l => .kdc l
  | .ld l => .ldc l
/-- things that are locked as they are given away -/
def locks : Ob → Bool
  | .kd _ => true
  | .ld _ => true
  | .dic _ => true
  | _ => false

/-- the address a is of no one -/
def Free (Hb : Hp) (k : List Addr) (F : Hp) (s : S) (σ : St) (a : Addr) : Prop :=
  F a = none ∧ a ∉ k ∧ Hb a = none ∧ ∀ (j : Nat) o, s.e[j]? = some (some (.own o)) → σ[j]? ≠ some (some (.ref a))
def tN (B : Sb) (W : WX) (m : M Ob) : TE := fun σ H Q => ∃ Hb Fb kb k F s, Ok B Hb Fb kb k F s σ H ∧ Fin B Hb Fb kb k F σ W (m s) fun o s' F' k' H' => ∀ a, Free Hb k' F' s' σ a → ObAt B F' k' H' a o → Q (.ref a) H'
abbrev SN (X : Cx) (W : WX) (e : Expr) (m : M Ob) : Prop := PE X e (tN (sbOf X) W m)

section
variable {B : Sb} {Hb Fb : Hp} {kb k k' : List Addr} {F F' : Hp} {s : S} {σ : St} {H : Hp} {W : WX} {a : Addr} {o : Ob}
/-- a new address is of no one -/
theorem Ok.free (h : Ok B Hb Fb kb k F s σ H) (n : H a = none) : Free Hb k F s σ a :=
  ⟨h.bs.freshF n, h.bs.freshk n, h.bs.fresh n, fun j o e z => by
    obtain ⟨b, e1, _, _, _, q⟩ := h.own j o e
    rw [z] at e1; cases e1
    obtain ⟨u, hu⟩ := q.has
    rw [hu] at n; cases n⟩
theorem Rep.ofOb (h : ObAt B F k H a o) (n : F a = none) : ∃ u, H a = some u ∧ ((locks o = false ∧ Rep B (upd F a u) k (.ref a) (obD o)) ∨ (locks o = true ∧ Mut (some u) ∧ ∀ od, Rep B (upd F a (.frz od u)) k (.ref a) (obD o))) := by
  have e : ∀ u, Ex F (upd F a u) := fun u => Evl.Ex.new n
  cases o with
  | lst l => obtain ⟨xs, q, r⟩ := h; exact ⟨_, q, .inl ⟨rfl, .lst upd_same (r.mono (e _) (List.prefix_refl _))⟩⟩
  | dic l => obtain ⟨xs, q, r⟩ := h; exact ⟨_, q, .inr ⟨rfl, trivial, fun od => .dic upd_same (r.mono (e _) (List.prefix_refl _))⟩⟩
  | ins c l => obtain ⟨C, dx, xs, m, q, r⟩ := h; exact ⟨_, q, .inl ⟨rfl, .obj m upd_same (r.mono (e _) (List.prefix_refl _))⟩⟩
  | kd l => obtain ⟨xs, q, r⟩ := h; exact ⟨_, q, .inr ⟨rfl, trivial, fun od => .kdc upd_same (r.mono (e _) (List.prefix_refl _))⟩⟩
  | ld l => obtain ⟨xs, q, r⟩ := h; exact ⟨_, q, .inr ⟨rfl, trivial, fun od => .ldc upd_same (r.mono (e _) (List.prefix_refl _))⟩⟩
/-- an object of no one is changed -/
theorem Ok.free_upd {p : Addr} {v : HO} (h : Ok B Hb Fb kb k F s σ H) (f : Free Hb k F s σ p) : Ok B Hb Fb kb k F s σ (upd H p v) where
  bs := {
    sub := fun a o q => by rw [upd_ne fun y => by subst y; rw [f.1] at q; cases q]; exact h.bs.sub a o q
    keep := fun a o q n => by rw [upd_ne fun y => by subst y; rw [f.2.2.1] at q; cases q]; exact h.bs.keep a o q n
    frz := h.bs.frz
    fb := h.bs.fb
    pre := h.bs.pre
    nd := h.bs.nd
    new := h.bs.new
    vol := h.bs.vol
    len := h.bs.len
    cel := fun n a o e1 e2 => (h.bs.cel n a o e1 e2).mono (Evl.Ex.refl _) (List.prefix_refl _) fun u z => by rw [upd_ne fun y => by subst y; exact f.2.1 (List.mem_of_getElem? e1)]; exact z }
  val := h.val
  own := fun i o q => by
    obtain ⟨a, e1, n1, n2, n3, r⟩ := h.own i o q
    exact ⟨a, e1, n1, n2, n3, r.mono (Evl.Ex.refl _) (List.prefix_refl _) fun u z => by rw [upd_ne fun y => by subst y; exact f.2.2.2 i o q e1]; exact z⟩
  sep := h.sep
  elen := h.elen
/-- a thing that no one changes any more -/
theorem Ok.freeze {u : HO} (h : Ok B Hb Fb kb k F s σ H) (f : Free Hb k F s σ a) (e : H a = some u) : Ok B Hb Fb kb k (upd F a u) s σ H := by
  have ex : Ex F (upd F a u) := Evl.Ex.new f.1
  refine ⟨⟨fun b w q => ?_, h.bs.keep, fun b w q => ?_, h.bs.fb.trans ex, h.bs.pre, h.bs.nd, h.bs.new, fun b hb => ?_, h.bs.len, fun n b w e1 e2 => (h.bs.cel n b w e1 e2).mono ex (List.prefix_refl _) fun _ z => z⟩, fun i d q => ?_, fun i w q => ?_, h.sep, h.elen⟩
  · by_cases hb : b = a
    · subst hb; rw [upd_same] at q; cases q; exact e
    · rw [upd_ne hb] at q; exact h.bs.sub b w q
  · by_cases hb : b = a
    · subst hb; exact .inr f.2.2.1
    · rw [upd_ne hb] at q; exact h.bs.frz b w q
  · rw [upd_ne fun z => f.2.1 (by rw [← z]; exact hb)]; exact h.bs.vol b hb
  · obtain ⟨v, e1, r⟩ := h.val i d q
    exact ⟨v, e1, r.mono ex (List.prefix_refl _)⟩
  · obtain ⟨b, e1, n, nk, nb, z⟩ := h.own i w q
    refine ⟨b, e1, ?_, nk, nb, z.mono ex (List.prefix_refl _) fun _ z => z⟩
    rw [upd_ne fun z => f.2.2.2 i w q (by rw [← z]; exact e1)]; exact n
theorem Ok.freezeL {u : HO} {od : Obj} (h : Ok B Hb Fb kb k F s σ H) (f : Free Hb k F s σ a) (e : H a = some u) : Ok B Hb Fb kb k (upd F a (.frz od u)) s σ (upd H a (.frz od u)) :=
  (h.free_upd f).freeze f upd_same
theorem set_own_inv {i j : Nat} {o' : Ob} {l : List (Option Sl)} {x : Option Sl} (e : (l.set i x)[j]? = some (some (.own o'))) : (i = j ∧ x = some (.own o') ∧ i < l.length) ∨ (i ≠ j ∧ l[j]? = some (some (.own o'))) := by
  by_cases hj : i = j
  · subst hj
    have hl : i < l.length := by
      by_cases hl : i < l.length
      · exact hl
      · rw [List.getElem?_eq_none (by simpa using hl)] at e; cases e
    rw [List.getElem?_set_self hl] at e
    exact .inl ⟨rfl, Option.some.inj e, hl⟩
  · rw [List.getElem?_set_ne hj] at e
    exact .inr ⟨hj, e⟩
theorem set_val_inv {i j : Nat} {d : D} {l : List (Option Sl)} {x : Option Sl} (e : (l.set i x)[j]? = some (some (.val d))) : (i = j ∧ x = some (.val d) ∧ i < l.length) ∨ (i ≠ j ∧ l[j]? = some (some (.val d))) := by
  by_cases hj : i = j
  · subst hj
    have hl : i < l.length := by
      by_cases hl : i < l.length
      · exact hl
      · rw [List.getElem?_eq_none (by simpa using hl)] at e; cases e
    rw [List.getElem?_set_self hl] at e
    exact .inl ⟨rfl, Option.some.inj e, hl⟩
  · rw [List.getElem?_set_ne hj] at e
    exact .inr ⟨hj, e⟩
/-- a slot takes a thing of its own -/
theorem Ok.setO {i : Nat} (h : Ok B Hb Fb kb k F s σ H) (f : Free Hb k F s σ a) (q : ObAt B F k H a o) : Ok B Hb Fb kb k F (FX.setO i o s) (σ.set i (some (.ref a))) H where
  bs := h.bs
  val := fun j d e => by
    rcases set_val_inv e with ⟨_, z, _⟩ | ⟨hj, z⟩
    · cases z
    · obtain ⟨v, e1, r⟩ := h.val j d z
      exact ⟨v, by rw [List.getElem?_set_ne hj]; exact e1, r⟩
  own := fun j o' e => by
    rcases set_own_inv e with ⟨rfl, z, hl⟩ | ⟨hj, z⟩
    · cases z
      exact ⟨a, List.getElem?_set_self (by rw [← h.elen]; exact hl), f.1, f.2.1, f.2.2.1, q⟩
    · obtain ⟨b, e1, r⟩ := h.own j o' z
      exact ⟨b, by rw [List.getElem?_set_ne hj]; exact e1, r⟩
  sep := fun j l o1 o2 b hn e1 e2 e3 e4 => by
    rcases set_own_inv e1 with ⟨rfl, z1, hl1⟩ | ⟨hj1, z1⟩
    · rcases set_own_inv e2 with ⟨rfl, z2, _⟩ | ⟨hj2, z2⟩
      · exact hn rfl
      · rw [List.getElem?_set_self (by rw [← h.elen]; exact hl1)] at e3
        cases e3
        rw [List.getElem?_set_ne hj2] at e4
        exact f.2.2.2 l o2 z2 e4
    · rcases set_own_inv e2 with ⟨rfl, z2, hl2⟩ | ⟨hj2, z2⟩
      · rw [List.getElem?_set_self (by rw [← h.elen]; exact hl2)] at e4
        cases e4
        rw [List.getElem?_set_ne hj1] at e3
        exact f.2.2.2 j o1 z1 e3
      · rw [List.getElem?_set_ne hj1] at e3
        rw [List.getElem?_set_ne hj2] at e4
        exact h.sep j l o1 o2 b hn z1 z2 e3 e4
  elen := by
    show (s.e.set i _).length = _
    rw [List.length_set, List.length_set]; exact h.elen
/-- the thing of a slot is changed -/
theorem Ok.mut {i : Nat} {o o' : Ob} {u : HO} (h : Ok B Hb Fb kb k F s σ H) (e : s.e[i]? = some (some (.own o))) (ea : σ[i]? = some (some (.ref a))) (q : ObAt B F k (upd H a u) a o') : Ok B Hb Fb kb k F (FX.setO i o' s) σ (upd H a u) := by
  obtain ⟨b, e1, nF, nk, nb, _⟩ := h.own i o e
  rw [ea] at e1
  cases e1
  have hl : i < s.e.length := (List.getElem?_eq_some_iff.mp e).1
  refine ⟨⟨fun b w z => ?_, fun b w z n => ?_, h.bs.frz, h.bs.fb, h.bs.pre, h.bs.nd, h.bs.new, h.bs.vol, h.bs.len, fun n b w e1 e2 => ?_⟩, fun j d z => ?_, fun j w z => ?_, fun j l o1 o2 b hn e1 e2 e3 e4 => ?_, ?_⟩
  · rw [upd_ne fun y => by subst y; rw [nF] at z; cases z]; exact h.bs.sub b w z
  · rw [upd_ne fun y => by subst y; rw [nb] at z; cases z]; exact h.bs.keep b w z n
  · refine (h.bs.cel n b w e1 e2).mono (Evl.Ex.refl _) (List.prefix_refl _) fun u z => ?_
    rw [upd_ne fun y => by subst y; exact nk (List.mem_of_getElem? e1)]; exact z
  · rcases set_val_inv z with ⟨_, y, _⟩ | ⟨hj, y⟩
    · cases y
    · exact h.val j d y
  · rcases set_own_inv z with ⟨rfl, y, _⟩ | ⟨hj, y⟩
    · cases y
      exact ⟨a, ea, nF, nk, nb, q⟩
    · obtain ⟨b, e1, n1, n2, n3, r⟩ := h.own j w y
      refine ⟨b, e1, n1, n2, n3, r.mono (Evl.Ex.refl _) (List.prefix_refl _) fun u z => ?_⟩
      rw [upd_ne fun y' => by subst y'; exact h.sep i j o w b hj e y ea e1]; exact z
  · have back : ∀ {j : Nat} {o : Ob}, (FX.setO i o' s).e[j]? = some (some (.own o)) → ∃ o2, s.e[j]? = some (some (.own o2)) := fun {j o3} z => by
      rcases set_own_inv z with ⟨rfl, y, _⟩ | ⟨_, y⟩
      · exact ⟨o, e⟩
      · exact ⟨_, y⟩
    obtain ⟨p1, q1⟩ := back e1
    obtain ⟨p2, q2⟩ := back e2
    exact h.sep j l p1 p2 b hn q1 q2 e3 e4
  · show (s.e.set i _).length = _
    rw [List.length_set]; exact h.elen
/-- a cell is changed -/
theorem Ok.mutC {n : Nat} {o' : Ob} {u : HO} (h : Ok B Hb Fb kb k F s σ H) (ea : k[n]? = some a) (q : ObAt B F k (upd H a u) a o') : Ok B Hb Fb kb k F ⟨s.e, s.g.set n o'⟩ σ (upd H a u) := by
  have ha : a ∈ k := List.mem_of_getElem? ea
  have ne : ∀ b w, F b = some w → b ≠ a := fun b w z y => by subst y; rw [h.bs.vol b ha] at z; cases z
  refine ⟨⟨fun b w z => ?_, fun b w z n => ?_, h.bs.frz, h.bs.fb, h.bs.pre, h.bs.nd, h.bs.new, h.bs.vol, ?_, fun j b w e1 e2 => ?_⟩, h.val, fun j w z => ?_, h.sep, h.elen⟩
  · rw [upd_ne (ne b w z)]; exact h.bs.sub b w z
  · rw [upd_ne fun y => by
      subst y
      rcases h.bs.new b ha with r | r
      · exact n r
      · rw [r] at z; cases z]
    exact h.bs.keep b w z n
  · show k.length = (s.g.set n o').length
    rw [List.length_set]; exact h.bs.len
  · by_cases hj : n = j
    · subst hj
      rw [ea] at e1; cases e1
      have hl : n < s.g.length := by rw [← h.bs.len]; exact (List.getElem?_eq_some_iff.mp ea).1
      rw [List.getElem?_set_self hl] at e2
      cases e2
      exact q
    · rw [List.getElem?_set_ne hj] at e2
      refine (h.bs.cel j b w e1 e2).mono (Evl.Ex.refl _) (List.prefix_refl _) fun u z => ?_
      rw [upd_ne fun y => by
        subst y
        exact hj (by
          obtain ⟨h1, q1⟩ := List.getElem?_eq_some_iff.mp ea
          obtain ⟨h2, q2⟩ := List.getElem?_eq_some_iff.mp e1
          exact (List.getElem_inj h.bs.nd).mp (q1.trans q2.symm))]
      exact z
  · obtain ⟨b, e1, n1, n2, n3, r⟩ := h.own j w z
    refine ⟨b, e1, n1, n2, n3, r.mono (Evl.Ex.refl _) (List.prefix_refl _) fun u z => ?_⟩
    rw [upd_ne fun y => by subst y; exact n2 ha]; exact z
end

/-- .. and what comes out may be locked -/
def tLk (t : TE) : TE := fun σ H Q => t σ H fun v H1 => Q v H1 ∨ ∃ a u, H1 a = some u ∧ Mut (some u) ∧ ∀ od, Q v (upd H1 a (.frz od u))
theorem pe_lk {X : Cx} {e : Expr} {t : TE} (h : PE X e t) : PE X e (tLk t) := ⟨fun pins s σ H Q I q => thn (h.run pins s σ H _ I q) fun v s1 ⟨x, H1, I1, r1, q1⟩ => by
  rcases q1 with q1 | ⟨a, u, hu, mu, q1⟩
  · exact ⟨x, H1, I1, r1, q1⟩
  · obtain ⟨od, I2⟩ := I1.lock hu mu
    exact ⟨x, _, I2, r1, q1 od⟩⟩
theorem Fin.res {α : Type} {B : Sb} {Hb Fb : Hp} {kb k : List Addr} {F : Hp} {σ : St} {W : WX} {r : R α} {P : α → S → Hp → List Addr → Hp → Prop} (h : Fin B Hb Fb kb k F σ W r P) : Fin B Hb Fb kb k F σ W r (fun a s' F' k' H' => r = .ok a s' ∧ P a s' F' k' H') := by
  cases r with
  | ok a s' => exact fun H' F' k' e p o => ⟨rfl, h H' F' k' e p o⟩
  | ex c s' => exact h
  | no => exact h
def mFz (m : M Ob) : M D := mbind m fun o => mpure (obD o)
def mSetN (i : Nat) (m : M Ob) : M Out := mbind m fun o => fun s => .ok .nx (setO i o s)
/-- a slot's own thing, given away -/
def mTake (i : Nat) : M D := fun s => match s.e[i]? with
  | some (some (.own o)) => .ok (obD o) (setV i (obD o) s)
  | some (some (.val d)) => .ok d s
  | _ => .no
def mLst (m : M (List D)) : M Ob := mbind m fun ds => if ds.length ≤ 100000 then mpure (.lst ds) else mno
def mTup (m : M (List D)) : M D := mbind m fun ds => if ds.length ≤ 100000 then mpure (.tup ds) else mno
section
variable {X : Cx} {W : WX} {pos : Pos} {e : Expr} {m : M Ob} {es : List Expr} {ma : M (List D)}
theorem se_ofN (h : SN X W e m) : SE X W e (mFz m) := PE_imp (pe_lk h) fun σ H Q ⟨Hb, Fb, kb, k, F, s, ok, h⟩ =>
  ⟨Hb, Fb, kb, k, F, s, ok, h.bind.imp fun o s1 F1 k1 H1 e1 p1 ok1 h1 a f q => by
    obtain ⟨u, hu, ⟨_, r⟩ | ⟨_, mu, r⟩⟩ := Rep.ofOb q f.1
    · exact .inl (h1 H1 _ k1 (Evl.Ex.new f.1) (List.prefix_refl _) (ok1.freeze f hu) _ r)
    · exact .inr ⟨a, u, hu, mu, fun od => h1 _ _ k1 (Evl.Ex.new f.1) (List.prefix_refl _) (ok1.freezeL f hu) _ (r od)⟩⟩
theorem ss_setN {i : Nat} {x : Str} {pos' : Pos} (hN : X.N.Nodup) (he : SN X W e m) (hi : X.N[i]? = some x := by rfl) (hx : Loc X.env.scope x := by first | exact Or.inl rfl | exact Or.inr rfl) (hs : swapsWith e (some (.Name x pos')) pos.line X.env = pure false := by rfl)
    (hf : X.fn x = true ∨ X.env.scope.names.lookup x = some .local := by first | exact .inl rfl | exact .inr rfl | assumption) : SS X W (.Assign [.Name x pos'] e pos) (mSetN i m) := PS_imp (ps_set hN hi hx he hs hf) fun E σ H ⟨Hb, Fb, kb, k, F, s, ok, h⟩ =>
  ⟨Hb, Fb, kb, k, F, s, ok, (FinS.ofBind h).imp fun o s1 F1 k1 H1 e1 p1 ok1 h1 a f q => h1 _ H1 F1 k1 (Evl.Ex.refl _) (List.prefix_refl _) (ok1.setO f q)⟩
theorem se_take {i : Nat} {x : Str} (hN : X.N[i]? = some x := by rfl) (hv : Vis X.env.scope x := by first | exact Or.inl rfl | exact Or.inr (Or.inl rfl) | exact Or.inr (Or.inr rfl)) (hd : (x == ("__debug__" : Str)) = false := by decide)
    (hcd : (x == ("__classdict__" : Str)) = false := by decide) : SE X W (.Name x pos) (mTake i) := PE_imp (pe_lk (pe_var hN hv hd hcd)) fun σ H Q ⟨Hb, Fb, kb, k, F, s, ok, h⟩ => by
  unfold mTake at h
  cases e : s.e[i]? with
  | none => rw [e] at h; exact h.elim
  | some z =>
    cases z with
    | none => rw [e] at h; exact h.elim
    | some y =>
      cases y with
      | val d =>
        rw [e] at h
        obtain ⟨v, e1, r⟩ := ok.val i d e
        exact ⟨v, e1, .inl (h H F k (Evl.Ex.refl _) (List.prefix_refl _) ok v r)⟩
      | own o =>
        rw [e] at h
        obtain ⟨a, e1, nF, nk, nb, q⟩ := ok.own i o e
        refine ⟨.ref a, e1, ?_⟩
        -- the slot is a value from now on
        have ok1 : Ok (sbOf X) Hb Fb kb k F ⟨s.e.set i none, s.g⟩ σ H := by
          refine ⟨ok.bs, fun j d z => ?_, fun j w z => ?_, fun j l o1 o2 b hn z1 z2 z3 z4 => ?_, ?_⟩
          · rcases set_val_inv z with ⟨_, y, _⟩ | ⟨_, y⟩
            · cases y
            · exact ok.val j d y
          · rcases set_own_inv z with ⟨_, y, _⟩ | ⟨_, y⟩
            · cases y
            · exact ok.own j w y
          · rcases set_own_inv z1 with ⟨_, y, _⟩ | ⟨_, y1⟩
            · cases y
            · rcases set_own_inv z2 with ⟨_, y, _⟩ | ⟨_, y2⟩
              · cases y
              · exact ok.sep j l o1 o2 b hn y1 y2 z3 z4
          · show (s.e.set i none).length = _
            rw [List.length_set]; exact ok.elen
        have fr : Free Hb k F ⟨s.e.set i none, s.g⟩ σ a := ⟨nF, nk, nb, fun j w z y => by
          rcases set_own_inv z with ⟨_, y', _⟩ | ⟨hj, y'⟩
          · cases y'
          · exact ok.sep i j o w a hj e y' e1 y⟩
        have es : FX.setV i (obD o) ⟨s.e.set i none, s.g⟩ = FX.setV i (obD o) s := by
          show S.mk ((s.e.set i none).set i _) s.g = S.mk (s.e.set i _) s.g
          rw [List.set_set]
        have eσ : σ.set i (some (.ref a)) = σ := by
          apply List.ext_getElem?
          intro j
          by_cases hj : i = j
          · subst hj
            rw [List.getElem?_set_self (List.getElem?_eq_some_iff.mp e1).1, e1]
          · rw [List.getElem?_set_ne hj]
        obtain ⟨u, hu, ⟨_, r⟩ | ⟨_, mu, r⟩⟩ := Rep.ofOb q nF
        · have ok2 := (ok1.freeze fr hu).setV (i := i) r
          rw [es, eσ] at ok2
          exact .inl (h H (upd F a u) k (Evl.Ex.new nF) (List.prefix_refl _) ok2 _ r)
        · refine .inr ⟨a, u, hu, mu, fun od => ?_⟩
          have ok2 := (ok1.freezeL (od := od) fr hu).setV (i := i) (r od)
          rw [es, eσ] at ok2
          exact h _ (upd F a (.frz od u)) k (Evl.Ex.new nF) (List.prefix_refl _) ok2 _ (r od)
theorem sn_list (h : SA X W es ma) : SN X W (.List es pos) (mLst ma) := PE_imp (pe_lst h) fun σ H Q ⟨Hb, Fb, kb, k, F, s, ok, h⟩ =>
  ⟨Hb, Fb, kb, k, F, s, ok, h.bind.imp fun ds s1 F1 k1 H1 e1 p1 ok1 h1 vs rv => by
    by_cases hl : ds.length ≤ 100000
    · rw [if_pos hl] at h1
      refine ⟨by rw [rv.length]; exact Evl.sz_of hl, fun p hp => ?_⟩
      exact h1 _ F1 k1 (Evl.Ex.refl _) (List.prefix_refl _) (ok1.grow (Grow.junk ok1.bs.sub hp)) p (ok1.free hp) ⟨vs, upd_same, rv⟩
    · rw [if_neg hl] at h1; exact h1.elim⟩
theorem se_tup {x1} (h : SA X W es ma) : SE X W (.Tuple es x1 pos) (mTup ma) := PE_imp (pe_tup h) fun σ H Q ⟨Hb, Fb, kb, k, F, s, ok, h⟩ =>
  ⟨Hb, Fb, kb, k, F, s, ok, h.bind.imp fun ds s1 F1 k1 H1 e1 p1 ok1 h1 vs rv => by
    by_cases hl : ds.length ≤ 100000
    · rw [if_pos hl] at h1
      refine ⟨by rw [rv.length]; exact Evl.sz_of hl, fun p hp => ?_⟩
      have gr := Grow.one (o := .tup vs) ok1.bs.sub hp
      exact h1 _ _ k1 gr.ff (List.prefix_refl _) (ok1.grow gr) (.ref p) (.tup (.inl (.inl upd_same)) (rv.mono gr.ff (List.prefix_refl _)))
    · rw [if_neg hl] at h1; exact h1.elim⟩
end

theorem mbind_ok {α β : Type} {m : M α} {f : α → M β} {s s' : S} {b : β} (h : mbind m f s = .ok b s') : ∃ a s1, m s = .ok a s1 ∧ f a s1 = .ok b s' := by
  unfold mbind at h
  cases e : m s with
  | ok a s1 => rw [e] at h; exact ⟨a, s1, rfl, h⟩
  | ex c s1 => rw [e] at h; cases h
  | no => rw [e] at h; cases h

/-! ### comprehensions -/
def wipeE (e : List (Option Sl)) : List Nat → List (Option Sl)
  | [] => e
  | v :: vs => (wipeE e vs).set v none
def hideE (e : List (Option Sl)) : List (Option Sl) := e.map fun x => match x with
  | some (.val d) => some (.val d)
  | _ => none
def compR (e0 : List (Option Sl)) (body : D → M (Option D)) : List D → List Ob → Option (List D × List Ob)
  | [], g => some ([], g)
  | d :: r, g => match body d ⟨e0, g⟩ with
    | .ok none s' => compR e0 body r s'.g
    | .ok (some y) s' => (match compR e0 body r s'.g with
      | some (l, g') => some (y :: l, g')
      | none => none)
    | _ => none
def cbody (g : D → M Unit) (t : M Bool) (e : M D) : D → M (Option D) := fun d => mbind (g d) fun _ => mbind t fun b => if b = true then mbind e fun y => mpure (some y) else mpure none
def mComp (mi : M (List D)) (vs : List Nat) (g : D → M Unit) (t : M Bool) (e : M D) : M Ob := mbind mi fun ds s => match compR (hideE (wipeE s.e vs)) (cbody g t e) ds s.g with
  | some (l, g') => if l.length ≤ 100000 then .ok (.lst l) ⟨s.e, g'⟩ else .no
  | none => .no
theorem comp_lst {mi : M (List D)} {vs : List Nat} {g : D → M Unit} {t : M Bool} {e : M D} {s s' : S} {o : Ob} (h : mComp mi vs g t e s = .ok o s') : ∃ l, o = .lst l := by
  unfold mComp mbind at h
  cases q : mi s with
  | ok ds s1 =>
    rw [q] at h
    dsimp only at h
    cases q2 : compR (hideE (wipeE s1.e vs)) (cbody g t e) ds s1.g with
    | none => rw [q2] at h; cases h
    | some z =>
      obtain ⟨l, g'⟩ := z
      rw [q2] at h
      dsimp only at h
      split at h
      · cases h; exact ⟨l, rfl⟩
      · cases h
  | ex c s1 => rw [q] at h; cases h
  | no => rw [q] at h; cases h
abbrev STs (X : Cx) (W : WX) (ifs : List Expr) (m : M Bool) : Prop := PTs X ifs (tT (sbOf X) W m)
section
variable {X : Cx} {W : WX} {pos : Pos}
theorem PTs_imp {ifs : List Expr} {t t' : TT} (h : PTs X ifs t) (i : ∀ σ H Q, t' σ H Q → t σ H Q) : PTs X ifs t' := ⟨fun pins s σ H Q I q => h.run pins s σ H Q I (i σ H Q q)⟩
theorem sts_nil : STs X W [] (mpure true) := PTs_imp pts_nil fun σ H Q ⟨Hb, Fb, kb, k, F, s, ok, h⟩ => h H F k (Evl.Ex.refl _) (List.prefix_refl _) ok
theorem sts_one {c : Expr} {t : M Bool} (h : ST X W c t) : STs X W [c] t := pts_one h
theorem wipe_at {σ : St} : ∀ {vs : List Nat} {i : Nat}, i ∉ vs → (wipe σ vs)[i]? = σ[i]?
  | [], _, _ => rfl
  | v :: vs, i, h => by
    unfold wipe
    rw [List.getElem?_set_ne fun z => h (by rw [z]; exact List.mem_cons_self)]
    exact wipe_at fun z => h (List.mem_cons_of_mem _ z)
theorem wipe_in {σ : St} : ∀ {vs : List Nat} {i : Nat}, i ∈ vs → i < σ.length → (wipe σ vs)[i]? = some none
  | v :: vs, i, h, hl => by
    unfold wipe
    by_cases hv : v = i
    · subst hv
      exact List.getElem?_set_self (by rw [wipe_length]; exact hl)
    · rw [List.getElem?_set_ne hv]
      rcases List.mem_cons.mp h with z | z
      · exact absurd z.symm hv
      · exact wipe_in z hl
theorem wipe_agree {us vs : List Nat} {σ σ' : St} (hu : ∀ i ∈ us, i ∈ vs) (a : Agree us σ σ') : wipe σ' vs = wipe σ vs := by
  apply List.ext_getElem?
  intro i
  by_cases hi : i ∈ vs
  · by_cases hl : i < σ.length
    · rw [wipe_in hi hl, wipe_in hi (by rw [a.1]; exact hl)]
    · rw [List.getElem?_eq_none (by rw [wipe_length, a.1]; omega), List.getElem?_eq_none (by rw [wipe_length]; omega)]
  · rw [wipe_at hi, wipe_at hi]
    exact a.2 i fun z => hi (hu i z)
theorem wipe_wipe (σ : St) (vs : List Nat) : wipe (wipe σ vs) vs = wipe σ vs := by
  apply List.ext_getElem?
  intro i
  by_cases hi : i ∈ vs
  · by_cases hl : i < σ.length
    · rw [wipe_in hi (by rw [wipe_length]; exact hl), wipe_in hi hl]
    · rw [List.getElem?_eq_none (by rw [wipe_length, wipe_length]; omega), List.getElem?_eq_none (by rw [wipe_length]; omega)]
  · rw [wipe_at hi]
theorem wipeE_length (e : List (Option Sl)) : ∀ vs : List Nat, (wipeE e vs).length = e.length
  | [] => rfl
  | v :: vs => by unfold wipeE; rw [List.length_set, wipeE_length e vs]
theorem wipeE_some {e : List (Option Sl)} {i : Nat} {x : Sl} : ∀ {vs : List Nat}, (wipeE e vs)[i]? = some (some x) → e[i]? = some (some x) ∧ i ∉ vs
  | [], h => ⟨h, by simp⟩
  | v :: vs, h => by
    unfold wipeE at h
    by_cases hi : v = i
    · subst hi
      by_cases hv : v < (wipeE e vs).length
      · rw [List.getElem?_set_self hv] at h; cases h
      · rw [List.getElem?_eq_none (by simpa using hv)] at h; cases h
    · rw [List.getElem?_set_ne hi] at h
      obtain ⟨h1, h2⟩ := wipeE_some h
      exact ⟨h1, by simp only [List.mem_cons, not_or]; exact ⟨fun e => hi e.symm, h2⟩⟩
theorem hideE_val {e : List (Option Sl)} {i : Nat} {d : D} (h : (hideE e)[i]? = some (some (.val d))) : e[i]? = some (some (.val d)) := by
  unfold hideE at h
  rw [List.getElem?_map] at h
  cases q : e[i]? with
  | none => rw [q] at h; cases h
  | some x =>
    rw [q] at h
    cases x with
    | none => cases h
    | some y =>
      cases y with
      | val d' => exact h
      | own o => cases h
theorem hideE_own {e : List (Option Sl)} {i : Nat} {o : Ob} (h : (hideE e)[i]? = some (some (.own o))) : False := by
  unfold hideE at h
  rw [List.getElem?_map] at h
  cases q : e[i]? with
  | none => rw [q] at h; cases h
  | some x =>
    rw [q] at h
    cases x with
    | none => cases h
    | some y =>
      cases y with
      | val d' => cases h
      | own o => cases h
/-- a block within: it changes nothing that stands -/
theorem Ok.inner {B : Sb} {Hb Fb : Hp} {kb k : List Addr} {F : Hp} {s : S} {σ : St} {H : Hp} (h : Ok B Hb Fb kb k F s σ H) (vs : List Nat) : Ok B H F k k F ⟨hideE (wipeE s.e vs), s.g⟩ (wipe σ vs) H where
  bs := h.bs.start
  val := fun i d e => by
    obtain ⟨e1, hn⟩ := wipeE_some (hideE_val e)
    obtain ⟨v, e2, r⟩ := h.val i d e1
    exact ⟨v, by rw [wipe_at hn]; exact e2, r⟩
  own := fun i o e => (hideE_own e).elim
  sep := fun i j o o' a _ e _ _ _ => (hideE_own e).elim
  elen := by
    show (hideE (wipeE s.e vs)).length = _
    unfold hideE
    rw [List.length_map, wipeE_length, wipe_length]; exact h.elen
theorem compR_cons {e0 : List (Option Sl)} {body : D → M (Option D)} {d : D} {r : List D} {g : List Ob} {l : List D} {g' : List Ob} (h : compR e0 body (d :: r) g = some (l, g')) :
    ∃ y s', body d ⟨e0, g⟩ = .ok y s' ∧ match y with
      | none => compR e0 body r s'.g = some (l, g')
      | some y => ∃ l', l = y :: l' ∧ compR e0 body r s'.g = some (l', g') := by
  unfold compR at h
  cases q : body d ⟨e0, g⟩ with
  | ok y s' =>
    rw [q] at h
    cases y with
    | none => exact ⟨none, s', rfl, h⟩
    | some y =>
      refine ⟨some y, s', rfl, ?_⟩
      have h : (match compR e0 body r s'.g with | some (l, g') => some (y :: l, g') | none => none) = some (l, g') := h
      cases q' : compR e0 body r s'.g with
      | none => rw [q'] at h; cases h
      | some z =>
        rw [q'] at h
        obtain ⟨l', g2⟩ := z
        cases h
        exact ⟨l', rfl, rfl⟩
  | ex c s' => rw [q] at h; cases h
  | no => rw [q] at h; cases h
theorem lc_imp {B : Sb} {mi : M (List D)} {vs0 us : List Nat} {g : D → M Unit} {t : M Bool} {me : M D} (hu : ∀ i ∈ us, i ∈ vs0) (σ : St) (H : Hp) (Q : VK) : tN B W (mComp mi vs0 g t me) σ H Q →
    tLc (tI B W mi) (tG B us g) (tT B (fun _ _ _ _ => False) t) (tE B (fun _ _ _ _ => False) me) vs0 σ H Q := fun ⟨Hb, Fb, kb, k, F, s, ok, h⟩ => ⟨Hb, Fb, kb, k, F, s, ok, h.bind.imp fun ds s1 F1 k1 H1 e1 p1 ok1 h1 J wk D hD => by
    have h1 : Fin B Hb Fb kb k1 F1 σ W (match compR (hideE (wipeE s1.e vs0)) (cbody g t me) ds s1.g with | some (l, g') => if l.length ≤ 100000 then .ok (Ob.lst l) ⟨s1.e, g'⟩ else .no | none => .no) (fun o s' F' k' H' => ∀ a, Free Hb k' F' s' σ a → ObAt B F' k' H' a o → Q (.ref a) H') := h1
    cases q : compR (hideE (wipeE s1.e vs0)) (cbody g t me) ds s1.g with
    | none => rw [q] at h1; exact h1.elim
    | some z =>
      obtain ⟨l, gf⟩ := z
      rw [q] at h1
      have h1 : Fin B Hb Fb kb k1 F1 σ W (if l.length ≤ 100000 then .ok (Ob.lst l) ⟨s1.e, gf⟩ else .no) (fun o s' F' k' H' => ∀ a, Free Hb k' F' s' σ a → ObAt B F' k' H' a o → Q (.ref a) H') := h1
      by_cases hl : l.length ≤ 100000
      case neg => rw [if_neg hl] at h1; exact h1.elim
      rw [if_pos hl] at h1
      have fr0 := ok1.free hD
      refine ⟨fun i m H' => m = ds.length - i ∧ i ≤ ds.length ∧ ∃ F2 k2 g2 vs ys rest, Ex F1 F2 ∧ Pre k1 k2 ∧ Ok B Hb Fb kb k2 F2 ⟨s1.e, g2⟩ σ H' ∧ Free Hb k2 F2 ⟨s1.e, g2⟩ σ D ∧ H' D = some (.lst vs) ∧ RepL B F2 k2 vs ys ∧
          compR (hideE (wipeE s1.e vs0)) (cbody g t me) (ds.drop i) g2 = some (rest, gf) ∧ l = ys ++ rest,
        ⟨ds.length, by simp, Nat.zero_le _, F1, k1, s1.g, [], [], l, Evl.Ex.refl _, List.prefix_refl _, ok1.grow (Grow.junk ok1.bs.sub hD), fr0, upd_same, .nil, q, rfl⟩, ?_⟩
      rintro i m H' ⟨rfl, hi', F2, k2, g2, vs, ys, rest, e2, p2, ok2, fr2, hD2, rl2, hcr, hl2⟩
      obtain ⟨go, stop, yld⟩ := wk F2 H' k2 e2 p2 ok2.bs.sub
      by_cases hlt : i < ds.length
      · refine .inr ⟨go i hlt, fun H3 => ∃ F3 k3 g3 vs ys rest, Ex F1 F3 ∧ Pre k1 k3 ∧ Ok B Hb Fb kb k3 F3 ⟨s1.e, g3⟩ σ H3 ∧ Free Hb k3 F3 ⟨s1.e, g3⟩ σ D ∧ H3 D = some (.lst vs) ∧ RepL B F3 k3 vs ys ∧
          compR (hideE (wipeE s1.e vs0)) (cbody g t me) (ds.drop (i + 1)) g3 = some (rest, gf) ∧ l = ys ++ rest, fun H3 z => ⟨ds.length - (i + 1), by omega, rfl, hlt, z⟩, fun x H3 y => ?_⟩
        obtain ⟨F3, d, gr, hd, rd⟩ := yld i x H3 hlt y
        rw [drop_get hd] at hcr
        obtain ⟨yy, s4, hb, hrest⟩ := compR_cons hcr
        have ok3 := ok2.grow gr
        have okI := ok3.inner vs0
        have hD3 : H3 D = some (.lst vs) := gr.hh D _ hD2
        have nD3 : D ∉ k2 := fr2.2.1
        -- the body's run
        have hb' : mbind (g d) (fun _ => mbind t fun b => if b = true then mbind me fun y => mpure (some y) else mpure none) ⟨hideE (wipeE s1.e vs0), g2⟩ = .ok yy s4 := hb
        -- what is left of D behind the block
        have after : ∀ {k4 F4 g4 H4}, Ex F3 F4 → Bs B H3 F3 k2 k4 F4 g4 H4 → Ok B Hb Fb kb k4 F4 ⟨s1.e, g4⟩ σ H4 ∧ Free Hb k4 F4 ⟨s1.e, g4⟩ σ D ∧ H4 D = some (.lst vs) := fun {k4 F4 g4 H4} e4 b4 => by
          refine ⟨ok3.evo b4, ⟨?_, fun z => ?_, fr2.2.2.1, fr2.2.2.2⟩, b4.keep D _ hD3 nD3⟩
          · cases z : F4 D with
            | none => rfl
            | some o' =>
              rcases b4.frz D o' z with y | y
              · rcases gr.new D o' y with y' | y'
                · rw [fr2.1] at y'; cases y'
                · rw [hD2] at y'; cases y'
              · rw [hD3] at y; cases y
          · rcases b4.new D z with y | y
            · exact nD3 y
            · rw [hD3] at y; cases y
        refine ⟨H3, F3, k2, k2, F3, ⟨hideE (wipeE s1.e vs0), g2⟩, d, okI, rd, ?_⟩
        obtain ⟨u, s5, q1, hb1⟩ := mbind_ok hb'
        obtain ⟨b, s6, q2, hb2⟩ := mbind_ok hb1
        rw [q1]
        intro σ4 H4 F4 k4 e4 p4 ag ok4
        refine ⟨(wipe_agree hu ag).trans (wipe_wipe σ _), H3, F3, k2, k4, F4, s5, ok4, ?_⟩
        rw [q2]
        intro H5 F5 k5 e5 p5 ok5
        cases b with
        | false =>
              rw [if_neg Bool.false_ne_true]
              have hb' : R.ok none s6 = R.ok yy s4 := hb2
              cases hb'
              obtain ⟨a1, a2, a3⟩ := after (e4.trans e5) ok5.bs
              exact ⟨F5, k5, s4.g, vs, ys, rest, e2.trans (gr.ff.trans (e4.trans e5)), p2.trans (p4.trans p5), a1, a2, a3, rl2.mono (gr.ff.trans (e4.trans e5)) (p4.trans p5), hrest, hl2⟩
        | true =>
                rw [if_pos rfl]
                refine ⟨H3, F3, k2, k5, F5, s6, ok5, ?_⟩
                obtain ⟨y, s7, q3, hb3⟩ := mbind_ok (show mbind me (fun y => mpure (some y)) s6 = R.ok yy s4 from hb2)
                rw [q3]
                have hb' : R.ok (some y) s7 = R.ok yy s4 := hb3
                cases hb'
                obtain ⟨l', rfl, hrest⟩ := hrest
                intro H6 F6 k6 e6 p6 ok6 v rv
                have e36 : Ex F3 F6 := e4.trans (e5.trans e6)
                have p36 : Pre k2 k6 := p4.trans (p5.trans p6)
                obtain ⟨a1, a2, a3⟩ := after e36 ok6.bs
                refine ⟨vs, a3, ?_, F6, k6, s4.g, vs ++ [v], ys ++ [y], l', e2.trans (gr.ff.trans e36), p2.trans p36, ?_, a2, upd_same, (rl2.mono (gr.ff.trans e36) p36).append (.cons rv .nil), hrest, ?_⟩
                · refine Evl.sz_lt ?_
                  rw [rl2.length]
                  rw [hl2, List.length_append, List.length_cons] at hl
                  omega
                · -- D is changed: no one's
                  have nF : ∀ b w, F6 b = some w → b ≠ D := fun b w z y => by subst y; rw [a2.1] at z; cases z
                  refine ⟨⟨fun b w z => ?_, fun b w z n => ?_, a1.bs.frz, a1.bs.fb, a1.bs.pre, a1.bs.nd, a1.bs.new, a1.bs.vol, a1.bs.len, fun n b w z1 z2 => ?_⟩, a1.val, fun j w z => ?_, a1.sep, a1.elen⟩
                  · rw [upd_ne (nF b w z)]; exact a1.bs.sub b w z
                  · rw [upd_ne fun y => by subst y; rw [a2.2.2.1] at z; cases z]; exact a1.bs.keep b w z n
                  · refine (a1.bs.cel n b w z1 z2).mono (Evl.Ex.refl _) (List.prefix_refl _) fun u z => ?_
                    rw [upd_ne fun y => by subst y; exact a2.2.1 (List.mem_of_getElem? z1)]; exact z
                  · obtain ⟨b, y1, n1, n2, n3, r⟩ := a1.own j w z
                    refine ⟨b, y1, n1, n2, n3, r.mono (Evl.Ex.refl _) (List.prefix_refl _) fun u z' => ?_⟩
                    rw [upd_ne fun y => by subst y; exact a2.2.2.2 j w z y1]; exact z'
                · rw [hl2, List.append_assoc]; rfl
      · have e : i = ds.length := by omega
        subst e
        rw [List.drop_length] at hcr
        have z : some ([], g2) = some (rest, gf) := hcr
        cases z
        rw [List.append_nil] at hl2
        subst hl2
        exact .inl ⟨stop, h1 H' F2 k2 e2 p2 ok2 D fr2 ⟨vs, hD2, rl2⟩⟩⟩

variable {elt tg iter : Expr} {ifs : List Expr} {scope : Scope} {own : List (Str × Nat)} {mi : M (List D)} {us : List Nat} {g : D → M Unit} {t : M Bool} {me : M D}
theorem sn_lc (hN : X.N.Nodup) (hi : SI X W tg iter mi) (ok : BlkOk X.N X.env.scope scope own)
    (hg : ∀ (s : Shared) (H : Hp) (C : Addr) (cl : List (Str × Addr)) (fp : List Addr), SG (X.blk s H scope (compEnvC scope cl C X.env) fp) tg us g)
    (ht : ∀ (s : Shared) (H : Hp) (C : Addr) (cl : List (Str × Addr)) (fp : List Addr), STs (X.blk s H scope (compEnvC scope cl C X.env) fp) (fun _ _ _ _ => False) ifs t)
    (he : ∀ (s : Shared) (H : Hp) (C : Addr) (cl : List (Str × Addr)) (fp : List Addr), SE (X.blk s H scope (compEnvC scope cl C X.env) fp) (fun _ _ _ _ => False) elt me) (hu : ∀ i ∈ us, i ∈ own.map (·.2)) (hc : X.calm = true := by rfl)
    (hs : ∀ x, foldedSetIterable iter X.env x = pure x := by intro _; rfl) : SN X W (.ListComp elt [⟨tg, iter, ifs, 0⟩] scope pos) (mComp mi (own.map (·.2)) g t me) :=
  PE_imp (pe_lc (g := tG (sbOf X) us g) (tt := tT (sbOf X) (fun _ _ _ _ => False) t) (te := tE (sbOf X) (fun _ _ _ _ => False) me) hc hN hi ok hg ht he hs) (lc_imp hu)
/-- y = [..] -/
theorem ss_setLcN {i : Nat} {y : Str} {py spos : Pos} (hN : X.N.Nodup) (hi : SI X W tg iter mi) (ok : BlkOk X.N X.env.scope scope own)
    (hg : ∀ (s : Shared) (H : Hp) (C : Addr) (cl : List (Str × Addr)) (fp : List Addr), SG (X.blk s H scope (compEnvC scope cl C X.env) fp) tg us g)
    (ht : ∀ (s : Shared) (H : Hp) (C : Addr) (cl : List (Str × Addr)) (fp : List Addr), STs (X.blk s H scope (compEnvC scope cl C X.env) fp) (fun _ _ _ _ => False) ifs t)
    (he : ∀ (s : Shared) (H : Hp) (C : Addr) (cl : List (Str × Addr)) (fp : List Addr), SE (X.blk s H scope (compEnvC scope cl C X.env) fp) (fun _ _ _ _ => False) elt me) (hu : ∀ i ∈ us, i ∈ own.map (·.2))
    (hsw : swapsWith (.ListComp elt [⟨tg, iter, ifs, 0⟩] scope pos) (some (.Name y py)) spos.line X.env = pure true) (hy : X.N[i]? = some y := by rfl) (hyl : X.env.scope.names.lookup y = some .local := by rfl) (hc : X.calm = true := by rfl)
    (hs : ∀ x, foldedSetIterable iter X.env x = pure x := by intro _; rfl) : SS X W (.Assign [.Name y py] (.ListComp elt [⟨tg, iter, ifs, 0⟩] scope pos) spos) (mSetN i (mComp mi (own.map (·.2)) g t me)) :=
  PS_imp (ps_setLc (g := tG (sbOf X) us g) (tt := tT (sbOf X) (fun _ _ _ _ => False) t) (te := tE (sbOf X) (fun _ _ _ _ => False) me) hc hN hy hyl hsw hi ok hg ht he hs) fun E σ H ⟨Hb, Fb, kb, k, F, s, ok, h⟩ =>
    lc_imp hu σ H _ ⟨Hb, Fb, kb, k, F, s, ok, (FinS.ofBind h).imp fun o s1 F1 k1 H1 e1 p1 ok1 h1 a f q => h1 _ H1 F1 k1 (Evl.Ex.refl _) (List.prefix_refl _) (ok1.setO f q)⟩
theorem ss_setLc {i : Nat} {y : Str} {py spos : Pos} (hN : X.N.Nodup) (hi : SI X W tg iter mi) (ok : BlkOk X.N X.env.scope scope own)
    (hg : ∀ (s : Shared) (H : Hp) (C : Addr) (cl : List (Str × Addr)) (fp : List Addr), SG (X.blk s H scope (compEnvC scope cl C X.env) fp) tg us g)
    (ht : ∀ (s : Shared) (H : Hp) (C : Addr) (cl : List (Str × Addr)) (fp : List Addr), STs (X.blk s H scope (compEnvC scope cl C X.env) fp) (fun _ _ _ _ => False) ifs t)
    (he : ∀ (s : Shared) (H : Hp) (C : Addr) (cl : List (Str × Addr)) (fp : List Addr), SE (X.blk s H scope (compEnvC scope cl C X.env) fp) (fun _ _ _ _ => False) elt me) (hu : ∀ i ∈ us, i ∈ own.map (·.2))
    (hsw : swapsWith (.ListComp elt [⟨tg, iter, ifs, 0⟩] scope pos) (some (.Name y py)) spos.line X.env = pure true) (hy : X.N[i]? = some y := by rfl) (hyl : X.env.scope.names.lookup y = some .local := by rfl) (hc : X.calm = true := by rfl)
    (hs : ∀ x, foldedSetIterable iter X.env x = pure x := by intro _; rfl) : SS X W (.Assign [.Name y py] (.ListComp elt [⟨tg, iter, ifs, 0⟩] scope pos) spos) (mSet i (mFz (mComp mi (own.map (·.2)) g t me))) :=
  PS_imp (ps_setLc (g := tG (sbOf X) us g) (tt := tT (sbOf X) (fun _ _ _ _ => False) t) (te := tE (sbOf X) (fun _ _ _ _ => False) me) hc hN hy hyl hsw hi ok hg ht he hs) fun E σ H ⟨Hb, Fb, kb, k, F, s, ok, h⟩ =>
    lc_imp hu σ H _ ⟨Hb, Fb, kb, k, F, s, ok, ((FinS.ofBind (σ := σ) h).bind).res.imp fun o s1 F1 k1 H1 e1 p1 ok1 h1 a f q => by
      obtain ⟨er, h1⟩ := h1
      obtain ⟨l, rfl⟩ := comp_lst er
      obtain ⟨u, hu, ⟨_, r⟩ | ⟨z, _⟩⟩ := Rep.ofOb q f.1
      case inr => cases z
      exact (h1 H1 _ k1 (Evl.Ex.new f.1) (List.prefix_refl _) (ok1.freeze f hu)) _ H1 _ k1 (Evl.Ex.refl _) (List.prefix_refl _) ((ok1.freeze f hu).setV r)⟩
end

/-! ### defs -/
inductive FR where
  | ok (d : D) (g : List Ob)
  | ex (c : Str) (g : List Ob)
  | no
abbrev Fn := List D → List Ob → FR
def frOf : R Out → FR
  | .ok .nx s => .ok .non s.g
  | .ok (.rt d) s => .ok d s.g
  | .ex c s => .ex c s.g
  | _ => .no
def initE (n : Nat) (ds : List D) : List (Option Sl) := ds.map (fun d => some (.val d)) ++ List.replicate (n - ds.length) none
def mkF (n : Nat) (body : M Out) : Fn := fun ds g => frOf (body ⟨initE n ds, g⟩)
def spF (B : Sb) (n : Nat) (f : Fn) : Sp := fun vs H Q E => ∃ k F g ds, Bs B H F k k F g H ∧ RepL B F k vs ds ∧ ds.length = n ∧ match f ds g with
  | .ok d g' => ∀ v H' F' k', Bs B H F k k' F' g' H' → Rep B F' k' v d → Q v H'
  | .ex c g' => ∀ C H' F' k', B.mg c = some C → Bs B H F k k' F' g' H' → E C none H'
  | .no => False
/-- no error comes out of a call whose wish for errors is empty -/
theorem passN {X : Cx} : Passes (L2N.CX X.prog X.w) X E0 := by
  intro _ _ _ _ _ _ _ c
  obtain ⟨_, _, _, _, _, _, _, _, _, _, _, _, no⟩ := c
  cases no
/-- a def's promise, from its body; errors without a context may leave it -/
theorem fun_okN {P : Program} {w : World} {K : PySem.W.Frag} {mg : Str → Option Value} {base : Heap} {x qual : Str} {st : Stmt} {f : Addr} {fd : FuncData} {N ps : List Str} {j : Nat} {sp : Sp} (F : Fun K x qual st f fd) (Sc : FnScope N ps (defScope st)) (hl : ∀ vs H Q E, sp vs H Q E → vs.length = ps.length)
    (hb : ∀ (cdv : Value) (A : Around) (outer : List Env) (s : Shared) (H : Hp) (vs : List V) (Q : VK) (E : XK), Room j (A.deeper (PyProof.Rows.envOfC qual (defScope st) s.heap.objs.size f cdv)) → sp vs H Q E →
      ∃ t, PSs (cxOf (L2N.CX P w) P w K mg base N qual (defScope st) f cdv A outer s H E) (defBody st) t ∧ t { nx := fun _ H' => Q .non H', rt := Q } (start N vs) H) : FnOk P w K mg base (L2N.CX P w) (j + 1) f fd ps sp := by
  obtain ⟨_, _, _, _, _, _, code, _, _, rfl, look, ok⟩ := F.ex
  refine fn_of look ok Sc hl fun A outer s H vs Q E room wish => ?_
  exact hb code A outer s H vs Q E room wish
/-- a def that one may call by its name -/
structure Cal (P : Program) (w : World) (K : PySem.W.Frag) (mg : Str → Option Value) (base : Heap) (x : Str) (j n : Nat) (f : Fn) : Prop where
  ex : ∃ (a : Addr) (fd : FuncData) (ps : List Str), FnOk P w K mg base (L2N.CX P w) j a fd ps (spF ⟨K, mg, P, w⟩ n f) ∧ mg x = some (.ref a) ∧ PySem.W.keepIn K (.ref a) = true ∧ Binds K fd ps []
def runF (n : Nat) (f : Fn) (ds : List D) : M D := fun s => if ds.length = n then (match f ds s.g with
  | .ok d g' => .ok d ⟨s.e, g'⟩
  | .ex c g' => .ex c ⟨s.e, g'⟩
  | .no => .no) else .no
def mFn (n : Nat) (f : Fn) (ma : M (List D)) : M D := mbind ma fun ds => runF n f ds
/-- .. where no error is let out -/
def runF0 (n : Nat) (f : Fn) (ds : List D) : M D := fun s => if ds.length = n then (match f ds s.g with
  | .ok d g' => .ok d ⟨s.e, g'⟩
  | _ => .no) else .no
def mFn0 (n : Nat) (f : Fn) (ma : M (List D)) : M D := mbind ma fun ds => runF0 n f ds
section
variable {X : Cx} {W : WX} {pos p : Pos} {e : Expr} {es : List Expr} {x : Str} {j n : Nat} {f : Fn} {ma : M (List D)}
theorem se_call0 (C : Cal X.prog X.w X.K X.mg X.base x j n f) (hr : Room j X.A) (ha : SA X W (e :: es) ma) (hg : Gl X x := by rfl) (hdb : (x == ("__debug__" : Str)) = false := by decide)
    (he : starEach (e :: es) X.env = (false, eval e X.env) :: starEach es X.env := by rfl) (hpl : (backTo pos (starEach es X.env)).any (·.1) = false := by rfl) : SE X W (.Call (.Name x p) (e :: es) [] pos) (mFn0 n f ma) := by
  obtain ⟨a, fd, ps, F, hm, hk, hb⟩ := C.ex
  refine PE_imp (pe_call F hr hg hm hk hb .nil passN ha hdb he hpl) fun σ H Q ⟨Hb, Fb, kb, k, F, s, ok, h⟩ => ?_
  refine ⟨Hb, Fb, kb, k, F, s, ok, h.bind.imp fun ds s1 F1 k1 H1 e1 p1 ok1 h1 vs rv => ?_⟩
  show spF (sbOf X) n f (vs ++ []) H1 Q E0
  rw [List.append_nil]
  have h1 : Fin (sbOf X) Hb Fb kb k1 F1 σ W (if ds.length = n then (match f ds s1.g with | .ok d g' => .ok d ⟨s1.e, g'⟩ | _ => .no) else .no) (fun d _ F' k' H' => ∀ v, Rep (sbOf X) F' k' v d → Q v H') := h1
  by_cases hl : ds.length = n
  · rw [if_pos hl] at h1
    refine ⟨k1, F1, s1.g, ds, ok1.bs.start, rv, hl, ?_⟩
    cases q : f ds s1.g with
    | ok d g' =>
      rw [q] at h1
      exact fun v H' F' k' b r => h1 H' F' k' b.fb b.pre (ok1.evo b) v r
    | ex c g' => rw [q] at h1; exact h1.elim
    | no => rw [q] at h1; exact h1.elim
  · rw [if_neg hl] at h1; exact h1.elim
theorem se_call (C : Cal X.prog X.w X.K X.mg X.base x j n f) (hr : Room j X.A) (tk : L2N.Takes X W) (ha : SA X W (e :: es) ma) (hg : Gl X x := by rfl) (hdb : (x == ("__debug__" : Str)) = false := by decide)
    (he : starEach (e :: es) X.env = (false, eval e X.env) :: starEach es X.env := by rfl) (hpl : (backTo pos (starEach es X.env)).any (·.1) = false := by rfl) : SE X W (.Call (.Name x p) (e :: es) [] pos) (mFn n f ma) := by
  obtain ⟨a, fd, ps, F, hm, hk, hb⟩ := C.ex
  refine PE_imp (pe_callS F hr hg hm hk hb (fun σ => L2N.passAt tk σ) ha hdb he hpl) fun σ H Q ⟨Hb, Fb, kb, k, F, s, ok, h⟩ => ?_
  refine ⟨Hb, Fb, kb, k, F, s, ok, h.bind.imp fun ds s1 F1 k1 H1 e1 p1 ok1 h1 vs rv => ?_⟩
  show spF (sbOf X) n f vs H1 Q (WE W σ)
  have h1 : Fin (sbOf X) Hb Fb kb k1 F1 σ W (if ds.length = n then (match f ds s1.g with | .ok d g' => .ok d ⟨s1.e, g'⟩ | .ex c g' => .ex c ⟨s1.e, g'⟩ | .no => .no) else .no) (fun d _ F' k' H' => ∀ v, Rep (sbOf X) F' k' v d → Q v H') := h1
  by_cases hl : ds.length = n
  · rw [if_pos hl] at h1
    refine ⟨k1, F1, s1.g, ds, ok1.bs.start, rv, hl, ?_⟩
    cases q : f ds s1.g with
    | ok d g' =>
      rw [q] at h1
      exact fun v H' F' k' b r => h1 H' F' k' b.fb b.pre (ok1.evo b) v r
    | ex c g' =>
      rw [q] at h1
      exact fun C H' F' k' m b => h1 C H' F' k' m (ok1.evo b)
    | no => rw [q] at h1; exact h1.elim
  · rw [if_neg hl] at h1; exact h1.elim
end
/-- a def's promise from its body's run -/
theorem fn_ok {P : Program} {w : World} {K : PySem.W.Frag} {mg : Str → Option Value} {base : Heap} {x qual : Str} {st : Stmt} {f : Addr} {fd : FuncData} {N ps : List Str} {j : Nat} {m : M Out} (F : Fun K x qual st f fd) (Sc : FnScope N ps (defScope st))
    (hb : ∀ (cdv : Value) (A : Around) (outer : List Env) (s : Shared) (H : Hp) (E : XK), Room j (A.deeper (PyProof.Rows.envOfC qual (defScope st) s.heap.objs.size f cdv)) →
      L2N.Takes (cxOf (L2N.CX P w) P w K mg base N qual (defScope st) f cdv A outer s H E) (fun cls d _ H => E cls d H) →
      PassesOwn (model P w) (A.deeper (PyProof.Rows.envOfC qual (defScope st) s.heap.objs.size f cdv)) (PyProof.Rows.envOfC qual (defScope st) s.heap.objs.size f cdv) (cxOf (L2N.CX P w) P w K mg base N qual (defScope st) f cdv A outer s H E).xe →
      SSs (cxOf (L2N.CX P w) P w K mg base N qual (defScope st) f cdv A outer s H E) (fun cls d _ H => E cls d H) (defBody st) m) :
    FnOk P w K mg base (L2N.CX P w) (j + 1) f fd ps (spF ⟨K, mg, P, w⟩ ps.length (mkF N.length m)) := by
  refine fun_okN F Sc (fun vs H Q E h => ?_) fun cdv A outer s H vs Q E hr h => ?_
  · obtain ⟨k, F, g, ds, _, r, hl, _⟩ := h
    exact r.length.trans hl
  · obtain ⟨k, F, g, ds, bs, r, hl, h⟩ := h
    have tk : L2N.Takes (cxOf (L2N.CX P w) P w K mg base N qual (defScope st) f cdv A outer s H E) (fun cls d _ H => E cls d H) := L2N.takes_of rfl rfl rfl rfl
    refine ⟨_, hb cdv A outer s H E hr tk (passes_of rfl), ?_⟩
    have ok : Ok ⟨K, mg, P, w⟩ H F k k F ⟨initE N.length ds, g⟩ (start N vs) H := by
      have hv : vs.length = ds.length := r.length
      refine ⟨bs, fun i d e => ?_, fun i o e => ?_, fun i l o o' a _ e _ _ _ => ?_, ?_⟩
      · have e : (ds.map (fun d => some (Sl.val d)) ++ List.replicate (N.length - ds.length) none)[i]? = some (some (.val d)) := e
        by_cases hi : i < ds.length
        · rw [List.getElem?_append_left (by simpa using hi), List.getElem?_map] at e
          cases q : ds[i]? with
          | none => rw [q] at e; cases e
          | some d' =>
            rw [q] at e
            cases e
            obtain ⟨v, e1, r1⟩ := r.getD q
            refine ⟨v, ?_, r1⟩
            show (vs.map some ++ List.replicate (N.length - vs.length) none)[i]? = _
            rw [List.getElem?_append_left (by simpa [hv] using hi), List.getElem?_map, e1]
            rfl
        · rw [List.getElem?_append_right (by simpa using Nat.le_of_not_lt hi), List.getElem?_replicate] at e
          split at e <;> cases e
      · have e : (ds.map (fun d => some (Sl.val d)) ++ List.replicate (N.length - ds.length) none)[i]? = some (some (.own o)) := e
        by_cases hi : i < ds.length
        · rw [List.getElem?_append_left (by simpa using hi), List.getElem?_map] at e
          cases q : ds[i]? with
          | none => rw [q] at e; cases e
          | some d' => rw [q] at e; cases e
        · rw [List.getElem?_append_right (by simpa using Nat.le_of_not_lt hi), List.getElem?_replicate] at e
          split at e <;> cases e
      · have e : (ds.map (fun d => some (Sl.val d)) ++ List.replicate (N.length - ds.length) none)[i]? = some (some (.own o)) := e
        by_cases hi : i < ds.length
        · rw [List.getElem?_append_left (by simpa using hi), List.getElem?_map] at e
          cases q : ds[i]? with
          | none => rw [q] at e; cases e
          | some d' => rw [q] at e; cases e
        · rw [List.getElem?_append_right (by simpa using Nat.le_of_not_lt hi), List.getElem?_replicate] at e
          split at e <;> cases e
      · show (ds.map (fun d => some (Sl.val d)) ++ List.replicate (N.length - ds.length) none).length = (vs.map some ++ List.replicate (N.length - vs.length) none).length
        simp [hv]
    refine ⟨H, F, k, k, F, ⟨initE N.length ds, g⟩, ok, ?_⟩
    have h : (match frOf (m ⟨initE N.length ds, g⟩) with | .ok d g' => ∀ v H' F' k', Bs ⟨K, mg, P, w⟩ H F k k' F' g' H' → Rep ⟨K, mg, P, w⟩ F' k' v d → Q v H' | .ex c g' => ∀ C H' F' k', mg c = some C → Bs ⟨K, mg, P, w⟩ H F k k' F' g' H' → E C none H' | .no => False) := h
    cases q : m ⟨initE N.length ds, g⟩ with
    | ok o s' =>
      rw [q] at h
      cases o with
      | nx => exact fun σ' H' F' k' _ _ ok' => h .non H' F' k' ok'.bs .non
      | rt d => exact fun v H' F' k' _ _ b r => h v H' F' k' b r
      | bk => exact h.elim
      | ct => exact h.elim
    | ex c s' =>
      rw [q] at h
      exact fun C σ' H' F' k' m ok' => h C H' F' k' m ok'.bs
    | no => rw [q] at h; exact h.elim

/-! ### a def that calls itself -/
def iterF (step : Fn → Fn) : Nat → Fn
  | 0 => fun _ _ => .no
  | n + 1 => step (iterF step n)
theorem fn_no {P : Program} {w : World} {K : PySem.W.Frag} {mg : Str → Option Value} {base : Heap} {f : Addr} {fd : FuncData} {ps : List Str} {j : Nat} : FnOk P w K mg base (L2N.CX P w) j f fd ps (spF ⟨K, mg, P, w⟩ ps.length fun _ _ => .no) where
  len := fun vs H Q E h => by
    obtain ⟨k, F, g, ds, _, r, hl, _⟩ := h
    exact r.length.trans hl
  run := fun A outer s H args us vs Q E _ _ _ _ h => by
    obtain ⟨k, F, g, ds, _, r, hl, z⟩ := h
    exact z.elim
theorem fn_rec {P : Program} {w : World} {K : PySem.W.Frag} {mg : Str → Option Value} {base : Heap} {f : Addr} {fd : FuncData} {ps : List Str} {x : Str} {lv : Nat} {step : Fn → Fn} (hm : mg x = some (.ref f)) (kp : PySem.W.keepIn K (.ref f) = true) (b : Binds K fd ps [])
    (h : ∀ (j : Nat) (Fr : Fn), lv ≤ j → Cal P w K mg base x j ps.length Fr → FnOk P w K mg base (L2N.CX P w) (j + 1) f fd ps (spF ⟨K, mg, P, w⟩ ps.length (step Fr))) : ∀ m, FnOk P w K mg base (L2N.CX P w) (lv + m) f fd ps (spF ⟨K, mg, P, w⟩ ps.length (iterF step m))
  | 0 => fn_no
  | m + 1 => h (lv + m) _ (Nat.le_add_right _ _) ⟨f, fd, ps, fn_rec hm kp b h m, hm, kp, b⟩
end FX

/-! FX: operators and built-ins on data -/
namespace FX
open PySem L2

/-! ### whole numbers -/
def dI (g : Int → Int → Option D) : D → D → Option D
  | .int i, .int j => g i j
  | _, _ => none
section
variable {B : Sb}
theorem od_I0 {g : Int → Int → V} {f : Int → Int → Option D} (h : ∀ i j z, f i j = some z → ∀ F k, Rep B F k (g i j) z) : OpD B (rI0 g) (dI f) := fun F k H x y dx dy z Q sub rx ry e q => by
  cases rx <;> try (cases e)
  cases ry <;> try (cases e)
  exact ⟨_, _, rfl, rfl, q _ F H (Grow.refl sub) (h _ _ _ e F k)⟩
theorem od_I {C : Int → Int → Prop} {g : Int → Int → V} {f : Int → Int → Option D} (h : ∀ i j z, f i j = some z → C i j ∧ ∀ F k, Rep B F k (g i j) z) : OpD B (rI C g) (dI f) := fun F k H x y dx dy z Q sub rx ry e q => by
  cases rx <;> try (cases e)
  cases ry <;> try (cases e)
  exact ⟨_, _, rfl, rfl, (h _ _ _ e).1, q _ F H (Grow.refl sub) ((h _ _ _ e).2 F k)⟩
def dAdd : D → D → Option D := dI fun i j => some (.int (i + j))
def dSub : D → D → Option D := dI fun i j => some (.int (i - j))
def dMul : D → D → Option D := dI fun i j => if (-(2 ^ 64) < i ∧ i < 2 ^ 64) ∨ (-(2 ^ 64) < j ∧ j < 2 ^ 64) then some (.int (i * j)) else none
def dMulW : D → D → Option D := dI fun i j => if i.natAbs < 2 ^ 1000 ∧ j.natAbs < 2 ^ 1000 then some (.int (i * j)) else none
def dMod : D → D → Option D := dI fun i j => if 0 < j then some (.int (i % j)) else none
def dFdiv : D → D → Option D := dI fun i j => if 0 < j ∧ j < 2 ^ 30 then some (.int (i / j)) else none
def dPow : D → D → Option D := dI fun i j => if 0 ≤ j ∧ j ≤ 1000 ∧ i.natAbs < 2 ^ 64 then some (.int (i ^ j.toNat)) else none
def dLt : D → D → Option D := dI fun i j => some (.bl (decide (i < j)))
def dLe : D → D → Option D := dI fun i j => some (.bl (decide (i ≤ j)))
def dGt : D → D → Option D := dI fun i j => some (.bl (decide (j < i)))
def dGe : D → D → Option D := dI fun i j => some (.bl (decide (j ≤ i)))
theorem od_add : OpD B (rI0 fun i j => .int (i + j)) dAdd := od_I0 fun _ _ _ e _ _ => by cases e; exact .int _
theorem od_sub : OpD B (rI0 fun i j => .int (i - j)) dSub := od_I0 fun _ _ _ e _ _ => by cases e; exact .int _
theorem od_mul : OpD B (rI CMul fun i j => .int (i * j)) dMul := od_I fun i j z e => by
  by_cases h : (-(2 ^ 64) < i ∧ i < 2 ^ 64) ∨ (-(2 ^ 64) < j ∧ j < 2 ^ 64)
  · rw [if_pos h] at e; cases e; exact ⟨h, fun _ _ => .int _⟩
  · rw [if_neg h] at e; cases e
theorem od_mod : OpD B (rI (fun _ j => 0 < j) fun i j => .int (i % j)) dMod := od_I fun i j z e => by
  by_cases h : 0 < j
  · rw [if_pos h] at e; cases e; exact ⟨h, fun _ _ => .int _⟩
  · rw [if_neg h] at e; cases e
theorem od_fdiv : OpD B (rI CDiv fun i j => .int (i / j)) dFdiv := od_I fun i j z e => by
  by_cases h : 0 < j ∧ j < 2 ^ 30
  · rw [if_pos h] at e; cases e; exact ⟨⟨h.1, by have := h.2; omega⟩, fun _ _ => .int _⟩
  · rw [if_neg h] at e; cases e
theorem od_pow : OpD B (rI CPow fun i j => .int (i ^ j.toNat)) dPow := od_I fun i j z e => by
  by_cases h : 0 ≤ j ∧ j ≤ 1000 ∧ i.natAbs < 2 ^ 64
  · rw [if_pos h] at e; cases e; exact ⟨⟨h.1, by have := h.2.1; omega, h.2.2⟩, fun _ _ => .int _⟩
  · rw [if_neg h] at e; cases e
theorem od_mulW : OpD B (rI CMulW fun i j => .int (i * j)) dMulW := od_I fun i j z e => by
  by_cases h : i.natAbs < 2 ^ 1000 ∧ j.natAbs < 2 ^ 1000
  · rw [if_pos h] at e; cases e; exact ⟨wide_mul h.1 h.2 (by decide) (by decide) (by decide), fun _ _ => .int _⟩
  · rw [if_neg h] at e; cases e
theorem od_lt : OpD B (rI0 fun i j => .bl (decide (i < j))) dLt := od_I0 fun _ _ _ e _ _ => by cases e; exact .bl _
theorem od_le : OpD B (rI0 fun i j => .bl (decide (i ≤ j))) dLe := od_I0 fun _ _ _ e _ _ => by cases e; exact .bl _
theorem od_gt : OpD B (rI0 fun i j => .bl (decide (j < i))) dGt := od_I0 fun _ _ _ e _ _ => by cases e; exact .bl _
theorem od_ge : OpD B (rI0 fun i j => .bl (decide (j ≤ i))) dGe := od_I0 fun _ _ _ e _ _ => by cases e; exact .bl _
def dNeg : D → Option D
  | .int i => some (.int (-i))
  | _ => none
theorem ud_neg : UnD B (rU fun i => .int (-i)) dNeg := fun F k H x dx z Q sub rx e q => by
  cases rx <;> try (cases e)
  exact ⟨_, rfl, q _ F H (Grow.refl sub) (.int _)⟩

/-! ### texts -/
def dAddS : D → D → Option D
  | .str x, .str y => if x.length + y.length ≤ 100000 then some (.str (x ++ y)) else none
  | _, _ => none
theorem od_addS : OpD B (fun x y H Q => ∃ i j, x = .str i ∧ y = .str j ∧ i.length + j.length ≤ sizeLine ∧ Q (.str (i ++ j)) H) dAddS := fun F k H x y dx dy z Q sub rx ry e q => by
  cases rx <;> try (cases e)
  cases ry <;> try (cases e)
  rename_i x y
  have e : (if x.length + y.length ≤ 100000 then some (D.str (x ++ y)) else none) = some z := e
  by_cases h : x.length + y.length ≤ 100000
  · rw [if_pos h] at e; cases e
    exact ⟨_, _, rfl, rfl, Evl.sz_of h, q _ F H (Grow.refl sub) (.str _)⟩
  · rw [if_neg h] at e; cases e
/-- a sign in a text -/
def dInS : D → D → Option D
  | .str x, .str y => match x.cps.toList with
    | [c] => some (.bl (decide (c ∈ y.cps.toList)))
    | _ => none
  | _, _ => none
theorem od_inS : OpD B (fun x y H Q => ∃ (c : Nat) (z : Str), x = .str ⟨#[c]⟩ ∧ y = .str z ∧ Q (.bl (decide (c ∈ z.cps.toList))) H) dInS := fun F k H x y dx dy z Q sub rx ry e q => by
  cases rx <;> try (cases e)
  cases ry <;> try (cases e)
  rename_i x y
  have e : (match x.cps.toList with | [c] => some (.bl (decide (c ∈ y.cps.toList))) | _ => none) = some z := e
  cases hx : x.cps.toList with
  | nil => rw [hx] at e; cases e
  | cons c r =>
    cases r with
    | cons c' r' => rw [hx] at e; cases e
    | nil =>
      rw [hx] at e
      cases e
      refine ⟨c, y, ?_, rfl, q _ F H (Grow.refl sub) (.bl _)⟩
      have : x = ⟨#[c]⟩ := by
        cases x with
        | mk cps =>
          have h : cps.toList = [c] := hx
          have h2 : cps = #[c] := by rw [← Array.toArray_toList (xs := cps), h]
          rw [h2]
      rw [this]

/-! ### == -/
mutual
def eqD : D → D → Bool
  | .non, .non => true
  | .bl a, .bl b => a == b
  | .bl a, .int j => (if a then 1 else 0) == j
  | .int i, .bl b => i == (if b then 1 else 0)
  | .int i, .int j => i == j
  | .str x, .str y => x == y
  | .lst xs, .lst ys => eqDs xs ys
  | .tup xs, .tup ys => eqDs xs ys
  | _, _ => false
def eqDs : List D → List D → Bool
  | [], [] => true
  | x :: xs, y :: ys => eqD x y && eqDs xs ys
  | _, _ => false
end
mutual
/-- no dict, no object within -/
def plain : D → Bool
  | .non => true
  | .bl _ => true
  | .int _ => true
  | .str x => x.cps.all (· < 0x110000)
  | .lst xs => plains xs
  | .tup xs => plains xs
  | .dic _ => false
  | .obj _ _ => false
  | .cell _ => false
  | .scr _ => false
  | .kdc _ => false
  | .ldc _ => false
  | .raw _ => false
def plains : List D → Bool
  | [] => true
  | x :: xs => plain x && plains xs
end
mutual
def dep : D → Nat
  | .lst xs => deps xs + 1
  | .tup xs => deps xs + 1
  | .non => 0
  | .bl _ => 0
  | .int _ => 0
  | .str _ => 0
  | .dic _ => 0
  | .obj _ _ => 0
  | .cell _ => 0
  | .scr _ => 0
  | .kdc _ => 0
  | .ldc _ => 0
  | .raw _ => 0
def deps : List D → Nat
  | [] => 0
  | x :: xs => max (dep x) (deps xs)
end
mutual
def py : D → PyData
  | .non => .none
  | .bl b => .bool b
  | .int i => .int i
  | .str x => .str x
  | .lst xs => .list (pys xs)
  | .tup xs => .tuple (pys xs)
  | .dic _ => .none
  | .obj _ _ => .none
  | .cell _ => .none
  | .scr _ => .none
  | .kdc _ => .none
  | .ldc _ => .none
  | .raw _ => .none
def pys : List D → List PyData
  | [] => []
  | x :: xs => py x :: pys xs
end
mutual
theorem py_lay : ∀ d : D, plain d = true → (py d).canLay0 = true
  | .non, _ => rfl
  | .bl _, _ => rfl
  | .int _, _ => rfl
  | .str x, h => h
  | .lst xs, h => by simp only [py, PyData.canLay0]; exact pys_lay xs (by simpa only [plain] using h)
  | .tup xs, h => by simp only [py, PyData.canLay0]; exact pys_lay xs (by simpa only [plain] using h)
  | .dic _, h => by simp only [plain] at h; cases h
  | .obj _ _, h => by simp only [plain] at h; cases h
  | .cell _, h => by simp only [plain] at h; cases h
  | .scr _, h => by simp only [plain] at h; cases h
theorem pys_lay : ∀ d : List D, plains d = true → PyData.canLayAll0 (pys d) = true
  | [], _ => rfl
  | x :: xs, h => by
    simp only [plains, Bool.and_eq_true] at h
    simp only [pys, PyData.canLayAll0, Bool.and_eq_true]
    exact ⟨py_lay x h.1, pys_lay xs h.2⟩
end
mutual
theorem py_depth : ∀ d : D, plain d = true → (py d).depth = dep d
  | .non, _ => rfl
  | .bl _, _ => rfl
  | .int _, _ => rfl
  | .str x, h => rfl
  | .lst xs, h => by simp only [py, PyData.depth, dep]; rw [pys_depth xs (by simpa only [plain] using h)]
  | .tup xs, h => by simp only [py, PyData.depth, dep]; rw [pys_depth xs (by simpa only [plain] using h)]
  | .dic _, h => by simp only [plain] at h; cases h
  | .obj _ _, h => by simp only [plain] at h; cases h
  | .cell _, h => by simp only [plain] at h; cases h
  | .scr _, h => by simp only [plain] at h; cases h
theorem pys_depth : ∀ d : List D, plains d = true → PyData.depthAll (pys d) = deps d
  | [], _ => rfl
  | x :: xs, h => by
    simp only [plains, Bool.and_eq_true] at h
    simp only [pys, PyData.depthAll, deps]
    rw [py_depth x h.1, pys_depth xs h.2]
end
mutual
theorem py_eqv : ∀ d e : D, plain d = true → plain e = true → PyData.eqv (py d) (py e) = eqD d e := fun d e hd he => by
  cases d <;> cases e <;> first
    | rfl
    | (simp only [plain] at hd; cases hd; done)
    | (simp only [plain] at he; cases he; done)
    | (simp only [py, PyData.eqv, eqD]; done)
    | (simp only [py, PyData.eqv, eqD]; exact pys_eqv _ _ (by simpa only [plain] using hd) (by simpa only [plain] using he))
theorem pys_eqv : ∀ d e : List D, plains d = true → plains e = true → PyData.eqvAll (pys d) (pys e) = eqDs d e
  | [], [], _, _ => rfl
  | [], _ :: _, _, _ => rfl
  | _ :: _, [], _, _ => rfl
  | x :: xs, y :: ys, hd, he => by
    simp only [plains, Bool.and_eq_true] at hd he
    simp only [pys, PyData.eqvAll, eqDs]
    rw [py_eqv x y hd.1 he.1, pys_eqv xs ys hd.2 he.2]
end
mutual
theorem Rep.dp {F H : Hp} {k : List Addr} (sub : Ex F H) : ∀ {v : V} {d : D}, Rep B F k v d → plain d = true → Dp B.K H v (py d)
  | _, _, .non, _ => .non
  | _, _, .bl b, _ => .bl b
  | _, _, .int i, _ => .int i
  | _, _, .str x, _ => .str x
  | _, _, .tup h r, p => by simp only [py]; exact .tup (Evl.ex_t sub h) (RepL.dp sub r (by simpa only [plain] using p))
  | _, _, .lst h r, p => by simp only [py]; exact .lst (SqL.of (sub _ _ h)) (RepL.dp sub r (by simpa only [plain] using p))
  | _, _, .dic h r, p => by simp only [plain] at p; cases p
  | _, _, .obj m h r, p => by simp only [plain] at p; cases p
  | _, _, .cell h, p => by simp only [plain] at p; cases p
  | _, _, .scr h, p => by simp only [plain] at p; cases p
  | _, _, .kdc h r, p => by simp only [plain] at p; cases p
  | _, _, .ldc h r, p => by simp only [plain] at p; cases p
  | _, _, .raw, p => by simp only [plain] at p; cases p
theorem RepL.dp {F H : Hp} {k : List Addr} (sub : Ex F H) : ∀ {v : List V} {d : List D}, RepL B F k v d → plains d = true → DpAll B.K H v (pys d)
  | _, _, .nil, _ => .nil
  | _, _, .cons h r, p => by
    simp only [plains, Bool.and_eq_true] at p
    exact .cons (Rep.dp sub h p.1) (RepL.dp sub r p.2)
end
theorem dp_ints {K : PySem.W.Frag} {H : Hp} : ∀ l : List Int, DpAll K H (l.map V.int) (l.map PyData.int)
  | [] => .nil
  | x :: r => .cons (.int x) (dp_ints r)
def okEq (d e : D) : Bool := plain d && plain e && decide (dep d ≤ 64) && decide (dep e ≤ 64)
def dEq (d e : D) : Option D := if okEq d e = true then some (.bl (eqD d e)) else match d, e with
  | .scr l, .lst [] => some (.bl l.isEmpty)
  | _, _ => none
def dNe (d e : D) : Option D := if okEq d e = true then some (.bl (!eqD d e)) else none
theorem shaped_of {d e : D} (h : okEq d e = true) : SeqAt.shaped (py d) = true ∧ SeqAt.shaped (py e) = true ∧ plain d = true ∧ plain e = true := by
  unfold okEq at h
  simp only [Bool.and_eq_true, decide_eq_true_eq] at h
  obtain ⟨⟨⟨h1, h2⟩, h3⟩, h4⟩ := h
  unfold SeqAt.shaped
  rw [py_lay d h1, py_lay e h2, py_depth d h1, py_depth e h2]
  simp [h1, h2, h3, h4]
theorem od_eq : OpD B (rEqD B.K) dEq := fun F k H x y dx dy z Q sub rx ry e q => by
  unfold dEq at e
  by_cases h : okEq dx dy = true
  · rw [if_pos h] at e; cases e
    obtain ⟨s1, s2, p1, p2⟩ := shaped_of h
    refine ⟨py dx, py dy, rx.dp sub p1, ry.dp sub p2, s1, s2, ?_⟩
    rw [py_eqv _ _ p1 p2]
    exact q _ F H (Grow.refl sub) (.bl _)
  · rw [if_neg h] at e
    cases rx <;> try (cases e; done)
    case scr a l hl =>
      cases ry <;> try (cases e; done)
      case lst b ys es hy ry =>
        cases es with
        | cons _ _ => cases e
        | nil =>
          cases ry
          have e : some (D.bl l.isEmpty) = some z := e
          cases e
          refine ⟨.list (l.map .int), .list [], .lst (Evl.ex_l sub hl) ?_, .lst (SqL.of (sub _ _ hy)) .nil, ?_, by decide, ?_⟩
          · exact dp_ints l
          · clear h q hl
            unfold SeqAt.shaped
            have h1 : ∀ l : List Int, PyData.canLayAll0 (l.map PyData.int) = true := fun l => by
              induction l with
              | nil => rfl
              | cons x r ih => simp only [List.map_cons, PyData.canLayAll0, PyData.canLay0, ih, Bool.and_true]
            have h2 : ∀ l : List Int, PyData.depthAll (l.map PyData.int) = 0 := fun l => by
              induction l with
              | nil => rfl
              | cons x r ih => simp only [List.map_cons, PyData.depthAll, PyData.depth, ih]; rfl
            simp only [PyData.canLay0, PyData.depth, h1, h2]; decide
          · have e : PyData.eqv (.list (l.map .int)) (.list []) = l.isEmpty := by
              cases l <;> rfl
            rw [e]
            exact q _ F H (Grow.refl sub) (.bl _)
theorem od_ne : OpD B (rNeD B.K) dNe := fun F k H x y dx dy z Q sub rx ry e q => by
  unfold dNe at e
  by_cases h : okEq dx dy = true
  · rw [if_pos h] at e; cases e
    obtain ⟨s1, s2, p1, p2⟩ := shaped_of h
    refine ⟨py dx, py dy, rx.dp sub p1, ry.dp sub p2, s1, s2, ?_⟩
    rw [py_eqv _ _ p1 p2]
    exact q _ F H (Grow.refl sub) (.bl _)
  · rw [if_neg h] at e; cases e

/-! ### is None -/
def isNon : D → Bool
  | .non => true
  | _ => false
theorem Rep.non_iff {F : Hp} {k : List Addr} {v : V} {d : D} (h : Rep B F k v d) : decide (v = .non) = isNon d := by
  cases h <;> first | rfl | exact decide_eq_false (fun z => nomatch z)
def dIsN (d e : D) : Option D := if isNon e = true then some (.bl (isNon d)) else none
def dNotN (d e : D) : Option D := if isNon e = true then some (.bl (!isNon d)) else none
theorem Rep.non_of {F : Hp} {k : List Addr} {v : V} {d : D} (h : Rep B F k v d) (e : isNon d = true) : v = .non := by
  cases h <;> first | rfl | cases e
theorem od_isN : OpD B (fun x y H Q => y = .non ∧ Q (.bl (decide (x = .non))) H) dIsN := fun F k H x y dx dy z Q sub rx ry e q => by
  unfold dIsN at e
  by_cases h : isNon dy = true
  · rw [if_pos h] at e; cases e
    exact ⟨ry.non_of h, q _ F H (Grow.refl sub) (by rw [rx.non_iff]; exact .bl _)⟩
  · rw [if_neg h] at e; cases e
theorem od_notN : OpD B (fun x y H Q => y = .non ∧ Q (.bl (!decide (x = .non))) H) dNotN := fun F k H x y dx dy z Q sub rx ry e q => by
  unfold dNotN at e
  by_cases h : isNon dy = true
  · rw [if_pos h] at e; cases e
    exact ⟨ry.non_of h, q _ F H (Grow.refl sub) (by rw [rx.non_iff]; exact .bl _)⟩
  · rw [if_neg h] at e; cases e

/-! ### len, items, slices -/
def dLen : List D → Option D
  | [.str x] => if x.length ≤ 100000 then some (.int x.length) else none
  | [.lst l] => some (.int l.length)
  | [.tup l] => some (.int l.length)
  | [.scr l] => some (.int l.length)
  | _ => none
theorem cd_len : CallD B (fun xs H Q => ∃ x n, xs = [x] ∧ LenV B.K x H n ∧ Q (.int n) H) dLen := fun F k H xs ds z Q sub rx e q => by
  cases rx with
  | nil => cases e
  | cons h r =>
    cases r with
    | cons _ _ => cases h <;> cases e
    | nil =>
      cases h <;> try (cases e; done)
      case str x =>
        have e : (if x.length ≤ 100000 then some (D.int x.length) else none) = some z := e
        by_cases hx : x.length ≤ 100000
        · rw [if_pos hx] at e; cases e
          exact ⟨.str x, x.length, rfl, ⟨Evl.sz_of hx, rfl⟩, q _ F H (Grow.refl sub) (.int _)⟩
        · rw [if_neg hx] at e; cases e
      case tup a xs ds h r =>
        cases e
        exact ⟨.ref a, xs.length, rfl, .inr ⟨xs, Evl.ex_t sub h, rfl⟩, q _ F H (Grow.refl sub) (by rw [r.length]; exact .int _)⟩
      case lst a xs ds h r =>
        cases e
        exact ⟨.ref a, xs.length, rfl, .inl ⟨xs, SqL.of (sub _ _ h), rfl⟩, q _ F H (Grow.refl sub) (by rw [r.length]; exact .int _)⟩
      case scr a l h =>
        cases e
        exact ⟨.ref a, _, rfl, .inl ⟨_, Evl.ex_l sub h, rfl⟩, q _ F H (Grow.refl sub) (by rw [List.length_map]; exact .int _)⟩
theorem RepL.atI {F : Hp} {k : List Addr} {xs : List V} {ds : List D} {i : Int} {d : D} (r : RepL B F k xs ds) (e : L2.atI ds i = some d) : ∃ v, L2.atI xs i = some v ∧ Rep B F k v d := by
  unfold L2.atI at e ⊢
  rw [r.length]
  cases q : ixN ds.length i with
  | none => rw [q] at e; cases e
  | some j =>
    rw [q] at e
    exact r.getD e
def dIx : D → D → Option D
  | .lst l, .int i => atI l i
  | .tup l, .int i => atI l i
  | .scr l, .int i => (atI l i).map .int
  | .str x, .int i => if x.length ≤ 100000 then (atI x.cps.toList i).map fun c => .str ⟨#[c]⟩ else none
  | _, _ => none
theorem od_ix : OpD B (rIx B.K) dIx := fun F k H x y dx dy z Q sub rx ry e q => by
  cases rx <;> try (cases ry <;> cases e; done)
  case str x =>
    cases ry <;> try (cases e; done)
    rename_i i
    have e : (if x.length ≤ 100000 then (L2.atI x.cps.toList i).map (fun c => D.str ⟨#[c]⟩) else none) = some z := e
    by_cases hx : x.length ≤ 100000
    · rw [if_pos hx] at e
      cases hc : L2.atI x.cps.toList i with
      | none => rw [hc] at e; cases e
      | some c =>
        rw [hc] at e
        cases e
        exact .inr (.inr ⟨x, i, c, rfl, rfl, Evl.sz_of hx, hc, q _ F H (Grow.refl sub) (.str _)⟩)
    · rw [if_neg hx] at e; cases e
  case tup a xs ds h r =>
    cases ry <;> try (cases e; done)
    obtain ⟨v, e1, r1⟩ := r.atI e
    exact .inr (.inl ⟨a, xs, _, v, rfl, rfl, Evl.ex_t sub h, e1, q _ F H (Grow.refl sub) r1⟩)
  case lst a xs ds h r =>
    cases ry <;> try (cases e; done)
    obtain ⟨v, e1, r1⟩ := r.atI e
    exact .inl ⟨a, xs, _, v, rfl, rfl, SqL.of (sub _ _ h), e1, q _ F H (Grow.refl sub) r1⟩
  case scr a l h =>
    cases ry <;> try (cases e; done)
    rename_i i
    have e : (L2.atI l i).map D.int = some z := e
    cases hc : L2.atI l i with
    | none => rw [hc] at e; cases e
    | some c =>
      rw [hc] at e
      cases e
      refine .inl ⟨a, _, i, .int c, rfl, rfl, Evl.ex_l sub h, ?_, q _ F H (Grow.refl sub) (.int _)⟩
      unfold L2.atI at hc ⊢
      rw [List.length_map]
      cases hj : ixN l.length i with
      | none => rw [hj] at hc; cases hc
      | some j =>
        rw [hj] at hc
        have hc : l[j]? = some c := hc
        show (l.map V.int)[j]? = _
        rw [List.getElem?_map, hc]
        rfl

/-! ### slices, sums of sequences -/
def cutD (l : List D) (lo hi : Option Int) : List D := (l.drop (HT.sIx l.length 0 lo)).take (HT.sIx l.length l.length hi - HT.sIx l.length 0 lo)
theorem RepL.cut {F : Hp} {k : List Addr} {xs : List V} {ds : List D} (r : RepL B F k xs ds) (lo hi : Option Int) : RepL B F k (cutV xs lo hi) (cutD ds lo hi) := by
  unfold cutV cutD
  rw [r.length]
  exact (r.drop _).take _
theorem cutD_whole {l : List D} {lo hi : Option Int} (h : HT.sIx l.length 0 lo = 0 ∧ HT.sIx l.length l.length hi = l.length) : cutD l lo hi = l := by
  unfold cutD
  rw [h.1, h.2, List.drop_zero, Nat.sub_zero, List.take_length]
def rSlTL (K : PySem.W.Frag) : V → Option Int → Option Int → Hp → VK → Prop := fun x lo hi H Q => rSlA K x lo hi H Q ∨ (rSlL K x lo hi H Q ∨ rSlS x lo hi H Q)
theorem sl_any {X : Cx} : SlR X (rSlTL X.K) := sl_tupA.or (sl_list.or sl_str)
def dSl (d : D) (lo hi : Option Int) : Option D := match d with
  | .tup l => some (.tup (cutD l lo hi))
  | .lst l => some (.lst (cutD l lo hi))
  | .str x => if x.length ≤ 100000 then some (.str (cutS x lo hi)) else none
  | _ => none
theorem sd_any {F : Hp} {k : List Addr} {H : Hp} {x : V} {d z : D} {lo hi : Option Int} {Q : VK} (sub : Ex F H) (rx : Rep B F k x d) (e : dSl d lo hi = some z) (q : ∀ v F' H', Grow F H F' H' → Rep B F' k v z → Q v H') : rSlTL B.K x lo hi H Q := by
  cases rx <;> try (cases e; done)
  case str x =>
    have e : (if x.length ≤ 100000 then some (D.str (cutS x lo hi)) else none) = some z := e
    by_cases hx : x.length ≤ 100000
    · rw [if_pos hx] at e; cases e
      exact .inr (.inr ⟨x, rfl, Evl.sz_of hx, q _ F H (Grow.refl sub) (.str _)⟩)
    · rw [if_neg hx] at e; cases e
  case tup a xs ds h r =>
    cases e
    refine .inl ⟨a, xs, rfl, Evl.ex_t sub h, fun w => ?_, fun _ p hp => ?_⟩
    · rw [r.length] at w
      rw [cutD_whole w] at q
      exact q _ F H (Grow.refl sub) (.tup h r)
    · have gr := Grow.one (o := .tup (cutV xs lo hi)) sub hp
      exact q _ _ _ gr (.tup (.inl (.inl upd_same)) ((r.cut lo hi).mono gr.ff (List.prefix_refl _)))
  case lst a xs ds h r =>
    cases e
    refine .inr (.inl ⟨a, xs, rfl, SqL.of (sub _ _ h), fun p hp => ?_⟩)
    have gr := Grow.one (o := .lst (cutV xs lo hi)) sub hp
    exact q _ _ _ gr (.lst upd_same ((r.cut lo hi).mono gr.ff (List.prefix_refl _)))
/-- a part of a slice -/
def mPart (m : M D) : M (Option Int) := mbind m fun d => match d with
  | .int i => mpure (some i)
  | _ => mno
def mNoPart : M (Option Int) := mpure none
def tO (B : Sb) (W : WX) (m : M (Option Int)) : TO := fun σ H Q => ∃ Hb Fb kb k F s, Ok B Hb Fb kb k F s σ H ∧ Fin B Hb Fb kb k F σ W (m s) fun o _ _ _ H' => Q o H'
abbrev SO (X : Cx) (W : WX) (e : Option Expr) (m : M (Option Int)) : Prop := PO X e (tO (sbOf X) W m)
theorem PO_imp {X : Cx} {e : Option Expr} {t t' : TO} (h : PO X e t) (i : ∀ σ H Q, t' σ H Q → t σ H Q) : PO X e t' := ⟨fun pins s σ H Q I q => h.run pins s σ H Q I (i σ H Q q)⟩
theorem so_none {X : Cx} {W : WX} : SO X W none mNoPart := PO_imp po_none fun σ H Q ⟨Hb, Fb, kb, k, F, s, ok, h⟩ => h H F k (Evl.Ex.refl _) (List.prefix_refl _) ok
theorem so_some {X : Cx} {W : WX} {e : Expr} {m : M D} (he : SE X W e m) : SO X W (some e) (mPart m) := PO_imp (po_some he) fun σ H Q ⟨Hb, Fb, kb, k, F, s, ok, h⟩ =>
  ⟨Hb, Fb, kb, k, F, s, ok, h.bind.imp fun d s1 F1 k1 H1 e1 p1 ok1 h1 v rv => by
    cases d with
    | int i =>
      cases rv
      exact ⟨i, rfl, h1 H1 F1 k1 (Evl.Ex.refl _) (List.prefix_refl _) ok1⟩
    | _ => exact h1.elim⟩
def mSl (ma : M D) (ml mh : M (Option Int)) : M D := mbind ma fun d => mbind ml fun lo => mbind mh fun hi => mopt (dSl d lo hi)
theorem se_slice {X : Cx} {W : WX} {e : Expr} {lo hi : Option Expr} {pos p2 : Pos} {ma : M D} {ml mh : M (Option Int)} (he : SE X W e ma) (hl : SO X W lo ml) (hh : SO X W hi mh) : SE X W (.Subscript e (.Slice lo hi none p2) pos) (mSl ma ml mh) :=
  PE_imp (pe_slice sl_any he hl hh) fun σ H Q ⟨Hb, Fb, kb, k, F, s, ok, h⟩ => ⟨Hb, Fb, kb, k, F, s, ok, h.bind.imp fun d s1 F1 k1 H1 e1 p1 ok1 h1 v rv => ⟨Hb, Fb, kb, k1, F1, s1, ok1, h1.bind.imp fun lo s2 F2 k2 H2 e2 p2 ok2 h2 => ⟨Hb, Fb, kb, k2, F2, s2, ok2, h2.bind.imp fun hi s3 F3 k3 H3 e3 p3 ok3 h3 => by
    cases q : dSl d lo hi with
    | none => rw [q] at h3; exact h3.elim
    | some z =>
      rw [q] at h3
      exact sd_any ok3.bs.sub (rv.mono (e2.trans e3) (p2.trans p3)) q fun w F4 H4 gr rw' => h3 H4 F4 k3 gr.ff (List.prefix_refl _) (ok3.grow gr) w rw'⟩⟩⟩
def dCat : D → D → Option D
  | .lst a, .lst b => if a.length + b.length ≤ 100000 then some (.lst (a ++ b)) else none
  | _, _ => none
theorem od_cat : OpD B rCat dCat := fun F k H x y dx dy z Q sub rx ry e q => by
  cases rx <;> try (cases e; done)
  cases ry <;> try (cases e; done)
  rename_i a xs ds h r b ys es h' r'
  have e : (if ds.length + es.length ≤ 100000 then some (D.lst (ds ++ es)) else none) = some z := e
  by_cases hl : ds.length + es.length ≤ 100000
  · rw [if_pos hl] at e; cases e
    refine ⟨a, b, xs, ys, rfl, rfl, sub _ _ h, sub _ _ h', by rw [r.length, r'.length]; exact Evl.sz_of hl, fun p hp => ?_⟩
    have gr := Grow.one (o := .lst (xs ++ ys)) sub hp
    exact q _ _ _ gr (.lst upd_same ((r.append r').mono gr.ff (List.prefix_refl _)))
  · rw [if_neg hl] at e; cases e
def dCatT : D → D → Option D
  | .tup a, .tup b => if a.length + b.length ≤ 100000 then some (.tup (a ++ b)) else none
  | _, _ => none
theorem od_catT : OpD B (rCatA B.K) dCatT := fun F k H x y dx dy z Q sub rx ry e q => by
  cases rx <;> try (cases e; done)
  cases ry <;> try (cases e; done)
  rename_i a xs ds h r b ys es h' r'
  have e : (if ds.length + es.length ≤ 100000 then some (D.tup (ds ++ es)) else none) = some z := e
  by_cases hl : ds.length + es.length ≤ 100000
  · rw [if_pos hl] at e; cases e
    refine ⟨a, b, xs, ys, rfl, rfl, Evl.ex_t sub h, Evl.ex_t sub h', by rw [r.length, r'.length]; exact Evl.sz_of hl, fun z0 => ?_, fun _ z0 => ?_, fun _ _ p hp => ?_⟩
    · subst z0
      cases r
      exact q _ F H (Grow.refl sub) (.tup h' r')
    · subst z0
      cases r'
      rw [List.append_nil] at q
      exact q _ F H (Grow.refl sub) (.tup h r)
    · have gr := Grow.one (o := .tup (xs ++ ys)) sub hp
      exact q _ _ _ gr (.tup (.inl (.inl upd_same)) ((r.append r').mono gr.ff (List.prefix_refl _)))
  · rw [if_neg hl] at e; cases e

/-! ### tuple(x), list(x), all, any -/
def dTuple : List D → Option D
  | [.lst l] => some (.tup l)
  | [.tup l] => some (.tup l)
  | _ => none
theorem cd_tuple : CallD B (fun xs H Q => ∃ p ys, xs = [.ref p] ∧ ((SqL B.K H p ys ∧ ∀ l, H l = none → Q (.ref l) (upd H l (.tup ys))) ∨ (SqT B.K H p ys ∧ Q (.ref p) H))) dTuple := fun F k H xs ds z Q sub rx e q => by
  cases rx with
  | nil => cases e
  | cons h r =>
    cases r with
    | cons _ _ => cases h <;> cases e
    | nil =>
      cases h <;> try (cases e; done)
      case tup a xs ds h r =>
        cases e
        exact ⟨a, xs, rfl, .inr ⟨Evl.ex_t sub h, q _ F H (Grow.refl sub) (.tup h r)⟩⟩
      case lst a xs ds h r =>
        cases e
        refine ⟨a, xs, rfl, .inl ⟨SqL.of (sub _ _ h), fun p hp => ?_⟩⟩
        have gr := Grow.one (o := .tup xs) sub hp
        exact q _ _ _ gr (.tup (.inl (.inl upd_same)) (r.mono gr.ff (List.prefix_refl _)))
/-- truth values in a row -/
def bls : List D → Option (List Bool)
  | [] => some []
  | .bl b :: r => (bls r).map (b :: ·)
  | _ => none
theorem RepL.bls {F : Hp} {k : List Addr} : ∀ {xs : List V} {ds : List D} {bs : List Bool}, RepL B F k xs ds → FX.bls ds = some bs → xs = bs.map V.bl
  | _, _, _, .nil, e => by cases e; rfl
  | _, _, bs, .cons h r, e => by
    cases h <;> try (cases e; done)
    rename_i vs ds b
    have e : (FX.bls ds).map (b :: ·) = some bs := e
    cases q : FX.bls ds with
    | none => rw [q] at e; cases e
    | some bs' =>
      rw [q] at e
      cases e
      rw [List.map_cons, ← r.bls q]
def dAll : List D → Option D
  | [.lst l] => (bls l).map fun bs => .bl (bs.all id)
  | _ => none
def dAny : List D → Option D
  | [.lst l] => (bls l).map fun bs => .bl (bs.any id)
  | _ => none
theorem cd_all : CallD B (rAll B.K) dAll := fun F k H xs ds z Q sub rx e q => by
  cases rx with
  | nil => cases e
  | cons h r =>
    cases r with
    | cons _ _ => cases h <;> cases e
    | nil =>
      cases h <;> try (cases e; done)
      rename_i a xs ds h r
      have e : (bls ds).map (fun bs => D.bl (bs.all id)) = some z := e
      cases hb : bls ds with
      | none => rw [hb] at e; cases e
      | some bs =>
        rw [hb] at e
        cases e
        exact ⟨a, bs, rfl, by rw [← r.bls hb]; exact SqL.of (sub _ _ h), q _ F H (Grow.refl sub) (.bl _)⟩
theorem cd_any : CallD B (rAny B.K) dAny := fun F k H xs ds z Q sub rx e q => by
  cases rx with
  | nil => cases e
  | cons h r =>
    cases r with
    | cons _ _ => cases h <;> cases e
    | nil =>
      cases h <;> try (cases e; done)
      rename_i a xs ds h r
      have e : (bls ds).map (fun bs => D.bl (bs.any id)) = some z := e
      cases hb : bls ds with
      | none => rw [hb] at e; cases e
      | some bs =>
        rw [hb] at e
        cases e
        exact ⟨a, bs, rfl, by rw [← r.bls hb]; exact SqL.of (sub _ _ h), q _ F H (Grow.refl sub) (.bl _)⟩
/-- a built-in by its name; a built-in class -/
theorem se_callB {X : Cx} {W : WX} {x : Str} {id : String} {r : List V → Hp → VK → Prop} {f : List D → Option D} {e : Expr} {es : List Expr} {p pos : Pos} {ma : M (List D)} (hc : CallR X (.builtin id) r) (hf : CallD (sbOf X) r f) (hm : X.mg x = none) (hv : bootBuiltins x = some (.builtin id)) (ha : SA X W (e :: es) ma) (hg : Gl X x := by rfl)
    (hn : x ≠ "__name__" := by decide) (hdb : (x == ("__debug__" : Str)) = false := by decide) (he : starEach (e :: es) X.env = (false, eval e X.env) :: starEach es X.env := by rfl) (hpl : (backTo pos (starEach es X.env)).any (·.1) = false := by rfl) : SE X W (.Call (.Name x p) (e :: es) [] pos) (mCall f ma) :=
  PE_imp (pe_callB hc hg hm hv ha hn hdb he hpl) (tC_imp hf)
theorem se_callTy {X : Cx} {W : WX} {x : Str} {T : String} {r : List V → Hp → VK → Prop} {f : List D → Option D} {e : Expr} {es : List Expr} {p pos : Pos} {ma : M (List D)} (hc : CallR X (.type T) r) (hf : CallD (sbOf X) r f) (hm : X.mg x = none) (hv : bootBuiltins x = some (.type T)) (ha : SA X W (e :: es) ma) (hg : Gl X x := by rfl)
    (hn : x ≠ "__name__" := by decide) (hdb : (x == ("__debug__" : Str)) = false := by decide) (he : starEach (e :: es) X.env = (false, eval e X.env) :: starEach es X.env := by rfl) (hpl : (backTo pos (starEach es X.env)).any (·.1) = false := by rfl) : SE X W (.Call (.Name x p) (e :: es) [] pos) (mCall f ma) :=
  PE_imp (pe_callTy hc hg hm hv ha hn hdb he hpl) (tC_imp hf)
end
end FX

/-! FX: constants of the module, isinstance, in, own lists, cells, what is walked, dicts with text keys -/
namespace FX
open PySem L2

/-! ### constants of the module -/
section
variable {X : Cx} {W : WX} {pos : Pos}
theorem se_glob {x : Str} {v : V} {u : Value} {d : D} (hm : X.mg x = some u) (r : RelV v u) (rd : ∀ F k, Rep (sbOf X) F k v d) (hg : Gl X x := by rfl) (hd : (x == ("__debug__" : Str)) = false := by decide) : SE X W (.Name x pos) (mC d) := se_const (pe_glob hg hm r hd) rd
/-- a module's name that holds data -/
def GlD (B : Sb) (x : Str) (d : D) : Prop := ∃ v u, B.mg x = some u ∧ RelV v u ∧ ∀ F k, Rep B F k v d
theorem se_globD {x : Str} {d : D} (h : GlD (sbOf X) x d) (hg : Gl X x := by rfl) (hd : (x == ("__debug__" : Str)) = false := by decide) : SE X W (.Name x pos) (mC d) := by
  obtain ⟨v, u, hm, r, rd⟩ := h
  exact se_glob hm r rd hg hd
end
theorem GlD.str {B : Sb} {x : Str} {z : Str} {t : Tok} (h : B.mg x = some (.str z t)) : GlD B x (.str z) := ⟨.str z, _, h, ⟨t, rfl⟩, fun _ _ => .str z⟩
theorem GlD.int {B : Sb} {x : Str} {z : Int} {t : Tok} (h : B.mg x = some (.int z t)) : GlD B x (.int z) := ⟨.int z, _, h, ⟨t, rfl⟩, fun _ _ => .int z⟩

/-! ### isinstance(e, T) -/
def tyN : D → Option String
  | .non => some "NoneType"
  | .bl _ => some "bool"
  | .int _ => some "int"
  | .str _ => some "str"
  | .tup _ => some "tuple"
  | .lst _ => some "list"
  | .dic _ => some "dict"
  | _ => none
/-- p tells which of the built-in types are a T -/
def dIsi (p : String → Bool) (d : D) : Option D := (tyN d).map fun t => .bl (p t)
def IsiOk (T : String) (p : String → Bool) : Prop := ∀ t ∈ ["NoneType", "bool", "int", "str", "tuple", "list", "dict"], kitB t T = some (p t)
theorem isi_tuple : IsiOk "tuple" (fun t => t == "tuple") := by
  intro t ht
  simp only [List.mem_cons, List.not_mem_nil, or_false] at ht
  rcases ht with rfl | rfl | rfl | rfl | rfl | rfl | rfl <;> decide +kernel
theorem isi_str : IsiOk "str" (fun t => t == "str") := by
  intro t ht
  simp only [List.mem_cons, List.not_mem_nil, or_false] at ht
  rcases ht with rfl | rfl | rfl | rfl | rfl | rfl | rfl <;> decide +kernel
theorem isi_dict : IsiOk "dict" (fun t => t == "dict") := by
  intro t ht
  simp only [List.mem_cons, List.not_mem_nil, or_false] at ht
  rcases ht with rfl | rfl | rfl | rfl | rfl | rfl | rfl <;> decide +kernel
theorem isi_bool : IsiOk "bool" (fun t => t == "bool") := by
  intro t ht
  simp only [List.mem_cons, List.not_mem_nil, or_false] at ht
  rcases ht with rfl | rfl | rfl | rfl | rfl | rfl | rfl <;> decide +kernel
theorem isi_int : IsiOk "int" (fun t => t == "int" || t == "bool") := by
  intro t ht
  simp only [List.mem_cons, List.not_mem_nil, or_false] at ht
  rcases ht with rfl | rfl | rfl | rfl | rfl | rfl | rfl <;> decide +kernel
theorem Rep.ty {B : Sb} {F H : Hp} {k : List Addr} {v : V} {d : D} {t : String} (h : Rep B F k v d) (sub : Ex F H) (e : tyN d = some t) : TyX B.K H v (.type t) ∧ t ∈ ["NoneType", "bool", "int", "str", "tuple", "list", "dict"] := by
  cases h <;> try (cases e; done)
  case non => cases e; exact ⟨.base .non, by simp⟩
  case bl b => cases e; exact ⟨.base (.bl b), by simp⟩
  case int i => cases e; exact ⟨.base (.int i), by simp⟩
  case str x => cases e; exact ⟨.base (.str x), by simp⟩
  case tup a xs ds h r =>
    cases e
    refine ⟨?_, by simp⟩
    rcases h with (h | ⟨o, h⟩) | ⟨o, its, n, h1, h2, _⟩
    · exact .base (.tup (sub _ _ h))
    · exact .fTuple (sub _ _ h)
    · exact .kTuple h1 h2
  case lst a xs ds h r => cases e; exact ⟨.base (.lst (sub _ _ h)), by simp⟩
  case dic a ob xs ds h r => cases e; exact ⟨.fDict (sub _ _ h), by simp⟩
theorem se_isi {X : Cx} {W : WX} {e : Expr} {T : Str} {Ts : String} {p1 p2 pos : Pos} {ma : M D} {p : String → Bool} (ho : IsiOk Ts p) (he : SE X W e ma) (hm : X.mg "isinstance" = none) (hT : X.mg T = none) (hv : bootBuiltins T = some (.type Ts)) (hg : Gl X "isinstance" := by rfl) (hgT : Gl X T := by rfl)
    (hn : T ≠ "__name__" := by decide) (hd : (T == ("__debug__" : Str)) = false := by decide)
    (hs : starEach [e, .Name T p2] X.env = (false, eval e X.env) :: starEach [.Name T p2] X.env := by rfl) (hs2 : starEach [.Name T p2] X.env = (false, eval (.Name T p2) X.env) :: starEach [] X.env := by rfl) (hpl : (backTo pos (starEach [.Name T p2] X.env)).any (·.1) = false := by rfl) :
    SE X W (.Call (.Name "isinstance" p1) [e, .Name T p2] [] pos) (m1 (dIsi p) ma) :=
  PE_imp (pe_callB call_isi hg hm (by decide +kernel) (pa_cons he (pa_cons (pe_bltn (v := .ty Ts) hgT hT hv rfl hn hd) pa_nil hs2) hs) (by decide) (by decide) hs hpl) fun σ H Q ⟨Hb, Fb, kb, k, F, s, ok, h⟩ =>
    ⟨Hb, Fb, kb, k, F, s, ok, h.bind.imp fun d s1 F1 k1 H1 e1 p1 ok1 h1 v rv => by
      cases q : tyN d with
      | none =>
        have : dIsi p d = none := by unfold dIsi; rw [q]; rfl
        rw [this] at h1; exact h1.elim
      | some t =>
        have : dIsi p d = some (.bl (p t)) := by unfold dIsi; rw [q]; rfl
        rw [this] at h1
        obtain ⟨ty, tm⟩ := rv.ty ok1.bs.sub q
        exact ⟨v, .ty Ts, .type t, .type Ts, p t, rfl, .ty Ts, ty, kit_ty (ho t tm), h1 H1 F1 k1 (Evl.Ex.refl _) (List.prefix_refl _) ok1 _ (.bl _)⟩⟩

/-! ### x in xs -/
def flatD : D → Bool
  | .non => true
  | .bl _ => true
  | .int _ => true
  | .str _ => true
  | _ => false
section
variable {B : Sb} {F : Hp} {k : List Addr}
theorem Rep.flat {v : V} {d : D} (h : Rep B F k v d) (e : flatD d = true) : flatV v = true := by
  cases h <;> first | rfl | cases e
theorem Rep.eqV {v u : V} {d e : D} (h : Rep B F k v d) (g : Rep B F k u e) (fd : flatD d = true) (fe : flatD e = true) : L2.eqV v u = eqD d e := by
  cases h <;> first | (cases fd; done) | (cases g <;> first | (cases fe; done) | rfl)
theorem RepL.inV {v : V} {d : D} (h : Rep B F k v d) (fd : flatD d = true) : ∀ {xs : List V} {ds : List D}, RepL B F k xs ds → ds.all flatD = true → xs.all flatV = true ∧ L2.inV v xs = ds.any (fun y => eqD y d)
  | _, _, .nil, _ => ⟨rfl, rfl⟩
  | _, _, .cons g r, e => by
    rw [List.all_cons, Bool.and_eq_true] at e
    obtain ⟨h1, h2⟩ := RepL.inV h fd r e.2
    refine ⟨by rw [List.all_cons, g.flat e.1, h1]; rfl, ?_⟩
    unfold L2.inV at h2 ⊢
    rw [List.any_cons, List.any_cons, h2, g.eqV h e.1 fd]
def inD (d : D) (l : List D) : Option Bool := if (flatD d && l.all flatD) = true then some (l.any fun y => eqD y d) else none
def dIn (d e : D) : Option D := match e with
  | .tup l => (inD d l).map .bl
  | .lst l => (inD d l).map .bl
  | _ => none
def dNotIn (d e : D) : Option D := match e with
  | .tup l => (inD d l).map fun b => .bl (!b)
  | .lst l => (inD d l).map fun b => .bl (!b)
  | _ => none
theorem inD_some {d : D} {l : List D} {b : Bool} (h : inD d l = some b) : flatD d = true ∧ l.all flatD = true ∧ b = l.any (fun y => eqD y d) := by
  unfold inD at h
  by_cases c : (flatD d && l.all flatD) = true
  · rw [if_pos c] at h
    rw [Bool.and_eq_true] at c
    exact ⟨c.1, c.2, (Option.some.inj h).symm⟩
  · rw [if_neg c] at h; cases h
theorem od_in : OpD B (rIn B.K false) dIn := fun F k H x y dx dy z Q sub rx ry e q => by
  have fin : ∀ {a : Addr} {xs : List V} {ds : List D}, (SqL B.K H a xs ∨ SqT B.K H a xs) → RepL B F k xs ds → (inD dx ds).map D.bl = some z → rIn B.K false x (.ref a) H Q := fun {a xs ds} hq r e => by
    cases hi : inD dx ds with
    | none => rw [hi] at e; cases e
    | some b =>
      rw [hi] at e
      cases e
      obtain ⟨f1, f2, f3⟩ := inD_some hi
      obtain ⟨g1, g2⟩ := RepL.inV rx f1 r f2
      refine ⟨a, xs, rfl, hq, rx.flat f1, g1, ?_⟩
      rw [if_neg Bool.false_ne_true, g2, ← f3]
      exact q _ F H (Grow.refl sub) (.bl _)
  cases ry <;> try (cases e; done)
  case tup a xs ds h r => exact fin (.inr (Evl.ex_t sub h)) r e
  case lst a xs ds h r => exact fin (.inl (SqL.of (sub _ _ h))) r e
theorem od_notIn : OpD B (rIn B.K true) dNotIn := fun F k H x y dx dy z Q sub rx ry e q => by
  have fin : ∀ {a : Addr} {xs : List V} {ds : List D}, (SqL B.K H a xs ∨ SqT B.K H a xs) → RepL B F k xs ds → (inD dx ds).map (fun b => D.bl (!b)) = some z → rIn B.K true x (.ref a) H Q := fun {a xs ds} hq r e => by
    cases hi : inD dx ds with
    | none => rw [hi] at e; cases e
    | some b =>
      rw [hi] at e
      cases e
      obtain ⟨f1, f2, f3⟩ := inD_some hi
      obtain ⟨g1, g2⟩ := RepL.inV rx f1 r f2
      refine ⟨a, xs, rfl, hq, rx.flat f1, g1, ?_⟩
      rw [if_pos rfl, g2, ← f3]
      exact q _ F H (Grow.refl sub) (.bl _)
  cases ry <;> try (cases e; done)
  case tup a xs ds h r => exact fin (.inr (Evl.ex_t sub h)) r e
  case lst a xs ds h r => exact fin (.inl (SqL.of (sub _ _ h))) r e
/-- b is True -/
def dIsB : D → D → Option D
  | .bl a, .bl b => some (.bl (decide (a = b)))
  | _, _ => none
def dNotB : D → D → Option D
  | .bl a, .bl b => some (.bl (!decide (a = b)))
  | _, _ => none
theorem od_isB : OpD B (fun x y H Q => ∃ a b, x = .bl a ∧ y = .bl b ∧ Q (.bl (decide (a = b))) H) dIsB := fun F k H x y dx dy z Q sub rx ry e q => by
  cases rx <;> try (cases e; done)
  cases ry <;> try (cases e; done)
  cases e
  exact ⟨_, _, rfl, rfl, q _ F H (Grow.refl sub) (.bl _)⟩
theorem od_notB : OpD B (fun x y H Q => ∃ a b, x = .bl a ∧ y = .bl b ∧ Q (.bl (!decide (a = b))) H) dNotB := fun F k H x y dx dy z Q sub rx ry e q => by
  cases rx <;> try (cases e; done)
  cases ry <;> try (cases e; done)
  cases e
  exact ⟨_, _, rfl, rfl, q _ F H (Grow.refl sub) (.bl _)⟩
end

/-! ### what is walked -/
section
variable {B : Sb} {X : Cx} {W : WX} {tg : Expr}
def itemsD : D → Option (List D)
  | .lst l => some l
  | .tup l => some l
  | .str x => some (x.cps.toList.map fun c => .str ⟨#[c]⟩)
  | _ => none
def mItems (m : M D) : M (List D) := mbind m fun d => mopt (itemsD d)
def mItemsL (m : M D) : M (List D) := mbind m fun d => match d with
  | .lst l => mpure l
  | _ => mno
def mItemsT (m : M D) : M (List D) := mbind m fun d => match d with
  | .tup l => mpure l
  | _ => mno
def mItemsS (m : M D) : M (List D) := mbind m fun d => match d with
  | .str x => mpure (x.cps.toList.map fun c => .str ⟨#[c]⟩)
  | _ => mno
theorem wd_list {F : Hp} {k : List Addr} {a : Addr} {xs : List V} {ds : List D} (h : F a = some (.lst xs)) (r : RepL B F k xs ds) : WalkD B F k (Itl B.K a) ds := fun F' H' k' e p sub => by
  have hq : SqL B.K H' a xs := SqL.of (sub _ _ (e _ _ h))
  refine ⟨fun i hi => ?_, ⟨xs, hq, by rw [r.length]; exact Nat.le_refl _⟩, fun i x H2 hi y => ?_⟩
  · have hx : i < xs.length := by rw [r.length]; exact hi
    exact ⟨xs, xs[i], hq, List.getElem?_eq_getElem hx⟩
  · obtain ⟨rfl, y⟩ := y
    obtain ⟨d, hd, rd⟩ := r.get (y xs hq)
    exact ⟨F', d, Grow.refl sub, hd, rd.mono e p⟩
theorem wd_tup {F : Hp} {k : List Addr} {a : Addr} {xs : List V} {ds : List D} (h : SqT B.K F a xs) (r : RepL B F k xs ds) : WalkD B F k (Itt B.K a) ds := fun F' H' k' e p sub => by
  have hq : SqT B.K H' a xs := Evl.ex_t (e.trans sub) h
  refine ⟨fun i hi => ?_, ⟨xs, hq, by rw [r.length]; exact Nat.le_refl _⟩, fun i x H2 hi y => ?_⟩
  · have hx : i < xs.length := by rw [r.length]; exact hi
    exact ⟨xs, xs[i], hq, List.getElem?_eq_getElem hx⟩
  · obtain ⟨rfl, y⟩ := y
    obtain ⟨d, hd, rd⟩ := r.get (y xs hq)
    exact ⟨F', d, Grow.refl sub, hd, rd.mono e p⟩
theorem si_list {e : Expr} {m : M D} (h : SE X W e m) : SI X W tg e (mItemsL m) := PI_imp (pi_list h) fun σ H Q ⟨Hb, Fb, kb, k, F, s, ok, h⟩ =>
  ⟨Hb, Fb, kb, k, F, s, ok, h.bind.imp fun d s1 F1 k1 H1 e1 p1 ok1 h1 v rv => by
    cases rv <;> try (exact h1.elim)
    case lst a xs ds hl r => exact ⟨a, rfl, ⟨xs, SqL.of (ok1.bs.sub _ _ hl)⟩, h1 H1 F1 k1 (Evl.Ex.refl _) (List.prefix_refl _) ok1 _ (wd_list hl r)⟩⟩
theorem si_tup {e : Expr} {m : M D} (h : SE X W e m) : SI X W tg e (mItemsT m) := PI_imp (pi_tup h) fun σ H Q ⟨Hb, Fb, kb, k, F, s, ok, h⟩ =>
  ⟨Hb, Fb, kb, k, F, s, ok, h.bind.imp fun d s1 F1 k1 H1 e1 p1 ok1 h1 v rv => by
    cases rv <;> try (exact h1.elim)
    case tup a xs ds hl r => exact ⟨a, rfl, ⟨xs, Evl.ex_t ok1.bs.sub hl⟩, h1 H1 F1 k1 (Evl.Ex.refl _) (List.prefix_refl _) ok1 _ (wd_tup hl r)⟩⟩
theorem si_str {e : Expr} {m : M D} (h : SE X W e m) : SI X W tg e (mItemsS m) := PI_imp (pi_str h) fun σ H Q ⟨Hb, Fb, kb, k, F, s, ok, h⟩ =>
  ⟨Hb, Fb, kb, k, F, s, ok, h.bind.imp fun d s1 F1 k1 H1 e1 p1 ok1 h1 v rv => by
    cases rv <;> try (exact h1.elim)
    case str x =>
      refine ⟨x, rfl, h1 H1 F1 k1 (Evl.Ex.refl _) (List.prefix_refl _) ok1 _ fun F' H' k' e p sub => ?_⟩
      have hlen : (x.cps.toList.map fun c => D.str ⟨#[c]⟩).length = x.cps.size := by rw [List.length_map, Array.length_toList]
      rw [hlen]
      refine ⟨fun i hi => hi, Nat.le_refl x.cps.size, fun i v H2 hi y => ?_⟩
      obtain ⟨rfl, c, hc, rfl⟩ := y
      refine ⟨F', .str ⟨#[c]⟩, Grow.refl sub, ?_, .str _⟩
      rw [List.getElem?_map, Array.getElem?_toList, hc]
      rfl⟩
def mRange (m : M D) : M (List D) := mbind m fun d => match d with
  | .int n => if -(2 ^ 62) ≤ n ∧ n < 2 ^ 62 then mpure ((List.range n.toNat).map fun i => .int (i : Nat)) else mno
  | _ => mno
theorem si_range {e : Expr} {m : M D} {p pos : Pos} (h : SE X W e m) (hm : X.mg "range" = none) (hg : Gl X "range" := by rfl) (hs : starEach [e] X.env = [(false, eval e X.env)] := by rfl) : SI X W tg (.Call (.Name "range" p) [e] [] pos) (mRange m) :=
  PI_imp (pi_range1 hg hm (pa_cons h pa_nil hs) hs) fun σ H Q ⟨Hb, Fb, kb, k, F, s, ok, h⟩ =>
  ⟨Hb, Fb, kb, k, F, s, ok, h.bind.imp fun d s1 F1 k1 H1 e1 p1 ok1 h1 v rv => by
    cases rv <;> try (exact h1.elim)
    case int n =>
      have h1 : Fin (sbOf X) Hb Fb kb k1 F1 σ W ((if -(2 ^ 62) ≤ n ∧ n < 2 ^ 62 then mpure ((List.range n.toNat).map fun i => D.int (i : Nat)) else mno) s1) _ := h1
      by_cases hn : -(2 ^ 62) ≤ n ∧ n < 2 ^ 62
      · rw [if_pos hn] at h1
        refine ⟨n, rfl, hn.1, hn.2, h1 H1 F1 k1 (Evl.Ex.refl _) (List.prefix_refl _) ok1 _ fun F' H' k' e p sub => ?_⟩
        have hlen : ((List.range n.toNat).map fun i => D.int (i : Nat)).length = n.toNat := by rw [List.length_map, List.length_range]
        rw [hlen]
        refine ⟨fun i hi => hi, Nat.le_refl n.toNat, fun i v H2 hi y => ?_⟩
        obtain ⟨rfl, rfl⟩ := y
        refine ⟨F', .int (i : Nat), Grow.refl sub, ?_, ?_⟩
        · rw [List.getElem?_map, List.getElem?_range hi]
          rfl
        · rw [Int.zero_add]; exact .int _
      · rw [if_neg hn] at h1; exact h1.elim⟩
/-- zip(t, u), two tuples -/
def zipD : List D → List D → List D
  | a :: as, b :: bs => .tup [a, b] :: zipD as bs
  | _, _ => []
theorem zipD_length : ∀ as bs : List D, (zipD as bs).length = min as.length bs.length
  | [], _ => by simp [zipD]
  | _ :: _, [] => by simp [zipD]
  | a :: as, b :: bs => by simp [zipD, zipD_length as bs]
theorem zipD_get : ∀ {as bs : List D} {i : Nat} {x y : D}, as[i]? = some x → bs[i]? = some y → (zipD as bs)[i]? = some (.tup [x, y])
  | [], _, _, _, _, h, _ => by simp at h
  | _ :: _, [], _, _, _, _, h => by simp at h
  | a :: as, b :: bs, 0, x, y, h, g => by simp at h g; subst h; subst g; rfl
  | a :: as, b :: bs, i + 1, x, y, h, g => by
    have := zipD_get (as := as) (bs := bs) (i := i) (by simpa using h) (by simpa using g)
    simpa [zipD] using this
def mZipT (m : M (List D)) : M (List D) := mbind m fun ds => match ds with
  | [.tup a, .tup b] => mpure (zipD a b)
  | _ => mno
theorem si_zipT {elts : List Expr} {kk : Nat} {e e2 : Expr} {m : M (List D)} {p pos tpos : Pos} (h : SA X W [e, e2] m) (hm : X.mg "zip" = none) (hg : Gl X "zip" := by rfl)
    (hs : starEach [e, e2] X.env = (false, eval e X.env) :: starEach [e2] X.env := by rfl) (hpl : (backTo pos (starEach [e2] X.env)).any (·.1) = false := by rfl) : SI X W (.Tuple elts kk tpos) (.Call (.Name "zip" p) [e, e2] [] pos) (mZipT m) :=
  PI_imp (RZ.pi_zipA hg hm h hs hpl) fun σ H Q ⟨Hb, Fb, kb, k, F, s, ok, h⟩ =>
  ⟨Hb, Fb, kb, k, F, s, ok, h.bind.imp fun ds s1 F1 k1 H1 e1 p1 ok1 h1 vs rvs => by
    cases rvs with
    | nil => exact h1.elim
    | cons ra rr =>
      cases rr with
      | nil => cases ra <;> exact h1.elim
      | cons rb rr =>
        cases rr with
        | cons _ _ => cases ra <;> cases rb <;> exact h1.elim
        | nil =>
          cases ra <;> try (exact h1.elim)
          case tup a xs ds ha r =>
            cases rb <;> try (exact h1.elim)
            case tup b ys es hb r' =>
              refine ⟨a, b, xs, ys, rfl, .inr ⟨Evl.ex_t ok1.bs.sub ha, Evl.ex_t ok1.bs.sub hb, h1 H1 F1 k1 (Evl.Ex.refl _) (List.prefix_refl _) ok1 _ fun F' H' k' e p sub => ?_⟩⟩
              have qa : SqT X.K H' a xs := Evl.ex_t (e.trans sub) ha
              have qb : SqT X.K H' b ys := Evl.ex_t (e.trans sub) hb
              rw [zipD_length]
              refine ⟨fun i hi => ?_, ⟨xs, ys, qa, qb, by rw [r.length, r'.length]; omega⟩, fun i v H2 hi y => ?_⟩
              · have h1 : i < xs.length := by rw [r.length]; omega
                have h2 : i < ys.length := by rw [r'.length]; omega
                exact ⟨xs, ys, xs[i], ys[i], qa, qb, List.getElem?_eq_getElem h1, List.getElem?_eq_getElem h2⟩
              · obtain ⟨T, x, y, rfl, nT, rfl, fx, fy⟩ := y
                obtain ⟨d, hd, rd⟩ := r.get (fx xs qa)
                obtain ⟨d', hd', rd'⟩ := r'.get (fy ys qb)
                have gr := Grow.one (o := .tup [x, y]) sub nT
                exact ⟨_, .tup [d, d'], gr, zipD_get hd hd', .tup (.inl (.inl upd_same)) (.cons (rd.mono (e.trans gr.ff) p) (.cons (rd'.mono (e.trans gr.ff) p) .nil))⟩⟩
end
end FX

/-! FX: lists and dicts of a def's own, changed by their methods; cells; dicts read -/
namespace FX
open PySem L2

theorem Fin.cast {α : Type} {B : Sb} {Hb Fb : Hp} {kb k : List Addr} {F : Hp} {σ : St} {W : WX} {P : α → S → Hp → List Addr → Hp → Prop} {r : R α} (h : Fin B Hb Fb kb k F σ W r P) (r' : R α) (e : r = r') : Fin B Hb Fb kb k F σ W r' P := by rw [← e]; exact h
theorem FinS.cast {B : Sb} {Hb Fb : Hp} {kb k : List Addr} {F : Hp} {W : WX} {r : R Out} {E : Ends} (h : FinS B Hb Fb kb k F W r E) (r' : R Out) (e : r = r') : FinS B Hb Fb kb k F W r' E := by rw [← e]; exact h
theorem Fin.no {α : Type} {B : Sb} {Hb Fb : Hp} {kb k : List Addr} {F : Hp} {σ : St} {W : WX} {P : α → S → Hp → List Addr → Hp → Prop} {r : R α} (h : Fin B Hb Fb kb k F σ W r P) (e : r = .no) : False := by rw [e] at h; exact h

/-- the list that is the slot's own -/
def ownL (s : S) (i : Nat) : Option (List D) := match s.e[i]? with
  | some (some (.own (.lst l))) => some l
  | _ => none
theorem ownL_some {s : S} {i : Nat} {l : List D} (h : ownL s i = some l) : s.e[i]? = some (some (.own (.lst l))) := by
  unfold ownL at h
  split at h
  · rename_i l' e
    rw [e]
    cases h
    rfl
  · cases h
def ownD (s : S) (i : Nat) : Option (List (D × D)) := match s.e[i]? with
  | some (some (.own (.dic l))) => some l
  | _ => none
theorem ownD_some {s : S} {i : Nat} {l : List (D × D)} (h : ownD s i = some l) : s.e[i]? = some (some (.own (.dic l))) := by
  unfold ownD at h
  split at h
  · rename_i l' e
    rw [e]
    cases h
    rfl
  · cases h
def mApp (i : Nat) (m : M D) : M D := fun s => match ownL s i with
  | none => .no
  | some _ => mbind m (fun d s' => match ownL s' i with
    | some l => if l.length < 100000 then .ok D.non (setO i (.lst (l ++ [d])) s') else .no
    | none => .no) s
def mPop (i : Nat) : M D := fun s => match ownL s i with
  | some l => (match l[l.length - 1]? with
    | some d => .ok d (setO i (.lst l.dropLast) s)
    | none => .no)
  | none => .no
def mExt (i : Nat) (m : M D) : M D := fun s => match ownL s i with
  | none => .no
  | some _ => mbind m (fun d s' => match d, ownL s' i with
    | .lst r, some l => if l.length + r.length ≤ 100000 then .ok D.non (setO i (.lst (l ++ r)) s') else .no
    | _, _ => .no) s
section
variable {X : Cx} {W : WX} {apos cpos p : Pos} {x : Str} {i : Nat} {e : Expr} {m : M D}
theorem RepL.dropLast {B : Sb} {F : Hp} {k : List Addr} {v : List V} {d : List D} (r : RepL B F k v d) : RepL B F k v.dropLast d.dropLast := by
  rw [List.dropLast_eq_take, List.dropLast_eq_take, r.length]
  exact r.take _
theorem se_append (he : SE X W e m) (hN : X.N[i]? = some x := by rfl) (hv : Vis X.env.scope x := by first | exact Or.inl rfl | exact Or.inr (Or.inl rfl) | exact Or.inr (Or.inr rfl)) (hd : (x == ("__debug__" : Str)) = false := by decide)
    (hcd : (x == ("__classdict__" : Str)) = false := by decide) (hbase : attributeBase (.Name x p) "append" X.env (eval (.Name x p) X.env) = eval (.Name x p) X.env := by rfl)
    (hfew : ((backTo cpos (starEach [e] X.env)).all (fun x => !x.1) && (backToKw cpos (keywordEach [] X.env)).all (fun x => x.1.isSome) && decide (([e] : List Expr).length + ([] : List Keyword).length + (if ([] : List Keyword).isEmpty then 0 else 1) < 30)) = true := by rfl)
    (hline : (apos.endLine == cpos.line) = true := by rfl) (hs : starEach [e] X.env = (false, eval e X.env) :: starEach [] X.env := by rfl) (hplain : (backTo cpos (starEach [] X.env)).any (·.1) = false := by rfl) :
    SE X W (.Call (.Attribute (.Name x p) "append" apos) [e] [] cpos) (mApp i m) :=
  PE_imp (pe_bm PySem.F.plainAttrs_list PySem.F.slot_list_append PySem.F.type_list_append mt_append (pe_var hN hv hd hcd) (pa_cons he pa_nil hs) hbase hfew hline hs hplain) fun σ H Q ⟨Hb, Fb, kb, k, F, s, ok, h⟩ => by
    unfold mApp at h
    cases q : ownL s i with
    | none => rw [q] at h; exact h.elim
    | some l0 =>
      rw [q] at h
      obtain ⟨a, ea, _, _, _, xs, hxs, _⟩ := ok.own i _ (ownL_some q)
      refine ⟨.ref a, ea, .inl ⟨rfl, xs, SqL.of hxs⟩, Hb, Fb, kb, k, F, s, ok, (Fin.bind h).imp fun d s1 F1 k1 H1 e1 p1 ok1 h1 v rv => ?_⟩
      cases q1 : ownL s1 i with
      | none => exact (h1.no (by (try dsimp only); rw [q1])).elim
      | some l =>
        obtain ⟨b, eb, _, _, _, ys, hys, ry⟩ := ok1.own i _ (ownL_some q1)
        rw [ea] at eb
        cases eb
        by_cases hl : l.length < 100000
        · have h1 := h1.cast (.ok D.non (setO i (.lst (l ++ [d])) s1)) (by (try dsimp only); rw [q1]; (try dsimp only); rw [if_pos hl])
          refine ⟨a, ys, v, rfl, rfl, hys, by rw [ry.length]; exact Evl.sz_lt hl, ?_⟩
          exact h1 _ F1 k1 (Evl.Ex.refl _) (List.prefix_refl _) (ok1.mut (ownL_some q1) ea ⟨_, upd_same, ry.append (.cons rv .nil)⟩) .non .non
        · exact (h1.no (by (try dsimp only); rw [q1]; (try dsimp only); rw [if_neg hl])).elim
theorem se_pop (hN : X.N[i]? = some x := by rfl) (hv : Vis X.env.scope x := by first | exact Or.inl rfl | exact Or.inr (Or.inl rfl) | exact Or.inr (Or.inr rfl)) (hd : (x == ("__debug__" : Str)) = false := by decide)
    (hcd : (x == ("__classdict__" : Str)) = false := by decide) (hbase : attributeBase (.Name x p) "pop" X.env (eval (.Name x p) X.env) = eval (.Name x p) X.env := by rfl) (hline : (apos.endLine == cpos.line) = true := by rfl) :
    SE X W (.Call (.Attribute (.Name x p) "pop" apos) [] [] cpos) (mPop i) :=
  PE_imp (pe_bm0 PySem.F.plainAttrs_list PySem.F.slot_list_pop PySem.F.type_list_pop mt_pop (pe_var hN hv hd hcd) hbase hline) fun σ H Q ⟨Hb, Fb, kb, k, F, s, ok, h⟩ => by
    unfold mPop at h
    cases q : ownL s i with
    | none => rw [q] at h; exact h.elim
    | some l =>
      rw [q] at h
      obtain ⟨a, ea, _, _, _, xs, hxs, rx⟩ := ok.own i _ (ownL_some q)
      refine ⟨.ref a, ea, .inl ⟨rfl, xs, SqL.of hxs⟩, ?_⟩
      cases q1 : l[l.length - 1]? with
      | none => exact (h.no (by (try dsimp only); rw [q1])).elim
      | some d =>
        have h1 := h.cast (.ok d (setO i (.lst l.dropLast) s)) (by (try dsimp only); rw [q1])
        obtain ⟨v, ev, rv⟩ := rx.getD q1
        refine ⟨a, xs, v, rfl, rfl, hxs, by rw [rx.length]; exact ev, ?_⟩
        exact h1 _ F k (Evl.Ex.refl _) (List.prefix_refl _) (ok.mut (ownL_some q) ea ⟨_, upd_same, rx.dropLast⟩) v rv
theorem se_extend (he : SE X W e m) (hN : X.N[i]? = some x := by rfl) (hv : Vis X.env.scope x := by first | exact Or.inl rfl | exact Or.inr (Or.inl rfl) | exact Or.inr (Or.inr rfl)) (hd : (x == ("__debug__" : Str)) = false := by decide)
    (hcd : (x == ("__classdict__" : Str)) = false := by decide) (hbase : attributeBase (.Name x p) "extend" X.env (eval (.Name x p) X.env) = eval (.Name x p) X.env := by rfl)
    (hfew : ((backTo cpos (starEach [e] X.env)).all (fun x => !x.1) && (backToKw cpos (keywordEach [] X.env)).all (fun x => x.1.isSome) && decide (([e] : List Expr).length + ([] : List Keyword).length + (if ([] : List Keyword).isEmpty then 0 else 1) < 30)) = true := by rfl)
    (hline : (apos.endLine == cpos.line) = true := by rfl) (hs : starEach [e] X.env = (false, eval e X.env) :: starEach [] X.env := by rfl) (hplain : (backTo cpos (starEach [] X.env)).any (·.1) = false := by rfl) :
    SE X W (.Call (.Attribute (.Name x p) "extend" apos) [e] [] cpos) (mExt i m) :=
  PE_imp (pe_bm PySem.F.plainAttrs_list PySem.F.slot_list_extend PySem.F.type_list_extend mt_extend (pe_var hN hv hd hcd) (pa_cons he pa_nil hs) hbase hfew hline hs hplain) fun σ H Q ⟨Hb, Fb, kb, k, F, s, ok, h⟩ => by
    unfold mExt at h
    cases q : ownL s i with
    | none => rw [q] at h; exact h.elim
    | some l0 =>
      rw [q] at h
      obtain ⟨a, ea, _, _, _, xs, hxs, _⟩ := ok.own i _ (ownL_some q)
      refine ⟨.ref a, ea, .inl ⟨rfl, xs, SqL.of hxs⟩, Hb, Fb, kb, k, F, s, ok, (Fin.bind h).imp fun d s1 F1 k1 H1 e1 p1 ok1 h1 v rv => ?_⟩
      cases q1 : ownL s1 i with
      | none => exact (h1.no (by (try dsimp only); rw [q1]; cases d <;> rfl)).elim
      | some l =>
        obtain ⟨b, eb, _, _, _, ys, hys, ry⟩ := ok1.own i _ (ownL_some q1)
        rw [ea] at eb
        cases eb
        cases rv <;> try (exact (h1.no (by dsimp only; try rfl)).elim)
        case lst c zs r hz rz =>
          by_cases hl : l.length + r.length ≤ 100000
          · have h1 := h1.cast (.ok D.non (setO i (.lst (l ++ r)) s1)) (by (try dsimp only); rw [q1]; (try dsimp only); rw [if_pos hl])
            refine ⟨a, c, ys, zs, rfl, rfl, hys, ok1.bs.sub _ _ hz, by rw [ry.length, rz.length]; exact Evl.sz_of hl, ?_⟩
            exact h1 _ F1 k1 (Evl.Ex.refl _) (List.prefix_refl _) (ok1.mut (ownL_some q1) ea ⟨_, upd_same, ry.append rz⟩) .non .non
          · exact (h1.no (by (try dsimp only); rw [q1]; (try dsimp only); rw [if_neg hl])).elim
end

/-! ### cells that hold lists -/
def mIxC (mo mi : M D) : M D := mbind mo fun x => mbind mi fun y s => match x, y with
  | .cell n, .int i => (match s.g[n]? with
    | some (.lst l) => (match atI l i with
      | some d => .ok d s
      | none => .no)
    | _ => .no)
  | _, _ => .no
def setC (n : Nat) (o : Ob) (s : S) : S := ⟨s.e, s.g.set n o⟩
def mSetC (mo mi me : M D) : M Out := mbind me fun d => mbind mo fun x => mbind mi fun y s => match x, y with
  | .cell n, .int i => (match s.g[n]? with
    | some (.lst l) => (match ixN l.length i with
      | some j => .ok .nx (setC n (.lst (l.set j d)) s)
      | none => .no)
    | _ => .no)
  | _, _ => .no
def mNat (y : D) : M Unit := match y with
  | .int i => if 0 ≤ i then mpure () else mno
  | _ => mno
/-- o[i] += e -/
def mAugC (mo mi me : M D) : M Out := mbind mo fun x => mbind mi fun y => mbind (mIxC (mC x) (mC y)) fun d => mbind (mNat y) fun _ => mbind me fun d' s => match x, y, d, d' with
  | .cell n, .int i, .int a, .int b => (match s.g[n]? with
    | some (.lst l) => (match ixN l.length i with
      | some j => .ok .nx (setC n (.lst (l.set j (.int (a + b)))) s)
      | none => .no)
    | _ => .no)
  | _, _, _, _ => .no
section
variable {X : Cx} {W : WX} {pos : Pos} {o i e : Expr} {mo mi me : M D}
theorem Ok.cellL {B : Sb} {Hb Fb : Hp} {kb k : List Addr} {F : Hp} {s : S} {σ : St} {H : Hp} {n : Nat} {a : Addr} {l : List D} (h : Ok B Hb Fb kb k F s σ H) (ea : k[n]? = some a) (eg : s.g[n]? = some (.lst l)) : ∃ xs, H a = some (.lst xs) ∧ RepL B F k xs l := h.bs.cel n a _ ea eg
theorem se_ixC (ho : SE X W o mo) (hi : SE X W i mi) (hs : PlainIx i) : SE X W (.Subscript o i pos) (mIxC mo mi) := PE_imp (pe_ix ix_list ho hi hs) fun σ H Q ⟨Hb, Fb, kb, k, F, s, ok, h⟩ =>
  ⟨Hb, Fb, kb, k, F, s, ok, h.bind.imp fun dx s1 F1 k1 H1 e1 p1 ok1 h1 v rv => ⟨Hb, Fb, kb, k1, F1, s1, ok1, h1.bind.imp fun dy s2 F2 k2 H2 e2 p2 ok2 h2 u ru => by
    cases rv <;> try (exact h2.elim)
    case cell a n ea =>
      cases ru <;> try (exact h2.elim)
      case int j =>
        have ea2 := p2.get ea
        cases q : s2.g[n]? with
        | none => exact (h2.no (by (try dsimp only); rw [q])).elim
        | some ob =>
          cases ob with
          | dic _ => exact (h2.no (by (try dsimp only); rw [q])).elim
          | ins _ _ => exact (h2.no (by (try dsimp only); rw [q])).elim
          | kd _ => exact (h2.no (by (try dsimp only); rw [q])).elim
          | ld _ => exact (h2.no (by (try dsimp only); rw [q])).elim
          | lst l =>
            cases q2 : L2.atI l j with
            | none => exact (h2.no (by (try dsimp only); rw [q]; (try dsimp only); rw [q2])).elim
            | some d =>
              have h3 := h2.cast (.ok d s2) (by (try dsimp only); rw [q]; (try dsimp only); rw [q2])
              obtain ⟨xs, hxs, rx⟩ := ok2.cellL ea2 q
              obtain ⟨w, ew, rw'⟩ := rx.atI q2
              exact ⟨a, xs, j, w, rfl, rfl, SqL.of hxs, ew, h3 H2 F2 k2 (Evl.Ex.refl _) (List.prefix_refl _) ok2 w rw'⟩⟩⟩
theorem RepL.set {B : Sb} {F : Hp} {k : List Addr} {v : V} {d : D} (r : Rep B F k v d) : ∀ {xs : List V} {ds : List D} (i : Nat), RepL B F k xs ds → RepL B F k (xs.set i v) (ds.set i d)
  | _, _, _, .nil => .nil
  | _, _, 0, .cons _ t => .cons r t
  | _, _, i + 1, .cons q t => .cons q (RepL.set r i t)
theorem ss_setC {pos' : Pos} (ho : SE X W o mo) (hi : SE X W i mi) (he : SE X W e me)
    (ha : ∀ v, assign (.Subscript o i pos') X.env v = (do
      let ov ← holding [v] (eval o X.env)
      let iv ← holding [v, ov] (eval i X.env)
      standAt pos'
      holding [v, ov, iv] (setItem ov iv v)
      release [v, ov, iv] []) := by intro _; rfl)
    (hs : swapsWithSole [.Subscript o i pos'] e pos.line X.env = pure false := by rfl) (hw : swappedStores [.Subscript o i pos'] e X.env = pure none := by rfl) (h1 : (assignEach [.Subscript o i pos'] X.env).map (·.2) = [assign (.Subscript o i pos') X.env] := by rfl) :
    SS X W (.Assign [.Subscript o i pos'] e pos) (mSetC mo mi me) := PS_imp (ps_asg he (pg_sub ho hi set_list ha) hs hw h1) fun E σ H ⟨Hb, Fb, kb, k, F, s, ok, h⟩ =>
  ⟨Hb, Fb, kb, k, F, s, ok, (FinS.ofBind h).imp fun d s1 F1 k1 H1 e1 p1 ok1 h1 v rv => ⟨Hb, Fb, kb, k1, F1, s1, ok1, (FinS.ofBind h1).imp fun dx s2 F2 k2 H2 e2 p2 ok2 h2 x rx => ⟨Hb, Fb, kb, k2, F2, s2, ok2, (FinS.ofBind h2).imp fun dy s3 F3 k3 H3 e3 p3 ok3 h3 y ry => by
    cases rx <;> try (exact h3.elim)
    case cell a n ea =>
      cases ry <;> try (exact h3.elim)
      case int j =>
        have ea3 := p3.get ea
        have no : ∀ {r : R Out}, FinS (sbOf X) Hb Fb kb k3 F3 W r E → r = .no → False := fun h e => by rw [e] at h; exact h
        cases q : s3.g[n]? with
        | none => exact (no h3 (by (try dsimp only); rw [q])).elim
        | some ob =>
          cases ob with
          | dic _ => exact (no h3 (by (try dsimp only); rw [q])).elim
          | ins _ _ => exact (no h3 (by (try dsimp only); rw [q])).elim
          | kd _ => exact (no h3 (by (try dsimp only); rw [q])).elim
          | ld _ => exact (no h3 (by (try dsimp only); rw [q])).elim
          | lst l =>
            cases q2 : ixN l.length j with
            | none => exact (no h3 (by (try dsimp only); rw [q]; (try dsimp only); rw [q2])).elim
            | some jj =>
              have h4 := h3.cast (.ok .nx (setC n (.lst (l.set jj d)) s3)) (by (try dsimp only); rw [q]; (try dsimp only); rw [q2])
              obtain ⟨xs, hxs, rxs⟩ := ok3.cellL ea3 q
              refine ⟨a, xs, j, jj, rfl, rfl, hxs, by rw [rxs.length]; exact q2, ?_⟩
              exact h4 σ _ F3 k3 (Evl.Ex.refl _) (List.prefix_refl _) (ok3.mutC ea3 ⟨_, upd_same, RepL.set (rv.mono (e2.trans e3) (p2.trans p3)) jj rxs⟩)⟩⟩⟩
theorem get_listP : PGet X (fun x y H Q => ∃ p xs i v, x = .ref p ∧ y = .int i ∧ SqL X.K H p xs ∧ 0 ≤ i ∧ atI xs i = some v ∧ Q v H) := by
  intro pins s σ H x y ov iv Q I rx ry h
  obtain ⟨p, xs, i, v, rfl, rfl, hq, h0, hv, q⟩ := h
  cases rx
  obtain ⟨t, rfl⟩ := ry
  obtain ⟨its, r, pl, hz⟩ := I.list hq
  obtain ⟨j, a1, a2, a3, a4, a5⟩ := atI_get hv
  obtain ⟨u, eu, ru⟩ := r.get a2
  have hn := line63
  have hj : i.toNat = j := by
    rw [seqIndex_of h0 a5] at a1
    exact Option.some.inj a1
  exact wpAny_getItem_list pl.isList h0 (by omega) (by rw [hj]; simpa using eu) ⟨v, H, I, ru, q⟩
theorem ss_augC {tpos : Pos} (ho : SE X W o mo) (hi : SE X W i mi) (he : SE X W e me) (ha : ∀ ov iv new, augStore i ov iv new = (do holding [new, ov, iv] (setItem ov iv new); release [new, ov, iv] []; pure .next) := by intros; rfl) :
    SS X W (.AugAssign (.Subscript o i tpos) .Add e pos) (mAugC mo mi me) := PS_imp (ps_augS ho hi get_listP he ip_add set_list ha) fun E σ H ⟨Hb, Fb, kb, k, F, s, ok, h⟩ =>
  ⟨Hb, Fb, kb, k, F, s, ok, (FinS.ofBind h).imp fun dx s1 F1 k1 H1 e1 p1 ok1 h1 x rx => ⟨Hb, Fb, kb, k1, F1, s1, ok1, (FinS.ofBind h1).imp fun dy s2 F2 k2 H2 e2 p2 ok2 h2 y ry => by
    have no : ∀ {k F} {r : R Out}, FinS (sbOf X) Hb Fb kb k F W r E → r = .no → False := fun h e => by rw [e] at h; exact h
    have h3 := FinS.ofBind (σ := σ) h2
    cases rx <;> try (exact h3.elim)
    case cell a n ea =>
      cases ry <;> try (exact h3.elim)
      case int j =>
        have ea2 := p2.get ea
        cases q : s2.g[n]? with
        | none => exact (h3.no (by show mIxC (mC _) (mC _) s2 = _; unfold mIxC mbind mC; (try dsimp only); rw [q])).elim
        | some ob =>
          cases ob with
          | dic _ => exact (h3.no (by show mIxC (mC _) (mC _) s2 = _; unfold mIxC mbind mC; (try dsimp only); rw [q])).elim
          | ins _ _ => exact (h3.no (by show mIxC (mC _) (mC _) s2 = _; unfold mIxC mbind mC; (try dsimp only); rw [q])).elim
          | kd _ => exact (h3.no (by show mIxC (mC _) (mC _) s2 = _; unfold mIxC mbind mC; (try dsimp only); rw [q])).elim
          | ld _ => exact (h3.no (by show mIxC (mC _) (mC _) s2 = _; unfold mIxC mbind mC; (try dsimp only); rw [q])).elim
          | lst l =>
            cases q2 : L2.atI l j with
            | none => exact (h3.no (by show mIxC (mC _) (mC _) s2 = _; unfold mIxC mbind mC; (try dsimp only); rw [q]; (try dsimp only); rw [q2])).elim
            | some d =>
              have e3 : mIxC (mC (.cell n)) (mC (.int j)) s2 = .ok d s2 := by unfold mIxC mbind mC; (try dsimp only); rw [q]; (try dsimp only); rw [q2]
              rw [e3] at h3
              have h4 := h3 H2 F2 k2 (Evl.Ex.refl _) (List.prefix_refl _) ok2
              obtain ⟨xs, hxs, rxs⟩ := ok2.cellL ea2 q
              obtain ⟨w, ew, rw'⟩ := rxs.atI q2
              have h4n := FinS.ofBind (σ := σ) h4
              by_cases hj0 : 0 ≤ j
              case neg => exact (h4n.no (by show (if 0 ≤ j then mpure () else mno) s2 = _; rw [if_neg hj0])).elim
              have h4 := (h4n.cast (.ok () s2) (by show (if 0 ≤ j then mpure () else mno) s2 = _; rw [if_pos hj0])) H2 F2 k2 (Evl.Ex.refl _) (List.prefix_refl _) ok2
              refine ⟨a, xs, j, w, rfl, rfl, SqL.of hxs, hj0, ew, Hb, Fb, kb, k2, F2, s2, ok2, (FinS.ofBind h4).imp fun d' s5 F5 k5 H5 e5 p5 ok5 h5 u ru => ?_⟩
              obtain ⟨ia, rfl⟩ : ∃ ia, d = D.int ia := by
                cases d <;> first | exact ⟨_, rfl⟩ | exact h5.elim
              cases rw'
              · skip
                cases ru <;> try (exact h5.elim)
                case int ib =>
                  have ea5 := p5.get ea2
                  cases q5 : s5.g[n]? with
                  | none => exact (no h5 (by (try dsimp only); rw [q5])).elim
                  | some ob5 =>
                    cases ob5 with
                    | dic _ => exact (no h5 (by (try dsimp only); rw [q5])).elim
                    | ins _ _ => exact (no h5 (by (try dsimp only); rw [q5])).elim
                    | kd _ => exact (no h5 (by (try dsimp only); rw [q5])).elim
                    | ld _ => exact (no h5 (by (try dsimp only); rw [q5])).elim
                    | lst l5 =>
                      cases q6 : ixN l5.length j with
                      | none => exact (no h5 (by (try dsimp only); rw [q5]; (try dsimp only); rw [q6])).elim
                      | some jj =>
                        have h6 := h5.cast (.ok .nx (setC n (.lst (l5.set jj (.int (ia + ib)))) s5)) (by (try dsimp only); rw [q5]; (try dsimp only); rw [q6])
                        obtain ⟨ys, hys, rys⟩ := ok5.cellL ea5 q5
                        refine ⟨ia, ib, rfl, rfl, a, ys, j, jj, rfl, rfl, hys, by rw [rys.length]; exact q6, ?_⟩
                        exact h6 σ _ F5 k5 (Evl.Ex.refl _) (List.prefix_refl _) (ok5.mutC ea5 ⟨_, upd_same, RepL.set (.int _) jj rys⟩)⟩⟩
end

/-! ### a new cell -/
section
variable {B : Sb} {Hb Fb : Hp} {kb k : List Addr} {F : Hp} {s : S} {σ : St} {H : Hp} {a : Addr} {o : Ob}
theorem Ok.newC (h : Ok B Hb Fb kb k F s σ H) (f : Free Hb k F s σ a) (q : ObAt B F k H a o) : Ok B Hb Fb kb (k ++ [a]) F ⟨s.e, s.g ++ [o]⟩ σ H := by
  have pre : Pre k (k ++ [a]) := List.prefix_append _ _
  refine ⟨⟨h.bs.sub, h.bs.keep, h.bs.frz, h.bs.fb, h.bs.pre.trans pre, ?_, fun b hb => ?_, fun b hb => ?_, ?_, fun n b w e1 e2 => ?_⟩, fun i d e => ?_, fun i w e => ?_, h.sep, h.elen⟩
  · rw [List.nodup_append]
    refine ⟨h.bs.nd, List.nodup_cons.mpr ⟨by simp, List.nodup_nil⟩, fun x hx y hy => ?_⟩
    rw [List.mem_singleton] at hy
    subst hy
    exact fun z => f.2.1 (by rw [← z]; exact hx)
  · rcases List.mem_append.mp hb with z | z
    · exact h.bs.new b z
    · rw [List.mem_singleton] at z; subst z; exact .inr f.2.2.1
  · rcases List.mem_append.mp hb with z | z
    · exact h.bs.vol b z
    · rw [List.mem_singleton] at z; subst z; exact f.1
  · show (k ++ [a]).length = (s.g ++ [o]).length
    rw [List.length_append, List.length_append, h.bs.len]
    rfl
  · have e2 : (s.g ++ [o])[n]? = some w := e2
    by_cases hn : n < k.length
    · rw [List.getElem?_append_left hn] at e1
      rw [List.getElem?_append_left (by rw [← h.bs.len]; exact hn)] at e2
      exact (h.bs.cel n b w e1 e2).mono (Evl.Ex.refl _) pre fun _ z => z
    · have hn' : k.length ≤ n := Nat.le_of_not_lt hn
      rw [List.getElem?_append_right hn'] at e1
      rw [List.getElem?_append_right (by rw [← h.bs.len]; exact hn'), ← h.bs.len] at e2
      have h0 : n - k.length = 0 := by
        have := (List.getElem?_eq_some_iff.mp e1).1
        simp at this
        omega
      rw [h0] at e1 e2
      cases e1
      cases e2
      exact q.mono (Evl.Ex.refl _) pre fun _ z => z
  · obtain ⟨v, e1, r⟩ := h.val i d e
    exact ⟨v, e1, r.mono (Evl.Ex.refl _) pre⟩
  · obtain ⟨b, e1, n1, n2, n3, r⟩ := h.own i w e
    refine ⟨b, e1, n1, fun z => ?_, n3, r.mono (Evl.Ex.refl _) pre fun _ z => z⟩
    rcases List.mem_append.mp z with y | y
    · exact n2 y
    · rw [List.mem_singleton] at y; subst y; exact f.2.2.2 i w e e1
end
def mSetCell (i : Nat) (m : M Ob) : M Out := mbind m fun o s => .ok .nx (setV i (.cell s.g.length) ⟨s.e, s.g ++ [o]⟩)
theorem ss_setCell {X : Cx} {W : WX} {pos : Pos} {e : Expr} {m : M Ob} {i : Nat} {x : Str} {pos' : Pos} (hN : X.N.Nodup) (he : SN X W e m) (hi : X.N[i]? = some x := by rfl) (hx : Loc X.env.scope x := by first | exact Or.inl rfl | exact Or.inr rfl) (hs : swapsWith e (some (.Name x pos')) pos.line X.env = pure false := by rfl)
    (hf : X.fn x = true ∨ X.env.scope.names.lookup x = some .local := by first | exact .inl rfl | exact .inr rfl | assumption) : SS X W (.Assign [.Name x pos'] e pos) (mSetCell i m) := PS_imp (ps_set hN hi hx he hs hf) fun E σ H ⟨Hb, Fb, kb, k, F, s, ok, h⟩ =>
  ⟨Hb, Fb, kb, k, F, s, ok, (FinS.ofBind h).imp fun o s1 F1 k1 H1 e1 p1 ok1 h1 a f q =>
    h1 _ H1 F1 (k1 ++ [a]) (Evl.Ex.refl _) (List.prefix_append _ _) ((ok1.newC f q).setV (.cell (by rw [← ok1.bs.len, List.getElem?_append_right (Nat.le_refl _), Nat.sub_self]; rfl)))⟩
end FX

/-! FX: dicts whose keys are texts and whole numbers -/
namespace FX
open PySem L2

/-! ### a thing that is being made -/
section
variable {B : Sb} {Hb Fb : Hp} {kb k k' : List Addr} {F F' : Hp} {s s' : S} {σ : St} {H H' : Hp} {p : Addr} {u : HO}
theorem Ok.rebase (h : Ok B Hb Fb kb k F s σ H) (f : Free Hb k F s σ p) (e : H p = some u) : Ok B (upd Hb p u) Fb kb k F s σ H where
  bs := {
    sub := h.bs.sub
    keep := fun a o q n => by
      by_cases ha : a = p
      · subst ha; rw [upd_same] at q; cases q; exact e
      · rw [upd_ne ha] at q; exact h.bs.keep a o q n
    frz := fun a o q => (h.bs.frz a o q).imp id fun z => by
      rw [upd_ne fun y => by subst y; rw [f.1] at q; cases q]; exact z
    fb := h.bs.fb
    pre := h.bs.pre
    nd := h.bs.nd
    new := fun a ha => (h.bs.new a ha).imp id fun z => by
      rw [upd_ne fun y => by subst y; exact f.2.1 ha]; exact z
    vol := h.bs.vol
    len := h.bs.len
    cel := h.bs.cel }
  val := h.val
  own := fun i o q => by
    obtain ⟨a, e1, n1, n2, n3, r⟩ := h.own i o q
    exact ⟨a, e1, n1, n2, by rw [upd_ne fun y => by subst y; exact f.2.2.2 i o q e1]; exact n3, r⟩
  sep := h.sep
  elen := h.elen
theorem Ok.unbase (h : Ok B (upd Hb p u) Fb kb k F s σ H) (nb : Hb p = none) (nf : Fb p = none) (nk : p ∉ kb) : Ok B Hb Fb kb k F s σ H ∧ Free Hb k F s σ p ∧ H p = some u := by
  have hF : F p = none := by
    cases q : F p with
    | none => rfl
    | some o =>
      rcases h.bs.frz p o q with z | z
      · rw [nf] at z; cases z
      · rw [upd_same] at z; cases z
  have hk : p ∉ k := fun z => (h.bs.new p z).elim nk fun y => by rw [upd_same] at y; cases y
  refine ⟨⟨⟨h.bs.sub, fun a o q n => h.bs.keep a o (by rw [upd_ne fun y => by subst y; rw [nb] at q; cases q]; exact q) n, fun a o q => (h.bs.frz a o q).imp id fun z => ?_, h.bs.fb, h.bs.pre, h.bs.nd, fun a ha => (h.bs.new a ha).imp id fun z => ?_, h.bs.vol, h.bs.len, h.bs.cel⟩, h.val, fun i o q => ?_, h.sep, h.elen⟩, ⟨hF, hk, nb, fun j o q y => ?_⟩, h.bs.keep p u upd_same nk⟩
  · rw [upd_ne fun y => by subst y; rw [hF] at q; cases q] at z; exact z
  · rw [upd_ne fun y => by subst y; exact hk ha] at z; exact z
  · obtain ⟨a, e1, n1, n2, n3, r⟩ := h.own i o q
    refine ⟨a, e1, n1, n2, ?_, r⟩
    by_cases y : a = p
    · subst y; exact nb
    · rw [upd_ne y] at n3; exact n3
  · obtain ⟨a, e1, n1, n2, n3, r⟩ := h.own j o q
    rw [y] at e1
    cases e1
    rw [upd_same] at n3; cases n3
end

/-! ### keys -/
def keyOf : D → Option Key
  | .int i => some (.inl i)
  | .str x => some (.inr x)
  | _ => none
def kEq (q : Key) : D → Bool
  | .int i => decide (q = .inl i)
  | .str x => decide (q = .inr x)
  | _ => false
def lkD (q : Key) : List (D × D) → Option D
  | [] => none
  | (k, v) :: r => if kEq q k = true then some v else lkD q r
def hasD (q : Key) : List (D × D) → Bool
  | [] => false
  | (k, _) :: r => kEq q k || hasD q r
def setD (q : Key) (d : D) : List (D × D) → List (D × D)
  | [] => []
  | (k, v) :: r => (if kEq q k = true then (k, d) else (k, v)) :: setD q d r
def putD (l : List (D × D)) (q : Key) (d : D) : List (D × D) := if hasD q l = true then setD q d l else l ++ [(kD q, d)]
section
variable {B : Sb} {F : Hp} {k : List Addr}
theorem keyOf_kD {d : D} {q : Key} (h : keyOf d = some q) : d = kD q := by
  cases d <;> cases h <;> rfl
theorem kEq_kD (q q' : Key) : kEq q (kD q') = decide (q' = q) := by
  cases q' with
  | inl i => show decide (q = Sum.inl i) = decide (Sum.inl i = q); exact decide_eq_decide.mpr ⟨Eq.symm, Eq.symm⟩
  | inr x => show decide (q = Sum.inr x) = decide (Sum.inr x = q); exact decide_eq_decide.mpr ⟨Eq.symm, Eq.symm⟩
theorem Rep.key {v : V} {d : D} {q : Key} (h : Rep B F k v d) (e : keyOf d = some q) : v = kV q := by
  cases h <;> cases e <;> rfl
theorem RepK.lk (q : Key) : ∀ {xs : List (Key × V)} {ds : List (D × D)}, RepK B F k xs ds → (lkD q ds = none → valV xs q = none) ∧ ∀ d, lkD q ds = some d → ∃ v, valV xs q = some v ∧ Rep B F k v d
  | _, _, .nil => ⟨fun _ => rfl, fun _ e => by cases e⟩
  | _, _, .cons (q := q') (v := v) (d := d) h r => by
    obtain ⟨h1, h2⟩ := RepK.lk q r
    by_cases e : q' = q
    · refine ⟨fun z => ?_, fun d' z => ?_⟩
      · unfold lkD at z; rw [kEq_kD, decide_eq_true e, if_pos rfl] at z; cases z
      · unfold lkD at z; rw [kEq_kD, decide_eq_true e, if_pos rfl] at z; cases z; exact ⟨v, valV_pos e, h⟩
    · refine ⟨fun z => ?_, fun d' z => ?_⟩
      · unfold lkD at z; rw [kEq_kD, decide_eq_false e, if_neg Bool.false_ne_true] at z; rw [valV_neg e]; exact h1 z
      · unfold lkD at z; rw [kEq_kD, decide_eq_false e, if_neg Bool.false_ne_true] at z; rw [valV_neg e]; exact h2 d' z
theorem RepK.has (q : Key) : ∀ {xs : List (Key × V)} {ds : List (D × D)}, RepK B F k xs ds → (xs.any fun kv => decide (kv.1 = q)) = hasD q ds
  | _, _, .nil => rfl
  | _, _, .cons h r => by
    rw [List.any_cons, RepK.has q r]
    show _ = (kEq q (kD _) || hasD q _)
    rw [kEq_kD]
theorem RepK.set {v : V} {d : D} (q : Key) (rv : Rep B F k v d) : ∀ {xs : List (Key × V)} {ds : List (D × D)}, RepK B F k xs ds → RepK B F k (xs.map fun kv => if kv.1 = q then (kv.1, v) else kv) (setD q d ds)
  | _, _, .nil => .nil
  | _, _, .cons (q := q') h r => by
    rw [List.map_cons]
    unfold setD
    rw [kEq_kD]
    by_cases e : q' = q
    · rw [if_pos e, decide_eq_true e, if_pos rfl]; exact .cons rv (RepK.set q rv r)
    · rw [if_neg e, decide_eq_false e, if_neg Bool.false_ne_true]; exact .cons h (RepK.set q rv r)
theorem RepK.append : ∀ {xs ys : List (Key × V)} {ds es : List (D × D)}, RepK B F k xs ds → RepK B F k ys es → RepK B F k (xs ++ ys) (ds ++ es)
  | _, _, _, _, .nil, h => h
  | _, _, _, _, .cons a r, h => .cons a (r.append h)
theorem RepK.length : ∀ {xs : List (Key × V)} {ds : List (D × D)}, RepK B F k xs ds → xs.length = ds.length
  | _, _, .nil => rfl
  | _, _, .cons _ r => by rw [List.length_cons, List.length_cons, r.length]
theorem RepK.put {v : V} {d : D} (q : Key) (rv : Rep B F k v d) {xs : List (Key × V)} {ds : List (D × D)} (r : RepK B F k xs ds) : RepK B F k (putK xs q v) (putD ds q d) := by
  unfold putK putD
  rw [r.has q]
  by_cases h : hasD q ds = true
  · rw [if_pos h, if_pos h]; exact r.set q rv
  · rw [if_neg h, if_neg h]; exact r.append (.cons rv .nil)
def mergeD (l : List (D × D)) (more : List (Key × D)) : List (D × D) := more.foldl (fun acc kv => putD acc kv.1 kv.2) l
/-- pairs with their keys read -/
def keysOf : List (D × D) → Option (List (Key × D))
  | [] => some []
  | (a, b) :: r => match keyOf a, keysOf r with
    | some q, some l => some ((q, b) :: l)
    | _, _ => none
end

/-! ### {}, {k: v, ..} -/
def mDic0 : M Ob := mpure (.dic [])
theorem sn_dic0 {X : Cx} {W : WX} {pos : Pos} : SN X W (.Dict [] [] pos) mDic0 := PE_imp pe_dnewK fun σ H Q ⟨Hb, Fb, kb, k, F, s, ok, h⟩ p hp =>
  h _ F k (Evl.Ex.refl _) (List.prefix_refl _) (ok.grow (Grow.junk ok.bs.sub hp)) p (ok.free hp) ⟨[], upd_same, .nil⟩
def mPairs : List (M D × M D) → M (List (D × D))
  | [] => mpure []
  | (a, b) :: r => mbind a fun x => mbind b fun y => mbind (mPairs r) fun l => mpure ((x, y) :: l)
def mDisp (ms : List (M D × M D)) : M Ob := mbind (mPairs ms) fun l => match keysOf l with
  | some kv => if kv.length ≤ 15 then mpure (.dic (mergeD [] kv)) else mno
  | none => mno
inductive RepP (B : Sb) (F : Hp) (k : List Addr) : List (V × V) → List (D × D) → Prop
  | nil : RepP B F k [] []
  | cons {v u : V} {d e : D} {vs : List (V × V)} {ds : List (D × D)} : Rep B F k v d → Rep B F k u e → RepP B F k vs ds → RepP B F k ((v, u) :: vs) ((d, e) :: ds)
theorem RepP.keys {B : Sb} {F : Hp} {k : List Addr} : ∀ {vs : List (V × V)} {ds : List (D × D)} {kv : List (Key × D)}, RepP B F k vs ds → keysOf ds = some kv → ∃ kvs : List (Key × V), vs = kvs.map (fun p => (kV p.1, p.2)) ∧ kvs.length = kv.length ∧
    ∀ {xs : List (Key × V)} {l : List (D × D)}, RepK B F k xs l → RepK B F k (mergeK xs kvs) (mergeD l kv)
  | _, _, kv, .nil, e => by cases e; exact ⟨[], rfl, rfl, fun r => r⟩
  | _, _, kv, .cons (d := d) (u := u) (e := e') (ds := ds) h g r, e => by
    unfold keysOf at e
    cases q : keyOf d with
    | none => rw [q] at e; cases e
    | some q0 =>
      rw [q] at e
      cases q1 : keysOf ds with
      | none => rw [q1] at e; cases e
      | some l =>
        rw [q1] at e
        cases e
        obtain ⟨kvs, e1, e2, e3⟩ := RepP.keys r q1
        refine ⟨(q0, u) :: kvs, by rw [List.map_cons, ← e1, h.key q], by rw [List.length_cons, List.length_cons, e2], fun rk => ?_⟩
        exact e3 (rk.put q0 g)
section
variable {X : Cx} {W : WX} {pos : Pos}
/-- the written pairs of a display -/
structure SPs (X : Cx) (W : WX) (pos : Pos) (keys : List (Option Expr)) (values : List Expr) (ms : List (M D × M D)) : Prop where
  ok : ∃ trs, PPs X pos keys values trs ∧ ∀ (σ : St) (H : Hp) (Q : List (V × V) → Hp → Prop) (Hb Fb : Hp) (kb k : List Addr) (F : Hp) (s : S), Ok (sbOf X) Hb Fb kb k F s σ H →
    Fin (sbOf X) Hb Fb kb k F σ W (mPairs ms s) (fun ds _ F' k' H' => ∀ vs, RepP (sbOf X) F' k' vs ds → Q vs H') → tPairs trs σ H Q
theorem RepP.mono {B : Sb} {F F' : Hp} {k k' : List Addr} (e : Ex F F') (p : Pre k k') : ∀ {v : List (V × V)} {d : List (D × D)}, RepP B F k v d → RepP B F' k' v d
  | _, _, .nil => .nil
  | _, _, .cons h g r => .cons (h.mono e p) (g.mono e p) (r.mono e p)
theorem sps_nil : SPs X W pos [] [] [] := ⟨[], pps_nil, fun σ H Q Hb Fb kb k F s ok h => h H F k (Evl.Ex.refl _) (List.prefix_refl _) ok [] .nil⟩
theorem sps_cons {kx vx : Expr} {ks : List (Option Expr)} {vs : List Expr} {mk mv : M D} {ms : List (M D × M D)} (hk : SE X W kx mk) (hv : SE X W vx mv) (hr : SPs X W pos ks vs ms) : SPs X W pos (some kx :: ks) (vx :: vs) ((mk, mv) :: ms) := by
  obtain ⟨trs, h1, h2⟩ := hr.ok
  refine ⟨_, pps_cons hk hv h1, fun σ H Q Hb Fb kb k F s ok h => ?_⟩
  refine ⟨Hb, Fb, kb, k, F, s, ok, h.bind.imp fun d s1 F1 k1 H1 e1 p1 ok1 h1 v rv => ⟨Hb, Fb, kb, k1, F1, s1, ok1, h1.bind.imp fun d' s2 F2 k2 H2 e2 p2 ok2 h2' u ru => ?_⟩⟩
  refine h2 σ H2 _ Hb Fb kb k2 F2 s2 ok2 ((Fin.bind h2').imp fun ds s3 F3 k3 H3 e3 p3 ok3 h3 vs rvs => ?_)
  exact h3 H3 F3 k3 (Evl.Ex.refl _) (List.prefix_refl _) ok3 ((v, u) :: vs) (.cons (rv.mono (e2.trans e3) (p2.trans p3)) (ru.mono e3 p3) rvs)
theorem sn_disp {keys : List (Option Expr)} {values : List Expr} {ms : List (M D × M D)} (h : SPs X W pos keys values ms) (hall : keys.all (·.isSome) = true := by rfl) (hl : keys.length = values.length := by rfl) (h0 : keys ≠ [] := by exact fun z => by cases z) (h15 : keys.length ≤ 15 := by decide) :
    SN X W (.Dict keys values pos) (mDisp ms) := by
  obtain ⟨trs, h1, h2⟩ := h.ok
  refine PE_imp (pe_disp h1 hall hl h0 h15) fun σ H Q ⟨Hb, Fb, kb, k, F, s, ok, h⟩ p hp => ?_
  have okj := ok.grow (Grow.junk (o := .dK []) ok.bs.sub hp)
  have fr := ok.free hp
  have nf : Fb p = none := by
    cases q : Fb p with
    | none => rfl
    | some o => have z := ok.bs.fb p o q; rw [fr.1] at z; cases z
  have nk : p ∉ kb := fun z => fr.2.1 (ok.bs.pre.subset z)
  have okb := okj.rebase fr upd_same
  have hb := h.bind
  refine h2 σ (upd H p (.dK [])) _ (upd Hb p (.dK [])) Fb kb k F s okb ?_
  cases q : mPairs ms s with
  | no => rw [q] at hb; exact hb
  | ex c s1 =>
    rw [q] at hb
    exact fun C H' F' k' m ok' => hb C H' F' k' m (ok'.unbase fr.2.2.1 nf nk).1
  | ok ds s1 =>
    rw [q] at hb
    intro H1 F1 k1 e1 p1 ok1 vs rvs
    obtain ⟨okn, frn, hp1⟩ := ok1.unbase fr.2.2.1 nf nk
    have h3 := hb H1 F1 k1 e1 p1 okn
    cases q1 : keysOf ds with
    | none => exact (h3.no (by (try dsimp only); rw [q1])).elim
    | some kv =>
      obtain ⟨kvs, ev, el, em⟩ := rvs.keys q1
      by_cases h15 : kv.length ≤ 15
      · have h3 := h3.cast (.ok (.dic (mergeD [] kv)) s1) (by (try dsimp only); rw [q1]; (try dsimp only); rw [if_pos h15])
        refine ⟨hp1, kvs, ev, by rw [el]; exact h15, ?_⟩
        exact h3 _ F1 k1 (Evl.Ex.refl _) (List.prefix_refl _) (okn.free_upd frn) p frn ⟨_, upd_same, em .nil⟩
      · exact (h3.no (by (try dsimp only); rw [q1]; (try dsimp only); rw [if_neg h15])).elim
end

/-! ### d[k], d.get(k, x) of a dict that stays -/
def dDGet : D → D → Option D
  | .dic l, k => (keyOf k).bind fun q => lkD q l
  | _, _ => none
section
variable {X : Cx} {W : WX} {pos : Pos} {o i : Expr} {mo mi : M D}
theorem se_dget (hu : X.A.units + 1 < cLine) (ho : SE X W o mo) (hi : SE X W i mi) (hs : NoSl i) : SE X W (.Subscript o i pos) (m2 dDGet mo mi) := PE_imp (pe_dget hu ho hi hs) fun σ H Q ⟨Hb, Fb, kb, k, F, s, ok, h⟩ =>
  ⟨Hb, Fb, kb, k, F, s, ok, h.bind.imp fun dx s1 F1 k1 H1 e1 p1 ok1 h1 v rv => ⟨Hb, Fb, kb, k1, F1, s1, ok1, h1.bind.imp fun dy s2 F2 k2 H2 e2 p2 ok2 h2 u ru => by
    cases rv <;> try (exact h2.elim)
    case dic a ob xs ds ha r =>
      cases q : keyOf dy with
      | none => exact (h2.no (by show mopt ((keyOf dy).bind _) s2 = _; rw [q]; rfl)).elim
      | some q0 =>
        cases q1 : lkD q0 ds with
        | none => exact (h2.no (by show mopt ((keyOf dy).bind _) s2 = _; rw [q]; show mopt (lkD q0 ds) s2 = _; rw [q1]; rfl)).elim
        | some d =>
          have h3 := h2.cast (.ok d s2) (by show mopt ((keyOf dy).bind _) s2 = _; rw [q]; show mopt (lkD q0 ds) s2 = _; rw [q1]; rfl)
          obtain ⟨w, ew, rw'⟩ := ((r.mono e2 p2).lk q0).2 d q1
          refine ⟨a, w, rfl, .inl ⟨xs, q0, .inr ⟨_, ok2.bs.sub _ _ (e2 _ _ ha)⟩, ru.key q, ew.symm⟩, ?_⟩
          exact h3 H2 F2 k2 (Evl.Ex.refl _) (List.prefix_refl _) ok2 w rw'⟩⟩
def mDGet2 (mo mk mx : M D) : M D := mbind mo fun d => match d with
  | .dic l => mbind mk fun y => mbind mx fun z => (match keyOf y with
    | some q => mpure ((lkD q l).getD z)
    | none => mno)
  | _ => mno
theorem se_dget2 {e f : Expr} {apos cpos : Pos} {me mf : M D} (hu : X.A.units + 1 < cLine) (ho : SE X W o mo) (he : SE X W e me) (hf : SE X W f mf) (m : M2 X o "get" apos e f cpos := by exact ⟨rfl, rfl, rfl, rfl⟩) : SE X W (.Call (.Attribute o "get" apos) [e, f] [] cpos) (mDGet2 mo me mf) :=
  PE_imp (pe_dget2 hu ho he hf m) fun σ H Q ⟨Hb, Fb, kb, k, F, s, ok, h⟩ => by
    refine ⟨Hb, Fb, kb, k, F, s, ok, h.bind.imp fun dx s1 F1 k1 H1 e1 p1 ok1 h1 v rv => ?_⟩
    cases rv <;> try (exact h1.elim)
    case dic a ob xs l ha r =>
      refine ⟨a, rfl, .inl ⟨xs, .inr ⟨_, ok1.bs.sub _ _ ha⟩⟩, Hb, Fb, kb, k1, F1, s1, ok1, (Fin.bind h1).imp fun dy s2 F2 k2 H2 e2 p2 ok2 h2 y ry => ⟨Hb, Fb, kb, k2, F2, s2, ok2, (Fin.bind h2).imp fun dz s3 F3 k3 H3 e3 p3 ok3 h3 z rz => ?_⟩⟩
      cases q : keyOf dy with
      | none => exact (h3.no (by (try dsimp only); rw [q])).elim
      | some q0 =>
        have h3 := h3.cast (.ok ((lkD q0 l).getD dz) s3) (by (try dsimp only); rw [q])
        have rk := (r.mono (e2.trans e3) (p2.trans p3)).lk q0
        refine ⟨valV xs q0, .inl ⟨xs, q0, .inr ⟨_, ok3.bs.sub _ _ ((e2.trans e3) _ _ ha)⟩, ry.key q, rfl⟩, ?_⟩
        cases q1 : lkD q0 l with
        | none =>
          rw [rk.1 q1]
          rw [q1] at h3
          exact h3 H3 F3 k3 (Evl.Ex.refl _) (List.prefix_refl _) ok3 z rz
        | some d =>
          obtain ⟨w, ew, rw'⟩ := rk.2 d q1
          rw [ew]
          rw [q1] at h3
          exact h3 H3 F3 k3 (Evl.Ex.refl _) (List.prefix_refl _) ok3 w rw'
end
end FX

/-! FX: rules that look at the data first -/
namespace FX
open PySem L2

section
variable {X : Cx} {W : WX} {pos : Pos} {a b : Expr} {ma mb : M D} {B : Sb}
theorem OpR_or {f : Value → Value → Sem Value} {r r' : R2} (h : OpR X f r) (h' : OpR X f r') : OpR X f (fun x y H Q => r x y H Q ∨ r' x y H Q) := fun pins s σ H x y v u Q I rx ry q => q.elim (h pins s σ H x y v u Q I rx ry) (h' pins s σ H x y v u Q I rx ry)
theorem OpD_or {r r' : R2} {f g : D → D → Option D} (h : OpD B r f) (h' : OpD B r' g) : OpD B (fun x y H Q => r x y H Q ∨ r' x y H Q) (fun d e => (f d e).orElse fun _ => g d e) := fun F k H x y dx dy z Q sub rx ry e q => by
  cases hf : f dx dy with
  | some z' =>
    have e : ((f dx dy).orElse fun _ => g dx dy) = some z := e
    rw [hf] at e
    have e : some z' = some z := e
    cases e
    exact .inl (h F k H x y dx dy _ Q sub rx ry hf q)
  | none =>
    have e : ((f dx dy).orElse fun _ => g dx dy) = some z := e
    rw [hf] at e
    exact .inr (h' F k H x y dx dy z Q sub rx ry e q)
theorem CallR_or {f : Value} {r r' : List V → Hp → VK → Prop} (h : CallR X f r) (h' : CallR X f r') : CallR X f (fun xs H Q => r xs H Q ∨ r' xs H Q) := fun pins s σ H xs us Q I rx q => q.elim (h pins s σ H xs us Q I rx) (h' pins s σ H xs us Q I rx)
/-- a + b -/
def dPlus (d e : D) : Option D := match d, e with
  | .int _, .int _ => dAdd d e
  | .str _, .str _ => dAddS d e
  | .lst _, .lst _ => dCat d e
  | .tup _, .tup _ => dCatT d e
  | _, _ => none
def rPlus (K : PySem.W.Frag) : R2 := fun x y H Q => (rI0 (fun i j => .int (i + j)) x y H Q ∨ (∃ i j, x = .str i ∧ y = .str j ∧ i.length + j.length ≤ sizeLine ∧ Q (.str (i ++ j)) H)) ∨ (rCat x y H Q ∨ rCatA K x y H Q)
theorem op_plus : OpR X (binaryOp .Add) (rPlus X.K) := OpR_or (OpR_or op_add op_add_str) (OpR_or op_cat op_catA)
theorem od_plus : OpD B (rPlus B.K) dPlus := fun F k H x y dx dy z Q sub rx ry e q => by
  cases dx <;> try (cases e; done)
  case int i =>
    cases dy <;> try (cases e; done)
    exact .inl (.inl (od_add F k H x y _ _ z Q sub rx ry e q))
  case str i =>
    cases dy <;> try (cases e; done)
    exact .inl (.inr (od_addS F k H x y _ _ z Q sub rx ry e q))
  case lst i =>
    cases dy <;> try (cases e; done)
    exact .inr (.inl (od_cat F k H x y _ _ z Q sub rx ry e q))
  case tup i =>
    cases dy <;> try (cases e; done)
    exact .inr (.inr (od_catT F k H x y _ _ z Q sub rx ry e q))
theorem se_plus (ha : SE X W a ma) (hb : SE X W b mb) : SE X W (.BinOp a .Add b pos) (m2 dPlus ma mb) := se_op op_plus od_plus ha hb
/-- a in b: a sign in a text, an item in a list or tuple -/
def dInA (d e : D) : Option D := match e with
  | .str _ => dInS d e
  | _ => dIn d e
theorem op_inA : OpR X (compareOp .In) (fun x y H Q => (∃ (c : Nat) (z : Str), x = .str ⟨#[c]⟩ ∧ y = .str z ∧ Q (.bl (decide (c ∈ z.cps.toList))) H) ∨ rIn X.K false x y H Q) := OpR_or op_in_sign op_in_seq
theorem od_inA : OpD B (fun x y H Q => (∃ (c : Nat) (z : Str), x = .str ⟨#[c]⟩ ∧ y = .str z ∧ Q (.bl (decide (c ∈ z.cps.toList))) H) ∨ rIn B.K false x y H Q) dInA := fun F k H x y dx dy z Q sub rx ry e q => by
  cases dy <;> first
    | exact .inl (od_inS F k H x y _ _ z Q sub rx ry e q)
    | exact .inr (od_in F k H x y _ _ z Q sub rx ry e q)
theorem se_in (ha : SE X W a ma) (hb : SE X W b mb) (hm : behindInMarks .In b = false := by rfl) : SE X W (.Compare a [.In] [b] pos) (m2 dInA ma mb) := se_cmp op_inA od_inA ha hb hm
theorem st_in (ha : SE X W a ma) (hb : SE X W b mb) (hm : behindInMarks .In b = false := by rfl) : ST X W (.Compare a [.In] [b] pos) (mB (m2 dInA ma mb)) := st_cmp op_inA od_inA ha hb hm
theorem se_notIn (ha : SE X W a ma) (hb : SE X W b mb) (hm : behindInMarks .NotIn b = false := by rfl) : SE X W (.Compare a [.NotIn] [b] pos) (m2 dNotIn ma mb) := se_cmp op_notIn_seq od_notIn ha hb hm
theorem st_notIn (ha : SE X W a ma) (hb : SE X W b mb) (hm : behindInMarks .NotIn b = false := by rfl) : ST X W (.Compare a [.NotIn] [b] pos) (mB (m2 dNotIn ma mb)) := st_cmp op_notIn_seq od_notIn ha hb hm
/-- o[i]: a sequence, a dict, a cell's list -/
def mSub (mo mi : M D) : M D := mbind mo fun x => mbind mi fun y => match x with
  | .cell n => mIxC (mC (.cell n)) (mC y)
  | .dic l => mopt (dDGet (.dic l) y)
  | x => mopt (dIx x y)
theorem se_sub (hu : X.A.units + 1 < cLine) (ha : SE X W a ma) (hb : SE X W b mb) (hs : PlainIx b) : SE X W (.Subscript a b pos) (mSub ma mb) := by
  have h1 : SE X W (.Subscript a b pos) (m2 dIx ma mb) := se_ix ix_seq od_ix ha hb hs
  have h2 : SE X W (.Subscript a b pos) (m2 dDGet ma mb) := se_dget hu ha hb hs
  have h3 : SE X W (.Subscript a b pos) (mIxC ma mb) := se_ixC ha hb hs
  refine ⟨fun pins s σ H Q I q => ?_⟩
  obtain ⟨Hb, Fb, kb, k, F, t, ok, h⟩ := q
  have e : mSub ma mb t = m2 dIx ma mb t ∨ mSub ma mb t = m2 dDGet ma mb t ∨ mSub ma mb t = mIxC ma mb t := by
    unfold mSub m2 mIxC mbind
    cases q1 : ma t with
    | no => exact .inl rfl
    | ex c t1 => exact .inl rfl
    | ok dx t1 =>
      dsimp only
      cases q2 : mb t1 with
      | no => exact .inl rfl
      | ex c t2 => exact .inl rfl
      | ok dy t2 =>
        cases dx <;> first
          | exact .inl rfl
          | exact .inr (.inl rfl)
          | exact .inr (.inr rfl)
  rcases e with e | e | e
  · rw [e] at h; exact h1.run pins s σ H Q I ⟨Hb, Fb, kb, k, F, t, ok, h⟩
  · rw [e] at h; exact h2.run pins s σ H Q I ⟨Hb, Fb, kb, k, F, t, ok, h⟩
  · rw [e] at h; exact h3.run pins s σ H Q I ⟨Hb, Fb, kb, k, F, t, ok, h⟩
/-- what a for walks: a list, a tuple, a text -/
theorem si_any {tg e : Expr} {m : M D} (h : SE X W e m) : SI X W tg e (mItems m) := by
  have h1 : SI X W tg e (mItemsL m) := si_list h
  have h2 : SI X W tg e (mItemsT m) := si_tup h
  have h3 : SI X W tg e (mItemsS m) := si_str h
  refine ⟨fun pins s σ H Q I q => ?_⟩
  obtain ⟨Hb, Fb, kb, k, F, t, ok, h⟩ := q
  have e : mItems m t = mItemsL m t ∨ mItems m t = mItemsT m t ∨ mItems m t = mItemsS m t := by
    unfold mItems mItemsL mItemsT mItemsS mbind
    cases q1 : m t with
    | no => exact .inl rfl
    | ex c t1 => exact .inl rfl
    | ok d t1 =>
      cases d <;> first
        | exact .inl rfl
        | exact .inr (.inl rfl)
        | exact .inr (.inr rfl)
  rcases e with e | e | e
  · rw [e] at h; exact h1.run pins s σ H Q I ⟨Hb, Fb, kb, k, F, t, ok, h⟩
  · rw [e] at h; exact h2.run pins s σ H Q I ⟨Hb, Fb, kb, k, F, t, ok, h⟩
  · rw [e] at h; exact h3.run pins s σ H Q I ⟨Hb, Fb, kb, k, F, t, ok, h⟩
/-- is, is not: None, truth values -/
def dIs (d e : D) : Option D := match e with
  | .non => dIsN d e
  | _ => dIsB d e
def dNot (d e : D) : Option D := match e with
  | .non => dNotN d e
  | _ => dNotB d e
theorem od_is : OpD B (fun x y H Q => (y = .non ∧ Q (.bl (decide (x = .non))) H) ∨ (∃ a b, x = .bl a ∧ y = .bl b ∧ Q (.bl (decide (a = b))) H)) dIs := fun F k H x y dx dy z Q sub rx ry e q => by
  cases dy <;> first
    | exact .inl (od_isN F k H x y _ _ z Q sub rx ry e q)
    | exact .inr (od_isB F k H x y _ _ z Q sub rx ry e q)
theorem od_not : OpD B (fun x y H Q => (y = .non ∧ Q (.bl (!decide (x = .non))) H) ∨ (∃ a b, x = .bl a ∧ y = .bl b ∧ Q (.bl (!decide (a = b))) H)) dNot := fun F k H x y dx dy z Q sub rx ry e q => by
  cases dy <;> first
    | exact .inl (od_notN F k H x y _ _ z Q sub rx ry e q)
    | exact .inr (od_notB F k H x y _ _ z Q sub rx ry e q)
theorem op_isA : OpR X (compareOp .Is) (fun x y H Q => (y = .non ∧ Q (.bl (decide (x = .non))) H) ∨ (∃ a b, x = .bl a ∧ y = .bl b ∧ Q (.bl (decide (a = b))) H)) := OpR_or op_isN op_is_bl
theorem op_notA : OpR X (compareOp .IsNot) (fun x y H Q => (y = .non ∧ Q (.bl (!decide (x = .non))) H) ∨ (∃ a b, x = .bl a ∧ y = .bl b ∧ Q (.bl (!decide (a = b))) H)) := OpR_or op_notN op_isnot_bl
end

/-! ### a, b = x, y -/
def mPar (i j : Nat) (a b : M D) : M Out := mbind a fun x => mbind b fun y s => .ok .nx (setV j y (setV i x s))
def mParNV (i j : Nat) (a : M Ob) (b : M D) : M Out := mbind a fun x => mbind b fun y s => .ok .nx (setV j y (setO i x s))
def mParVN (i j : Nat) (a : M D) (b : M Ob) : M Out := mbind a fun x => mbind b fun y s => .ok .nx (setO j y (setV i x s))
def mParNN (i j : Nat) (a b : M Ob) : M Out := mbind a fun x => mbind b fun y s => .ok .nx (setO j y (setO i x s))
section
variable {X : Cx} {W : WX} {pos px py pt pt2 : Pos} {a b : Expr} {i j : Nat} {x y : Str} {kt k2 : Nat} {Hb Fb : Hp} {kb k : List Addr} {F : Hp} {s : S} {σ : St} {H : Hp} {B : Sb}
/-- free also when another slot has been given a value -/
theorem Free.setV {p : Addr} {d : D} {v : Option V} (f : Free Hb k F s σ p) : Free Hb k F (FX.setV i d s) (σ.set i v) p := ⟨f.1, f.2.1, f.2.2.1, fun j o e => by
  rcases set_own_inv e with ⟨_, z, _⟩ | ⟨hj, z⟩
  · cases z
  · rw [List.getElem?_set_ne hj]; exact f.2.2.2 j o z⟩
theorem Free.setO {p q : Addr} {ob : Ob} (f : Free Hb k F s σ p) (hl : s.e.length = σ.length) (ne : p ≠ q) : Free Hb k F (FX.setO i ob s) (σ.set i (some (.ref q))) p := ⟨f.1, f.2.1, f.2.2.1, fun j o e => by
  rcases set_own_inv e with ⟨rfl, z, h⟩ | ⟨hj, z⟩
  · rw [List.getElem?_set_self (by rw [← hl]; exact h)]; intro w; cases w; exact ne rfl
  · rw [List.getElem?_set_ne hj]; exact f.2.2.2 j o z⟩
theorem ss_par {ma mb : M D} (hN : X.N.Nodup) (ha : SE X W a ma) (hb : SE X W b mb) (hi : X.N[i]? = some x := by rfl) (hj : X.N[j]? = some y := by rfl) (hij : i ≠ j := by decide) (hx : X.env.scope.names.lookup x = some .local := by rfl) (hy : X.env.scope.names.lookup y = some .local := by rfl)
    (hw : swappedStores [.Tuple [.Name x px, .Name y py] kt pt] (.Tuple [a, b] k2 pt2) X.env = pure (some [x, y]) := by rfl) (hs : swapsWithSole [.Tuple [.Name x px, .Name y py] kt pt] (.Tuple [a, b] k2 pt2) pos.line X.env = pure false := by rfl) (hc : X.calm = true := by rfl)
    (s1 : starEach [a, b] X.env = (false, eval a X.env) :: starEach [b] X.env := by rfl) (s2 : starEach [b] X.env = (false, eval b X.env) :: starEach [] X.env := by rfl) :
    SS X W (.Assign [.Tuple [.Name x px, .Name y py] kt pt] (.Tuple [a, b] k2 pt2) pos) (mPar i j ma mb) := PS_imp (ps_par hc hN hi hj hij hx hy (pa_cons ha (pa_cons hb pa_nil s2) s1) hw hs) fun E σ H ⟨Hb, Fb, kb, k, F, s, ok, h⟩ =>
  ⟨Hb, Fb, kb, k, F, s, ok, (FinS.ofBind h).imp fun d s1 F1 k1 H1 e1 p1 ok1 h1 v rv => ⟨Hb, Fb, kb, k1, F1, s1, ok1, (FinS.ofBind h1).imp fun d' s2 F2 k2 H2 e2 p2 ok2 h2 u ru =>
    ⟨v, u, rfl, h2 _ H2 F2 k2 (Evl.Ex.refl _) (List.prefix_refl _) ((ok2.setV (rv.mono e2 p2)).setV ru)⟩⟩⟩
theorem fbnone {p : Addr} (ok : Ok B Hb Fb kb k F s σ H) (fr : Free Hb k F s σ p) : Fb p = none ∧ p ∉ kb := by
  refine ⟨?_, fun z => fr.2.1 (ok.bs.pre.subset z)⟩
  cases q : Fb p with
  | none => rfl
  | some o => have z := ok.bs.fb p o q; rw [fr.1] at z; cases z
theorem ss_parNV {ma : M Ob} {mb : M D} (hN : X.N.Nodup) (ha : SN X W a ma) (hb : SE X W b mb) (hi : X.N[i]? = some x := by rfl) (hj : X.N[j]? = some y := by rfl) (hij : i ≠ j := by decide) (hx : X.env.scope.names.lookup x = some .local := by rfl) (hy : X.env.scope.names.lookup y = some .local := by rfl)
    (hw : swappedStores [.Tuple [.Name x px, .Name y py] kt pt] (.Tuple [a, b] k2 pt2) X.env = pure (some [x, y]) := by rfl) (hs : swapsWithSole [.Tuple [.Name x px, .Name y py] kt pt] (.Tuple [a, b] k2 pt2) pos.line X.env = pure false := by rfl) (hc : X.calm = true := by rfl)
    (s1 : starEach [a, b] X.env = (false, eval a X.env) :: starEach [b] X.env := by rfl) (s2 : starEach [b] X.env = (false, eval b X.env) :: starEach [] X.env := by rfl) :
    SS X W (.Assign [.Tuple [.Name x px, .Name y py] kt pt] (.Tuple [a, b] k2 pt2) pos) (mParNV i j ma mb) := PS_imp (ps_par hc hN hi hj hij hx hy (pa_cons ha (pa_cons hb pa_nil s2) s1) hw hs) fun E σ H ⟨Hb, Fb, kb, k, F, s, ok, h⟩ =>
  ⟨Hb, Fb, kb, k, F, s, ok, (FinS.ofBind h).imp fun o s1 F1 k1 H1 e1 p1 ok1 h1 p fr q => by
    obtain ⟨u, hu⟩ := q.has
    obtain ⟨nf, nk⟩ := fbnone ok1 fr
    refine ⟨upd Hb p u, Fb, kb, k1, F1, s1, ok1.rebase fr hu, ?_⟩
    have h2 := FinS.ofBind (σ := σ) h1
    cases qb : mb s1 with
    | no => rw [qb] at h2; exact h2
    | ex c s2 => rw [qb] at h2; exact fun C H' F' k' m ok' => h2 C H' F' k' m (ok'.unbase fr.2.2.1 nf nk).1
    | ok d s2 =>
      rw [qb] at h2
      intro H2 F2 k2 e2 p2 ok2 v rv
      obtain ⟨okn, frn, hp⟩ := ok2.unbase fr.2.2.1 nf nk
      have q2 : ObAt (sbOf X) F2 k2 H2 p o := q.mono e2 p2 fun w z => by rw [hu] at z; cases z; exact hp
      exact ⟨.ref p, v, rfl, h2 H2 F2 k2 e2 p2 okn _ H2 F2 k2 (Evl.Ex.refl _) (List.prefix_refl _) ((okn.setO frn q2).setV rv)⟩⟩
theorem ss_parVN {ma : M D} {mb : M Ob} (hN : X.N.Nodup) (ha : SE X W a ma) (hb : SN X W b mb) (hi : X.N[i]? = some x := by rfl) (hj : X.N[j]? = some y := by rfl) (hij : i ≠ j := by decide) (hx : X.env.scope.names.lookup x = some .local := by rfl) (hy : X.env.scope.names.lookup y = some .local := by rfl)
    (hw : swappedStores [.Tuple [.Name x px, .Name y py] kt pt] (.Tuple [a, b] k2 pt2) X.env = pure (some [x, y]) := by rfl) (hs : swapsWithSole [.Tuple [.Name x px, .Name y py] kt pt] (.Tuple [a, b] k2 pt2) pos.line X.env = pure false := by rfl) (hc : X.calm = true := by rfl)
    (s1 : starEach [a, b] X.env = (false, eval a X.env) :: starEach [b] X.env := by rfl) (s2 : starEach [b] X.env = (false, eval b X.env) :: starEach [] X.env := by rfl) :
    SS X W (.Assign [.Tuple [.Name x px, .Name y py] kt pt] (.Tuple [a, b] k2 pt2) pos) (mParVN i j ma mb) := PS_imp (ps_par hc hN hi hj hij hx hy (pa_cons ha (pa_cons hb pa_nil s2) s1) hw hs) fun E σ H ⟨Hb, Fb, kb, k, F, s, ok, h⟩ =>
  ⟨Hb, Fb, kb, k, F, s, ok, (FinS.ofBind h).imp fun d s1 F1 k1 H1 e1 p1 ok1 h1 v rv => ⟨Hb, Fb, kb, k1, F1, s1, ok1, (FinS.ofBind h1).imp fun o s2 F2 k2 H2 e2 p2 ok2 h2 p fr q =>
    ⟨v, .ref p, rfl, h2 _ H2 F2 k2 (Evl.Ex.refl _) (List.prefix_refl _) ((ok2.setV (rv.mono e2 p2)).setO fr.setV q)⟩⟩⟩
theorem ss_parNN {ma mb : M Ob} (hN : X.N.Nodup) (ha : SN X W a ma) (hb : SN X W b mb) (hi : X.N[i]? = some x := by rfl) (hj : X.N[j]? = some y := by rfl) (hij : i ≠ j := by decide) (hx : X.env.scope.names.lookup x = some .local := by rfl) (hy : X.env.scope.names.lookup y = some .local := by rfl)
    (hw : swappedStores [.Tuple [.Name x px, .Name y py] kt pt] (.Tuple [a, b] k2 pt2) X.env = pure (some [x, y]) := by rfl) (hs : swapsWithSole [.Tuple [.Name x px, .Name y py] kt pt] (.Tuple [a, b] k2 pt2) pos.line X.env = pure false := by rfl) (hc : X.calm = true := by rfl)
    (s1 : starEach [a, b] X.env = (false, eval a X.env) :: starEach [b] X.env := by rfl) (s2 : starEach [b] X.env = (false, eval b X.env) :: starEach [] X.env := by rfl) :
    SS X W (.Assign [.Tuple [.Name x px, .Name y py] kt pt] (.Tuple [a, b] k2 pt2) pos) (mParNN i j ma mb) := PS_imp (ps_par hc hN hi hj hij hx hy (pa_cons ha (pa_cons hb pa_nil s2) s1) hw hs) fun E σ H ⟨Hb, Fb, kb, k, F, s, ok, h⟩ =>
  ⟨Hb, Fb, kb, k, F, s, ok, (FinS.ofBind h).imp fun o s1 F1 k1 H1 e1 p1 ok1 h1 p fr q => by
    obtain ⟨u, hu⟩ := q.has
    obtain ⟨nf, nk⟩ := fbnone ok1 fr
    refine ⟨upd Hb p u, Fb, kb, k1, F1, s1, ok1.rebase fr hu, ?_⟩
    have h2 := FinS.ofBind (σ := σ) h1
    cases qb : mb s1 with
    | no => rw [qb] at h2; exact h2
    | ex c s2 => rw [qb] at h2; exact fun C H' F' k' m ok' => h2 C H' F' k' m (ok'.unbase fr.2.2.1 nf nk).1
    | ok o2 s2 =>
      rw [qb] at h2
      intro H2 F2 k2 e2 p2 ok2 p' fr' q'
      obtain ⟨okn, frn, hp⟩ := ok2.unbase fr.2.2.1 nf nk
      have ne : p' ≠ p := fun z => by
        have := fr'.2.2.1
        rw [z, upd_same] at this; cases this
      have frn' : Free Hb k2 F2 s2 σ p' := ⟨fr'.1, fr'.2.1, by have := fr'.2.2.1; rw [upd_ne ne] at this; exact this, fr'.2.2.2⟩
      have q2 : ObAt (sbOf X) F2 k2 H2 p o := q.mono e2 p2 fun w z => by rw [hu] at z; cases z; exact hp
      exact ⟨.ref p, .ref p', rfl, h2 H2 F2 k2 e2 p2 okn _ H2 F2 k2 (Evl.Ex.refl _) (List.prefix_refl _) ((okn.setO frn q2).setO (frn'.setO okn.elen ne) q')⟩⟩
end
end FX

/-! FX: a dict of the def's own is stored to; list(d.items()); dict(pairs) -/
namespace FX
open PySem L2

def mDPut (i : Nat) (mk mv : M D) : M Out := mbind mv fun d s1 => match ownD s1 i with
  | none => .no
  | some _ => mbind mk (fun y s2 => match ownD s2 i, keyOf y with
    | some l, some q => if l.length < 100000 then .ok .nx (setO i (.dic (putD l q d)) s2) else .no
    | _, _ => .no) s1
section
variable {X : Cx} {W : WX} {pos pos' p : Pos} {x : Str} {i : Nat} {ke ve : Expr} {mk mv : M D}
theorem ss_dput (hu : X.A.units + 1 < cLine) (hk : SE X W ke mk) (hv : SE X W ve mv) (hN : X.N[i]? = some x := by rfl) (hvis : Vis X.env.scope x := by first | exact Or.inl rfl | exact Or.inr (Or.inl rfl) | exact Or.inr (Or.inr rfl)) (hd : (x == ("__debug__" : Str)) = false := by decide)
    (hcd : (x == ("__classdict__" : Str)) = false := by decide) (hs : swapsWith ve (some (.Subscript (.Name x p) ke pos')) pos.line X.env = pure false := by rfl) : SS X W (.Assign [.Subscript (.Name x p) ke pos'] ve pos) (mDPut i mk mv) :=
  PS_imp (ps_dput hu (pe_var hN hvis hd hcd) hk hv hs) fun E σ H ⟨Hb, Fb, kb, k, F, s, ok, h⟩ =>
  ⟨Hb, Fb, kb, k, F, s, ok, (FinS.ofBind h).imp fun d s1 F1 k1 H1 e1 p1 ok1 h1 v rv => by
    have no : ∀ {k F} {r : R Out}, FinS (sbOf X) Hb Fb kb k F W r E → r = .no → False := fun h e => by rw [e] at h; exact h
    cases q : ownD s1 i with
    | none => exact (no h1 (by (try dsimp only); rw [q])).elim
    | some l0 =>
      have h1 := h1.cast (mbind mk (fun y s2 => match ownD s2 i, keyOf y with | some l, some q => if l.length < 100000 then .ok .nx (setO i (.dic (putD l q d)) s2) else .no | _, _ => .no) s1) (by (try dsimp only); rw [q])
      obtain ⟨a, ea, _, _, _, xs, hxs, _⟩ := ok1.own i _ (ownD_some q)
      refine ⟨.ref a, ea, Hb, Fb, kb, k1, F1, s1, ok1, (FinS.ofBind h1).imp fun dy s2 F2 k2 H2 e2 p2 ok2 h2 y ry => ?_⟩
      cases q2 : ownD s2 i with
      | none => exact (no h2 (by (try dsimp only); rw [q2])).elim
      | some l =>
        cases q3 : keyOf dy with
        | none => exact (no h2 (by (try dsimp only); rw [q2, q3])).elim
        | some q0 =>
          obtain ⟨b, eb, _, _, _, ys, hys, rys⟩ := ok2.own i _ (ownD_some q2)
          rw [ea] at eb
          cases eb
          by_cases hl : l.length < 100000
          · have h3 := h2.cast (.ok .nx (setO i (.dic (putD l q0 d)) s2)) (by (try dsimp only); rw [q2, q3]; (try dsimp only); rw [if_pos hl])
            refine ⟨a, upd H2 a (.dK (putK ys q0 v)), rfl, .inl ⟨ys, q0, hys, ry.key q3, by rw [rys.length]; exact Evl.sz_lt hl, rfl⟩, ?_⟩
            exact h3 σ _ F2 k2 (Evl.Ex.refl _) (List.prefix_refl _) (ok2.mut (ownD_some q2) ea ⟨_, upd_same, rys.put q0 (rv.mono e2 p2)⟩)
          · exact (no h2 (by (try dsimp only); rw [q2, q3]; (try dsimp only); rw [if_neg hl])).elim⟩
end

/-! ### list(d.items()), dict(pairs) -/
def pairD (p : D × D) : D := .tup [p.1, p.2]
def mItemsL2 (m : M D) : M D := mbind m fun d => match d with
  | .dic l => mpure (.lst (l.map pairD))
  | _ => mno
section
variable {X : Cx} {W : WX} {p apos cpos pos : Pos} {e : Expr} {m : M D} {B : Sb}
theorem Rep.ofKV {F : Hp} {k : List Addr} (q : Key) : Rep B F k (kV q) (kD q) := by cases q with | inl i => exact .int i | inr x => exact .str x
theorem items_rep {F F' : Hp} {k : List Addr} (ff : Ex F F') : ∀ {xs : List (Key × V)} {ds : List (D × D)} {ts : List Addr}, RepK B F k xs ds → Paired (fun (t : Addr) (q : Key × V) => F' t = some (.tup [kV q.1, q.2])) ts xs → RepL B F' k (ts.map V.ref) (ds.map pairD)
  | _, _, _, .nil, .nil => .nil
  | _, _, _, .cons h r, .cons g t => .cons (.tup (.inl (.inl g)) (.cons (Rep.ofKV _) (.cons (h.mono ff (List.prefix_refl _)) .nil))) (items_rep ff r t)
/-- list(d.items()), d locked or not -/
def rItR : V → Hp → VK → Prop := fun x H Q => ∃ (d : Addr) (xs : List (Key × V)), x = .ref d ∧ Rd H d (.dK xs) ∧
  ∀ (H' : Hp) (p : Addr) (ts : List Addr), (∀ b o, H b = some o → H' b = some o) → H p = none → (∀ t ∈ ts, H t = none) → p ∉ ts → H' p = some (.lst (ts.map V.ref)) → Paired (fun (t : Addr) (y : Key × V) => H' t = some (.tup [kV y.1, y.2])) ts xs → Q (.ref p) H'
def tItR (t0 : TE) : TE := fun σ H Q => t0 σ H fun x H1 => rItR x H1 Q
theorem pe_itR {t0 : TE} (calm : X.calm = true) (he : PE X e t0) (gl : Gl X "list") (own : X.mg "list" = none) (boot : bootBuiltins "list" = some (.type "list")) (base : attributeBase e "items" X.env (eval e X.env) = eval e X.env) (line : (apos.endLine == cpos.line) = true)
    (star : starEach [.Call (.Attribute e "items" apos) [] [] cpos] X.env = (false, eval (.Call (.Attribute e "items" apos) [] [] cpos) X.env) :: starEach [] X.env) : PE X (.Call (.Name "list" p) [.Call (.Attribute e "items" apos) [] [] cpos] [] pos) (tItR t0) := ⟨fun pins s σ H Q I want => by
  refine wpAny_Call_Name_kw (ld_blt I gl own boot (PyProof.Rows.callWith_type1 ?_ star rfl))
  rw [star]
  refine Calls.spliced_cons (wpAny_Call_method (T := "dict") (id := "dict.items") base rfl line F.plainAttrs_dict F.slot_dict_items F.type_dict_items (thn (he.run pins s σ H _ I want) fun u s1 got => ?_))
  obtain ⟨x, H1, I1, rx, d, xs, ex, locked, last⟩ := got
  subst ex
  obtain rfl : u = Value.ref d := rx
  obtain ⟨few, nosys, ys, rel, dd⟩ := (show ObjOk X.prog X.w H1 s1.heap d (.dK xs) from locked.ok I1.hok)
  obtain ⟨ep, here⟩ := dd.dictAt
  have same : xs.length = ys.length := Paired.length rel
  have view : Inv X pins σ H1 { s1 with heap := s1.heap.push { cls := .type "dict_items", data := .fields #[.ref d] } } := I1.kept (t' := s1.toks) fun _ _ z => Heap.get?_push_of_some _ z
  refine ⟨dd.typeIs, dd.mapOf.noDict, (show wpAny _ _ (callWith cpos (.builtin "dict.items") [.ref d] [] []) _ X.xe s1 from ?_)⟩
  refine method_meetsIn F.slot_dict_items F.entry_dict_items rfl (PySem.evalArgs_none ⟨rfl, dd.typeIs, F.args_dict_items_1 _, _, meets_dict_items (mixKind X.prog X.w) d nosys, ⟨ys, dd⟩, Calls.spliced_nil ?_⟩)
  refine PySem.W.kdx_call (knd := mixKind X.prog X.w) (kvs := ys) (ep := ep) (I1.ok.hd calm) ⟨_, Heap.get?_push_size _ rfl, rfl, rfl⟩ (here.push _) (by omega) fun h2 tk acc c ts k1 k2 k3 k4 k5 => ?_
  obtain ⟨H2, j1, j2, j3, j4, j5, j6, J⟩ := LiI.items_laid (tk := tk) view few rel k1 k2 k3 k4 k5
  exact ⟨.ref _, H2, J, rfl, last H2 _ ts j1 j2 j3 j4 j5 j6⟩⟩
theorem se_items (he : SE X W e m) (hm : X.mg "list" = none) (hg : Gl X "list" := by rfl) (hbase : attributeBase e "items" X.env (eval e X.env) = eval e X.env := by rfl) (hline : (apos.endLine == cpos.line) = true := by rfl)
    (hs : starEach [.Call (.Attribute e "items" apos) [] [] cpos] X.env = (false, eval (.Call (.Attribute e "items" apos) [] [] cpos) X.env) :: starEach [] X.env := by rfl) (hc : X.calm = true := by rfl) : SE X W (.Call (.Name "list" p) [.Call (.Attribute e "items" apos) [] [] cpos] [] pos) (mItemsL2 m) :=
  PE_imp (pe_itR hc he hg hm (by decide +kernel) hbase hline hs) fun σ H Q ⟨Hb, Fb, kb, k, F, s, ok, h⟩ =>
  ⟨Hb, Fb, kb, k, F, s, ok, h.bind.imp fun d s1 F1 k1 H1 e1 p1 ok1 h1 v rv => by
    cases rv <;> try (exact h1.elim)
    case dic a ob xs ds ha r =>
      refine ⟨a, xs, rfl, .inr ⟨_, ok1.bs.sub _ _ ha⟩, fun H' p ts hk hp ht hpt hl hpr => ?_⟩
      -- what is new stays
      let F' : Hp := fun b => match F1 b with
        | some o => some o
        | none => if b = p then some (.lst (ts.map V.ref)) else if b ∈ ts then H' b else none
      have ff : Ex F1 F' := fun b o q => by show (match F1 b with | some o => some o | none => _) = some o; rw [q]
      have old : ∀ b, F1 b = none → F' b = if b = p then some (.lst (ts.map V.ref)) else if b ∈ ts then H' b else none := fun b q => by show (match F1 b with | some o => some o | none => _) = _; rw [q]
      have nF : ∀ b, H1 b = none → F1 b = none := fun b q => ok1.bs.freshF q
      have gr : Grow F1 H1 F' H' := by
        refine ⟨ff, hk, fun b o q => ?_, fun b o q => ?_⟩
        · cases z : F1 b with
          | some u => rw [ff b u z] at q; cases q; exact hk b _ (ok1.bs.sub b _ z)
          | none =>
            rw [old b z] at q
            by_cases hb : b = p
            · subst hb; rw [if_pos rfl] at q; cases q; exact hl
            · rw [if_neg hb] at q
              by_cases hbt : b ∈ ts
              · rw [if_pos hbt] at q; exact q
              · rw [if_neg hbt] at q; cases q
        · cases z : F1 b with
          | some u => rw [ff b u z] at q; cases q; exact .inl rfl
          | none =>
            rw [old b z] at q
            by_cases hb : b = p
            · subst hb; exact .inr hp
            · rw [if_neg hb] at q
              by_cases hbt : b ∈ ts
              · exact .inr (ht b hbt)
              · rw [if_neg hbt] at q; cases q
      have hpr' : Paired (fun (t : Addr) (q : Key × V) => F' t = some (.tup [kV q.1, q.2])) ts xs := by
        have all : ∀ {us : List Addr} {ys : List (Key × V)}, (∀ u ∈ us, u ∈ ts) → Paired (fun (t : Addr) (q : Key × V) => H' t = some (.tup [kV q.1, q.2])) us ys → Paired (fun (t : Addr) (q : Key × V) => F' t = some (.tup [kV q.1, q.2])) us ys := fun {us ys} hs hp' => by
          induction hp' with
          | nil => exact .nil
          | @cons t q us ys g _ ih =>
            have htm : t ∈ ts := hs t List.mem_cons_self
            refine .cons ?_ (ih fun u hu => hs u (List.mem_cons_of_mem _ hu))
            rw [old t (nF t (ht t htm)), if_neg (fun z => hpt (by rw [← z]; exact htm)), if_pos htm]
            exact g
        exact all (fun _ h => h) hpr
      have hpF : F' p = some (.lst (ts.map V.ref)) := by rw [old p (nF p hp), if_pos rfl]
      exact h1 H' F' k1 ff (List.prefix_refl _) (ok1.grow gr) _ (.lst hpF (items_rep ff r hpr'))⟩
/-- a list of pairs with keys -/
def pair1 : D → Option (Key × D)
  | .tup [a, b] => (keyOf a).map fun q => (q, b)
  | _ => none
def pairsOf : List D → Option (List (Key × D))
  | [] => some []
  | d :: r => match pair1 d, pairsOf r with
    | some q, some l => some (q :: l)
    | _, _ => none
theorem pair1_rep {F : Hp} {k : List Addr} {v : V} {d : D} {q : Key} {b : D} (h : Rep B F k v d) (e : pair1 d = some (q, b)) : ∃ a vb, v = .ref a ∧ SqT B.K F a [kV q, vb] ∧ Rep B F k vb b := by
  cases h with
  | @tup a xs ds ha r =>
    cases r with
    | nil => cases e
    | @cons va da xs ds ga r =>
      cases r with
      | nil => cases e
      | @cons vb db xs ds gb r =>
        cases r with
        | cons _ _ => cases e
        | nil =>
          have e : (keyOf da).map (fun q => (q, db)) = some (q, b) := e
          cases q1 : keyOf da with
          | none => rw [q1] at e; cases e
          | some q0 =>
            rw [q1] at e
            cases e
            rw [ga.key q1] at ha
            exact ⟨a, vb, rfl, ha, gb⟩
  | _ => cases e
def dDict : List D → Option D
  | [.lst l] => (pairsOf l).map fun kv => .dic (mergeD [] kv)
  | _ => none
theorem pairs_rep {F H : Hp} {k : List Addr} (sub : Ex F H) : ∀ (ds : List D) (xs : List V) (kv : List (Key × D)), RepL B F k xs ds → pairsOf ds = some kv → ∃ (ps : List Addr) (kvs : List (Key × V)), xs = ps.map V.ref ∧ Paired (fun p (q : Key × V) => SqT B.K H p [kV q.1, q.2]) ps kvs ∧
    ∀ {ys : List (Key × V)} {l : List (D × D)}, RepK B F k ys l → RepK B F k (mergeK ys kvs) (mergeD l kv) := by
  intro ds
  induction ds with
  | nil =>
    intro xs kv h e
    cases h
    cases e
    exact ⟨[], [], rfl, .nil, fun r => r⟩
  | cons d rs ih =>
    intro xs kv h e
    cases h with
    | @cons v _ vs _ h r =>
      unfold pairsOf at e
      cases q : pair1 d with
      | none => rw [q] at e; cases e
      | some q0 =>
        rw [q] at e
        cases q1 : pairsOf rs with
        | none => rw [q1] at e; cases e
        | some l =>
          rw [q1] at e
          cases e
          obtain ⟨q0, b⟩ := q0
          obtain ⟨a, vb, rfl, ha, gb⟩ := pair1_rep h q
          obtain ⟨ps, kvs, e1, e2, e3⟩ := ih vs l r q1
          exact ⟨a :: ps, (q0, vb) :: kvs, by rw [List.map_cons, ← e1], .cons (Evl.ex_t sub ha) e2, fun rk => e3 (rk.put q0 gb)⟩
def mDictN (m : M (List D)) : M Ob := mbind m fun ds => match ds with
  | [.lst l] => (match pairsOf l with
    | some kv => mpure (.dic (mergeD [] kv))
    | none => mno)
  | _ => mno
end
theorem sn_dictN {X : Cx} {W : WX} {e : Expr} {p pos : Pos} {ma : M (List D)} (ha : SA X W [e] ma) (hm : X.mg "dict" = none) (hg : Gl X "dict" := by rfl) (hc : X.calm = true := by rfl)
    (he : starEach [e] X.env = (false, eval e X.env) :: starEach [] X.env := by rfl) : SN X W (.Call (.Name "dict" p) [e] [] pos) (mDictN ma) :=
  PE_imp (pe_callTy (call_dictP hc) hg hm (by decide +kernel) ha (by decide) (by decide) he rfl) fun σ H Q ⟨Hb, Fb, kb, k, F, s, ok, h⟩ =>
  ⟨Hb, Fb, kb, k, F, s, ok, h.bind.imp fun ds s1 F1 k1 H1 e1 p1 ok1 h1 vs rv => by
    cases rv with
    | nil => exact h1.elim
    | cons ra rr =>
      cases rr with
      | cons _ _ => cases ra <;> exact h1.elim
      | nil =>
        cases ra <;> try (exact h1.elim)
        case lst a xs ds h r =>
          cases c : pairsOf ds with
          | none => exact (h1.no (by (try dsimp only); rw [c])).elim
          | some kv =>
            have h2 := h1.cast (.ok (.dic (mergeD [] kv)) s1) (by (try dsimp only); rw [c])
            obtain ⟨ps, kvs, e1, e2, e3⟩ := pairs_rep ok1.bs.sub ds xs kv r c
            exact ⟨a, ps, kvs, rfl, by rw [← e1]; exact SqL.of (ok1.bs.sub _ _ h), e2, fun p hp => h2 _ F1 k1 (Evl.Ex.refl _) (List.prefix_refl _) (ok1.grow (Grow.junk ok1.bs.sub hp)) p (ok1.free hp) ⟨_, upd_same, e3 .nil⟩⟩⟩
end FX

/-! FX: == and != of dicts that are equal; min of rows -/
namespace FX
open PySem L2

/-! ### dicts that are equal -/
def eqKV (l : List (D × D)) : List (D × D) → Bool
  | [] => true
  | (k, v) :: r => (match keyOf k with
    | some q => (match lkD q l with
      | some u => okEq v u && eqD v u
      | none => false)
    | none => false) && eqKV l r
def eqDic (a b : List (D × D)) : Bool := decide (a.length = b.length) && eqKV b a
def dNeA (d e : D) : Option D := match d, e with
  | .dic a, .dic b => if eqDic a b = true then some (.bl false) else none
  | _, _ => dNe d e
def dEqA (d e : D) : Option D := match d, e with
  | .dic a, .dic b => if eqDic a b = true then some (.bl true) else none
  | _, _ => dEq d e
/-- two dicts with the same keys and like values -/
def Alike2 (K : PySem.W.Frag) (H : Hp) (x y : V) : Prop := ∃ a b ks ls, x = .ref a ∧ y = .ref b ∧ Rd H a (.dK ks) ∧ Rd H b (.dK ls) ∧ ks.length = ls.length ∧
  ∀ p ∈ ks, ∃ u d e, valV ls p.1 = some u ∧ Dp K H p.2 d ∧ Dp K H u e ∧ SeqAt.shaped d = true ∧ SeqAt.shaped e = true ∧ PyData.eqv d e = true
section
variable {X : Cx}
theorem hits_alike {pins : List (Addr × Obj)} {σ : L2.St} {H : Hp} {s : Shared} (I : Inv X pins σ H s) {A : Around} (hu : A.units + 64 < cLine) {ls : List (L2.Key × V)} {vb : List (L2.Key × Value)} (rb : KV ls vb) : ∀ {ks : List (L2.Key × V)} {va : List (L2.Key × Value)}, KV ks va →
    (∀ p ∈ ks, ∃ u d e, valV ls p.1 = some u ∧ Dp X.K H p.2 d ∧ Dp X.K H u e ∧ SeqAt.shaped d = true ∧ SeqAt.shaped e = true ∧ PyData.eqv d e = true) → PySem.W.KeqHits A s vb va true := fun {ks va} ra => by
  unfold KV at ra
  induction ra with
  | nil => exact fun _ => .nil
  | @cons p q ps qs h t ih =>
    intro hp
    obtain ⟨h1, h2⟩ := h
    obtain ⟨u, d, e, hv, hd, he, sd, se, eq⟩ := hp p List.mem_cons_self
    have rr : RelO (some u) (valueAt vb p.1) := by rw [← hv]; exact rb.val p.1
    obtain ⟨y, hy, ry⟩ := rr.some_of
    obtain ⟨key, v⟩ := q
    have h1' : p.1 = key := h1
    rw [h1'] at hy
    obtain ⟨as, r1⟩ := Dp.reads I d _ _ hd h2
    obtain ⟨bs, r2⟩ := Dp.reads I e _ _ he ry
    have hdep : d.depth ≤ 64 := by unfold SeqAt.shaped at sd; simp only [Bool.and_eq_true, decide_eq_true_eq] at sd; exact sd.2
    have ea := SeqAt.eqAt_reads d e A s v y as bs r1 r2 (SeqAt.canLay_of_shaped sd) (SeqAt.canLay_of_shaped se) (by omega)
    rw [eq] at ea
    exact PySem.W.KeqHits.hit (e := true) (b := true) hy ea (ih fun p' hm => hp p' (List.mem_cons_of_mem _ hm))
theorem op_neDic (hu : X.A.units + 64 < cLine) (hu2 : X.A.units + 65 < cLine) : OpR X (compareOp .NotEq) (fun x y H Q => Alike2 X.K H x y ∧ Q (.bl false) H) := by
  intro pins s σ H x y v u Q I rx ry h
  obtain ⟨⟨a, b, ks, ls, rfl, rfl, ea, eb, hlen, hp⟩, q⟩ := h
  obtain rfl : v = Value.ref a := rx
  obtain rfl : u = Value.ref b := ry
  obtain ⟨_, ya, va, ra, da⟩ := (show ObjOk X.prog X.w H s.heap a (.dK ks) from ea.ok I.hok)
  obtain ⟨_, yb, vb, rb, db⟩ := (show ObjOk X.prog X.w H s.heap b (.dK ls) from eb.ok I.hok)
  have hl : va.length = vb.length := by rw [← ra.length, ← rb.length]; exact hlen
  exact PySem.W.keq_ne (knd := mixKind X.prog X.w) (r := true) ya yb da db (by omega) (fun _ => hits_alike I (by show X.A.units + 1 + 64 < cLine; omega) rb ra hp) (fin_bl I q (by simp [hl]))
theorem op_eqDic (hu : X.A.units + 64 < cLine) (hu2 : X.A.units + 65 < cLine) : OpR X (compareOp .Eq) (fun x y H Q => Alike2 X.K H x y ∧ Q (.bl true) H) := by
  intro pins s σ H x y v u Q I rx ry h
  obtain ⟨⟨a, b, ks, ls, rfl, rfl, ea, eb, hlen, hp⟩, q⟩ := h
  obtain rfl : v = Value.ref a := rx
  obtain rfl : u = Value.ref b := ry
  obtain ⟨_, ya, va, ra, da⟩ := (show ObjOk X.prog X.w H s.heap a (.dK ks) from ea.ok I.hok)
  obtain ⟨_, yb, vb, rb, db⟩ := (show ObjOk X.prog X.w H s.heap b (.dK ls) from eb.ok I.hok)
  have hl : va.length = vb.length := by rw [← ra.length, ← rb.length]; exact hlen
  exact PySem.W.keq_eq (knd := mixKind X.prog X.w) (r := true) ya yb da db (by omega) (fun _ => hits_alike I (by show X.A.units + 1 + 64 < cLine; omega) rb ra hp) (fin_bl I q (by simp [hl]))
end
theorem Rep.alike2 {B : Sb} {F H : Hp} {k : List Addr} {x y : V} {a b : List (D × D)} (sub : Ex F H) (rx : Rep B F k x (.dic a)) (ry : Rep B F k y (.dic b)) (e : eqDic a b = true) : Alike2 B.K H x y := by
  cases rx with
  | @dic p ob ks _ hp rk =>
    cases ry with
    | @dic q oq ls _ hq rl =>
      unfold eqDic at e
      simp only [Bool.and_eq_true, decide_eq_true_eq] at e
      refine ⟨p, q, ks, ls, rfl, rfl, .inr ⟨_, sub _ _ hp⟩, .inr ⟨_, sub _ _ hq⟩, by rw [rk.length, rl.length]; exact e.1, ?_⟩
      have e2 := e.2
      clear e hp
      -- along the first dict
      have go : ∀ (a : List (D × D)) (ks : List (L2.Key × V)), RepK B F k ks a → eqKV b a = true → ∀ p ∈ ks, ∃ u d e, valV ls p.1 = some u ∧ Dp B.K H p.2 d ∧ Dp B.K H u e ∧ SeqAt.shaped d = true ∧ SeqAt.shaped e = true ∧ PyData.eqv d e = true := by
        intro a
        induction a with
        | nil =>
          intro ks r _ p hp
          cases r
          simp at hp
        | cons c r ih =>
          intro ks rk e p hp
          cases rk with
          | @cons q0 v d vs ds h t =>
            unfold eqKV at e
            rw [Bool.and_eq_true] at e
            have hkd : keyOf (kD q0) = some q0 := by cases q0 <;> rfl
            rw [hkd] at e
            cases hl : lkD q0 b with
            | none =>
              have e1 := e.1
              simp only [hl] at e1
              exact absurd e1 Bool.false_ne_true
            | some u =>
              have e1 := e.1
              simp only [hl] at e1
              rw [Bool.and_eq_true] at e1
              rcases List.mem_cons.mp hp with z | z
              · subst z
                obtain ⟨w, hw, rw'⟩ := (rl.lk q0).2 u hl
                obtain ⟨s1, s2, p1, p2⟩ := shaped_of e1.1
                exact ⟨w, py d, py u, hw, h.dp sub p1, rw'.dp sub p2, s1, s2, by rw [py_eqv _ _ p1 p2]; exact e1.2⟩
              · exact ih vs t e.2 p z
      exact go a ks rk e2
def rNeA (K : PySem.W.Frag) : R2 := fun x y H Q => rNeD K x y H Q ∨ (Alike2 K H x y ∧ Q (.bl false) H)
def rEqA (K : PySem.W.Frag) : R2 := fun x y H Q => rEqD K x y H Q ∨ (Alike2 K H x y ∧ Q (.bl true) H)
theorem room65 {A : Around} {j : Nat} (hr : Room j A) : A.units + 65 < cLine := by have := hr.un; omega
theorem op_neA {X : Cx} {j : Nat} (hr : Room j X.A) : OpR X (compareOp .NotEq) (rNeA X.K) := OpR_or (op_neD hr.units) (op_neDic hr.units (room65 hr))
theorem op_eqA {X : Cx} {j : Nat} (hr : Room j X.A) : OpR X (compareOp .Eq) (rEqA X.K) := OpR_or (op_eqD hr.units) (op_eqDic hr.units (room65 hr))
theorem od_neA {B : Sb} : OpD B (rNeA B.K) dNeA := fun F k H x y dx dy z Q sub rx ry e q => by
  by_cases h : ∃ a b, dx = .dic a ∧ dy = .dic b
  · obtain ⟨a, b, rfl, rfl⟩ := h
    have e : (if eqDic a b = true then some (D.bl false) else none) = some z := e
    by_cases he : eqDic a b = true
    · rw [if_pos he] at e; cases e
      exact .inr ⟨rx.alike2 sub ry he, q _ F H (Grow.refl sub) (.bl _)⟩
    · rw [if_neg he] at e; cases e
  · have e' : dNe dx dy = some z := by
      cases dx <;> first | exact e | (cases dy <;> first | exact e | exact (h ⟨_, _, rfl, rfl⟩).elim)
    exact .inl (od_ne F k H x y _ _ z Q sub rx ry e' q)
theorem od_eqA {B : Sb} : OpD B (rEqA B.K) dEqA := fun F k H x y dx dy z Q sub rx ry e q => by
  by_cases h : ∃ a b, dx = .dic a ∧ dy = .dic b
  · obtain ⟨a, b, rfl, rfl⟩ := h
    have e : (if eqDic a b = true then some (D.bl true) else none) = some z := e
    by_cases he : eqDic a b = true
    · rw [if_pos he] at e; cases e
      exact .inr ⟨rx.alike2 sub ry he, q _ F H (Grow.refl sub) (.bl _)⟩
    · rw [if_neg he] at e; cases e
  · have e' : dEq dx dy = some z := by
      cases dx <;> first | exact e | (cases dy <;> first | exact e | exact (h ⟨_, _, rfl, rfl⟩).elim)
    exact .inl (od_eq F k H x y _ _ z Q sub rx ry e' q)
end FX

/-! FX: sets made of a list of texts -/
namespace FX
open PySem PySem.Spec PyProof.Rows L2
/-! ### len(set(texts)) -/
def strsOf : List D → Option (List Str)
  | [] => some []
  | .str x :: r => (strsOf r).map (x :: ·)
  | _ => none
theorem strsOf_at {B : Sb} {F : Hp} {k : List Addr} : ∀ {l : List D} {xs : List Str} {vs : List V}, strsOf l = some xs → RepL B F k vs l → vs = xs.map V.str
  | [], _, _, e, r => by cases e; cases r; rfl
  | .str x :: l, xs, _, e, .cons h r => by
    simp only [strsOf, Option.map_eq_some_iff] at e
    obtain ⟨ys, e1, rfl⟩ := e
    cases h
    rw [strsOf_at e1 r]; rfl
theorem vals_str : ∀ {xs : List Str} {us : List Value}, Vals (xs.map V.str) us → us.length = xs.length ∧ ∀ (i : Nat) (v : Value), us[i]? = some v → ∃ x u, xs[i]? = some x ∧ v = Value.str x u
  | [], _, h => by cases h; exact ⟨rfl, fun i v e => by simp at e⟩
  | x :: xs, us, h => by
    cases h with
    | cons h r =>
      obtain ⟨hl, hi⟩ := vals_str r
      refine ⟨by simp [hl], fun i v e => ?_⟩
      cases i with
      | zero =>
        simp at e; subst e
        obtain ⟨u, rfl⟩ := h
        exact ⟨x, u, rfl, rfl⟩
      | succ i =>
        obtain ⟨x', u, e1, e2⟩ := hi i v (by simpa using e)
        exact ⟨x', u, by simpa using e1, e2⟩
def dLenSet : D → Option D
  | .lst l => (strsOf l).bind fun xs => if xs.length ≤ 1000 then some (.int (xs.foldl addNew []).length) else none
  | _ => none
def tLenSet (K : PySem.W.Frag) (ta : TE) : TE := fun σ H Q => ta σ H fun x H1 => ∃ (l : Addr) (xs : List Str), x = V.ref l ∧ SqL K H1 l (xs.map V.str) ∧ xs.length ≤ 1000 ∧ Q (.int (xs.foldl addNew []).length) H1
theorem pe_lenSetX {X : Cx} {a : Expr} {ta : TE} {p p2 q pos : Pos} (hc : X.calm = true) (hg : Gl X "len") (hm : X.mg "len" = none) (hg2 : Gl X "set") (hm2 : X.mg "set" = none) (ha : PE X a ta)
    (na : starEach [a] X.env = (false, eval a X.env) :: starEach [] X.env := by rfl) : PE X (.Call (.Name "len" p) [.Call (.Name "set" p2) [a] [] q] [] pos) (tLenSet X.K ta) := by
  refine ⟨fun pins s σ H Q I h => ?_⟩
  refine Call_ (ld_blt I hg hm PySem.boot_len (PyProof.Rows.callWith_builtin1 (PyProof.Rows.args_cons ?_ rfl) rfl rfl))
  refine Call_ (ld_blt I hg2 hm2 PyProof.Rows.boot_set (PyProof.Rows.callWith_type1 (PyProof.Rows.args_cons (thn (ha.run pins s σ H _ I h) fun v s1 ⟨x, H1, I1, r1, q1⟩ => PyProof.Rows.args_nil ?_) na) na rfl))
  obtain ⟨l, xs, rfl, hq, h1, q1⟩ := q1
  cases r1
  obtain ⟨its, r, pl, hz⟩ := I1.list hq
  obtain ⟨vl, vi⟩ := vals_str r
  refine call_setTx xs (I1.ok.hd hc) pl.isList (by rw [List.size_toArray]; exact vl) (fun i v e => vi i v (by simpa using e)) (by unfold scanBound; omega) fun h' tk T kp => PyProof.Rows.args_nil ?_
  obtain ⟨D, ho, T⟩ := T
  have I2 : Inv X pins σ H1 { s1 with heap := h', toks := tk } := I1.kept kp
  have sz := T.ok.sz
  have le := got_le xs []
  rw [List.length_nil] at le
  refine call_len_set ho ⟨rfl, rfl, rfl⟩ rfl T.ok.fit (by rw [sz]; omega) ⟨.int (xs.foldl addNew []).length, H1, I2.tok _, ⟨_, by rw [sz]⟩, q1⟩
theorem se_lenSet {X : Cx} {W : WX} {e : Expr} {m : M D} {p p2 q pos : Pos} (he : SE X W e m) (hm : X.mg "len" = none) (hm2 : X.mg "set" = none) (hg : Gl X "len" := by rfl) (hg2 : Gl X "set" := by rfl) (hc : X.calm = true := by rfl)
    (na : starEach [e] X.env = (false, eval e X.env) :: starEach [] X.env := by rfl) :
    SE X W (.Call (.Name "len" p) [.Call (.Name "set" p2) [e] [] q] [] pos) (m1 dLenSet m) := PE_imp (pe_lenSetX hc hg hm hg2 hm2 he na) fun σ H Q ⟨Hb, Fb, kb, k, F, s, ok, h⟩ =>
  ⟨Hb, Fb, kb, k, F, s, ok, h.bind.imp fun dx s1 F1 k1 H1 e1 p1 ok1 h1 v rv => by
    cases rv with
    | @lst a xs l hl rl =>
      cases q : strsOf l with
      | none => simp only [dLenSet, q, Option.bind_none] at h1; exact h1.elim
      | some ys =>
        simp only [dLenSet, q, Option.bind_some] at h1
        by_cases c : ys.length ≤ 1000
        · rw [if_pos c] at h1
          have ex := strsOf_at q rl
          subst ex
          exact ⟨a, ys, rfl, SqL.of (ok1.bs.sub _ _ hl), c, h1 H1 F1 k1 (Evl.Ex.refl _) (List.prefix_refl _) ok1 _ (.int _)⟩
        · rw [if_neg c] at h1; exact h1.elim
    | _ => exact h1.elim⟩
end FX

/-! FX: min of a list of rows (lists of whole numbers) -/
namespace FX
open PySem PySem.Spec PyProof.Rows L2
def intsOf : List D → Option (List Int)
  | [] => some []
  | .int x :: r => (intsOf r).map (x :: ·)
  | _ => none
def rowOf : D → Option (List Int)
  | .lst l => intsOf l
  | _ => none
def rowsOf : List D → Option (List (List Int))
  | [] => some []
  | d :: r => match rowOf d, rowsOf r with
    | some x, some l => some (x :: l)
    | _, _ => none
theorem intsOf_eq : ∀ {l : List D} {r : List Int}, intsOf l = some r → l = r.map D.int
  | [], _, e => by cases e; rfl
  | .int x :: l, r, e => by
    simp only [intsOf, Option.map_eq_some_iff] at e
    obtain ⟨ys, e1, rfl⟩ := e
    rw [intsOf_eq e1]; rfl
theorem rowOf_eq {d : D} {r : List Int} (e : rowOf d = some r) : d = .lst (r.map D.int) := by
  cases d <;> first | (cases e; done) | skip
  exact congrArg D.lst (intsOf_eq e)
theorem rowsOf_eq : ∀ {l : List D} {rs : List (List Int)}, rowsOf l = some rs → l = rs.map fun r => D.lst (r.map D.int)
  | [], _, e => by cases e; rfl
  | d :: l, rs, e => by
    simp only [rowsOf] at e
    cases h1 : rowOf d with
    | none => simp only [h1] at e; cases e
    | some x =>
      cases h2 : rowsOf l with
      | none => simp only [h1, h2] at e; cases e
      | some ys =>
        simp only [h1, h2] at e
        cases e
        rw [rowOf_eq h1, rowsOf_eq h2]; rfl
def rowD (r : List Int) : PyData := .list (r.map .int)
theorem pys_int : ∀ r : List Int, pys (r.map D.int) = r.map PyData.int
  | [] => rfl
  | x :: r => by simp only [List.map_cons, pys, py, pys_int r]
theorem py_row (r : List Int) : py (.lst (r.map D.int)) = rowD r := by simp only [py, pys_int]; rfl
theorem plains_int : ∀ r : List Int, plains (r.map D.int) = true
  | [] => rfl
  | x :: r => by simp only [List.map_cons, plains, plain, plains_int r, Bool.and_self]
theorem pys_rows : ∀ rs : List (List Int), pys (rs.map fun r => D.lst (r.map D.int)) = rs.map rowD
  | [] => rfl
  | r :: rs => by simp only [List.map_cons, pys, py_row, pys_rows rs]
theorem plains_rows : ∀ rs : List (List Int), plains (rs.map fun r => D.lst (r.map D.int)) = true
  | [] => rfl
  | r :: rs => by simp only [List.map_cons, plains, plain, plains_int, plains_rows rs, Bool.and_self]
theorem alike_ints : ∀ a b : List Int, PySem.W.alikeAll (a.map .int) (b.map .int) = true
  | [], b => by cases b <;> rfl
  | x :: a, [] => rfl
  | x :: a, y :: b => by simp only [List.map_cons, PySem.W.alikeAll, PySem.W.alike, alike_ints a b, Bool.and_self]
theorem alike_rows (a b : List Int) : PySem.W.alike (rowD a) (rowD b) = true := by unfold rowD; simp only [PySem.W.alike, alike_ints]
theorem depth_ints : ∀ a : List Int, PyData.depthAll (a.map .int) = 0
  | [] => by simp [PyData.depthAll]
  | x :: a => by simp [PyData.depthAll, PyData.depth, depth_ints a]
theorem depth_row (a : List Int) : PyData.depth (rowD a) = 1 := by unfold rowD; simp [PyData.depth, depth_ints]
theorem depth_rows : ∀ rs : List (List Int), PyData.depthAll (rs.map rowD) ≤ 1
  | [] => by simp [PyData.depthAll]
  | r :: rs => by have := depth_rows rs; simp only [List.map_cons, PyData.depthAll, depth_row]; omega
theorem lay_ints : ∀ a : List Int, PyData.canLayAll0 (a.map .int) = true
  | [] => by simp [PyData.canLayAll0]
  | x :: a => by simp [PyData.canLayAll0, PyData.canLay0, lay_ints a]
theorem lay_row (a : List Int) : PyData.canLay0 (rowD a) = true := by unfold rowD; simp [PyData.canLay0, lay_ints]
theorem rowD_inj {a b : List Int} (h : rowD a = rowD b) : a = b := by
  unfold rowD at h
  injection h with h
  exact List.map_inj_right (fun x y e => by injection e) |>.mp h
def minRow (r : List Int) (rs : List (List Int)) : List Int := rs.foldl (fun b x => if x < b then x else b) r
theorem dataLt_row (a b : List Int) : PySem.W.dataLt (rowD a) (rowD b) = decide (a < b) := by
  unfold rowD
  rw [PySem.W.dataLt_list]
  exact PySem.W.dataLt_ints a b
theorem minD_rows : ∀ (rs : List (List Int)) (r : List Int), PySem.W.minD (rowD r) (rs.map rowD) = rowD (minRow r rs)
  | [], r => rfl
  | x :: rs, r => by
    have e : PySem.W.minD (rowD r) ((x :: rs).map rowD) = PySem.W.minD (if PySem.W.dataLt (rowD x) (rowD r) then rowD x else rowD r) (rs.map rowD) := rfl
    rw [e, dataLt_row]
    show _ = rowD (minRow (if x < r then x else r) rs)
    rw [← minD_rows rs]
    by_cases h : x < r <;> simp [h]
def rMinR (K : PySem.W.Frag) : List V → Hp → VK → Prop := fun vs H Q => ∃ p xs r rs, vs = [.ref p] ∧ SqL K H p xs ∧ DpAll K H xs ((r :: rs).map rowD) ∧ ∀ (i : Nat) x, xs[i]? = some x → (r :: rs)[i]? = some (minRow r rs) → Q x H
theorem vals_at {xs : List V} {us : List Value} (h : Vals xs us) : ∀ {i : Nat} {u : Value}, us[i]? = some u → ∃ x, xs[i]? = some x ∧ RelV x u := by
  unfold Vals at h
  induction h with
  | nil => intro i u e; simp at e
  | cons a r ih =>
    intro i u e
    cases i with
    | zero => simp at e; subst e; exact ⟨_, rfl, a⟩
    | succ i =>
      obtain ⟨x, e1, e2⟩ := ih (i := i) (u := u) (by simpa using e)
      exact ⟨x, by simpa using e1, e2⟩
theorem dpAll_at {K : PySem.W.Frag} {H : Hp} : ∀ {xs : List V} {ds : List PyData}, DpAll K H xs ds → ∀ {i : Nat} {x : V}, xs[i]? = some x → ∃ d, ds[i]? = some d ∧ Dp K H x d
  | _, _, .nil, i, x, e => by simp at e
  | _, _, .cons h r, 0, x, e => by simp at e; subst e; exact ⟨_, rfl, h⟩
  | _, _, .cons h r, i + 1, x, e => by
    obtain ⟨d, e1, e2⟩ := dpAll_at r (i := i) (x := x) (by simpa using e)
    exact ⟨d, by simpa using e1, e2⟩
theorem cr_min {X : Cx} {j : Nat} (hc : X.calm = true) (hr : Room j X.A) : CallR X (.builtin "min") (rMinR X.K) := by
  intro pins s σ H vs us Q I r h
  obtain ⟨p, xs, r0, rs, rfl, hs, hd, q⟩ := h
  obtain ⟨its, rv, hl, _⟩ := I.list hs
  rw [Vals.ref1 r]
  obtain ⟨as, ra⟩ := Dp.readsAll I _ xs its hd rv
  have hu : X.A.units + 1 + PyData.depthAll ((r0 :: rs).map rowD) < cLine := by
    have a := depth_rows (r0 :: rs)
    have b := hr.units
    omega
  have al : PySem.W.AlikeAll ((r0 :: rs).map rowD) := ⟨fun x hx y hy => by
    obtain ⟨a, _, rfl⟩ := List.mem_map.mp hx
    obtain ⟨b, _, rfl⟩ := List.mem_map.mp hy
    exact alike_rows a b, fun x hx => by
    obtain ⟨a, _, rfl⟩ := List.mem_map.mp hx
    exact fun z => by unfold rowD at z; cases z⟩
  refine PySem.W.min_list_data (I.ok.hd hc) hl.isList (x := rowD r0) (xs := rs.map rowD) (as := as) (by simpa using ra) al hu fun i v h' tk bs hv rd kp => ?_
  rw [minD_rows] at rd
  have hv' : its[i]? = some v := by simpa using hv
  obtain ⟨x, ex, rx⟩ := vals_at rv hv'
  have I2 : Inv X pins σ H { s with heap := h', toks := tk } := I.kept kp
  obtain ⟨d, ed, dx⟩ := dpAll_at hd ex
  obtain ⟨cs, rd2⟩ := Dp.reads I2 d x v dx rx
  have e := SeqAt.Reads.unique _ _ v _ _ (lay_row _) rd rd2
  refine ⟨x, H, I2, rx, q i x ex ?_⟩
  rw [← e, List.getElem?_map] at ed
  cases z : (r0 :: rs)[i]? with
  | none => rw [z] at ed; cases ed
  | some y =>
    rw [z] at ed
    rw [rowD_inj (Option.some.inj ed)]
/-- min of lists of whole numbers -/
def dMin : List D → Option D
  | [.lst l] => match rowsOf l with
    | some (r :: rs) => some (.lst ((minRow r rs).map .int))
    | _ => none
  | _ => none
theorem cd_min {B : Sb} : CallD B (rMinR B.K) dMin := fun F k H xs ds z Q sub rx e q => by
  cases rx with
  | nil => cases e
  | cons h r =>
    cases r with
    | cons _ _ => cases h <;> cases e
    | nil =>
      cases h <;> try (cases e; done)
      case lst a ys l ha rl =>
        simp only [dMin] at e
        cases c : rowsOf l with
        | none => simp only [c] at e; cases e
        | some rs =>
          cases rs with
          | nil => simp only [c] at e; cases e
          | cons r0 rs =>
            simp only [c] at e
            cases e
            have el := rowsOf_eq c
            refine ⟨a, ys, r0, rs, rfl, SqL.of (sub _ _ ha), ?_, fun i x ex er => ?_⟩
            · have := rl.dp sub (by rw [el]; exact plains_rows _)
              rw [el, pys_rows] at this
              exact this
            · obtain ⟨y, ey, ry⟩ := rl.get ex
              rw [el, List.getElem?_map, er] at ey
              cases ey
              exact q _ F H (Grow.refl sub) ry
end FX

/-! FX: sorted(tuple, key=f), f a def whose answers are rows of whole numbers -/
namespace FX
open PySem PySem.Spec PySem.Calls PyProof.Rows L2

theorem Bs.trans {B : Sb} {Hb Fb : Hp} {kb k k' : List Addr} {F F' : Hp} {g g' : List Ob} {H H' : Hp} (h : Bs B Hb Fb kb k F g H) (w : Bs B H F k k' F' g' H') : Bs B Hb Fb kb k' F' g' H' where
  sub := w.sub
  keep := fun a o e n => w.keep a o (h.keep a o e n) fun z => (h.new a z).elim n fun y => by rw [y] at e; cases e
  frz := fun a o e => (w.frz a o e).elim (h.frz a o) fun z => .inr (h.fresh z)
  fb := h.fb.trans w.fb
  pre := h.pre.trans w.pre
  nd := w.nd
  new := fun a ha => (w.new a ha).elim (h.new a) fun z => .inr (h.fresh z)
  vol := w.vol
  len := w.len
  cel := w.cel

def byRow : List (List Int × V) → List V := fun l => (l.mergeSort fun p q => decide (p.1 ≤ q.1)).map (·.2)
def rSortBy (K : PySem.W.Frag) (f : Addr) (sp : Sp) : List V → List V → Hp → VK → Prop := fun vs zs H Q => ∃ (p : Addr) (xs : List V) (J : List V → Hp → Prop), vs = [.ref p] ∧ zs = [.ref f] ∧ SqT K H p xs ∧ J [] H ∧
  (∀ (i : Nat) x ks H1, xs[i]? = some x → ks.length = i → J ks H1 → sp [x] H1 (fun key H2 => J (ks ++ [key]) H2) E0) ∧
  ∀ ks H1, ks.length = xs.length → J ks H1 → ∃ rows : List (List Int), rows.length = xs.length ∧ DpAll K H1 ks (rows.map rowD) ∧ ∀ a, H1 a = none → Q (.ref a) (upd H1 a (.lst (byRow (rows.zip xs))))
theorem readsEach {h : Heap} : ∀ {us : List Value} {ds : List PyData} {as : List Addr}, ReadsAll h us ds as → PySem.W.EachIs (fun v d => ∃ as, Reads h v d as) us ds
  | _, _, _, .nil => .nil
  | _, _, _, .cons a r => .cons ⟨_, a⟩ (readsEach r)
theorem eachVals : ∀ {out : List Value} {bs : List (List Int × V)}, PySem.W.EachIs (fun u (b : List Int × V) => RelV b.2 u) out bs → Vals (bs.map (·.2)) out
  | _, _, .nil => .nil
  | _, _, .cons a r => .cons a (eachVals r)
theorem valsEach : ∀ {xs : List V} {us : List Value} {rows : List (List Int)}, Vals xs us → rows.length = xs.length → PySem.W.EachIs (fun u (b : List Int × V) => RelV b.2 u) us (rows.zip xs)
  | _, _, rows, .nil, h => by
    cases rows with
    | nil => exact .nil
    | cons r rs => cases h
  | _, _, rows, .cons a r, h => by
    cases rows with
    | nil => cases h
    | cons x rs => exact .cons a (valsEach r (by simpa using h))
section
variable {X : Cx} {j : Nat} {f : Addr} {fd : FuncData} {ps : List Str} {sp : Sp}
theorem vals_snoc {ks : List V} {us : List Value} {x : V} {u : Value} (h : Vals ks us) (r : RelV x u) : Vals (ks ++ [x]) (us ++ [u]) := h.append (.cons r .nil)
set_option maxHeartbeats 1600000 in
theorem sortBy_tree (F : FnOk X.prog X.w X.K X.mg X.base (L2N.CX X.prog X.w) j f fd ps sp) (hb : Binds X.K fd ps []) (hr : Room (j + 1) X.A) {pins : List (Addr × Obj)} {σ : L2.St} {H : Hp} {s : Shared} {a : Addr} {its : List Value} {xs : List V} {n0 : Nat} {Q : VK} {E : Value → Shared → Prop} (I : Inv X pins σ H s) (fa : FpOk X pins H a)
    (ha : s.heap.get? a = some (seqObj "list" its.toArray n0)) (rv : Vals xs its) (hz : its.length ≤ sizeLine) (J : List V → Hp → Prop) (j0 : J [] H) (js : ∀ (i : Nat) x ks H1, xs[i]? = some x → ks.length = i → J ks H1 → sp [x] H1 (fun key H2 => J (ks ++ [key]) H2) E0)
    (je : ∀ ks H1, ks.length = xs.length → J ks H1 → ∃ rows : List (List Int), rows.length = xs.length ∧ DpAll X.K H1 ks (rows.map rowD) ∧ ∀ a, H1 a = none → Q (.ref a) (upd H1 a (.lst (byRow (rows.zip xs))))) :
    wpAny (model X.prog X.w) X.A.in1.in1 (ksk_tree a (.ref f) false) (fun fl s' => fl = .done (.ret .none) ∧ EP X pins σ Q (.ref a) s') E s := by
  have hlt : a < s.heap.objs.size := Heap.lt_size ha
  obtain ⟨e1, ha1⟩ : ∃ e1, (s.heap.update a (Obj.mapSeq fun _ => (#[] : Array Value))).get? a = some (seqObj "list" #[] e1) := ⟨_, get?_update_seq ha fun _ => #[]⟩
  unfold ksk_tree
  refine wpAny_bind (listItems_at ha rfl ?_)
  refine wpAny_bind (listUpdate_at ha rfl ?_ (by rw [List.size_toArray]; exact hz) (Nat.zero_le _))
  refine wpAny_bind (seqEpoch_at ha1 rfl ?_)
  refine wpAny_bind (wpAny_newTuple ?_ (by show its.length ≤ _; exact hz))
  refine wpAny_bind (wpAny_newList ?_ (Nat.zero_le _))
  refine wpAny_holding ?_
  have I0 : Inv X pins σ H { s with heap := s.heap.update a (Obj.mapSeq fun _ => (#[] : Array Value)) } := I.turnedL (ch := [a]) (fun b o hb e => (Heap.get?_update_ne _ _ _ _ (fun z => hb (by simp [z]))).trans e) fun b hb => by
    obtain rfl : b = a := by simpa using hb
    exact fa
  have I1 : Inv X pins σ H { s with heap := (s.heap.update a (Obj.mapSeq fun _ => (#[] : Array Value))).push (seqObj "tuple" its.toArray 0) } := I0.kept (t' := s.toks) fun b o e => Heap.get?_push_of_some _ e
  obtain ⟨kS, hkS⟩ : ∃ kS, kS = ((s.heap.update a (Obj.mapSeq fun _ => (#[] : Array Value))).push (seqObj "tuple" its.toArray 0)).objs.size := ⟨_, rfl⟩
  have I2 : Inv X pins σ H { s with heap := ((s.heap.update a (Obj.mapSeq fun _ => (#[] : Array Value))).push (seqObj "tuple" its.toArray 0)).push (seqObj "list" #[] 0) } := I1.kept (t' := s.toks) fun b o e => Heap.get?_push_of_some _ e
  have fk : FpOk X pins H kS := by rw [hkS]; exact I1.fpOk (Nat.le_refl _) (I1.hok.fresh (Nat.le_refl _))
  have kne : kS ≠ a := by rw [hkS, size_push', Heap.size_update]; exact Nat.ne_of_gt (Nat.lt_succ_of_lt hlt)
  have nk : (((s.heap.update a (Obj.mapSeq fun _ => (#[] : Array Value))).push (seqObj "tuple" its.toArray 0)).push (seqObj "list" #[] 0)).get? kS = some (seqObj "list" #[] 0) := by rw [hkS]; exact Heap.get?_push_size _ rfl
  have na : (((s.heap.update a (Obj.mapSeq fun _ => (#[] : Array Value))).push (seqObj "tuple" its.toArray 0)).push (seqObj "list" #[] 0)).get? a = some (seqObj "list" #[] e1) := Heap.get?_push_of_some _ (Heap.get?_push_of_some _ ha1)
  have room : Room j X.A.in1.in1 := ⟨hr.hd, by have := hr.dp; show X.A.depth + 3 * j + 5 < _; omega, by have := hr.un; show X.A.units + 1 + 1 + 16 * j + 200 < _; omega⟩
  show wpAny _ _ (ksk_rest a (.ref f) false its.toArray e1 (.ref ((s.heap.update a (Obj.mapSeq fun _ => (#[] : Array Value))).push (seqObj "tuple" its.toArray 0)).objs.size)) _ _ _
  rw [← hkS]
  generalize ((s.heap.update a (Obj.mapSeq fun _ => (#[] : Array Value))).push (seqObj "tuple" its.toArray 0)).push (seqObj "list" #[] 0) = h2 at I2 nk na
  clear I0 I1 hkS ha1
  unfold ksk_rest
  refine wpAny_bind (wpAny_rule ?_)
  first
    | rw [List.forIn_toArray]
    | (rw [← Array.forIn_toList]; simp only [List.toList_toArray])
    | rw [← Array.forIn_toList]
  refine wpAny_bind (ksk_fold (fun i t => ∃ H1 ks kA e, Inv X pins σ H1 t ∧ FpOk X pins H1 a ∧ FpOk X pins H1 kS ∧ t.heap.get? kS = some (seqObj "list" kA e) ∧ t.heap.get? a = some (seqObj "list" #[] e1) ∧ Vals ks kA.toList ∧ ks.length = i ∧ J ks H1) its 0 _ ⟨H, [], #[], 0, I2, fa, fk, nk, na, .nil, rfl, j0⟩ ?step ?done)
  case step =>
    rintro i v t hv ⟨H1, ks, kA, e, I3, fa3, fk3, nk3, na3, vk, lk, jk⟩
    rw [Nat.zero_add] at lk
    obtain ⟨x, hx, rx⟩ := vals_at rv hv
    have hi : i < its.length := (List.getElem?_eq_some_iff.mp hv).1
    have hl : ([v] ++ []).length = ps.length := by
      have q := F.len _ _ _ _ (js i x ks H1 hx lk jk)
      simpa using q
    refine wpAny_bind (wpAny_attempt (wpAny_call (codeAny_mono (F.run X.A.in1.in1 X.stack t H1 ⟨[v], []⟩ ([v] ++ []) [x] (fun key H2 => J (ks ++ [key]) H2) E0 room I3.env0.in1.in1 (hb t [v] I3.kIn hl) (.cons rx .nil) (js i x ks H1 hx lk jk)) fun r t2 hq => ?_)))
    cases r with
    | error z =>
      obtain ⟨_, _, _, _, _, _, _, _, _, _, _, _, z⟩ := (hq : L2N.CX X.prog X.w X.stack H1 t E0 _ t2)
      exact z.elim
    | ok fl =>
      cases fl with
      | ret u =>
        obtain ⟨y, H2, os, bare, un, hok, ry, jy⟩ := (hq : CE X.stack X.prog X.w H1 t (fun key H2 => J (ks ++ [key]) H2) u t2)
        have I4 : Inv X pins σ H2 t2 := I3.call' os un hok bare (fun b z => absurd z (by simp))
        have out : ∀ {b : Addr} {o : Obj}, FpOk X pins H1 b → t.heap.get? b = some o → t2.heap.get? b = some o ∧ FpOk X pins H2 b := fun {b o} fb eb =>
          ⟨un.keep b o eb fb.1 (fun z => by
            rcases List.mem_cons.mp (I3.stkSub b z) with z | z
            · exact fb.2.1 z
            · exact fb.2.2.1 z) (by simp), un.free b o eb fb.1 (by simp), fb.2⟩
        obtain ⟨nk4, fk4⟩ := out fk3 nk3
        obtain ⟨na4, fa4⟩ := out fa3 na3
        have ksz : kA.size = i := by rw [← Array.length_toList, ← vk.length]; exact lk
        obtain ⟨c2, hc2⟩ : ∃ c2, (t2.heap.update kS (Obj.mapSeq (·.push u))).get? kS = some (seqObj "list" (kA.push u) c2) := ⟨_, get?_update_seq nk4 (·.push u)⟩
        refine wpAny_bind (listUpdate_at nk4 rfl ?_ (by rw [ksz]; omega) (by rw [Array.size_push, ksz]; omega))
        have I5 : Inv X pins σ H2 { t2 with heap := t2.heap.update kS (Obj.mapSeq (·.push u)) } := I4.turnedL (ch := [kS]) (t' := t2.toks) (fun b o hb e => (Heap.get?_update_ne _ _ _ _ (fun z => hb (by simp [z]))).trans e) fun b hb => by
          obtain rfl : b = kS := by simpa using hb
          exact fk4
        refine wpAny_pure ⟨rfl, H2, ks ++ [y], kA.push u, c2, I5, fa4, fk4, hc2, (Heap.get?_update_ne _ _ _ _ kne.symm).trans na4, ?_, ?_, jy⟩
        · rw [Array.toList_push]; exact vals_snoc vk ry
        · rw [List.length_append, lk]; simp
      | next => exact False.elim hq
      | brk => exact False.elim hq
      | cont => exact False.elim hq
  case done =>
    rintro t ⟨H1, ks, kA, e, I3, fa3, fk3, nk3, na3, vk, lk, jk⟩
    rw [Nat.zero_add] at lk
    have lx : xs.length = its.length := rv.length
    obtain ⟨rows, rl, rd, q⟩ := je ks H1 (by rw [lk, lx]) jk
    have ksz : kA.size = its.length := by rw [← Array.length_toList, ← vk.length]; exact lk
    obtain ⟨as, ra⟩ := Dp.readsAll I3 _ ks kA.toList rd vk
    have al : PySem.W.AllAlike (rows.map rowD) := fun d hd d' hd' => by
      obtain ⟨x, _, rfl⟩ := List.mem_map.mp hd
      obtain ⟨y, _, rfl⟩ := List.mem_map.mp hd'
      exact alike_rows x y
    have so : PySem.W.Sortable (rows.map rowD) := .inr fun d hd => by
      obtain ⟨x, _, rfl⟩ := List.mem_map.mp hd
      exact ⟨fun z => (by unfold rowD at z; cases z), fun ys z => (by unfold rowD at z; cases z)⟩
    have hu : ∀ d, d ∈ rows.map rowD → X.A.in1.in1.units + d.depth < cLine := fun d hd => by
      obtain ⟨x, _, rfl⟩ := List.mem_map.mp hd
      rw [depth_row]
      have := hr.un
      show X.A.units + 1 + 1 + 1 < cLine
      omega
    try dsimp only
    refine wpAny_bind (listItems_at nk3 rfl ?_)
    obtain ⟨G, g1, g2⟩ := restrict t.heap (fun b => b != kS)
    have gk : G.get? kS = none := g2 kS (by simp)
    have kp : PySem.W.KeepsBut a G t.heap := fun b o _ e => by
      by_cases z : b = kS
      · rw [z, gk] at e; cases e
      · rw [← g1 b (by simpa using z)]; exact e
    refine PySem.W.keyH_end (κ := PySem.W.dataKind t.heap (rows.map rowD)) (h₁ := G) kp gk nk3 na3 kne (PySem.W.SortsAt.data (s := t) (readsEach ra) al so hu) ksz hz fun h3 tk3 c k3 n3 => ⟨rfl, ?_⟩
    have I6 : Inv X pins σ H1 { t with heap := h3, toks := tk3 } := I3.turnedL (ch := [a, kS]) (fun b o hb e => by
      have hba : b ≠ a := fun z => hb (by simp [z])
      have hbk : b ≠ kS := fun z => hb (by simp [z])
      exact k3 b o hba (by rw [g1 b (by simpa using hbk)]; exact e)) fun b hb => by
      rcases List.mem_cons.mp hb with z | z
      · rw [z]; exact fa3
      · rw [List.mem_singleton.mp z]; exact fk3
    have kz : (rows.zip xs).map (fun b : List Int × V => rowD b.1) = rows.map rowD := by
      have e : (rows.zip xs).map (fun b : List Int × V => rowD b.1) = ((rows.zip xs).map Prod.fst).map rowD := by rw [List.map_map]; rfl
      rw [e, List.map_fst_zip (by omega)]
    have ko : PySem.W.KeyedOut false ((rows.zip xs).map fun b : List Int × V => rowD b.1) its (PySem.W.sortVals (PySem.W.dataKind t.heap (rows.map rowD)) false kA.toList its) := by
      rw [kz]; exact ⟨t.heap, kA.toList, al, rfl, readsEach ra⟩
    have ev := PySem.W.keyedOut_each (R := fun u (b : List Int × V) => RelV b.2 u) (fun b : List Int × V => rowD b.1) ko (valsEach rv rl)
    have le : PySem.W.dataLe false (fun b : List Int × V => rowD b.1) = fun p q => decide (p.1 ≤ q.1) := PySem.W.dataLe_rows (fun b : List Int × V => b.1)
    rw [le] at ev
    have vo := eachVals ev
    have lo : (byRow (rows.zip xs)).length ≤ sizeLine := by
      unfold byRow
      rw [List.length_map, List.length_mergeSort, List.length_zip]
      omega
    exact ⟨.ref a, upd H1 a (.lst (byRow (rows.zip xs))), I6.take (h' := h3) (t' := tk3) (fun b ob _ e => e) fa3 ⟨lo, _, c, vo, n3⟩, rfl, q a fa3.1⟩
theorem cr_sortBy (F : FnOk X.prog X.w X.K X.mg X.base (L2N.CX X.prog X.w) j f fd ps sp) (hb : Binds X.K fd ps []) (hr : Room (j + 1) X.A) : CallRK X (.builtin "sorted") [Str.ofString "key"] (rSortBy X.K f sp) := by
  intro pins s σ H vs zs us ws Q I r rz h
  obtain ⟨p, xs, J, rfl, rfl, hs, j0, js, je⟩ := h
  obtain rfl := Vals.ref1 r
  obtain rfl := Vals.ref1 rz
  obtain ⟨its, rv, ⟨o, ho, hc, n, hd⟩, hz⟩ := I.tuple hs
  have hL : its.length ≤ sizeLine := by rw [← rv.length]; exact hz
  refine call_function_entry_kw kind_sorted plain_sorted entry_sorted (ksk_s1 _ _) ?_
  unfold Builtin.«sorted»
  refine wpAny_bind (m := checkCount "sorted" 1 1 _) (wpAny_pure ?_)
  refine wpAny_bind (wpAny_collect_seq p (.inr rfl) ho hc hd (fun h1 k1 => ?_) (by rw [List.size_toArray]; exact hL))
  refine wpAny_bind (wpAny_newList ?_ (by simpa using hL))
  have I1 : Inv X pins σ H { s with heap := h1 } := I.kept (t' := s.toks) k1
  have I2 : Inv X pins σ H { s with heap := h1.push (seqObj "list" its.toArray 0) } := I1.kept (t' := s.toks) fun b o e => Heap.get?_push_of_some _ e
  have fa : FpOk X pins H h1.objs.size := I1.fpOk (Nat.le_refl _) (I1.hok.fresh (Nat.le_refl _))
  have at0 : (h1.push (seqObj "list" its.toArray 0)).get? h1.objs.size = some (seqObj "list" its.toArray 0) := Heap.get?_push_size _ rfl
  refine wpAny_bind (wpAny_holding (wpAny_call_entry_kw slot_list_sort ⟨_, at0, rfl⟩ entry_list_sort ?body (ksk_l1 _ _)))
  case body =>
    show wpAny (model X.prog X.w) X.A.in1.in1 (Builtin.«list.sort» ⟨[.ref h1.objs.size], [(Str.ofString "key", .ref f)]⟩) _ _ _
    rw [ksk_t1]
    refine wpAny_mono (sortBy_tree F hb hr I2 fa at0 rv hL J j0 js je) (fun fl s' hf => ?_) fun _ _ e => e
    obtain ⟨rfl, hq⟩ := hf
    exact ⟨_, rfl, wpAny_pure ⟨_, rfl, hq⟩⟩
end

/-- the keys of the items, one after the other -/
def keysBy (f : Fn) : List D → List Ob → Option (List (List Int) × List Ob)
  | [], g => some ([], g)
  | d :: r, g => match f [d] g with
    | .ok k g1 => (match rowOf k, keysBy f r g1 with
      | some x, some (l, g2) => some (x :: l, g2)
      | _, _ => none)
    | _ => none
/-- sorting by putting in, which computes in the kernel -/
def insBy {α : Type} (le : α → α → Bool) (a : α) : List α → List α
  | [] => [a]
  | x :: l => if le a x = true then a :: x :: l else x :: insBy le a l
def isort {α : Type} (le : α → α → Bool) : List α → List α
  | [] => []
  | a :: l => insBy le a (isort le l)
theorem insBy_app {α : Type} {le : α → α → Bool} {a : α} : ∀ {l1 l2 : List α}, (∀ b ∈ l1, le a b = false) → (∀ b ∈ l2, le a b = true) → insBy le a (l1 ++ l2) = l1 ++ a :: l2
  | [], [], _, _ => rfl
  | [], x :: l2, _, h => by
    show (if le a x = true then a :: x :: l2 else x :: insBy le a l2) = a :: x :: l2
    rw [if_pos (h x List.mem_cons_self)]
  | x :: l1, l2, h, k => by
    show (if le a x = true then a :: x :: (l1 ++ l2) else x :: insBy le a (l1 ++ l2)) = x :: (l1 ++ a :: l2)
    rw [if_neg (by rw [h x List.mem_cons_self]; simp), insBy_app (fun b hb => h b (List.mem_cons_of_mem _ hb)) k]
theorem isort_eq {α : Type} {le : α → α → Bool} (tr : ∀ a b c, le a b = true → le b c = true → le a c = true) (to : ∀ a b, (le a b || le b a) = true) : ∀ l : List α, isort le l = l.mergeSort le
  | [] => by rw [List.mergeSort_nil]; rfl
  | a :: l => by
    obtain ⟨l1, l2, e1, e2, h⟩ := List.mergeSort_cons tr to a l
    have pw := List.pairwise_mergeSort tr to (a :: l)
    rw [e1] at pw
    have p2 := (List.pairwise_cons.mp (List.pairwise_append.mp pw).2.1).1
    show insBy le a (isort le l) = _
    rw [isort_eq tr to l, e1, e2]
    exact insBy_app (fun b hb => by simpa using h b hb) fun b hb => p2 b hb
def byRowD (l : List (List Int × D)) : List D := (isort (fun p q => decide (p.1 ≤ q.1)) l).map (·.2)
theorem byRowD_eq (l : List (List Int × D)) : byRowD l = (l.mergeSort fun p q => decide (p.1 ≤ q.1)).map (·.2) := by
  unfold byRowD
  rw [isort_eq]
  · intro a b c h k
    simp only [decide_eq_true_eq] at *
    exact List.le_trans h k
  · intro a b
    rcases List.le_total a.1 b.1 with h | h <;> simp [h]
def mSortKey (f : Fn) (m : M D) : M D := mbind m fun d s => match d with
  | .tup l => (match keysBy f l s.g with
    | some (rows, g) => .ok (.lst (byRowD (rows.zip l))) ⟨s.e, g⟩
    | none => .no)
  | _ => .no
theorem keysBy_at {f : Fn} : ∀ (l : List D) (g : List Ob) (rows : List (List Int)) (g2 : List Ob), keysBy f l g = some (rows, g2) → rows.length = l.length ∧ ∃ gs : Nat → List Ob, gs 0 = g ∧ gs l.length = g2 ∧ ∀ (i : Nat) d, l[i]? = some d → ∃ r, rows[i]? = some r ∧ f [d] (gs i) = .ok (.lst (r.map D.int)) (gs (i + 1))
  | [], g, rows, g2, e => by
    simp only [keysBy, Option.some.injEq, Prod.mk.injEq] at e
    obtain ⟨rfl, rfl⟩ := e
    exact ⟨rfl, fun _ => g, rfl, rfl, fun i d e => by simp at e⟩
  | d :: l, g, rows, g2, e => by
    simp only [keysBy] at e
    cases q : f [d] g with
    | ex c g' => simp only [q] at e; cases e
    | no => simp only [q] at e; cases e
    | ok k g1 =>
      simp only [q] at e
      cases q2 : rowOf k with
      | none => simp only [q2] at e; cases e
      | some x =>
        cases q3 : keysBy f l g1 with
        | none => simp only [q2, q3] at e; cases e
        | some z =>
          obtain ⟨l2, g3⟩ := z
          simp only [q2, q3, Option.some.injEq, Prod.mk.injEq] at e
          obtain ⟨rfl, rfl⟩ := e
          obtain ⟨h1, gs, h2, h3, h4⟩ := keysBy_at l g1 l2 g3 q3
          refine ⟨by simp [h1], fun i => match i with | 0 => g | i + 1 => gs i, rfl, h3, fun i d' e => ?_⟩
          cases i with
          | zero =>
            simp at e; subst e
            exact ⟨x, rfl, by rw [q, rowOf_eq q2, ← h2]⟩
          | succ i =>
            obtain ⟨r, e1, e2⟩ := h4 i d' (by simpa using e)
            exact ⟨r, by simpa using e1, e2⟩
theorem zip_get {α β : Type} : ∀ (rows : List α) (xs : List β), ∀ p ∈ rows.zip xs, p.2 ∈ xs := fun rows xs p hp => (List.of_mem_zip hp).2
/-- sorting goes along with what the items stand for -/
theorem byRow_rep {B : Sb} {F : Hp} {k : List Addr} {rows : List (List Int)} {xs : List V} {ds : List D} (h : RepL B F k xs ds) (hl : rows.length = xs.length) : RepL B F k (byRow (rows.zip xs)) (byRowD (rows.zip ds)) := by
  have pr : PySem.W.EachIs (fun (p : List Int × V) (q : List Int × D) => p.1 = q.1 ∧ Rep B F k p.2 q.2) (rows.zip xs) (rows.zip ds) := by
    clear hl
    have go : ∀ {xs : List V} {ds : List D}, RepL B F k xs ds → ∀ rows : List (List Int), PySem.W.EachIs (fun (p : List Int × V) (q : List Int × D) => p.1 = q.1 ∧ Rep B F k p.2 q.2) (rows.zip xs) (rows.zip ds) := by
      intro xs ds h
      induction xs generalizing ds with
      | nil => intro rows; cases h; cases rows <;> exact .nil
      | cons x xs ih =>
        intro rows
        cases h with
        | cons a r =>
          cases rows with
          | nil => exact .nil
          | cons y rows => exact .cons ⟨rfl, a⟩ (ih r rows)
    exact go h rows
  have ms : ∀ {l : List (List Int × V)} {m : List (List Int × D)}, PySem.W.EachIs (fun (p : List Int × V) (q : List Int × D) => p.1 = q.1 ∧ Rep B F k p.2 q.2) l m →
      RepL B F k (l.map (·.2)) (m.map (·.2)) := by
    intro l m e
    induction e with
    | nil => exact .nil
    | cons a _ ih => exact .cons a.2 ih
  -- the joint list
  have joint : ∀ {l : List (List Int × V)} {m : List (List Int × D)}, PySem.W.EachIs (fun (p : List Int × V) (q : List Int × D) => p.1 = q.1 ∧ Rep B F k p.2 q.2) l m →
      ∃ z : List (List Int × (V × D)), z.map (fun p => (p.1, p.2.1)) = l ∧ z.map (fun p => (p.1, p.2.2)) = m ∧ ∀ p ∈ z, Rep B F k p.2.1 p.2.2 := by
    intro l m e
    induction e with
    | nil => exact ⟨[], rfl, rfl, fun p hp => by simp at hp⟩
    | @cons p q ps qs h _ ih =>
      obtain ⟨z, e1, e2, e3⟩ := ih
      obtain ⟨p1, p2⟩ := p
      obtain ⟨q1, q2⟩ := q
      obtain ⟨rfl, hr⟩ := (show p1 = q1 ∧ Rep B F k p2 q2 from h)
      refine ⟨(p1, (p2, q2)) :: z, by simp [e1], by simp [e2], fun y hy => ?_⟩
      rcases List.mem_cons.mp hy with w | w
      · subst w; exact hr
      · exact e3 y w
  obtain ⟨z, e1, e2, e3⟩ := joint pr
  rw [byRowD_eq]
  unfold byRow
  rw [← e1, ← e2, ← List.map_mergeSort (r := fun p q : List Int × (V × D) => decide (p.1 ≤ q.1)) (fun _ _ _ _ => rfl), ← List.map_mergeSort (r := fun p q : List Int × (V × D) => decide (p.1 ≤ q.1)) (fun _ _ _ _ => rfl), List.map_map, List.map_map]
  have mem : ∀ p ∈ z.mergeSort (fun p q : List Int × (V × D) => decide (p.1 ≤ q.1)), Rep B F k p.2.1 p.2.2 := fun p hp => e3 p (List.mem_mergeSort.mp hp)
  generalize z.mergeSort (fun p q : List Int × (V × D) => decide (p.1 ≤ q.1)) = y at mem
  clear e1 e2 e3 ms joint pr
  induction y with
  | nil => exact .nil
  | cons p y ih => exact .cons (mem p List.mem_cons_self) (ih fun q hq => mem q (List.mem_cons_of_mem _ hq))
theorem se_sortKey {X : Cx} {W : WX} {e : Expr} {m : M D} {x : Str} {j : Nat} {f : Fn} {p p2 kp pos : Pos} (C : Cal X.prog X.w X.K X.mg X.base x j 1 f) (hr : Room (j + 1) X.A) (he : SE X W e m) (hm : X.mg "sorted" = none) (hg : Gl X "sorted" := by rfl) (hgx : Gl X x := by rfl)
    (hdb : (x == ("__debug__" : Str)) = false := by decide) (hs : starEach [e] X.env = (false, eval e X.env) :: starEach [] X.env := by rfl)
    (h1 : backTo pos (starEach [e] X.env) = (false, eval e X.env) :: backTo pos (starEach [] X.env) := by rfl) (h2 : (backTo pos (starEach [e] X.env)).any (·.1) = false := by rfl)
    (h3 : (backToKw pos (keywordEach [⟨some "key", .Name x p2, kp⟩] X.env)).all (·.1.isSome) = true := by rfl) (h4 : (backToKw pos (keywordEach [⟨some "key", .Name x p2, kp⟩] X.env)).any (·.1.isNone) = false := by rfl)
    (h5 : (backToKw pos (keywordEach [⟨some "key", .Name x p2, kp⟩] X.env)).filterMap (·.1) = [Str.ofString "key"] := by rfl) :
    SE X W (.Call (.Name "sorted" p) [e] [⟨some "key", .Name x p2, kp⟩] pos) (mSortKey f m) := by
  obtain ⟨a, fd, ps, F, hmx, hk, hb⟩ := C.ex
  refine PE_imp (pe_callBK (cr_sortBy F hb hr) hg hm PyProof.Rows.boot_sorted (pa_cons he pa_nil hs) (pk_cons (pe_glob (v := .ref a) hgx hmx rfl hdb) pk_nil) (by decide) (by decide) h1 h2 h3 h4 h5) fun σ H Q ⟨Hb, Fb, kb, k, F0, s, ok, h⟩ => ?_
  refine ⟨Hb, Fb, kb, k, F0, s, ok, h.bind.imp fun d s1 F1 k1 H1 e1 p1 ok1 h1 v rv => ?_⟩
  show rSortBy X.K a (spF (sbOf X) 1 f) [v] [.ref a] H1 Q
  cases rv with
  | @tup q xs l hq rl =>
    have h1 : Fin (sbOf X) Hb Fb kb k1 F1 σ W (match keysBy f l s1.g with | some (rows, g) => .ok (.lst (byRowD (rows.zip l))) ⟨s1.e, g⟩ | none => .no) (fun d _ F' k' H' => ∀ v, Rep (sbOf X) F' k' v d → Q v H') := h1
    cases c : keysBy f l s1.g with
    | none => rw [c] at h1; exact h1.elim
    | some z =>
      obtain ⟨rows, g2⟩ := z
      rw [c] at h1
      obtain ⟨hl, gs, g0, gn, step⟩ := keysBy_at l s1.g rows g2 c
      have lx : xs.length = l.length := rl.length
      refine ⟨q, xs, fun ks H2 => ∃ F2 k2, Bs (sbOf X) H1 F1 k1 k2 F2 (gs ks.length) H2 ∧ RepL (sbOf X) F2 k2 ks ((rows.take ks.length).map fun r => D.lst (r.map D.int)) ∧ ks.length ≤ rows.length, rfl, rfl, Evl.ex_t ok1.bs.sub hq, ⟨F1, k1, by rw [List.length_nil, g0]; exact ok1.bs.start, .nil, Nat.zero_le _⟩, fun i y ks H2 hy lk ⟨F2, k2, bs, rk, _⟩ => ?_, fun ks H2 lk ⟨F2, k2, bs, rk, _⟩ => ?_⟩
      · obtain ⟨d, hd, rd⟩ := rl.get hy
        obtain ⟨r, hr, fr⟩ := step i d hd
        have ri : i < rows.length := (List.getElem?_eq_some_iff.mp hr).1
        subst lk
        refine ⟨k2, F2, gs ks.length, [d], bs.start, .cons (rd.mono bs.fb bs.pre) .nil, rfl, ?_⟩
        rw [fr]
        intro v H3 F3 k3 b3 rv3
        have e2 : (ks ++ [v]).length = ks.length + 1 := by simp
        refine ⟨F3, k3, by rw [e2]; exact bs.trans b3, ?_, by rw [e2]; exact ri⟩
        rw [e2, List.take_succ, hr]
        simp only [Option.toList_some, List.map_append, List.map_cons, List.map_nil]
        exact (rk.mono b3.fb b3.pre).append (.cons rv3 .nil)
      · have e3 : ks.length = l.length := by rw [lk, lx]
        refine ⟨rows, by rw [hl, lx], ?_, fun p hp => ?_⟩
        · rw [e3, ← hl, List.take_length] at rk
          have := rk.dp bs.sub (plains_rows rows)
          rw [pys_rows] at this
          exact this
        · rw [e3, gn] at bs
          have ok2 := ok1.evo bs
          have gr : Grow F2 H2 (upd F2 p (.lst (byRow (rows.zip xs)))) (upd H2 p (.lst (byRow (rows.zip xs)))) := Grow.one bs.sub hp
          refine h1 _ _ _ (bs.fb.trans gr.ff) bs.pre (ok2.grow gr) _ (.lst upd_same ?_)
          exact byRow_rep (rl.mono (bs.fb.trans gr.ff) bs.pre) (by rw [hl, lx])
  | _ => exact h1.elim
end FX

/-! FX: list(tuple), list(list) -/
namespace FX
open PySem L2
def dList : List D → Option D
  | [.lst l] => some (.lst l)
  | [.tup l] => some (.lst l)
  | _ => none
theorem cd_list {B : Sb} : CallD B (fun xs H Q => ∃ p ys, xs = [.ref p] ∧ (SqL B.K H p ys ∨ SqT B.K H p ys) ∧ ∀ l, H l = none → Q (.ref l) (upd H l (.lst ys))) dList := fun F k H xs ds z Q sub rx e q => by
  cases rx with
  | nil => cases e
  | cons h r =>
    cases r with
    | cons _ _ => cases h <;> cases e
    | nil =>
      cases h <;> try (cases e; done)
      case tup a xs ds h r =>
        cases e
        refine ⟨a, xs, rfl, .inr (Evl.ex_t sub h), fun p hp => ?_⟩
        have gr := Grow.one (o := .lst xs) sub hp
        exact q _ _ _ gr (.lst upd_same (r.mono gr.ff (List.prefix_refl _)))
      case lst a xs ds h r =>
        cases e
        refine ⟨a, xs, rfl, .inl (SqL.of (sub _ _ h)), fun p hp => ?_⟩
        have gr := Grow.one (o := .lst xs) sub hp
        exact q _ _ _ gr (.lst upd_same (r.mono gr.ff (List.prefix_refl _)))
end FX

/-! FX: instances in cells: fields, methods, making -/
namespace FX
open PySem L2
def insAt (cn : Str) (g : List Ob) (n : Nat) : Option (List (Str × D)) := match g[n]? with
  | some (.ins c fs) => if c = cn then some fs else none
  | _ => none
theorem insAt_of {cn : Str} {g : List Ob} {n : Nat} {fs : List (Str × D)} (h : insAt cn g n = some fs) : g[n]? = some (.ins cn fs) := by
  unfold insAt at h
  split at h
  · rename_i c fs' e
    by_cases q : c = cn
    · rw [if_pos q] at h; cases h; rw [e, q]
    · rw [if_neg q] at h; cases h
  · cases h
def putFD (f : Str) (d : D) : List (Str × D) → List (Str × D)
  | [] => [(f, d)]
  | (g, e) :: r => if g = f then (g, d) :: r else (g, e) :: putFD f d r
theorem RepF.lk {B : Sb} {F : Hp} {k : List Addr} {f : Str} : ∀ {xs : List (Str × V)} {ds : List (Str × D)}, RepF B F k xs ds → (ds.lookup f = none → xs.lookup f = none) ∧ ∀ d, ds.lookup f = some d → ∃ v, xs.lookup f = some v ∧ Rep B F k v d
  | _, _, .nil => ⟨fun _ => rfl, fun d h => by cases h⟩
  | _, _, .cons (q := q) (v := v) (d := d) h r => by
    obtain ⟨i1, i2⟩ := RepF.lk (f := f) r
    by_cases e : f == q
    · constructor
      · intro z; simp only [List.lookup, e] at z; cases z
      · intro d' z; simp only [List.lookup, e] at z ⊢; cases z; exact ⟨v, rfl, h⟩
    · have e' : (f == q) = false := by simpa using e
      constructor
      · intro z; simp only [List.lookup, e'] at z ⊢; exact i1 z
      · intro d' z; simp only [List.lookup, e'] at z ⊢; exact i2 d' z
theorem RepF.put {B : Sb} {F : Hp} {k : List Addr} {f : Str} {v : V} {d : D} (h : Rep B F k v d) : ∀ {xs : List (Str × V)} {ds : List (Str × D)}, RepF B F k xs ds → RepF B F k (putF f v xs) (putFD f d ds)
  | _, _, .nil => .cons h .nil
  | _, _, .cons (q := q) a r => by
    unfold putF putFD
    by_cases e : q = f
    · rw [if_pos e, if_pos e]; exact .cons h r
    · rw [if_neg e, if_neg e]; exact .cons a (RepF.put h r)
theorem RepF.length {B : Sb} {F : Hp} {k : List Addr} : ∀ {xs : List (Str × V)} {ds : List (Str × D)}, RepF B F k xs ds → xs.length = ds.length
  | _, _, .nil => rfl
  | _, _, .cons _ r => by rw [List.length_cons, List.length_cons, r.length]
/-- a class by its name, and a field's name that no class of it has -/
def ClsF (K : PySem.W.Frag) (mg : Str → Option Value) (cn f : Str) : Prop := ∃ C, mg cn = some (.ref C) ∧ Cls K C ∧ NoAttr K C f
def mGetF (cn f : Str) (mo : M D) : M D := mbind mo fun x s => match x with
  | .cell n => (match insAt cn s.g n with
    | some fs => (match fs.lookup f with
      | some d => .ok d s
      | none => .no)
    | none => .no)
  | _ => .no
def mSetF (cn f : Str) (mo me : M D) : M Out := mbind me fun d => mbind mo fun x s => match x with
  | .cell n => (match insAt cn s.g n with
    | some fs => if fs.length < 1000 then .ok .nx (setC n (.ins cn (putFD f d fs)) s) else .no
    | none => .no)
  | _ => .no
section
variable {X : Cx} {W : WX} {pos pos' apos : Pos} {o e : Expr} {mo me : M D} {cn f : Str}
theorem se_getF (hC : ClsF X.K X.mg cn f) (ho : SE X W o mo) (hb : attributeBase o f X.env (eval o X.env) = eval o X.env := by rfl) : SE X W (.Attribute o f pos) (mGetF cn f mo) := PE_imp (pe_fld ho hb) fun σ H Q ⟨Hb, Fb, kb, k, F, s, ok, h⟩ =>
  ⟨Hb, Fb, kb, k, F, s, ok, h.bind.imp fun dx s1 F1 k1 H1 e1 p1 ok1 h1 v rv => by
    cases rv <;> try (exact h1.elim)
    case cell a n ea =>
      cases q : insAt cn s1.g n with
      | none => exact (h1.no (by (try dsimp only); rw [q])).elim
      | some fs =>
        cases q2 : fs.lookup f with
        | none => exact (h1.no (by (try dsimp only); rw [q]; (try dsimp only); rw [q2])).elim
        | some d =>
          have h2 := h1.cast (.ok d s1) (by (try dsimp only); rw [q]; (try dsimp only); rw [q2])
          obtain ⟨C, dx, xs, hc, hxs, rx⟩ := ok1.bs.cel n a _ ea (insAt_of q)
          obtain ⟨C', hc', cl, na⟩ := hC
          have eC : C = C' := by
            have z : X.mg cn = some (.ref C) := hc
            rw [z] at hc'
            injection hc' with hc'
            injection hc'
          subst eC
          obtain ⟨w, ew, rw'⟩ := (rx.lk (f := f)).2 d q2
          exact ⟨a, C, dx, xs, w, rfl, hxs, cl, na, ew, h2 H1 F1 k1 (Evl.Ex.refl _) (List.prefix_refl _) ok1 w rw'⟩⟩
theorem ss_setF (hC : ClsF X.K X.mg cn f) (ho : SE X W o mo) (he : SE X W e me) (hs : swapsWith e (some (.Attribute o f pos')) pos.line X.env = pure false := by rfl) : SS X W (.Assign [.Attribute o f pos'] e pos) (mSetF cn f mo me) := PS_imp (ps_fld ho he hs) fun E σ H ⟨Hb, Fb, kb, k, F, s, ok, h⟩ =>
  ⟨Hb, Fb, kb, k, F, s, ok, (FinS.ofBind h).imp fun d s1 F1 k1 H1 e1 p1 ok1 h1 v rv => ⟨Hb, Fb, kb, k1, F1, s1, ok1, (FinS.ofBind h1).imp fun dx s2 F2 k2 H2 e2 p2 ok2 h2 x rx => by
    cases rx <;> try (exact h2.elim)
    case cell a n ea =>
      have no : ∀ {r : R Out}, FinS (sbOf X) Hb Fb kb k2 F2 W r E → r = .no → False := fun h e => by rw [e] at h; exact h
      cases q : insAt cn s2.g n with
      | none => exact (no h2 (by (try dsimp only); rw [q])).elim
      | some fs =>
        by_cases q2 : fs.length < 1000
        · have h3 := h2.cast (.ok .nx (setC n (.ins cn (putFD f d fs)) s2)) (by (try dsimp only); rw [q]; (try dsimp only); rw [if_pos q2])
          obtain ⟨C, dx, xs, hc, hxs, rx⟩ := ok2.bs.cel n a _ ea (insAt_of q)
          obtain ⟨C', hc', cl, na⟩ := hC
          have eC : C = C' := by
            have z : X.mg cn = some (.ref C) := hc
            rw [z] at hc'
            injection hc' with hc'
            injection hc'
          subst eC
          refine ⟨a, C, dx, xs, rfl, hxs, cl, na, by rw [rx.length]; exact q2, ?_⟩
          exact h3 σ _ F2 k2 (Evl.Ex.refl _) (List.prefix_refl _) (ok2.mutC ea ⟨C, dx, _, hc, upd_same, RepF.put (rv.mono e2 p2) rx⟩)
        · exact (no h2 (by (try dsimp only); rw [q]; (try dsimp only); rw [if_neg q2])).elim⟩⟩
end
/-- a method that one may call by its name -/
structure CalM (P : Program) (w : World) (K : PySem.W.Frag) (mg : Str → Option Value) (base : Heap) (cn m : Str) (j n : Nat) (f : Fn) : Prop where
  ex : ∃ (C a : Addr) (fd : FuncData) (ps : List Str), FnOk P w K mg base (L2N.CX P w) j a fd ps (spF ⟨K, mg, P, w⟩ n f) ∧ mg cn = some (.ref C) ∧ Cls K C ∧ Meth K C m a ∧ Binds K fd ps []
def mMeth (cn m : Str) (n : Nat) (f : Fn) (mo : M D) (ma : M (List D)) : M D := mbind mo fun x s => match x with
  | .cell c => (match insAt cn s.g c with
    | some fs => if (fs.lookup m).isNone = true then mbind ma (fun ds => runF0 n f (.cell c :: ds)) s else .no
    | none => .no)
  | _ => .no
/-- a class that one may make things of -/
structure CalK (P : Program) (w : World) (K : PySem.W.Frag) (mg : Str → Option Value) (base : Heap) (cn : Str) (j n : Nat) (f : Fn) : Prop where
  ex : ∃ (C a : Addr) (fd : FuncData) (ps : List Str), FnOk P w K mg base (L2N.CX P w) j a fd ps (spF ⟨K, mg, P, w⟩ n f) ∧ mg cn = some (.ref C) ∧ Mk K C a ∧ Binds K fd ps []
def mMake (cn : Str) (n : Nat) (f : Fn) (ma : M (List D)) : M D := mbind ma fun ds s => if ds.length + 1 = n then (match f (.cell s.g.length :: ds) (s.g ++ [.ins cn []]) with
  | .ok .non g' => .ok (.cell s.g.length) ⟨s.e, g'⟩
  | _ => .no) else .no
section
variable {X : Cx} {W : WX} {pos p apos : Pos} {o e : Expr} {es : List Expr} {mo : M D} {ma : M (List D)} {cn m : Str} {j n : Nat} {f : Fn}
theorem se_meth (C : CalM X.prog X.w X.K X.mg X.base cn m j n f) (hr : Room j X.A) (ho : SE X W o mo) (ha : SA X W (e :: es) ma)
    (hst : starEach (e :: es) X.env = (false, eval e X.env) :: starEach es X.env := by rfl) (hpl : (backTo pos (starEach es X.env)).any (·.1) = false := by rfl) {pl : Sem Bool}
    (ht : eval (.Call (.Attribute o m apos) (e :: es) [] pos) X.env = (do
      let ov ← eval o X.env
      standAt apos.atName
      let (f, first) ← holding [ov] (getMethod ov m pl)
      callWith pos f first (backTo pos (starEach (e :: es) X.env)) (backToKw pos (keywordEach [] X.env))) := by rfl) :
    SE X W (.Call (.Attribute o m apos) (e :: es) [] pos) (mMeth cn m n f mo ma) := by
  obtain ⟨C, a, fd, ps, F, hm, cl, mt, hb⟩ := C.ex
  refine PE_imp (pe_meth (pl := pl) ho cl mt F hr hb .nil passN ha hst hpl ht) fun σ H Q ⟨Hb, Fb, kb, k, F, s, ok, h⟩ => ?_
  refine ⟨Hb, Fb, kb, k, F, s, ok, h.bind.imp fun dx s1 F1 k1 H1 e1 p1 ok1 h1 v rv => ?_⟩
  cases rv <;> try (exact h1.elim)
  case cell b c eb =>
    cases q : insAt cn s1.g c with
    | none => exact (h1.no (by (try dsimp only); rw [q])).elim
    | some fs =>
      by_cases q2 : (fs.lookup m).isNone = true
      · have h2 := h1.cast (mbind ma (fun ds => runF0 n f (.cell c :: ds)) s1) (by (try dsimp only); rw [q]; (try dsimp only); rw [if_pos q2])
        obtain ⟨C', dx, xs, hc, hxs, rx⟩ := ok1.bs.cel c b _ eb (insAt_of q)
        have eC : C' = C := by
          have z : X.mg cn = some (.ref C') := hc
          rw [z] at hm
          injection hm with hm
          injection hm
        subst eC
        have ln : xs.lookup m = none := (rx.lk (f := m)).1 (by cases z : fs.lookup m with | none => rfl | some _ => rw [z] at q2; cases q2)
        refine ⟨b, dx, xs, rfl, hxs, ln, Hb, Fb, kb, k1, F1, s1, ok1, h2.bind.imp fun ds s2 F2 k2 H2 e2 p2 ok2 h3 vs rvs => ?_⟩
        show spF (sbOf X) n f (.ref b :: (vs ++ [])) H2 Q E0
        rw [List.append_nil]
        have h3 : Fin (sbOf X) Hb Fb kb k2 F2 σ W (if (D.cell c :: ds).length = n then (match f (.cell c :: ds) s2.g with | .ok d g' => .ok d ⟨s2.e, g'⟩ | _ => .no) else .no) (fun d _ F' k' H' => ∀ v, Rep (sbOf X) F' k' v d → Q v H') := h3
        by_cases hl : (D.cell c :: ds).length = n
        · rw [if_pos hl] at h3
          refine ⟨k2, F2, s2.g, .cell c :: ds, ok2.bs.start, .cons (.cell (p2.get eb)) rvs, hl, ?_⟩
          cases z : f (.cell c :: ds) s2.g with
          | ok d g' =>
            rw [z] at h3
            exact fun v H' F' k' b r => h3 H' F' k' b.fb b.pre (ok2.evo b) v r
          | ex c g' => rw [z] at h3; exact h3.elim
          | no => rw [z] at h3; exact h3.elim
        · rw [if_neg hl] at h3; exact h3.elim
      · exact (h1.no (by (try dsimp only); rw [q]; (try dsimp only); rw [if_neg q2])).elim
theorem se_make (C : CalK X.prog X.w X.K X.mg X.base cn j n f) (hr : Room (j + 1) X.A) (ha : SA X W (e :: es) ma) (hg : Gl X cn := by rfl) (hdb : (cn == ("__debug__" : Str)) = false := by decide)
    (he : starEach (e :: es) X.env = (false, eval e X.env) :: starEach es X.env := by rfl) (hpl : (backTo pos (starEach es X.env)).any (·.1) = false := by rfl) : SE X W (.Call (.Name cn p) (e :: es) [] pos) (mMake cn n f ma) := by
  obtain ⟨C, a, fd, ps, F, hm, mk, hb⟩ := C.ex
  refine PE_imp (pe_make mk F hr hg hm hb .nil passN ha hdb he hpl) fun σ H Q ⟨Hb, Fb, kb, k, F, s, ok, h⟩ => ?_
  refine ⟨Hb, Fb, kb, k, F, s, ok, h.bind.imp fun ds s1 F1 k1 H1 e1 p1 ok1 h1 vs rv x dx hx hdx ne => ?_⟩
  show spF (sbOf X) n f (.ref x :: (vs ++ [])) _ _ E0
  rw [List.append_nil]
  have h1 : Fin (sbOf X) Hb Fb kb k1 F1 σ W (if ds.length + 1 = n then (match f (.cell s1.g.length :: ds) (s1.g ++ [.ins cn []]) with | .ok .non g' => .ok (.cell s1.g.length) ⟨s1.e, g'⟩ | _ => .no) else .no) (fun d _ F' k' H' => ∀ v, Rep (sbOf X) F' k' v d → Q v H') := h1
  by_cases hl : ds.length + 1 = n
  · rw [if_pos hl] at h1
    have okA := ok1.grow (Grow.junk (o := .own x) ok1.bs.sub hdx)
    have nx : (upd H1 dx (.own x)) x = none := by rw [upd_ne (fun z => ne z.symm)]; exact hx
    have fr := okA.free nx
    have okB := okA.grow (Grow.junk (o := .ins C dx []) okA.bs.sub nx)
    have okC := okB.newC (o := .ins cn []) fr ⟨C, dx, [], hm, upd_same, .nil⟩
    have pk : Pre k1 (k1 ++ [x]) := List.prefix_append _ _
    have cx : (k1 ++ [x])[s1.g.length]? = some x := by rw [← ok1.bs.len, List.getElem?_append_right (Nat.le_refl _), Nat.sub_self]; rfl
    refine ⟨k1 ++ [x], F1, s1.g ++ [.ins cn []], .cell s1.g.length :: ds, okC.bs.start, .cons (.cell cx) (rv.mono (Evl.Ex.refl _) pk), hl, ?_⟩
    cases z : f (.cell s1.g.length :: ds) (s1.g ++ [.ins cn []]) with
    | ok d g' =>
      rw [z] at h1
      cases d <;> try (exact h1.elim)
      intro v H' F' k' b r
      cases r
      exact ⟨rfl, h1 H' F' k' b.fb (pk.trans b.pre) (okC.evo b) _ (.cell (b.pre.get cx))⟩
    | ex c g' => rw [z] at h1; exact h1.elim
    | no => rw [z] at h1; exact h1.elim
  · rw [if_neg hl] at h1; exact h1.elim
end
end FX

/-! FX: dicts whose keys are nested tuples -/
namespace FX
open PySem L2
section
variable {X : Cx} {pins : List (Addr × Obj)} {σ : L2.St} {H F : Hp} {s : Shared} {k : List Addr}
mutual
theorem Rep.nested (I : Inv X pins σ H s) (sub : Ex F H) : ∀ {v : V} {d : D}, Rep (sbOf X) F k v d → ∀ {q : NestedKey} {u : Value}, nk d = some q → RelV v u → NestedIs s.heap q u
  | _, _, .non, q, u, e, r => by simp only [nk, Option.some.injEq] at e; subst e; cases r; exact .none
  | _, _, .bl b, q, u, e, r => by simp only [nk] at e; cases e
  | _, _, .int i, q, u, e, r => by simp only [nk, Option.some.injEq] at e; subst e; obtain ⟨t, rfl⟩ := r; exact .int i t
  | _, _, .str x, q, u, e, r => by simp only [nk, Option.some.injEq] at e; subst e; obtain ⟨t, rfl⟩ := r; exact .text x t
  | _, _, .tup (xs := xs) (ds := ds) h rl, q, u, e, r => by
    simp only [nk, Option.map_eq_some_iff] at e
    obtain ⟨qs, e1, rfl⟩ := e
    cases r
    obtain ⟨its, rv, ⟨o, ho, hc, n, hd⟩, _⟩ := I.tuple (Evl.ex_t sub h)
    exact .tup ho hc hd (by simpa using RepL.nested I sub rl e1 rv)
  | _, _, .lst h rl, q, u, e, r => by simp only [nk] at e; cases e
  | _, _, .dic h rl, q, u, e, r => by simp only [nk] at e; cases e
  | _, _, .obj m h rl, q, u, e, r => by simp only [nk] at e; cases e
  | _, _, .cell h, q, u, e, r => by simp only [nk] at e; cases e
  | _, _, .scr h, q, u, e, r => by simp only [nk] at e; cases e
  | _, _, .kdc h rl, q, u, e, r => by simp only [nk] at e; cases e
  | _, _, .ldc h rl, q, u, e, r => by simp only [nk] at e; cases e
  | _, _, .raw, q, u, e, r => by simp only [nk] at e; cases e
theorem RepL.nested (I : Inv X pins σ H s) (sub : Ex F H) : ∀ {vs : List V} {ds : List D}, RepL (sbOf X) F k vs ds → ∀ {qs : List NestedKey} {us : List Value}, nks ds = some qs → Vals vs us → NestedAll s.heap qs us
  | _, _, .nil, qs, us, e, r => by simp only [nks, Option.some.injEq] at e; subst e; cases r; exact .nil
  | _, _, .cons (d := d) (ds := ds) h rl, qs, us, e, r => by
    simp only [nks] at e
    cases q1 : nk d with
    | none => simp only [q1] at e; cases e
    | some q =>
      cases q2 : nks ds with
      | none => simp only [q1, q2] at e; cases e
      | some l =>
        simp only [q1, q2, Option.some.injEq] at e
        subst e
        cases r with
        | cons a b => exact .cons (Rep.nested I sub h q1 a) (RepL.nested I sub rl q2 b)
end
end
/-- v is the key q, wherever H is held -/
def NKey (X : Cx) (H : Hp) (v : V) (q : NestedKey) : Prop := q.depth ≤ 8 ∧ ∀ (pins : List (Addr × Obj)) (σ : L2.St) (s : Shared) (u : Value), Inv X pins σ H s → RelV v u → NestedIs s.heap q u
def NKeys (X : Cx) (H : Hp) (xs : List (NestedKey × Addr × V)) : Prop := ∀ e ∈ xs, NKey X H (.ref e.2.1) e.1
abbrev NO (X : Cx) (d : Addr) (xs : List (NestedKey × Addr × V)) : HO := .ext (ND0 X.prog X.w d xs)
def hasN (q : NestedKey) (xs : List (NestedKey × Addr × V)) : Bool := xs.any fun e => decide (e.1 = q)
abbrev PairN : (NestedKey × Addr × V) → (NestedKey × Addr × Value) → Prop := fun x y => x.1 = y.1 ∧ x.2.1 = y.2.1 ∧ RelV x.2.2 y.2.2
def putN (xs : List (NestedKey × Addr × V)) (q : NestedKey) (a : Addr) (v : V) : List (NestedKey × Addr × V) := if hasN q xs = true then xs.map fun e => if e.1 = q then (e.1, e.2.1, v) else e else xs ++ [(q, a, v)]
theorem has_at {q : NestedKey} : ∀ {xs : List (NestedKey × Addr × V)} {ys : List (NestedKey × Addr × Value)}, Paired PairN xs ys → (atKey ys q).isSome = hasN q xs := by
  intro xs ys h
  induction h with
  | nil => rfl
  | @cons x y xs ys h t ih =>
    obtain ⟨h1, h2, h3⟩ := h
    unfold hasN at ih ⊢
    obtain ⟨y1, y2, y3⟩ := y
    have h1 : x.1 = y1 := h1
    simp only [atKey, Option.isSome_map] at ih ⊢
    by_cases e : y1 = q
    · simp [h1, e]
    · simp [h1, e]; simpa using ih
theorem paired_mem {y : NestedKey × Addr × Value} : ∀ {xs : List (NestedKey × Addr × V)} {ys : List (NestedKey × Addr × Value)}, Paired PairN xs ys → y ∈ ys → ∃ x ∈ xs, PairN x y := by
  intro xs ys h
  induction h with
  | nil => intro hy; cases hy
  | @cons a b as bs h t ih =>
    intro hy
    rcases List.mem_cons.mp hy with z | z
    · rw [z]; exact ⟨a, List.mem_cons_self, h⟩
    · obtain ⟨x, hx, p⟩ := ih z
      exact ⟨x, List.mem_cons_of_mem _ hx, p⟩
theorem dictOf {X : Cx} {pins : List (Addr × Obj)} {σ : L2.St} {H : Hp} {s : Shared} {d : Addr} {xs : List (NestedKey × Addr × V)} (I : Inv X pins σ H s) (e : H d = some (NO X d xs)) (ks : NKeys X H xs) :
    ∃ ys, Paired PairN xs ys ∧ s.heap.DictOfH (nestedKind X.prog X.w) d ys ∧ (d == sysModules) = false := by
  obtain ⟨⟨o, es, ep, ys, ho, hx, hd, pr, he, nd, ns⟩, _⟩ := I.hok d _ e
  refine ⟨ys, pr, ⟨o, es, ep, ho, hx, hd, he, fun y hy => ?_, nd⟩, ns⟩
  obtain ⟨x, hx, h1, h2, h3⟩ := paired_mem pr hy
  obtain ⟨k1, k2⟩ := ks x hx
  rw [← h1, ← h2]
  exact ⟨k2 pins σ s _ I rfl, k1⟩
theorem room8 {X : Cx} {j : Nat} (hr : Room j X.A) : (nestedKind X.prog X.w).room X.A.in1 := by
  show X.A.units + 1 + 8 < cLine
  have := hr.un
  omega
/-- q in d, q not in d -/
def rInN (X : Cx) (f : Bool → Bool) : R2 := fun x y H Q => ∃ a d xs q, x = .ref a ∧ y = .ref d ∧ H d = some (NO X d xs) ∧ NKey X H (.ref a) q ∧ NKeys X H xs ∧ Q (.bl (f (hasN q xs))) H
theorem val_at {q : NestedKey} {xs : List (NestedKey × Addr × V)} {ys : List (NestedKey × Addr × Value)} (h : Paired PairN xs ys) : (valueAt (pairsH ys) q).isSome = hasN q xs := by
  rw [valueAt_pairsH, Option.isSome_map]; exact has_at h
theorem op_inN {X : Cx} {j : Nat} (hr : Room j X.A) : OpR X (compareOp .In) (rInN X fun b => b) := by
  intro pins s σ H x y v u Q I rx ry h
  obtain ⟨a, d, xs, q, rfl, rfl, e, nq, ks, h⟩ := h
  cases rx
  cases ry
  obtain ⟨ys, pr, hm, ns⟩ := dictOf I e ks
  exact in_keyed (room8 hr) ⟨nq.2 pins σ s _ I rfl, nq.1⟩ ns ⟨ys, hm, rfl⟩ ⟨.bl _, H, I.tok _, by rw [val_at pr]; rfl, h⟩
theorem op_notInN {X : Cx} {j : Nat} (hr : Room j X.A) : OpR X (compareOp .NotIn) (rInN X fun b => !b) := by
  intro pins s σ H x y v u Q I rx ry h
  obtain ⟨a, d, xs, q, rfl, rfl, e, nq, ks, h⟩ := h
  cases rx
  cases ry
  obtain ⟨ys, pr, hm, ns⟩ := dictOf I e ks
  exact notIn_keyed (room8 hr) ⟨nq.2 pins σ s _ I rfl, nq.1⟩ ns ⟨ys, hm, rfl⟩ ⟨.bl _, H, I.tok _, by rw [val_at pr]; rfl, h⟩
theorem put_pair {q : NestedKey} {a : Addr} {v : V} {u : Value} (r : RelV v u) {xs : List (NestedKey × Addr × V)} {ys : List (NestedKey × Addr × Value)} (h : Paired PairN xs ys) : Paired PairN (putN xs q a v) (storedH ys q a u) := by
  unfold putN storedH
  rw [has_at h]
  by_cases c : hasN q xs = true
  · rw [if_pos c, if_pos c]
    clear c
    induction h with
    | nil => exact .nil
    | @cons x y xs ys h t ih =>
      obtain ⟨h1, h2, h3⟩ := h
      refine .cons ?_ ih
      show PairN (if x.1 = q then (x.1, x.2.1, v) else x) (if y.1 = q then (y.1, y.2.1, u) else y)
      by_cases e : x.1 = q
      · rw [if_pos e, if_pos (h1 ▸ e)]; exact ⟨h1, h2, r⟩
      · rw [if_neg e, if_neg (fun z => e (h1.trans z))]; exact ⟨h1, h2, h3⟩
  · rw [if_neg c, if_neg c]
    clear c
    induction h with
    | nil => exact .cons ⟨rfl, rfl, r⟩ .nil
    | cons h t ih => exact .cons h ih
theorem nd_ok {X : Cx} {H : Hp} {h : Heap} {d : Addr} {xs : List (NestedKey × Addr × V)} {ys : List (NestedKey × Addr × Value)} (pr : Paired PairN xs ys) (hm : h.DictOfH (nestedKind X.prog X.w) d ys) (ns : (d == sysModules) = false) : ObjOk X.prog X.w H h d (NO X d xs) := by
  obtain ⟨o, es, ep, ho, hx, hd, he, _, nd⟩ := hm
  exact ⟨⟨o, es, ep, ys, ho, hx, hd, pr, he, nd, ns⟩, ⟨o, ho⟩, fun h1 h2 ⟨o, es, ep, ys, ho, r⟩ k => ⟨o, es, ep, ys, k o ho, r⟩⟩
/-- d[q] = v -/
def rSetN (X : Cx) : V → V → V → Hp → (Hp → Prop) → Prop := fun o i v H Q => ∃ d a xs q, o = .ref d ∧ i = .ref a ∧ H d = some (NO X d xs) ∧ NKey X H (.ref a) q ∧ NKeys X H xs ∧ xs.length ≤ 100000 ∧ Q (upd H d (NO X d (putN xs q a v)))
theorem set_nd {X : Cx} {j : Nat} (hr : Room j X.A) : PSet X (rSetN X) := by
  intro pins s σ H o i v ov iv u Q I ro ri rv h
  obtain ⟨d, a, xs, q, rfl, rfl, e, nq, ks, hl, h⟩ := h
  cases ro
  cases ri
  obtain ⟨ys, pr, hm, ns⟩ := dictOf I e ks
  have hl2 : ys.length ≤ sizeLine := by
    have := Paired.length pr
    rw [← this]
    exact Evl.sz_of hl
  refine wpAny_setItem_heap (room8 hr) ⟨nq.2 pins σ s _ I rfl, nq.1⟩ hm (fun h' hm' sb => ⟨_, ?_, h⟩) hl2
  have new : ∃ o, h'.get? d = some o := by obtain ⟨o, _, _, ho, _⟩ := hm'; exact ⟨o, ho⟩
  exact I.write (x := d) (e := d) (by rw [e]; trivial) (.inl rfl) (fun b z hb q => (sb.2 b hb).trans q) new (nd_ok (put_pair rv pr) hm' ns)
end FX

/-! FX: dicts whose keys are nested tuples, as slots -/
namespace FX
open PySem L2
theorem nk8_some {d : D} {q : NestedKey} (h : nk8 d = some q) : nk d = some q ∧ q.depth ≤ 8 ∧ ∃ l, d = .tup l := by
  cases d <;> try (cases h; done)
  rename_i l
  have h : (nk (.tup l)).bind (fun q => if q.depth ≤ 8 then some q else none) = some q := h
  cases e : nk (.tup l) with
  | none => rw [e] at h; cases h
  | some q' =>
    rw [e] at h
    have h : (if q'.depth ≤ 8 then some q' else none) = some q := h
    by_cases c : q'.depth ≤ 8
    · rw [if_pos c] at h; cases h; exact ⟨rfl, c, l, rfl⟩
    · rw [if_neg c] at h; cases h
def ownN (s : S) (i : Nat) : Option (List (D × D)) := match s.e[i]? with
  | some (some (.own (.kd l))) => some l
  | _ => none
theorem ownN_some {s : S} {i : Nat} {l : List (D × D)} (h : ownN s i = some l) : s.e[i]? = some (some (.own (.kd l))) := by
  unfold ownN at h
  split at h
  · rename_i l' e
    rw [e]
    cases h
    rfl
  · cases h
def hasND (q : NestedKey) (ds : List (D × D)) : Bool := ds.any fun p => decide (nk8 p.1 = some q)
def putND (ds : List (D × D)) (q : NestedKey) (e d : D) : List (D × D) := if hasND q ds = true then ds.map fun p => if nk8 p.1 = some q then (p.1, d) else p else ds ++ [(e, d)]
section
variable {B : Sb} {F : Hp} {k : List Addr}
theorem RepN.has {q : NestedKey} : ∀ {xs : List (NestedKey × Addr × V)} {ds : List (D × D)}, RepN B F k xs ds → hasN q xs = hasND q ds
  | _, _, .nil => rfl
  | _, _, .cons (q := q') n h1 h2 r => by
    have ih := RepN.has (q := q) r
    unfold hasN hasND at ih ⊢
    simp only [List.any_cons, n, Option.some.injEq]
    rw [ih]
theorem RepN.length : ∀ {xs : List (NestedKey × Addr × V)} {ds : List (D × D)}, RepN B F k xs ds → xs.length = ds.length
  | _, _, .nil => rfl
  | _, _, .cons _ _ _ r => by rw [List.length_cons, List.length_cons, r.length]
theorem RepN.map {q : NestedKey} {v : V} {d : D} (hv : Rep B F k v d) : ∀ {xs : List (NestedKey × Addr × V)} {ds : List (D × D)}, RepN B F k xs ds → RepN B F k (xs.map fun e => if e.1 = q then (e.1, e.2.1, v) else e) (ds.map fun p => if nk8 p.1 = some q then (p.1, d) else p)
  | _, _, .nil => .nil
  | _, _, .cons (q := q') n h1 h2 r => by
    have ih := RepN.map (q := q) hv r
    simp only [List.map_cons, n, Option.some.injEq]
    by_cases e : q' = q
    · simp only [e, if_true]; exact .cons (by rw [n, e]) h1 hv (by simpa using ih)
    · simp only [e, if_false]; exact .cons n h1 h2 (by simpa using ih)
theorem RepN.snoc {q : NestedKey} {a : Addr} {v : V} {e d : D} (n : nk8 e = some q) (ha : Rep B F k (.ref a) e) (hv : Rep B F k v d) : ∀ {xs : List (NestedKey × Addr × V)} {ds : List (D × D)}, RepN B F k xs ds → RepN B F k (xs ++ [(q, a, v)]) (ds ++ [(e, d)])
  | _, _, .nil => .cons n ha hv .nil
  | _, _, .cons n' h1 h2 r => .cons n' h1 h2 (RepN.snoc n ha hv r)
theorem RepN.put {q : NestedKey} {a : Addr} {v : V} {e d : D} (n : nk8 e = some q) (ha : Rep B F k (.ref a) e) (hv : Rep B F k v d) {xs : List (NestedKey × Addr × V)} {ds : List (D × D)} (r : RepN B F k xs ds) : RepN B F k (putN xs q a v) (putND ds q e d) := by
  unfold putN putND
  rw [r.has]
  by_cases c : hasND q ds = true
  · rw [if_pos c, if_pos c]; exact r.map hv
  · rw [if_neg c, if_neg c]; exact r.snoc n ha hv
end
theorem Rep.nkey {X : Cx} {F H : Hp} {k : List Addr} {v : V} {d : D} {q : NestedKey} (h : Rep (sbOf X) F k v d) (sub : Ex F H) (n : nk8 d = some q) : NKey X H v q := by
  obtain ⟨n1, n2, _⟩ := nk8_some n
  exact ⟨n2, fun pins σ s u I r => h.nested I sub n1 r⟩
theorem RepN.nkeys {X : Cx} {F H : Hp} {k : List Addr} (sub : Ex F H) : ∀ {xs : List (NestedKey × Addr × V)} {ds : List (D × D)}, RepN (sbOf X) F k xs ds → NKeys X H xs
  | _, _, .nil => fun _ h => by cases h
  | _, _, .cons n h1 h2 r => fun e he => by
    rcases List.mem_cons.mp he with z | z
    · rw [z]; exact h1.nkey sub n
    · exact RepN.nkeys sub r e z
/-- key in slot, key not in slot -/
def mInN (f : Bool → Bool) (i : Nat) (mk : M D) : M D := mbind mk fun y s => match ownN s i, nk8 y with
  | some l, some q => .ok (.bl (f (hasND q l))) s
  | _, _ => .no
/-- slot[key] = value -/
def mPutN (i : Nat) (mk mv : M D) : M Out := mbind mv fun d s1 => match ownN s1 i with
  | none => .no
  | some _ => mbind mk (fun y s2 => match ownN s2 i, nk8 y with
    | some l, some q => if l.length < 100000 then .ok .nx (setO i (.kd (putND l q y d)) s2) else .no
    | _, _ => .no) s1
section
variable {X : Cx} {W : WX} {pos pos' p : Pos} {x : Str} {i : Nat} {e ke ve : Expr} {mk mv : M D} {j : Nat}
theorem in_imp {f : Bool → Bool} (σ : L2.St) (H : Hp) (Q : VK) : tE (sbOf X) W (mInN f i mk) σ H Q → tOp (rInN X f) (tE (sbOf X) W mk) (fun σ H Q => ∃ v, σ[i]? = some (some v) ∧ Q v H) σ H Q := fun ⟨Hb, Fb, kb, k, F, s, ok, h⟩ =>
  ⟨Hb, Fb, kb, k, F, s, ok, h.bind.imp fun dy s1 F1 k1 H1 e1 p1 ok1 h1 v rv => by
    cases q1 : ownN s1 i with
    | none => exact (h1.no (by (try dsimp only); rw [q1])).elim
    | some l =>
      cases q2 : nk8 dy with
      | none => exact (h1.no (by (try dsimp only); rw [q1, q2])).elim
      | some q =>
        have h2 := h1.cast (.ok (.bl (f (hasND q l))) s1) (by (try dsimp only); rw [q1, q2])
        obtain ⟨a, ea, _, _, _, xs, hxs, rx⟩ := ok1.own i _ (ownN_some q1)
        obtain ⟨_, _, l', rfl⟩ := nk8_some q2
        cases rv with
        | @tup b zs ds' hq rl =>
          refine ⟨.ref a, ea, b, a, xs, q, rfl, rfl, hxs, Rep.nkey (.tup hq rl) ok1.bs.sub q2, rx.nkeys ok1.bs.sub, ?_⟩
          rw [rx.has]
          exact h2 H1 F1 k1 (Evl.Ex.refl _) (List.prefix_refl _) ok1 _ (.bl _)⟩
theorem se_inN (hr : Room j X.A) (he : SE X W e mk) (hm : behindInMarks .In (.Name x p) = false := by rfl) (hN : X.N[i]? = some x := by rfl) (hv : Vis X.env.scope x := by first | exact Or.inl rfl | exact Or.inr (Or.inl rfl) | exact Or.inr (Or.inr rfl)) (hd : (x == ("__debug__" : Str)) = false := by decide)
    (hcd : (x == ("__classdict__" : Str)) = false := by decide) : SE X W (.Compare e [.In] [.Name x p] pos) (mInN (fun b => b) i mk) := PE_imp (pe_cmpR (op_inN hr) he (pe_var hN hv hd hcd) hm) in_imp
theorem se_notInN (hr : Room j X.A) (he : SE X W e mk) (hm : behindInMarks .NotIn (.Name x p) = false := by rfl) (hN : X.N[i]? = some x := by rfl) (hv : Vis X.env.scope x := by first | exact Or.inl rfl | exact Or.inr (Or.inl rfl) | exact Or.inr (Or.inr rfl)) (hd : (x == ("__debug__" : Str)) = false := by decide)
    (hcd : (x == ("__classdict__" : Str)) = false := by decide) : SE X W (.Compare e [.NotIn] [.Name x p] pos) (mInN (fun b => !b) i mk) := PE_imp (pe_cmpR (op_notInN hr) he (pe_var hN hv hd hcd) hm) in_imp
theorem st_inN (hr : Room j X.A) (he : SE X W e mk) (hm : behindInMarks .In (.Name x p) = false := by rfl) (hN : X.N[i]? = some x := by rfl) (hv : Vis X.env.scope x := by first | exact Or.inl rfl | exact Or.inr (Or.inl rfl) | exact Or.inr (Or.inr rfl)) (hd : (x == ("__debug__" : Str)) = false := by decide)
    (hcd : (x == ("__classdict__" : Str)) = false := by decide) : ST X W (.Compare e [.In] [.Name x p] pos) (mB (mInN (fun b => b) i mk)) := PT_imp (pt_cmpR (op_inN hr) he (pe_var hN hv hd hcd) hm) fun σ H Q h => in_imp σ H _ (tB_imp σ H Q h)
theorem st_notInN (hr : Room j X.A) (he : SE X W e mk) (hm : behindInMarks .NotIn (.Name x p) = false := by rfl) (hN : X.N[i]? = some x := by rfl) (hv : Vis X.env.scope x := by first | exact Or.inl rfl | exact Or.inr (Or.inl rfl) | exact Or.inr (Or.inr rfl)) (hd : (x == ("__debug__" : Str)) = false := by decide)
    (hcd : (x == ("__classdict__" : Str)) = false := by decide) : ST X W (.Compare e [.NotIn] [.Name x p] pos) (mB (mInN (fun b => !b) i mk)) := PT_imp (pt_cmpR (op_notInN hr) he (pe_var hN hv hd hcd) hm) fun σ H Q h => in_imp σ H _ (tB_imp σ H Q h)
theorem ss_putN (hr : Room j X.A) (hk : SE X W ke mk) (hvv : SE X W ve mv) (hN : X.N[i]? = some x := by rfl) (hv : Vis X.env.scope x := by first | exact Or.inl rfl | exact Or.inr (Or.inl rfl) | exact Or.inr (Or.inr rfl)) (hd : (x == ("__debug__" : Str)) = false := by decide)
    (hcd : (x == ("__classdict__" : Str)) = false := by decide)
    (ha : ∀ v, assign (.Subscript (.Name x p) ke pos') X.env v = (do
      let ov ← holding [v] (eval (.Name x p) X.env)
      let iv ← holding [v, ov] (eval ke X.env)
      standAt pos'
      holding [v, ov, iv] (setItem ov iv v)
      release [v, ov, iv] []) := by intro _; rfl)
    (hs : swapsWithSole [.Subscript (.Name x p) ke pos'] ve pos.line X.env = pure false := by rfl) (hw : swappedStores [.Subscript (.Name x p) ke pos'] ve X.env = pure none := by rfl) (h1 : (assignEach [.Subscript (.Name x p) ke pos'] X.env).map (·.2) = [assign (.Subscript (.Name x p) ke pos') X.env] := by rfl) :
    SS X W (.Assign [.Subscript (.Name x p) ke pos'] ve pos) (mPutN i mk mv) := PS_imp (ps_asg hvv (pg_sub (pe_var hN hv hd hcd) hk (set_nd hr) ha) hs hw h1) fun E σ H ⟨Hb, Fb, kb, k, F, s, ok, h⟩ =>
  ⟨Hb, Fb, kb, k, F, s, ok, (FinS.ofBind h).imp fun d s1 F1 k1 H1 e1 p1 ok1 h1 v rv => by
    have no : ∀ {k F} {r : R Out}, FinS (sbOf X) Hb Fb kb k F W r E → r = .no → False := fun h e => by rw [e] at h; exact h
    cases q : ownN s1 i with
    | none => exact (no h1 (by (try dsimp only); rw [q])).elim
    | some l0 =>
      have h1 := h1.cast (mbind mk (fun y s2 => match ownN s2 i, nk8 y with | some l, some q => if l.length < 100000 then .ok .nx (setO i (.kd (putND l q y d)) s2) else .no | _, _ => .no) s1) (by (try dsimp only); rw [q])
      obtain ⟨a, ea, _, _, _, xs, hxs, _⟩ := ok1.own i _ (ownN_some q)
      refine ⟨.ref a, ea, Hb, Fb, kb, k1, F1, s1, ok1, (FinS.ofBind h1).imp fun dy s2 F2 k2 H2 e2 p2 ok2 h2 y ry => ?_⟩
      cases q2 : ownN s2 i with
      | none => exact (no h2 (by (try dsimp only); rw [q2])).elim
      | some l =>
        cases q3 : nk8 dy with
        | none => exact (no h2 (by (try dsimp only); rw [q2, q3])).elim
        | some q0 =>
          obtain ⟨b, eb, _, _, _, ys, hys, rys⟩ := ok2.own i _ (ownN_some q2)
          rw [ea] at eb
          cases eb
          obtain ⟨_, _, l', rfl⟩ := nk8_some q3
          cases ry with
          | @tup c zs ds' hq rl =>
            by_cases hl : l.length < 100000
            · have h3 := h2.cast (.ok .nx (setO i (.kd (putND l q0 (.tup l') d)) s2)) (by (try dsimp only); rw [q2, q3]; (try dsimp only); rw [if_pos hl])
              refine ⟨a, c, ys, q0, rfl, rfl, hys, Rep.nkey (.tup hq rl) ok2.bs.sub q3, rys.nkeys ok2.bs.sub, by rw [rys.length]; omega, ?_⟩
              exact h3 σ _ F2 k2 (Evl.Ex.refl _) (List.prefix_refl _) (ok2.mut (ownN_some q2) ea ⟨_, upd_same, rys.put q3 (.tup hq rl) (rv.mono e2 p2)⟩)
            · exact (no h2 (by (try dsimp only); rw [q2, q3]; (try dsimp only); rw [if_neg hl])).elim⟩
end
end FX

/-! FX: {} and {key: value}, the key a nested tuple -/
namespace FX
open PySem L2
def tNd1 (X : Cx) (tk tv : TE) : TE := fun σ H Q => ∀ p, H p = none → tk σ (upd H p (NO X p [])) fun x H1 => tv σ H1 fun y H2 => H2 p = some (NO X p []) ∧ ∃ a q, x = .ref a ∧ NKey X H2 (.ref a) q ∧ Q (.ref p) (upd H2 p (NO X p [(q, a, y)]))
def tNd0 (X : Cx) : TE := fun σ H Q => ∀ p, H p = none → Q (.ref p) (upd H p (NO X p []))
section
variable {X : Cx} {pos : Pos} {ke ve : Expr} {tk tv : TE} {j : Nat}
theorem nd_empty {H : Hp} (h : Heap) (hb : sysModules < h.objs.size) : ObjOk X.prog X.w H (h.push { cls := .type "dict", data := .dict #[] }) h.objs.size (NO X h.objs.size []) :=
  nd_ok .nil (Heap.DictOfH.new h) (by simpa using Nat.ne_of_gt hb)
theorem pe_nd0 : PE X (.Dict [] [] pos) (tNd0 X) := ⟨fun pins s σ H Q I h =>
  wpAny_Dict_empty ⟨.ref s.heap.objs.size, _, I.laid (a := s.heap.objs.size) (o := NO X s.heap.objs.size []) (t' := s.toks) (fun _ _ q => Heap.get?_push_of_some _ q) (Nat.le_refl _) (nd_empty s.heap I.big), rfl, h _ (I.hok.fresh (Nat.le_refl _))⟩⟩
theorem pe_nd1 (hr : Room j X.A) (hk : PE X ke tk) (hv : PE X ve tv) : PE X (.Dict [some ke] [ve] pos) (tNd1 X tk tv) := by
  refine ⟨fun pins s σ H Q I q => ?_⟩
  have hn := I.hok.fresh (Nat.le_refl s.heap.objs.size)
  have I1 := I.laid (a := s.heap.objs.size) (o := NO X s.heap.objs.size []) (h' := s.heap.push { cls := .type "dict", data := .dict #[] }) (t' := s.toks) (fun _ _ q => Heap.get?_push_of_some _ q) (Nat.le_refl _) (nd_empty s.heap I.big)
  have room : (nestedKind X.prog X.w).room X.A := by
    show X.A.units + 8 < cLine
    have := hr.un
    omega
  have shape : (evalEachOpt [some ke] X.env).zip ((evalEach [ve] X.env).map fun v => (do let x ← v; standAt pos; pure x : Sem Value)) = [(eval ke X.env, (do let x ← eval ve X.env; standAt pos; pure x : Sem Value))].map (fun p => (some p.1, p.2)) := rfl
  rw [arm_eval_Dict, shape, dictDisplay_pairs _ (by simp) (by simp)]
  refine wpAny_bind (wpAny_standAt (wpAny_bind (wpAny_subDictH (knd := nestedKind X.prog X.w) (Q := fun d s' => wpAny (model X.prog X.w) X.A (pure (Value.ref d)) (EP X pins σ Q) X.xe s') room (by simp) ?_)))
  refine evalPairs_cons (thn (hk.run pins _ σ _ _ I1 (q _ hn)) fun u s1 ⟨x, H1, I2, rx, q1⟩ => wpAny_bind (thn (hv.run pins s1 σ H1 _ I2 q1) fun w2 s2 ⟨y, H2, I3, ry, q2⟩ => wpAny_bind (wpAny_standAt (wpAny_pure (evalPairs_nil ?_)))))
  obtain ⟨e2, a, qk, ex, nq, q3⟩ := q2
  subst ex
  cases rx
  obtain ⟨ys, pr, hm, ns⟩ := dictOf I3 e2 (fun _ h => by cases h)
  cases pr
  refine ⟨[(qk, a, w2)], ⟨rfl, rfl, ⟨nq.2 pins σ s2 _ I3 rfl, nq.1⟩, trivial⟩, hm, fun h' tk' hd sb => wpAny_pure ⟨.ref s.heap.objs.size, _, ?_, rfl, q3⟩⟩
  have hd2 : h'.DictOfH (nestedKind X.prog X.w) s.heap.objs.size [(qk, a, w2)] := hd
  have new : ∃ o, h'.get? s.heap.objs.size = some o := by obtain ⟨o, _, _, ho, _⟩ := hd2; exact ⟨o, ho⟩
  exact I3.write (x := s.heap.objs.size) (e := s.heap.objs.size) (by rw [e2]; trivial) (.inl rfl) (fun b z hb q => (sb.2 b hb).trans q) new (nd_ok (.cons ⟨rfl, rfl, ry⟩ .nil) hd2 ns)
end
def mNd0 : M Ob := mpure (.kd [])
def mNd1 (mk mv : M D) : M Ob := mbind mk fun y => mbind mv fun d => match nk8 y with
  | some _ => mpure (.kd [(y, d)])
  | none => mno
section
variable {X : Cx} {W : WX} {pos : Pos} {ke ve : Expr} {mk mv : M D} {j : Nat}
theorem sn_nd0 : SN X W (.Dict [] [] pos) mNd0 := PE_imp pe_nd0 fun σ H Q ⟨Hb, Fb, kb, k, F, s, ok, h⟩ p hp =>
  h _ F k (Evl.Ex.refl _) (List.prefix_refl _) (ok.grow (Grow.junk ok.bs.sub hp)) p (ok.free hp) ⟨[], upd_same, .nil⟩
theorem sn_nd1 (hr : Room j X.A) (hk : SE X W ke mk) (hv : SE X W ve mv) : SN X W (.Dict [some ke] [ve] pos) (mNd1 mk mv) := by
  refine PE_imp (pe_nd1 hr hk hv) fun σ H Q ⟨Hb, Fb, kb, k, F, s, ok, h⟩ p hp => ?_
  have okj := ok.grow (Grow.junk (o := NO X p []) ok.bs.sub hp)
  have fr := ok.free hp
  have nf : Fb p = none := by
    cases q : Fb p with
    | none => rfl
    | some o => have z := ok.bs.fb p o q; rw [fr.1] at z; cases z
  have nk : p ∉ kb := fun z => fr.2.1 (ok.bs.pre.subset z)
  have okb := okj.rebase fr upd_same
  have hb := h.bind
  refine ⟨upd Hb p (NO X p []), Fb, kb, k, F, s, okb, ?_⟩
  cases q : mk s with
  | no => rw [q] at hb; exact hb
  | ex c s1 =>
    rw [q] at hb
    exact fun C H' F' k' m ok' => hb C H' F' k' m (ok'.unbase fr.2.2.1 nf nk).1
  | ok dy s1 =>
    rw [q] at hb
    intro H1 F1 k1 e1 p1 ok1 x rx
    obtain ⟨okn, frn, hp1⟩ := ok1.unbase fr.2.2.1 nf nk
    have hb2 := (hb H1 F1 k1 e1 p1 okn).bind
    refine ⟨upd Hb p (NO X p []), Fb, kb, k1, F1, s1, ok1, ?_⟩
    cases q2 : mv s1 with
    | no => rw [q2] at hb2; exact hb2
    | ex c s2 =>
      rw [q2] at hb2
      exact fun C H' F' k' m ok' => hb2 C H' F' k' m (ok'.unbase fr.2.2.1 nf nk).1
    | ok d s2 =>
      rw [q2] at hb2
      intro H2 F2 k2 e2 p2 ok2 y ry
      obtain ⟨okm, frm, hp2⟩ := ok2.unbase fr.2.2.1 nf nk
      have h3 := hb2 H2 F2 k2 e2 p2 okm
      cases q3 : nk8 dy with
      | none => exact (h3.no (by (try dsimp only); rw [q3])).elim
      | some qk =>
        have h4 := h3.cast (.ok (.kd [(dy, d)]) s2) (by (try dsimp only); rw [q3])
        obtain ⟨_, _, l', rfl⟩ := nk8_some q3
        cases rx with
        | @tup c zs ds' hq rl =>
          have rk : Rep (sbOf X) F2 k2 (.ref c) (.tup l') := Rep.mono e2 p2 (.tup hq rl)
          refine ⟨hp2, c, qk, rfl, rk.nkey okm.bs.sub q3, ?_⟩
          exact h4 _ F2 k2 (Evl.Ex.refl _) (List.prefix_refl _) (okm.free_upd frm) p frm ⟨_, upd_same, .cons q3 rk ry .nil⟩
end
end FX

/-! FX: list(text) -/
namespace FX
open PySem L2
theorem signs_go : ∀ (l : List Nat) (us : List Value), us.length = l.length → (∀ (i : Nat) (v : Value), us[i]? = some v → ∃ c u, l[i]? = some c ∧ v = Value.str ⟨#[c]⟩ u) → Vals (l.map fun c => V.str ⟨#[c]⟩) us
  | [], us, h, _ => by cases us with | nil => exact .nil | cons a b => cases h
  | c :: l, us, h, k => by
    cases us with
    | nil => cases h
    | cons u us =>
      obtain ⟨c', w, e1, e2⟩ := k 0 u rfl
      cases e1
      refine .cons ⟨w, e2⟩ (signs_go l us (by simpa using h) fun i v e => ?_)
      obtain ⟨c2, w2, f1, f2⟩ := k (i + 1) v (by simpa using e)
      exact ⟨c2, w2, by simpa using f1, f2⟩
theorem signs_vals {x : Str} {acc : Array Value} (h : ItemsOf (SignAt x) acc x.cps.size) : Vals (x.cps.toList.map fun c => V.str ⟨#[c]⟩) acc.toList :=
  signs_go _ _ (by rw [Array.length_toList, Array.length_toList, h.1]) fun i v e => by
    obtain ⟨c, u, e1, e2⟩ := h.2 i v (by rw [← Array.getElem?_toList]; exact e)
    exact ⟨c, u, by rw [Array.getElem?_toList]; exact e1, e2⟩
theorem call_listS {X : Cx} (hc : X.calm = true) : CallR X (.type "list") (fun xs H Q => ∃ z : Str, xs = [.str z] ∧ z.cps.size ≤ 100000 ∧ ∀ l, H l = none → Q (.ref l) (upd H l (.lst (z.cps.toList.map fun c => V.str ⟨#[c]⟩)))) := by
  intro pins s σ H xs us Q I r h
  obtain ⟨z, rfl, hz, q⟩ := h
  obtain ⟨u, rfl, t, rfl⟩ := vals1 r
  have hsz : z.cps.size ≤ sizeLine := by rw [sizeLine_eq]; omega
  refine call_list_str (I.ok.hd hc) z t (hn := hsz) fun h' tk acc c hk hS hacc => ?_
  exact ⟨.ref s.heap.objs.size, _, I.laid (t' := tk) hk (Nat.le_refl _) (show ObjOk X.prog X.w _ h' _ (.lst _) from ⟨by rw [List.length_map, Array.length_toList]; exact hsz, acc.toList, c, signs_vals hacc, by simpa using hS⟩), rfl, q _ (I.hok.fresh (Nat.le_refl _))⟩
theorem RepL.strs {B : Sb} {F : Hp} {k : List Addr} : ∀ l : List Nat, RepL B F k (l.map fun c => V.str ⟨#[c]⟩) (l.map fun c => D.str ⟨#[c]⟩)
  | [] => .nil
  | c :: l => .cons (.str _) (RepL.strs l)
/-- list(text), list(tuple), list(list) -/
def dListA : List D → Option D
  | [.str z] => if z.cps.size ≤ 100000 then some (.lst (z.cps.toList.map fun c => D.str ⟨#[c]⟩)) else none
  | ds => dList ds
theorem call_listA {X : Cx} (hc : X.calm = true) : CallR X (.type "list") (fun xs H Q => (∃ z : Str, xs = [.str z] ∧ z.cps.size ≤ 100000 ∧ ∀ l, H l = none → Q (.ref l) (upd H l (.lst (z.cps.toList.map fun c => V.str ⟨#[c]⟩)))) ∨ (∃ p ys, xs = [.ref p] ∧ (SqL X.K H p ys ∨ SqT X.K H p ys) ∧ ∀ l, H l = none → Q (.ref l) (upd H l (.lst ys)))) := (call_listS hc).or call_list_of
theorem cd_listA {B : Sb} : CallD B (fun xs H Q => (∃ z : Str, xs = [.str z] ∧ z.cps.size ≤ 100000 ∧ ∀ l, H l = none → Q (.ref l) (upd H l (.lst (z.cps.toList.map fun c => V.str ⟨#[c]⟩)))) ∨ (∃ p ys, xs = [.ref p] ∧ (SqL B.K H p ys ∨ SqT B.K H p ys) ∧ ∀ l, H l = none → Q (.ref l) (upd H l (.lst ys)))) dListA := fun F k H xs ds z Q sub rx e q => by
  by_cases c : ∃ y, ds = [.str y]
  · obtain ⟨y, rfl⟩ := c
    cases rx with
    | cons h r =>
      cases r
      cases h
      have e : (if y.cps.size ≤ 100000 then some (D.lst (y.cps.toList.map fun c => D.str ⟨#[c]⟩)) else none) = some z := e
      by_cases hz : y.cps.size ≤ 100000
      · rw [if_pos hz] at e
        cases e
        refine .inl ⟨y, rfl, hz, fun p hp => ?_⟩
        exact q _ _ _ (Grow.one sub hp) (.lst upd_same (RepL.strs _))
      · rw [if_neg hz] at e; cases e
  · have e' : dList ds = some z := by
      unfold dListA at e
      split at e
      · exact absurd ⟨_, rfl⟩ c
      · exact e
    exact .inr (cd_list F k H xs ds z Q sub rx e' q)
end FX

/-! FX: comprehensions with two fors -/
namespace FX
open PySem L2
/-- slots that hold data -/
def EnvAt (B : Sb) (F : Hp) (k : List Addr) (e : List (Option Sl)) (σ : L2.St) : Prop := (∀ (i : Nat) d, e[i]? = some (some (.val d)) → ∃ v, σ[i]? = some (some v) ∧ Rep B F k v d) ∧ e.length = σ.length
section
variable {B : Sb} {Hb Fb : Hp} {kb k k' k2 k4 : List Addr} {F F' F3 F4 : Hp} {g g2 g4 : List Ob} {e : List (Option Sl)} {σ : L2.St} {H H3 H4 : Hp} {D : Addr} {vs : List V}
theorem EnvAt.mono (h : EnvAt B F k e σ) (x : Ex F F') (p : Pre k k') : EnvAt B F' k' e σ := ⟨fun i d q => by
  obtain ⟨v, a, b⟩ := h.1 i d q
  exact ⟨v, a, b.mono x p⟩, h.2⟩
theorem Ok.env {s : S} (h : Ok B Hb Fb kb k F s σ H) : EnvAt B F k s.e σ := ⟨h.val, h.elen⟩
theorem EnvAt.inner (h : EnvAt B F k e σ) (b : Bs B Hb Fb kb k F g H) (vs : List Nat) : Ok B H F k k F ⟨hideE (wipeE e vs), g⟩ (wipe σ vs) H where
  bs := b.start
  val := fun i d q => by
    obtain ⟨e1, hn⟩ := wipeE_some (hideE_val q)
    obtain ⟨v, e2, r⟩ := h.1 i d e1
    exact ⟨v, by rw [wipe_at hn]; exact e2, r⟩
  own := fun i o e => (hideE_own e).elim
  sep := fun i j o o' a _ e _ _ _ => (hideE_own e).elim
  elen := by
    show (hideE (wipeE e vs)).length = _
    unfold hideE
    rw [List.length_map, wipeE_length, wipe_length]; exact h.2
/-- what is left of D behind a block -/
theorem after_blk (ok3 : Ok B Hb Fb kb k2 F3 ⟨e, g2⟩ σ H3) (fr : Free Hb k2 F3 ⟨e, g2⟩ σ D) (hD3 : H3 D = some (.lst vs)) (b4 : Bs B H3 F3 k2 k4 F4 g4 H4) : Ok B Hb Fb kb k4 F4 ⟨e, g4⟩ σ H4 ∧ Free Hb k4 F4 ⟨e, g4⟩ σ D ∧ H4 D = some (.lst vs) := by
  refine ⟨ok3.evo b4, ⟨?_, fun z => ?_, fr.2.2.1, fr.2.2.2⟩, b4.keep D _ hD3 fr.2.1⟩
  · cases z : F4 D with
    | none => rfl
    | some o' =>
      rcases b4.frz D o' z with y | y
      · rw [fr.1] at y; cases y
      · rw [hD3] at y; cases y
  · rcases b4.new D z with y | y
    · exact fr.2.1 y
    · rw [hD3] at y; cases y
theorem free_grow (fr : Free Hb k F ⟨e, g⟩ σ D) (hD : H D = some (.lst vs)) (gr : Grow F H F' H3) : Free Hb k F' ⟨e, g⟩ σ D ∧ H3 D = some (.lst vs) := by
  refine ⟨⟨?_, fr.2.1, fr.2.2.1, fr.2.2.2⟩, gr.hh D _ hD⟩
  cases z : F' D with
  | none => rfl
  | some o =>
    rcases gr.new D o z with y | y
    · rw [fr.1] at y; cases y
    · rw [hD] at y; cases y
end
def body2 (g : D → M Unit) (mi1 : M (List D)) (vs1 : List Nat) (b1 : D → M (Option D)) : D → M (List D) := fun d => mbind (g d) fun _ => mbind mi1 fun ds1 s => match compR (hideE (wipeE s.e vs1)) b1 ds1 s.g with
  | some (l, g') => .ok l ⟨s.e, g'⟩
  | none => .no
def compR2 (e0 : List (Option Sl)) (b2 : D → M (List D)) : List D → List Ob → Option (List D × List Ob)
  | [], g => some ([], g)
  | d :: r, g => match b2 d ⟨e0, g⟩ with
    | .ok l1 s' => (match compR2 e0 b2 r s'.g with
      | some (l, g') => some (l1 ++ l, g')
      | none => none)
    | _ => none
def mComp2 (mi : M (List D)) (vs : List Nat) (g : D → M Unit) (mi1 : M (List D)) (vs1 : List Nat) (g1 : D → M Unit) (t1 : M Bool) (e : M D) : M Ob := mbind mi fun ds s => match compR2 (hideE (wipeE s.e vs)) (body2 g mi1 vs1 (cbody g1 t1 e)) ds s.g with
  | some (l, g') => if l.length ≤ 100000 then .ok (.lst l) ⟨s.e, g'⟩ else .no
  | none => .no
theorem comp2_lst {mi : M (List D)} {vs : List Nat} {g : D → M Unit} {mi1 : M (List D)} {vs1 : List Nat} {g1 : D → M Unit} {t1 : M Bool} {e : M D} {s s' : S} {o : Ob} (h : mComp2 mi vs g mi1 vs1 g1 t1 e s = .ok o s') : ∃ l, o = .lst l := by
  unfold mComp2 mbind at h
  cases q : mi s with
  | ok ds s1 =>
    rw [q] at h
    dsimp only at h
    cases q2 : compR2 (hideE (wipeE s1.e vs)) (body2 g mi1 vs1 (cbody g1 t1 e)) ds s1.g with
    | none => rw [q2] at h; cases h
    | some z =>
      obtain ⟨l, g'⟩ := z
      rw [q2] at h
      dsimp only at h
      split at h
      · cases h; exact ⟨l, rfl⟩
      · cases h
  | ex c s1 => rw [q] at h; cases h
  | no => rw [q] at h; cases h
theorem compR2_cons {e0 : List (Option Sl)} {b2 : D → M (List D)} {d : D} {r : List D} {g : List Ob} {l : List D} {g' : List Ob} (h : compR2 e0 b2 (d :: r) g = some (l, g')) :
    ∃ l1 s' l2, b2 d ⟨e0, g⟩ = .ok l1 s' ∧ compR2 e0 b2 r s'.g = some (l2, g') ∧ l = l1 ++ l2 := by
  unfold compR2 at h
  cases q : b2 d ⟨e0, g⟩ with
  | ok l1 s' =>
    rw [q] at h
    have h : (match compR2 e0 b2 r s'.g with | some (l, g') => some (l1 ++ l, g') | none => none) = some (l, g') := h
    cases q' : compR2 e0 b2 r s'.g with
    | none => rw [q'] at h; cases h
    | some z =>
      rw [q'] at h
      obtain ⟨l2, g2⟩ := z
      cases h
      exact ⟨l1, s', l2, rfl, q', rfl⟩
  | ex c s' => rw [q] at h; cases h
  | no => rw [q] at h; cases h
abbrev W0 : WX := fun _ _ _ _ => False
theorem lc2_imp {W : WX} {B : Sb} {mi mi1 : M (List D)} {vs0 us vs1 us1 : List Nat} {g g1 : D → M Unit} {t1 : M Bool} {me : M D} (hu : ∀ i ∈ us, i ∈ vs0) (hu1 : ∀ i ∈ us1, i ∈ vs1) (σ : L2.St) (H : Hp) (Q : VK) : tN B W (mComp2 mi vs0 g mi1 vs1 g1 t1 me) σ H Q →
    tLc2 (tI B W mi) (tG B us g) tYes (tI B W0 mi1) (tG B us1 g1) (tT B W0 t1) (tE B W0 me) vs0 vs1 σ H Q := fun ⟨Hb, Fb, kb, k, F, s, ok, h⟩ => ⟨Hb, Fb, kb, k, F, s, ok, h.bind.imp fun ds s1 F1 k1 H1 e1 p1 ok1 h1 J wk D hD => by
    have h1 : Fin B Hb Fb kb k1 F1 σ W (match compR2 (hideE (wipeE s1.e vs0)) (body2 g mi1 vs1 (cbody g1 t1 me)) ds s1.g with | some (l, g') => if l.length ≤ 100000 then .ok (Ob.lst l) ⟨s1.e, g'⟩ else .no | none => .no) (fun o s' F' k' H' => ∀ a, Free Hb k' F' s' σ a → ObAt B F' k' H' a o → Q (.ref a) H') := h1
    generalize hb2 : body2 g mi1 vs1 (cbody g1 t1 me) = b2 at h1
    cases q : compR2 (hideE (wipeE s1.e vs0)) b2 ds s1.g with
    | none => rw [q] at h1; exact h1.elim
    | some z =>
      obtain ⟨l, gf⟩ := z
      rw [q] at h1
      have h1 : Fin B Hb Fb kb k1 F1 σ W (if l.length ≤ 100000 then .ok (Ob.lst l) ⟨s1.e, gf⟩ else .no) (fun o s' F' k' H' => ∀ a, Free Hb k' F' s' σ a → ObAt B F' k' H' a o → Q (.ref a) H') := h1
      by_cases hl : l.length ≤ 100000
      case neg => rw [if_neg hl] at h1; exact h1.elim
      rw [if_pos hl] at h1
      have fr0 := ok1.free hD
      refine ⟨fun i m H' => m = ds.length - i ∧ i ≤ ds.length ∧ ∃ F2 k2 g2 vs ys rest, Ex F1 F2 ∧ Pre k1 k2 ∧ Ok B Hb Fb kb k2 F2 ⟨s1.e, g2⟩ σ H' ∧ Free Hb k2 F2 ⟨s1.e, g2⟩ σ D ∧ H' D = some (.lst vs) ∧ RepL B F2 k2 vs ys ∧
          compR2 (hideE (wipeE s1.e vs0)) b2 (ds.drop i) g2 = some (rest, gf) ∧ l = ys ++ rest,
        ⟨ds.length, by simp, Nat.zero_le _, F1, k1, s1.g, [], [], l, Evl.Ex.refl _, List.prefix_refl _, ok1.grow (Grow.junk ok1.bs.sub hD), fr0, upd_same, .nil, q, rfl⟩, ?_⟩
      rintro i m H' ⟨rfl, hi', F2, k2, g2, vs, ys, rest, e2, p2, ok2, fr2, hD2, rl2, hcr, hl2⟩
      obtain ⟨go, stop, yld⟩ := wk F2 H' k2 e2 p2 ok2.bs.sub
      by_cases hlt : i < ds.length
      · refine .inr ⟨go i hlt, fun H3 => ∃ F3 k3 g3 vs ys rest, Ex F1 F3 ∧ Pre k1 k3 ∧ Ok B Hb Fb kb k3 F3 ⟨s1.e, g3⟩ σ H3 ∧ Free Hb k3 F3 ⟨s1.e, g3⟩ σ D ∧ H3 D = some (.lst vs) ∧ RepL B F3 k3 vs ys ∧
          compR2 (hideE (wipeE s1.e vs0)) b2 (ds.drop (i + 1)) g3 = some (rest, gf) ∧ l = ys ++ rest, fun H3 z => ⟨ds.length - (i + 1), by omega, rfl, hlt, z⟩, fun x H3 y => ?_⟩
        obtain ⟨F3, d, gr, hd, rd⟩ := yld i x H3 hlt y
        rw [drop_get hd] at hcr
        obtain ⟨l1, s4, lr, hb, hrest, hlr⟩ := compR2_cons hcr
        have ok3 := ok2.grow gr
        obtain ⟨fr3, hD3⟩ := free_grow fr2 hD2 gr
        have okI := ok3.inner vs0
        rw [← hb2] at hb
        obtain ⟨u, s5, q1, hb1⟩ := mbind_ok hb
        obtain ⟨ds1, s6, q2, hb3⟩ := mbind_ok hb1
        refine ⟨H3, F3, k2, k2, F3, ⟨hideE (wipeE s1.e vs0), g2⟩, d, okI, rd, ?_⟩
        rw [q1]
        intro σ4 H4 F4 k4 e4 p4 ag ok4
        refine ⟨(wipe_agree hu ag).trans (wipe_wipe σ _), ?_⟩
        dsimp only [tYes]
        rw [if_pos rfl]
        refine ⟨H3, F3, k2, k4, F4, s5, ok4, ?_⟩
        rw [q2]
        intro H5 F5 k5 e5 p5 ok5 J1 wk1
        have hb3 : (match compR (hideE (wipeE s6.e vs1)) (cbody g1 t1 me) ds1 s6.g with | some (l, g') => R.ok l (S.mk s6.e g') | none => .no) = .ok l1 s4 := hb3
        cases q3 : compR (hideE (wipeE s6.e vs1)) (cbody g1 t1 me) ds1 s6.g with
        | none => rw [q3] at hb3; cases hb3
        | some z =>
          obtain ⟨lz, gz⟩ := z
          rw [q3] at hb3
          cases hb3
          obtain ⟨a1, a2, a3⟩ := after_blk ok3 fr3 hD3 ok5.bs
          have en5 := ok5.env
          have ef5 : Ex F1 F5 := e2.trans (gr.ff.trans (e4.trans e5))
          have pk5 : Pre k1 k5 := p2.trans (p4.trans p5)
          refine ⟨fun j m H' => m = ds1.length - j ∧ j ≤ ds1.length ∧ ∃ F7 k7 g7 vs ys r1, Ex F5 F7 ∧ Pre k5 k7 ∧ Ok B Hb Fb kb k7 F7 ⟨s1.e, g7⟩ σ H' ∧ Free Hb k7 F7 ⟨s1.e, g7⟩ σ D ∧ H' D = some (.lst vs) ∧ RepL B F7 k7 vs ys ∧
              compR (hideE (wipeE s6.e vs1)) (cbody g1 t1 me) (ds1.drop j) g7 = some (r1, gz) ∧ l = ys ++ (r1 ++ lr),
            ⟨ds1.length, by simp, Nat.zero_le _, F5, k5, s6.g, vs, ys, l1, Evl.Ex.refl _, List.prefix_refl _, a1, a2, a3, rl2.mono (gr.ff.trans (e4.trans e5)) (p4.trans p5), q3, by rw [hl2, hlr]⟩, ?_⟩
          rintro j m H' ⟨rfl, hj', F7, k7, g7, vs7, ys7, r1, e7, p7, ok7, fr7, hD7, rl7, hcr1, hl7⟩
          obtain ⟨go1, stop1, yld1⟩ := wk1 F7 H' k7 e7 p7 ok7.bs.sub
          by_cases hlt1 : j < ds1.length
          · refine .inr ⟨go1 j hlt1, fun H3 => ∃ F7 k7 g7 vs ys r1, Ex F5 F7 ∧ Pre k5 k7 ∧ Ok B Hb Fb kb k7 F7 ⟨s1.e, g7⟩ σ H3 ∧ Free Hb k7 F7 ⟨s1.e, g7⟩ σ D ∧ H3 D = some (.lst vs) ∧ RepL B F7 k7 vs ys ∧
              compR (hideE (wipeE s6.e vs1)) (cbody g1 t1 me) (ds1.drop (j + 1)) g7 = some (r1, gz) ∧ l = ys ++ (r1 ++ lr), fun H3 z => ⟨ds1.length - (j + 1), by omega, rfl, hlt1, z⟩, fun x1 H8 y1 => ?_⟩
            obtain ⟨F8, d1, gr1, hd1, rd1⟩ := yld1 j x1 H8 hlt1 y1
            rw [drop_get hd1] at hcr1
            obtain ⟨yy, s9, hbb, hrest1⟩ := compR_cons hcr1
            have ok8 := ok7.grow gr1
            obtain ⟨fr8, hD8⟩ := free_grow fr7 hD7 gr1
            have okJ := (en5.mono (e7.trans gr1.ff) p7).inner ok8.bs vs1
            have hb' : mbind (g1 d1) (fun _ => mbind t1 fun b => if b = true then mbind me fun y => mpure (some y) else mpure none) ⟨hideE (wipeE s6.e vs1), g7⟩ = .ok yy s9 := hbb
            obtain ⟨u1, s10, w1, hc1⟩ := mbind_ok hb'
            obtain ⟨b, s11, w2, hc2⟩ := mbind_ok hc1
            refine ⟨H8, F8, k7, k7, F8, ⟨hideE (wipeE s6.e vs1), g7⟩, d1, okJ, rd1, ?_⟩
            rw [w1]
            intro σ9 H9 F9 k9 e9 p9 ag9 ok9
            refine ⟨(wipe_agree hu1 ag9).trans (wipe_wipe σ4 _), H8, F8, k7, k9, F9, s10, ok9, ?_⟩
            rw [w2]
            intro H10 F10 k10 e10 p10 ok10
            cases b with
            | false =>
              rw [if_neg Bool.false_ne_true]
              have hb' : R.ok none s11 = R.ok yy s9 := hc2
              cases hb'
              obtain ⟨b1, b2', b3⟩ := after_blk ok8 fr8 hD8 ok10.bs
              exact ⟨F10, k10, s9.g, vs7, ys7, r1, e7.trans (gr1.ff.trans (e9.trans e10)), p7.trans (p9.trans p10), b1, b2', b3, rl7.mono (gr1.ff.trans (e9.trans e10)) (p9.trans p10), hrest1, hl7⟩
            | true =>
              rw [if_pos rfl]
              refine ⟨H8, F8, k7, k10, F10, s11, ok10, ?_⟩
              obtain ⟨y, s12, w3, hc3⟩ := mbind_ok (show mbind me (fun y => mpure (some y)) s11 = R.ok yy s9 from hc2)
              rw [w3]
              have hb' : R.ok (some y) s12 = R.ok yy s9 := hc3
              cases hb'
              obtain ⟨l', rfl, hrest1⟩ := hrest1
              intro H11 F11 k11 e11 p11 ok11 v rv
              have e811 : Ex F8 F11 := e9.trans (e10.trans e11)
              have p711 : Pre k7 k11 := p9.trans (p10.trans p11)
              obtain ⟨b1, b2', b3⟩ := after_blk ok8 fr8 hD8 ok11.bs
              refine ⟨vs7, b3, ?_, F11, k11, s9.g, vs7 ++ [v], ys7 ++ [y], l', e7.trans (gr1.ff.trans e811), p7.trans p711, b1.free_upd b2', b2', upd_same, (rl7.mono (gr1.ff.trans e811) p711).append (.cons rv .nil), hrest1, ?_⟩
              · refine Evl.sz_lt ?_
                rw [rl7.length]
                rw [hl7, List.length_append, List.length_append, List.length_cons] at hl
                omega
              · rw [hl7, List.append_assoc]; rfl
          · have ee : j = ds1.length := by omega
            subst ee
            rw [List.drop_length] at hcr1
            have z : some ([], g7) = some (r1, gz) := hcr1
            cases z
            exact .inl ⟨stop1, F7, k7, _, vs7, ys7, lr, ef5.trans e7, pk5.trans p7, ok7, fr7, hD7, rl7, hrest, hl7⟩
      · have e : i = ds.length := by omega
        subst e
        rw [List.drop_length] at hcr
        have z : some ([], g2) = some (rest, gf) := hcr
        cases z
        rw [List.append_nil] at hl2
        subst hl2
        exact .inl ⟨stop, h1 H' F2 k2 e2 p2 ok2 D fr2 ⟨vs, hD2, rl2⟩⟩⟩
section
variable {X : Cx} {W : WX} {pos : Pos} {elt tg iter tg1 iter1 : Expr} {ifs1 : List Expr} {scope : Scope} {own : List (Str × Nat)} {mi mi1 : M (List D)} {us us1 vs1 : List Nat} {g g1 : D → M Unit} {t1 : M Bool} {me : M D}
theorem ss_setLc2 {i : Nat} {y : Str} {py spos : Pos} (hN : X.N.Nodup) (hi : SI X W tg iter mi) (ok : BlkOk X.N X.env.scope scope own)
    (hg : ∀ (s : Shared) (H : Hp) (C : Addr) (cl : List (Str × Addr)) (fp : List Addr), SG (X.blk s H scope (compEnvC scope cl C X.env) fp) tg us g)
    (hi1 : ∀ (s : Shared) (H : Hp) (C : Addr) (cl : List (Str × Addr)) (fp : List Addr), SI (X.blk s H scope (compEnvC scope cl C X.env) fp) W0 tg1 iter1 mi1)
    (hg1 : ∀ (s : Shared) (H : Hp) (C : Addr) (cl : List (Str × Addr)) (fp : List Addr), SG (X.blk s H scope (compEnvC scope cl C X.env) fp) tg1 us1 g1)
    (ht1 : ∀ (s : Shared) (H : Hp) (C : Addr) (cl : List (Str × Addr)) (fp : List Addr), STs (X.blk s H scope (compEnvC scope cl C X.env) fp) W0 ifs1 t1)
    (he : ∀ (s : Shared) (H : Hp) (C : Addr) (cl : List (Str × Addr)) (fp : List Addr), SE (X.blk s H scope (compEnvC scope cl C X.env) fp) W0 elt me) (hu : ∀ i ∈ us, i ∈ own.map (·.2)) (hv : ∀ i ∈ vs1, i ∈ own.map (·.2)) (hu1 : ∀ i ∈ us1, i ∈ vs1)
    (hsw : swapsWith (.ListComp elt [⟨tg, iter, [], 0⟩, ⟨tg1, iter1, ifs1, 0⟩] scope pos) (some (.Name y py)) spos.line X.env = pure true) (hy : X.N[i]? = some y := by rfl) (hyl : X.env.scope.names.lookup y = some .local := by rfl) (hc : X.calm = true := by rfl)
    (hs : ∀ x, foldedSetIterable iter X.env x = pure x := by intro _; rfl) (hs1 : ∀ env x, foldedSetIterable iter1 env x = pure x := by intro _ _; rfl) :
    SS X W (.Assign [.Name y py] (.ListComp elt [⟨tg, iter, [], 0⟩, ⟨tg1, iter1, ifs1, 0⟩] scope pos) spos) (mSet i (mFz (mComp2 mi (own.map (·.2)) g mi1 vs1 g1 t1 me))) :=
  PS_imp (ps_setLc2 (g := tG (sbOf X) us g) (tt := tYes) (wi1 := tI (sbOf X) W0 mi1) (g1 := tG (sbOf X) us1 g1) (tt1 := tT (sbOf X) W0 t1) (te := tE (sbOf X) W0 me) (vs1 := vs1) hc hN hy hyl hsw hi ok hv hg (fun _ _ _ _ _ => pts_nil) hi1 hg1 ht1 he hs hs1) fun E σ H ⟨Hb, Fb, kb, k, F, s, ok, h⟩ =>
    lc2_imp hu hu1 σ H _ ⟨Hb, Fb, kb, k, F, s, ok, ((FinS.ofBind (σ := σ) h).bind).res.imp fun o s1 F1 k1 H1 e1 p1 ok1 h1 a f q => by
      obtain ⟨er, h1⟩ := h1
      obtain ⟨l, rfl⟩ := comp2_lst er
      obtain ⟨u, hu, ⟨_, r⟩ | ⟨z, _⟩⟩ := Rep.ofOb q f.1
      case inr => cases z
      exact (h1 H1 _ k1 (Evl.Ex.new f.1) (List.prefix_refl _) (ok1.freeze f hu)) _ H1 _ k1 (Evl.Ex.refl _) (List.prefix_refl _) ((ok1.freeze f hu).setV r)⟩
end
end FX

/-! FX: zip of a list and a tuple -/
namespace FX
open PySem L2
open PySem.Sem (wp)
/-- how an iterator at p over the thing at l answers; J: what stands before its k-th answer, f: its answers -/
structure Nxt (P : Program) (w : World) (p l : Addr) (J : Heap → Nat → Prop) (f : Nat → Option Value) : Prop where
  item : ∀ {A : Around} {s : Shared} {k : Nat} {x : Value} {Q E : Value → Shared → Prop}, J s.heap k → f k = some x → (∀ h', J h' (k + 1) → Heap.SameBut p s.heap h' → Q x { s with heap := h' }) → wpAny (model P w) A (Builtin.SmallTypes.nextOf (.ref p)) Q E s
  stop : ∀ {A : Around} {s : Shared} {k : Nat} {Q E : Value → Shared → Prop}, A.handled = none → J s.heap k → f k = none →
    (∀ h' e, Heap.ExtBut p s.heap h' → (∃ o, h'.get? e = some o ∧ o.cls = .type "StopIteration") → E (.ref e) { s with heap := h' }) → wpAny (model P w) A (Builtin.SmallTypes.nextOf (.ref p)) Q E s
  keep : ∀ {h h' : Heap} {k : Nat}, J h k → (∀ c o, c = p ∨ c = l → h.get? c = some o → h'.get? c = some o) → J h' k
  has : ∀ {h : Heap} {k : Nat}, J h k → ∃ o, h.get? p = some o
theorem nxt_list {P : Program} {w : World} {p l : Addr} (xs : Array Value) : Nxt P w p l (fun h k => h.IsListIter p l k ∧ h.IsList l xs) (fun k => xs[k]?) where
  item := fun {A s k x Q E} j e q => wpAny_nextOf_list_item j.1 j.2 e fun h' a b => by
    by_cases z : l = p
    · subst z
      obtain ⟨o, ho, hc, _⟩ := j.1
      obtain ⟨o', ho', hc', _⟩ := j.2
      rw [ho] at ho'
      cases ho'
      rw [hc] at hc'
      exact absurd hc' (by decide)
    · exact q h' ⟨a, j.2.extBut b.extBut z⟩ b
  stop := fun hh j e q => wpAny_nextOf_list_end hh j.1 j.2 e q
  keep := fun j k => ⟨j.1.at fun o e => k _ o (.inl rfl) e, j.2.at fun o e => k _ o (.inr rfl) e⟩
  has := fun j => by obtain ⟨o, ho, _⟩ := j.1; exact ⟨o, ho⟩
theorem nxt_tup {P : Program} {w : World} {p l : Addr} (xs : Array Value) : Nxt P w p l (fun h k => h.IsTupleIter p l k ∧ h.IsTuple l xs) (fun k => xs[k]?) where
  item := fun {A s k x Q E} j e q => RZ.nextOf_tuple_item j.1 j.2 e fun h' a b => by
    by_cases z : l = p
    · subst z
      obtain ⟨o, ho, hc, _⟩ := j.1
      obtain ⟨o', ho', hc', _⟩ := j.2
      rw [ho] at ho'
      cases ho'
      rw [hc] at hc'
      exact absurd hc' (by decide)
    · exact q h' ⟨a, j.2.extBut b.extBut z⟩ b
  stop := fun hh j e q => RZ.nextOf_tuple_end hh j.1 j.2 e q
  keep := fun j k => ⟨j.1.at fun o e => k _ o (.inl rfl) e, j.2.at fun o e => k _ o (.inr rfl) e⟩
  has := fun j => by obtain ⟨o, ho, _⟩ := j.1; exact ⟨o, ho⟩
section
variable {P : Program} {w : World} {A : Around} {E : Value → Shared → Prop} {s : Shared} {z TI TO p q a b : Addr} {J1 J2 : Heap → Nat → Prop} {f1 f2 : Nat → Option Value} {k : Nat}
/-- the heap but z, TO, p, q is as it was -/
abbrev But4 (z TO p q : Addr) (h h' : Heap) : Prop := ∀ c o, c ≠ z → c ≠ TO → c ≠ p → c ≠ q → h.get? c = some o → h'.get? c = some o
theorem znext_item (N1 : Nxt P w p a J1 f1) (N2 : Nxt P w q b J2 f2) (D : ZipApart z TI TO p q a b) {x y u v : Value} {Q : Value → Shared → Prop}
    (hz : IsZip s.heap z TI TO .none) (hI : IsPair s.heap TI (.ref p) (.ref q)) (hO : IsPair s.heap TO u v) (j1 : J1 s.heap k) (j2 : J2 s.heap k) (ex : f1 k = some x) (ey : f2 k = some y)
    (hQ : ∀ h', IsZip h' z TI TO (rawInt s.heap.objs.size) → IsPair h' TO x y → J1 h' (k + 1) → J2 h' (k + 1) → IsPair h' s.heap.objs.size x y → But4 z TO p q s.heap h' → Q (.ref s.heap.objs.size) { s with heap := h' }) :
    wpAny (model P w) A (Builtin.«zip.__next__» ⟨[.ref z], []⟩) (fun fin s' => ∃ v, fin = .done (.ret v) ∧ Q v s') E s := by
  have D' := D
  obtain ⟨TIz, TOz, pz, qz, TITO, TIp, TIq, TOp, TOq, pq, az, aTO, ap, aq, bz, bTO, bp, bq⟩ := D'
  show wpAny _ _ (field (.ref z) 2 >>= _) _ _ _
  refine wpAny_bind (wpAny_field hz rfl (x := .bool false) rfl ?_)
  show wpAny _ _ (field (.ref z) 3 >>= _) _ _ _
  refine wpAny_bind (wpAny_field hz rfl (x := .ref TI) rfl ?_)
  refine wpAny_bind (wpAny_seqItems hI rfl ?_)
  show wpAny _ _ (Builtin.SmallTypes.ownedTupleIsFree (.ref z) >>= _) _ _ _
  refine wpAny_bind ?_
  unfold Builtin.SmallTypes.ownedTupleIsFree
  refine wpAny_bind (wpAny_field hz rfl (x := .none) rfl (wpAny_pure ?_))
  simp only [if_true]
  refine wpAny_bind (wpAny_rule (wpAny_bind (wpAny_field hz rfl (x := .ref TO) rfl (wpAny_bind (wpAny_setField_rec hz (by simp) fun g1 z1 t1 => ?_)))))
  have z1 : IsZip g1 z TI TO .ellipsis := z1
  refine wpAny_bind ?_
  simp only [List.zipIdx_cons, List.zipIdx_nil, List.forIn_cons, List.forIn_nil]
  refine wpAny_bind (wpAny_bind (wpAny_onRaise ?_))
  have e1 : ∀ c o, c ≠ z → s.heap.get? c = some o → g1.get? c = some o := fun c o n => t1.extBut c o n
  show wpAny _ _ (Builtin.SmallTypes.nextOf (.ref p) >>= _) _ _ _
  refine wpAny_bind (N1.item (k := k) (N1.keep j1 fun c o hc e => e1 c o (by rcases hc with r | r <;> rw [r] <;> assumption) e) ex fun g2 m2 t2 => wpAny_pure ?_)
  have e2 : ∀ c o, c ≠ p → g1.get? c = some o → g2.get? c = some o := fun c o n => t2.extBut c o n
  have O2 : IsPair g2 TO u v := e2 _ _ TOp (e1 _ _ TOz hO)
  refine wpAny_bind (wpAny_seqItems O2 rfl (wpAny_bind (wpAny_updateSeq_pair O2 fun g3 O3 t3 => ?_)))
  have O3 : IsPair g3 TO x v := O3
  have e3 : ∀ c o, c ≠ TO → g2.get? c = some o → g3.get? c = some o := fun c o n => t3.extBut c o n
  refine wpAny_bind (wpAny_letGo (wpAny_pure (wpAny_bind (wpAny_bind (wpAny_onRaise ?_)))))
  show wpAny _ _ (Builtin.SmallTypes.nextOf (.ref q) >>= _) _ _ _
  refine wpAny_bind (N2.item (k := k) (N2.keep j2 fun c o hc e => e3 c o ?_ (e2 c o ?_ (e1 c o ?_ e))) ey fun g4 m4 t4 => wpAny_pure ?_)
  · rcases hc with r | r <;> rw [r]
    · exact TOq.symm
    · exact bTO
  · rcases hc with r | r <;> rw [r]
    · exact pq.symm
    · exact bp
  · rcases hc with r | r <;> rw [r] <;> assumption
  have e4 : ∀ c o, c ≠ q → g3.get? c = some o → g4.get? c = some o := fun c o n => t4.extBut c o n
  have O4 : IsPair g4 TO x v := e4 _ _ TOq O3
  refine wpAny_bind (wpAny_seqItems O4 rfl (wpAny_bind (wpAny_updateSeq_pair O4 fun g5 O5 t5 => ?_)))
  have O5 : IsPair g5 TO x y := O5
  have e5 : ∀ c o, c ≠ TO → g4.get? c = some o → g5.get? c = some o := fun c o n => t5.extBut c o n
  refine wpAny_bind (wpAny_letGo (wpAny_pure (wpAny_pure (wpAny_bind (wpAny_seqItems O5 rfl (wpAny_bind (wpAny_newTuple ?_)))))))
  have sz : g5.objs.size = s.heap.objs.size := by rw [t5.1, t4.1, t3.1, t2.1, t1.1]
  have z5 : IsZip g5 z TI TO .ellipsis := e5 _ _ TOz.symm (e4 _ _ qz.symm (e3 _ _ TOz.symm (e2 _ _ pz.symm z1)))
  have k5 : But4 z TO p q s.heap g5 := fun c o n1 n2 n3 n4 e => e5 c o n2 (e4 c o n4 (e3 c o n2 (e2 c o n3 (e1 c o n1 e))))
  have m5 : J1 g5 (k + 1) := N1.keep m2 fun c o hc e => e5 c o (by rcases hc with r | r <;> rw [r]; exact TOp.symm; exact aTO) (e4 c o (by rcases hc with r | r <;> rw [r] <;> assumption) (e3 c o (by rcases hc with r | r <;> rw [r]; exact TOp.symm; exact aTO) e))
  have n5 : J2 g5 (k + 1) := N2.keep m4 fun c o hc e => e5 c o (by rcases hc with r | r <;> rw [r]; exact TOq.symm; exact bTO) e
  have zlt : z < g5.objs.size := Heap.lt_size z5
  show wpAny _ _ (Builtin.SmallTypes.ownedTupleHandOut (.ref z) (.ref g5.objs.size) >>= _) _ _ _
  refine wpAny_bind ?_
  unfold Builtin.SmallTypes.ownedTupleHandOut
  have z6 : IsZip (g5.push { cls := .type "tuple", data := .seq #[x, y] }) z TI TO .ellipsis := Heap.get?_push_of_some _ z5
  refine wpAny_bind (wpAny_setField_rec z6 (by simp) fun g7 z7 t7 => ?_)
  have z7 : IsZip g7 z TI TO (rawInt g5.objs.size) := z7
  refine wpAny_setField_rec z7 (by simp) fun g8 z8 t8 => ?_
  have z8 : IsZip g8 z TI TO (rawInt g5.objs.size) := z8
  have e8 : ∀ c o, c ≠ z → g5.get? c = some o → g8.get? c = some o := fun c o n e => t8.extBut _ _ n (t7.extBut _ _ n (Heap.get?_push_of_some _ e))
  have T8 : IsPair g8 g5.objs.size x y := t8.extBut _ _ (Nat.ne_of_gt zlt) (t7.extBut _ _ (Nat.ne_of_gt zlt) (Heap.get?_push_size _ rfl))
  rw [sz] at z8 T8
  refine wpAny_pure ⟨_, rfl, ?_⟩
  show Q (.ref g5.objs.size) _
  rw [sz]
  exact hQ g8 z8 (e8 _ _ TOz O5) (N1.keep m5 fun c o hc e => e8 c o (by rcases hc with r | r <;> rw [r] <;> assumption) e) (N2.keep n5 fun c o hc e => e8 c o (by rcases hc with r | r <;> rw [r] <;> assumption) e) T8 fun c o n1 n2 n3 n4 e => e8 c o n1 (k5 c o n1 n2 n3 n4 e)
theorem znext_stop (N1 : Nxt P w p a J1 f1) (N2 : Nxt P w q b J2 f2) (hh : A.handled = none) (D : ZipApart z TI TO p q a b) {u v : Value} {Q : PySem.Fin → Shared → Prop}
    (hz : IsZip s.heap z TI TO .none) (hI : IsPair s.heap TI (.ref p) (.ref q)) (hO : IsPair s.heap TO u v) (j1 : J1 s.heap k) (j2 : J2 s.heap k) (ee : f1 k = none ∨ f2 k = none)
    (hE : ∀ h' e, But4 z TO p q s.heap h' → (∃ o, h'.get? e = some o ∧ o.cls = .type "StopIteration") → E (.ref e) { s with heap := h' }) :
    wpAny (model P w) A (Builtin.«zip.__next__» ⟨[.ref z], []⟩) Q E s := by
  have D' := D
  obtain ⟨TIz, TOz, pz, qz, TITO, TIp, TIq, TOp, TOq, pq, az, aTO, ap, aq, bz, bTO, bp, bq⟩ := D'
  show wpAny _ _ (field (.ref z) 2 >>= _) _ _ _
  refine wpAny_bind (wpAny_field hz rfl (x := .bool false) rfl ?_)
  show wpAny _ _ (field (.ref z) 3 >>= _) _ _ _
  refine wpAny_bind (wpAny_field hz rfl (x := .ref TI) rfl ?_)
  refine wpAny_bind (wpAny_seqItems hI rfl ?_)
  show wpAny _ _ (Builtin.SmallTypes.ownedTupleIsFree (.ref z) >>= _) _ _ _
  refine wpAny_bind ?_
  unfold Builtin.SmallTypes.ownedTupleIsFree
  refine wpAny_bind (wpAny_field hz rfl (x := .none) rfl (wpAny_pure ?_))
  simp only [if_true]
  refine wpAny_bind (wpAny_rule (wpAny_bind (wpAny_field hz rfl (x := .ref TO) rfl (wpAny_bind (wpAny_setField_rec hz (by simp) fun g1 z1 t1 => ?_)))))
  have z1 : IsZip g1 z TI TO .ellipsis := z1
  refine wpAny_bind ?_
  simp only [List.zipIdx_cons, List.zipIdx_nil, List.forIn_cons, List.forIn_nil]
  refine wpAny_bind (wpAny_bind (wpAny_onRaise ?_))
  have e1 : ∀ c o, c ≠ z → s.heap.get? c = some o → g1.get? c = some o := fun c o n => t1.extBut c o n
  have i1 : J1 g1 k := N1.keep j1 fun c o hc e => e1 c o (by rcases hc with r | r <;> rw [r] <;> assumption) e
  show wpAny _ _ (Builtin.SmallTypes.nextOf (.ref p) >>= _) _ _ _
  cases ex : f1 k with
  | none =>
    refine wpAny_bind (N1.stop (k := k) hh i1 ex fun g2 r t2 hr => ?_)
    obtain ⟨oe, hoe, hce⟩ := hr
    have z2 : IsZip g2 z TI TO .ellipsis := t2 _ _ pz.symm z1
    have rz : r ≠ z := fun y => by subst y; rw [z2] at hoe; cases hoe; simp at hce
    exact wpAny_setField_rec z2 (by simp) fun g3 _ t3 => hE g3 r (fun c o n1 _ n3 _ y => t3.extBut _ _ n1 (t2 _ _ n3 (e1 _ _ n1 y))) ⟨oe, t3.extBut _ _ rz hoe, hce⟩
  | some x =>
    have ey : f2 k = none := by
      rcases ee with y | y
      · rw [ex] at y; cases y
      · exact y
    refine wpAny_bind (N1.item (k := k) i1 ex fun g2 m2 t2 => wpAny_pure ?_)
    have e2 : ∀ c o, c ≠ p → g1.get? c = some o → g2.get? c = some o := fun c o n => t2.extBut c o n
    have O2 : IsPair g2 TO u v := e2 _ _ TOp (e1 _ _ TOz hO)
    refine wpAny_bind (wpAny_seqItems O2 rfl (wpAny_bind (wpAny_updateSeq_pair O2 fun g3 O3 t3 => ?_)))
    have e3 : ∀ c o, c ≠ TO → g2.get? c = some o → g3.get? c = some o := fun c o n => t3.extBut c o n
    refine wpAny_bind (wpAny_letGo (wpAny_pure (wpAny_bind (wpAny_bind (wpAny_onRaise ?_)))))
    show wpAny _ _ (Builtin.SmallTypes.nextOf (.ref q) >>= _) _ _ _
    refine wpAny_bind (N2.stop (k := k) hh (N2.keep j2 fun c o hc e => e3 c o ?_ (e2 c o ?_ (e1 c o ?_ e))) ey fun g4 r t4 hr => ?_)
    · rcases hc with r | r <;> rw [r]
      · exact TOq.symm
      · exact bTO
    · rcases hc with r | r <;> rw [r]
      · exact pq.symm
      · exact bp
    · rcases hc with r | r <;> rw [r] <;> assumption
    obtain ⟨oe, hoe, hce⟩ := hr
    have z4 : IsZip g4 z TI TO .ellipsis := t4 _ _ qz.symm (e3 _ _ TOz.symm (e2 _ _ pz.symm z1))
    have rz : r ≠ z := fun y => by subst y; rw [z4] at hoe; cases hoe; simp at hce
    exact wpAny_setField_rec z4 (by simp) fun g5 _ t5 => hE g5 r (fun c o n1 n2 n3 n4 y => t5.extBut _ _ n1 (t4 _ _ n4 (e3 _ _ n2 (e2 _ _ n3 (e1 _ _ n1 y))))) ⟨oe, t5.extBut _ _ rz hoe, hce⟩
end
end FX

/-! FX: zip of a list and a tuple, walked -/
namespace FX
open PySem L2
open PySem.Sem (wp)
open PySem.Spec PyProof.Rows
section
variable {P : Program} {w : World} {A : Around} {E : Value → Shared → Prop} {s : Shared} {z TI TO p q a b : Addr} {J1 J2 : Heap → Nat → Prop} {f1 f2 : Nat → Option Value} {k : Nat}
theorem zpy_item (N1 : Nxt P w p a J1 f1) (N2 : Nxt P w q b J2 f2) (D : ZipApart z TI TO p q a b) {x y u v : Value} {Q : Option Value → Shared → Prop}
    (hz : IsZip s.heap z TI TO .none) (hI : IsPair s.heap TI (.ref p) (.ref q)) (hO : IsPair s.heap TO u v) (j1 : J1 s.heap k) (j2 : J2 s.heap k) (ex : f1 k = some x) (ey : f2 k = some y)
    (hQ : ∀ h', IsZip h' z TI TO (rawInt s.heap.objs.size) → IsPair h' TO x y → J1 h' (k + 1) → J2 h' (k + 1) → IsPair h' s.heap.objs.size x y → But4 z TO p q s.heap h' → Q (some (.ref s.heap.objs.size)) { s with heap := h' }) :
    wpAny (model P w) A (pyNext (.ref z)) Q E s := by
  have hT : s.TypeIs (.ref z) "zip" := ⟨_, hz, rfl⟩
  unfold pyNext
  refine wpAny_bind (wpAny_attempt (wpAny_callSpecial?_slot (name := Str.ofString "__next__") hT F.slot_zip_next (wpAny_call_entry F.slot_zip_next hT F.entry_zip_next ?_ (F.args_zip_next_1 _))))
  exact znext_item N1 N2 D hz hI hO j1 j2 ex ey fun h' a1 a2 a3 a4 a5 a6 => wpAny_pure (hQ h' a1 a2 a3 a4 a5 a6)
theorem zpy_stop (N1 : Nxt P w p a J1 f1) (N2 : Nxt P w q b J2 f2) (hh : A.handled = none) (D : ZipApart z TI TO p q a b) {u v : Value} {Q : Option Value → Shared → Prop}
    (hz : IsZip s.heap z TI TO .none) (hI : IsPair s.heap TI (.ref p) (.ref q)) (hO : IsPair s.heap TO u v) (j1 : J1 s.heap k) (j2 : J2 s.heap k) (ee : f1 k = none ∨ f2 k = none)
    (hQ : ∀ h', But4 z TO p q s.heap h' → Q none { s with heap := h' }) : wpAny (model P w) A (pyNext (.ref z)) Q E s := by
  have hT : s.TypeIs (.ref z) "zip" := ⟨_, hz, rfl⟩
  unfold pyNext
  refine wpAny_bind (wpAny_attempt (wpAny_callSpecial?_slot (name := Str.ofString "__next__") hT F.slot_zip_next (wpAny_call_entry F.slot_zip_next hT F.entry_zip_next ?_ (F.args_zip_next_1 _))))
  refine znext_stop (A := A.in1) N1 N2 hh D hz hI hO j1 j2 ee fun h' e hk he => ?_
  obtain ⟨o, ho, hc⟩ := he
  exact wpAny_bind (wpAny_isInstance (T := "StopIteration") (b := true) ⟨o, ho, hc⟩ isSubtype_stop (wpAny_pure (hQ _ hk)))
end
/-- the list at a, the tuple at b -/
def ItLT (K : PySem.W.Frag) (a b : Addr) : It :=
  ⟨fun i H => ∃ (xs ys : List V) (x y : V), SqL K H a xs ∧ SqT K H b ys ∧ xs[i]? = some x ∧ ys[i]? = some y,
    fun i H v H' => ∃ T x y, v = .ref T ∧ H T = none ∧ H' = upd H T (.tup [x, y]) ∧ (∀ xs, SqL K H a xs → xs[i]? = some x) ∧ ∀ ys, SqT K H b ys → ys[i]? = some y,
    fun i H => ∃ xs ys : List V, SqL K H a xs ∧ SqT K H b ys ∧ (xs.length ≤ i ∨ ys.length ≤ i)⟩
theorem turn_LT {P : Program} {w : World} {K : PySem.W.Frag} {elts : List Expr} {kk : Nat} {tpos : Pos} {a b z TI TO i1 i2 : Addr} (D : ZipApart z TI TO i1 i2 a b) :
    Turn P w K (.Tuple elts kk tpos) (ItLT K a b) [z, TI, TO, i1, i2] z (fun i h => IsZip h z TI TO .none ∧ IsPair h TI (.ref i1) (.ref i2) ∧ (∃ x y, IsPair h TO x y) ∧ h.IsListIter i1 a i ∧ h.IsTupleIter i2 b i) where
  mem := by simp
  obj := fun i h st c hc => by
    obtain ⟨hz, hTI, ⟨x, y, hTO⟩, ⟨o1, e1, _, d1⟩, ⟨o2, e2, _, d2⟩⟩ := st
    have hc : c = z ∨ c = TI ∨ c = TO ∨ c = i1 ∨ c = i2 := by simpa using hc
    rcases hc with r | r | r | r | r <;> rw [r]
    · exact ⟨_, hz, fun v m => nomatch m⟩
    · exact ⟨_, hTI, fun v m => nomatch m⟩
    · exact ⟨_, hTO, fun v m => nomatch m⟩
    · exact ⟨o1, e1, fun v m => by rw [d1] at m; cases m⟩
    · exact ⟨o2, e2, fun v m => by rw [d2] at m; cases m⟩
  keep := fun i h h' st k => by
    obtain ⟨hz, hTI, ⟨x, y, hTO⟩, h1, h2⟩ := st
    refine ⟨k z ?_ _ hz, k TI ?_ _ hTI, ⟨x, y, k TO ?_ _ hTO⟩, h1.at fun o e => k i1 ?_ o e, h2.at fun o e => k i2 ?_ o e⟩ <;> simp
  item := by
    intro X hP hw hK hc i pins s σ H E I hf st hg
    subst hP hw hK
    obtain ⟨hz, hTI, ⟨x0, y0, hTO⟩, h1, h2⟩ := st
    obtain ⟨xs, ys, x, y, hqx, hqy, hx, hy⟩ := hg
    obtain ⟨its, rv, p, _⟩ := I.list hqx
    obtain ⟨its2, rv2, p2, _⟩ := I.tuple hqy
    obtain ⟨u, hu, ru⟩ := rv.get hx
    obtain ⟨u2, hu2, ru2⟩ := rv2.get hy
    have zlt : z < s.heap.objs.size := Heap.lt_size hz
    have p2 : s.heap.IsTuple b its2.toArray := p2
    refine zpy_item (k := i) (nxt_list its.toArray) (nxt_tup its2.toArray) D hz hTI hTO ⟨h1, p.isList⟩ ⟨h2, p2⟩ (x := u) (y := u2) (by simpa using hu) (by simpa using hu2) fun h' z' TO' m1 m2 hT hk => ?_
    refine ⟨_, rfl, wpAny_letOwnedTupleGo_zip (s := { s with heap := h' }) z' fun h'' z'' sb => ?_⟩
    have hT2 : h''.get? s.heap.objs.size = some { cls := .type "tuple", data := .seq #[u, u2] } := (sb.2 _ (Nat.ne_of_gt zlt)).trans hT
    have new : ObjOk X.prog X.w (upd H s.heap.objs.size (.tup [x, y])) h'' s.heap.objs.size (.tup [x, y]) := ⟨by show 2 ≤ sizeLine; decide, [u, u2], .cons ru (.cons ru2 .nil), ⟨_, hT2, rfl, _, rfl⟩⟩
    have kb : ∀ c o, c ∉ [z, TI, TO, i1, i2] → s.heap.get? c = some o → h''.get? c = some o := fun c o hb e => by
      simp only [List.mem_cons, List.not_mem_nil, or_false, not_or] at hb
      exact (sb.2 c hb.1).trans (hk c o hb.1 hb.2.2.1 hb.2.2.2.1 hb.2.2.2.2 e)
    have I1 : Inv X pins σ (upd H s.heap.objs.size (.tup [x, y])) { s with heap := h'' } := I.turnedNew (t' := s.toks) (ch := [z, TI, TO, i1, i2]) kb hf (Nat.le_refl _) new
    refine ⟨.ref s.heap.objs.size, _, I1, rfl, ⟨_, x, y, rfl, I.hok.fresh (Nat.le_refl _), rfl, fun l hl => by rw [I.list_inj hl hqx]; exact hx, fun l hl => by rw [I.tuple_inj hl hqy]; exact hy⟩,
      ⟨z'', (sb.2 _ D.TIz).trans (hk _ _ D.TIz D.TITO D.TIi1 D.TIi2 hTI), ⟨u, u2, (sb.2 _ D.TOz).trans TO'⟩, m1.1.at fun o e => (sb.2 _ D.i1z).trans e, m2.1.at fun o e => (sb.2 _ D.i2z).trans e⟩, fun c hcm => ?_⟩
    have hlt : c < s.heap.objs.size := by
      have hc' : c = z ∨ c = TI ∨ c = TO ∨ c = i1 ∨ c = i2 := by simpa using hcm
      rcases hc' with r | r | r | r | r <;> rw [r]
      · exact zlt
      · exact Heap.lt_size hTI
      · exact Heap.lt_size hTO
      · obtain ⟨_, e1, _⟩ := h1; exact Heap.lt_size e1
      · obtain ⟨_, e2, _⟩ := h2; exact Heap.lt_size e2
    rw [upd_ne (Nat.ne_of_lt hlt)]
    exact (hf c hcm).1
  done := by
    intro X hP hw hK hc i pins s σ H E I hf st hg
    subst hP hw hK
    obtain ⟨hz, hTI, ⟨x0, y0, hTO⟩, h1, h2⟩ := st
    obtain ⟨xs, ys, hqx, hqy, hend⟩ := hg
    obtain ⟨its, rv, p, _⟩ := I.list hqx
    obtain ⟨its2, rv2, p2, _⟩ := I.tuple hqy
    have p2 : s.heap.IsTuple b its2.toArray := p2
    have l1 := rv.length
    have l2 := rv2.length
    have he : its.toArray[i]? = none ∨ its2.toArray[i]? = none := by
      rcases hend with r | r
      · left; simp; omega
      · right; simp; omega
    refine zpy_stop (k := i) (nxt_list its.toArray) (nxt_tup its2.toArray) (I.ok.hd hc) D hz hTI hTO ⟨h1, p.isList⟩ ⟨h2, p2⟩ he fun h' hk => ⟨rfl, I.turnedL (t' := s.toks) (ch := [z, TI, TO, i1, i2]) (fun c o hb e => ?_) hf⟩
    simp only [List.mem_cons, List.not_mem_nil, or_false, not_or] at hb
    exact hk c o hb.1 hb.2.2.1 hb.2.2.2.1 hb.2.2.2.2 e
  self := fun A i s Q E st h => wpAny_pyIter_zip st.1 h
/-! the call -/
abbrev zA (h : Heap) (a : Addr) : Heap := h.push { cls := .type "list_iterator", data := .fields #[.ref a, .int 0 0] }
abbrev zB (h : Heap) (a b : Addr) : Heap := (zA h a).push { cls := .type "tuple_iterator", data := .fields #[.ref b, .int 0 0] }
abbrev zC (h : Heap) (a b : Addr) : Heap := (zB h a b).push { cls := .type "tuple", data := .seq #[.ref h.objs.size, .ref (zA h a).objs.size] }
abbrev zD (h : Heap) (a b : Addr) : Heap := (zC h a b).push { cls := .type "tuple", data := .seq #[.none, .none] }
abbrev zE (h : Heap) (a b : Addr) : Heap := (zD h a b).push { cls := .type "zip", data := .fields #[.none, .bool false, .bool false, .ref (zB h a b).objs.size, .ref (zC h a b).objs.size] }
theorem meets_LT (a b : Addr) (xs ys : Array Value) :
    Meets (Builtin.«zip.__new__» ⟨[.type "zip", .ref a, .ref b], []⟩) (fun _ R s => s.heap.IsList a xs ∧ s.heap.IsTuple b ys ∧ R (.ok (.ret (.ref (zD s.heap a b).objs.size))) { s with heap := zE s.heap a b }) :=
  .of_wp fun prog w A R s h => by
    obtain ⟨hp, g, d, tk, os⟩ := s
    obtain ⟨ha, hb, h⟩ := h
    have hsub := sub_zip
    have hA : Heap.IsList (Shared.heap ⟨hp, g, d, tk, os⟩) a xs := ha
    have hB : Heap.IsTuple (Shared.heap ⟨hp.push { cls := .type "list_iterator", data := .fields #[.ref a, .int 0 0] }, g, d, tk, os⟩) b ys := Heap.IsTuple.push hb _
    wp_walk using wpAny_pyIter_list hA, wpAny_pyIter_tuple hB
    exact ⟨_, rfl, h⟩
section
variable {prog : Program} {w : World} {A : Around} {E : Value → Shared → Prop} {s : Shared}
theorem call_LT {a b : Addr} {xs ys : Array Value} {Q : Value → Shared → Prop} (ha : s.heap.IsList a xs) (hb : s.heap.IsTuple b ys)
    (h : ∀ h' n, n = s.heap.objs.size → IsZip h' (n + 4) (n + 2) (n + 3) .none → IsPair h' (n + 2) (.ref n) (.ref (n + 1)) → IsPair h' (n + 3) .none .none → h'.IsListIter n a 0 → h'.IsTupleIter (n + 1) b 0 →
      (∀ c o, s.heap.get? c = some o → h'.get? c = some o) → Q (.ref (n + 4)) { s with heap := h' }) : wpAny (model prog w) A (call (.type "zip") [.ref a, .ref b]) Q E s := by
  refine callType_new F.called_zip (by decide) (F.typeCall_zip_2 _ _) (F.newCall_zip_2 _ _) (fun obj => F.args_object_init_3 obj _ _) F.entry_zip_new (meets_LT a b xs ys) ⟨ha, hb, ?_⟩
  have z1 : (zA s.heap a).objs.size = s.heap.objs.size + 1 := Heap.size_push ..
  have z2 : (zB s.heap a b).objs.size = s.heap.objs.size + 2 := by rw [Heap.size_push, z1]
  have z3 : (zC s.heap a b).objs.size = s.heap.objs.size + 3 := by rw [Heap.size_push, z2]
  have z4 : (zD s.heap a b).objs.size = s.heap.objs.size + 4 := by rw [Heap.size_push, z3]
  have u : ∀ (h : Heap) (x : Obj) (c : Addr) (o : Obj), h.get? c = some o → (h.push x).get? c = some o := fun h x c o e => Heap.get?_push_of_some x e
  have g5 : (zE s.heap a b).get? (zD s.heap a b).objs.size = some _ := Heap.get?_push_size _ rfl
  have g4 : (zE s.heap a b).get? (zC s.heap a b).objs.size = some _ := u _ _ _ _ (Heap.get?_push_size _ rfl)
  have g3 : (zE s.heap a b).get? (zB s.heap a b).objs.size = some _ := u _ _ _ _ (u _ _ _ _ (Heap.get?_push_size _ rfl))
  have g2 : (zE s.heap a b).get? (zA s.heap a).objs.size = some _ := u _ _ _ _ (u _ _ _ _ (u _ _ _ _ (Heap.get?_push_size _ rfl)))
  have g1 : (zE s.heap a b).get? s.heap.objs.size = some _ := u _ _ _ _ (u _ _ _ _ (u _ _ _ _ (u _ _ _ _ (Heap.get?_push_size _ rfl))))
  show _ ∧ _
  rw [z2, z3, z4] at g5
  rw [z1, z2] at g3
  rw [z3] at g4
  rw [z1] at g2
  rw [z4]
  exact ⟨⟨_, g5, rfl⟩, h _ _ rfl g5 g3 g4 ⟨_, g1, rfl, rfl⟩ ⟨_, g2, rfl, rfl⟩ fun c o x => u _ _ _ _ (u _ _ _ _ (u _ _ _ _ (u _ _ _ _ (u _ _ _ _ x))))⟩
end
def iLT (K : PySem.W.Frag) (ta : TA) : TI := fun σ H R => ta σ H fun vs H1 => ∃ a b xs ys, vs = [.ref a, .ref b] ∧ SqL K H1 a xs ∧ SqT K H1 b ys ∧ R (ItLT K a b) H1
section
variable {X : Cx} {e e2 : Expr} {ta : TA} {p pos tpos : Pos} {elts : List Expr} {kk : Nat}
theorem pi_LT (hg : Gl X "zip") (hm : X.mg "zip" = none) (ha : PA X [e, e2] ta) (hs : starEach [e, e2] X.env = (false, eval e X.env) :: starEach [e2] X.env) (hpl : (backTo pos (starEach [e2] X.env)).any (·.1) = false) :
    PI X (.Tuple elts kk tpos) (.Call (.Name "zip" p) [e, e2] [] pos) (iLT X.K ta) := by
  refine ⟨fun pins s σ H R I h => Call_ (ld_blt I hg hm PyProof.Rows.boot_zip (PyProof.Rows.callWith_type1 (thn (ha.run pos pins s σ H _ I h) fun us s1 ⟨vs, H1, I1, r1, q1⟩ => ?_) hs hpl))⟩
  obtain ⟨a, b, xs, ys, ex, hqx, hqy, qq⟩ := q1
  subst ex
  cases r1 with
  | cons r rr =>
    cases rr with
    | cons r' rr =>
      cases rr
      cases r
      cases r'
      obtain ⟨its, rv, p1, _⟩ := I1.list hqx
      obtain ⟨its2, rv2, p2, _⟩ := I1.tuple hqy
      have p2 : s1.heap.IsTuple b its2.toArray := p2
      obtain ⟨o2, ho2, _⟩ := id p2
      refine call_LT p1.isList p2 fun h' n hn hz hTI hTO h1 h2 hk => wpAny_pyIter_zip hz ?_
      have I2 : Inv X pins σ H1 { s1 with heap := h' } := I1.kept (t' := s1.toks) hk
      subst hn
      refine ⟨s1.heap.objs.size + 4, [s1.heap.objs.size + 4, s1.heap.objs.size + 2, s1.heap.objs.size + 3, s1.heap.objs.size, s1.heap.objs.size + 1], _, _, H1, rfl, I2, turn_LT (PySem.W.ktu_apart s1.heap.objs.size a b p1.lt (Heap.lt_size ho2)), ⟨hz, hTI, ⟨_, _, hTO⟩, h1, h2⟩, fun c hcm => ?_, qq⟩
      have hle : s1.heap.objs.size ≤ c := by
        have hc' : c = s1.heap.objs.size + 4 ∨ c = s1.heap.objs.size + 2 ∨ c = s1.heap.objs.size + 3 ∨ c = s1.heap.objs.size ∨ c = s1.heap.objs.size + 1 := by simpa using hcm
        rcases hc' with r | r | r | r | r <;> rw [r] <;> first | exact Nat.le_add_right _ _ | exact Nat.le_refl _
      exact I1.fpOk hle (I1.hok.fresh hle)
end
def mZipLT (m : M (List D)) : M (List D) := mbind m fun ds => match ds with
  | [.lst a, .tup b] => mpure (zipD a b)
  | _ => mno
theorem si_zipLT {X : Cx} {W : WX} {elts : List Expr} {kk : Nat} {e e2 : Expr} {m : M (List D)} {p pos tpos : Pos} (h : SA X W [e, e2] m) (hm : X.mg "zip" = none) (hg : Gl X "zip" := by rfl)
    (hs : starEach [e, e2] X.env = (false, eval e X.env) :: starEach [e2] X.env := by rfl) (hpl : (backTo pos (starEach [e2] X.env)).any (·.1) = false := by rfl) : SI X W (.Tuple elts kk tpos) (.Call (.Name "zip" p) [e, e2] [] pos) (mZipLT m) :=
  PI_imp (pi_LT hg hm h hs hpl) fun σ H Q ⟨Hb, Fb, kb, k, F, s, ok, h⟩ =>
  ⟨Hb, Fb, kb, k, F, s, ok, h.bind.imp fun ds s1 F1 k1 H1 e1 p1 ok1 h1 vs rvs => by
    cases rvs with
    | nil => exact h1.elim
    | cons ra rr =>
      cases rr with
      | nil => cases ra <;> exact h1.elim
      | cons rb rr =>
        cases rr with
        | cons _ _ => cases ra <;> cases rb <;> exact h1.elim
        | nil =>
          cases ra <;> try (exact h1.elim)
          case lst a xs ds ha r =>
            cases rb <;> try (exact h1.elim)
            case tup b ys es hb r' =>
              refine ⟨a, b, xs, ys, rfl, SqL.of (ok1.bs.sub _ _ ha), Evl.ex_t ok1.bs.sub hb, h1 H1 F1 k1 (Evl.Ex.refl _) (List.prefix_refl _) ok1 _ fun F' H' k' e p sub => ?_⟩
              have qa : SqL X.K H' a xs := SqL.of (sub _ _ (e _ _ ha))
              have qb : SqT X.K H' b ys := Evl.ex_t (e.trans sub) hb
              rw [zipD_length]
              refine ⟨fun i hi => ?_, ⟨xs, ys, qa, qb, by rw [r.length, r'.length]; omega⟩, fun i v H2 hi y => ?_⟩
              · have h1 : i < xs.length := by rw [r.length]; omega
                have h2 : i < ys.length := by rw [r'.length]; omega
                exact ⟨xs, ys, xs[i], ys[i], qa, qb, List.getElem?_eq_getElem h1, List.getElem?_eq_getElem h2⟩
              · obtain ⟨T, x, y, rfl, nT, rfl, fx, fy⟩ := y
                obtain ⟨d, hd, rd⟩ := r.get (fx xs qa)
                obtain ⟨d', hd', rd'⟩ := r'.get (fy ys qb)
                have gr := Grow.one (o := .tup [x, y]) sub nT
                exact ⟨_, .tup [d, d'], gr, zipD_get hd hd', .tup (.inl (.inl upd_same)) (.cons (rd.mono (e.trans gr.ff) p) (.cons (rd'.mono (e.trans gr.ff) p) .nil))⟩⟩
end FX

/-! FX: tuple * n -/
namespace FX
open PySem L2
open PySem.Spec PyProof.Rows
theorem tuple_mul1 (l : Addr) (items : Array Value) (n : Nat) (dd : Option Addr) (sl : Array (Option Value)) (u : Tok) :
    Meets (Builtin.«tuple.__mul__» ⟨[.ref l, .int 1 u], []⟩) (fun _ R s => s.heap.get? l = some { cls := .type "tuple", dict := dd, data := .seq items n, slots := sl } ∧ R (.ok (.ret (Value.ref l))) s) :=
  .of_wp fun prog w A R s h => by
    obtain ⟨hp, g, d, tk, os⟩ := s
    obtain ⟨hl, h⟩ := h
    have f1 := AutoSeq1.idx_int
    wp_walk using wpAny_loadPart' hl
    exact ⟨_, rfl, h⟩
def rRep1 (K : PySem.W.Frag) : R2 := fun x y H Q => ∃ l xs, x = .ref l ∧ y = .int 1 ∧ SqT K H l xs ∧ Q x H
theorem op_rep1 {X : Cx} : OpR X (binaryOp .Mult) (rRep1 X.K) := by
  intro pins s σ H x y v u Q I rx ry h
  obtain ⟨l, xs, rfl, rfl, hT, q⟩ := h
  cases rx
  obtain ⟨t, rfl⟩ := ry
  obtain ⟨its, r, ⟨⟨cls, dd, data, sl⟩, ho, hc, n, hd⟩, hs⟩ := I.tuple hT
  simp only at hc hd
  subst hc hd
  have ty : s.TypeIs (.ref l) "tuple" := ⟨_, ho, rfl⟩
  refine wpAny_binaryOp_repeat_ref (T := "tuple") (U := "int") (by decide) ty (fun s' => typeIs_int s' 1 t) noFill_tuple_mul F.fills_int_mul F.slot_int_rmul repeat_tuple F.slot_int_index.lookup ?_
  refine call_meets F.slot_int_rmul (typeIs_int s 1 t) F.entry_int_rmul (F.args_int_rmul_2 _ _) (int_rmul_tuple 1 t l its.toArray n dd sl) ⟨ho, rfl, ty, ?_⟩
  exact call_meets F.slot_tuple_mul ty F.entry_tuple_mul (F.args_tuple_mul_2 _ _) (tuple_mul1 l its.toArray n dd sl t) ⟨ho, .ref l, H, I, rfl, q⟩
def dRepT : D → D → Option D
  | .tup l, .int k => if l ≠ [] ∧ 1 ≤ k ∧ k ≤ 1000 ∧ l.length ≤ 1000 then some (.tup (List.replicate k.toNat l).flatten) else none
  | _, _ => none
theorem RepL.rep {B : Sb} {F : Hp} {k : List Addr} {xs : List V} {ds : List D} (r : RepL B F k xs ds) : ∀ n : Nat, RepL B F k (List.replicate n xs).flatten (List.replicate n ds).flatten
  | 0 => .nil
  | n + 1 => by
    rw [List.replicate_succ, List.replicate_succ, List.flatten_cons, List.flatten_cons]
    exact r.append (r.rep n)
def rRepTA (K : PySem.W.Frag) : R2 := fun x y H Q => rRepT K x y H Q ∨ rRep1 K x y H Q
theorem op_repTA {X : Cx} : OpR X (binaryOp .Mult) (rRepTA X.K) := OpR_or op_repT op_rep1
theorem od_repT {B : Sb} : OpD B (rRepTA B.K) dRepT := fun F k H x y dx dy z Q sub rx ry e q => by
  cases rx <;> try (cases e)
  case tup a xs ds ha r =>
    cases ry <;> try (cases e)
    case int i =>
      have e : (if ds ≠ [] ∧ 1 ≤ i ∧ i ≤ 1000 ∧ ds.length ≤ 1000 then some (D.tup (List.replicate i.toNat ds).flatten) else none) = some z := e
      by_cases c : ds ≠ [] ∧ 1 ≤ i ∧ i ≤ 1000 ∧ ds.length ≤ 1000
      · rw [if_pos c] at e
        cases e
        obtain ⟨c1, c2, c3, c4⟩ := c
        have le := r.length
        by_cases c5 : i = 1
        · subst c5
          have hr : (List.replicate (1 : Int).toNat ds).flatten = ds := by show (List.replicate 1 ds).flatten = ds; simp
          refine .inr ⟨a, xs, rfl, rfl, Evl.ex_t sub ha, q _ F H (Grow.refl sub) ?_⟩
          rw [hr]
          exact .tup ha r
        · refine .inl ⟨a, i, xs, rfl, rfl, Evl.ex_t sub ha, fun h => c1 ?_, by omega, c3, by omega, fun p hp => ?_⟩
          · rw [h] at le
            exact List.eq_nil_of_length_eq_zero le.symm
          · have gr := Grow.one (o := .tup (List.replicate i.toNat xs).flatten) sub hp
            exact q _ _ _ gr (.tup (.inl (.inl upd_same)) ((r.rep _).mono gr.ff (List.prefix_refl _)))
      · rw [if_neg c] at e; cases e
end FX

/-! FX: sorted(set(texts)) -/
namespace FX
open PySem PySem.Spec PyProof.Rows L2
theorem perm_of_sub : ∀ {l m : List Str}, l.Nodup → (∀ x ∈ l, x ∈ m) → m.length ≤ l.length → m.Perm l
  | [], m, _, _, h => by
    have : m = [] := List.eq_nil_of_length_eq_zero (by simpa using h)
    rw [this]
  | x :: l, m, nd, sub, h => by
    obtain ⟨n1, n2⟩ := List.nodup_cons.mp nd
    have hx := sub x List.mem_cons_self
    have p := List.perm_cons_erase hx
    have ih := perm_of_sub (m := m.erase x) n2 (fun y hy => (List.mem_erase_of_ne (fun (e : y = x) => n1 (e ▸ hy))).mpr (sub y (List.mem_cons_of_mem _ hy))) (by rw [List.length_erase_of_mem hx]; simp only [List.length_cons] at h; omega)
    exact p.trans (ih.cons x)
theorem strs_list : ∀ (l : List Value), (∀ v ∈ l, ∃ k tk, v = Value.str k tk) → ∃ ss, StrsAre l ss ∧ ∀ k : Str, k ∈ ss ↔ ∃ tk, Value.str k tk ∈ l
  | [], _ => ⟨[], .nil, fun k => by simp⟩
  | v :: l, h => by
    obtain ⟨k, tk, rfl⟩ := h v List.mem_cons_self
    obtain ⟨ss, h1, h2⟩ := strs_list l fun u hu => h u (List.mem_cons_of_mem _ hu)
    refine ⟨k :: ss, .cons k tk h1, fun y => ⟨fun hy => ?_, fun ⟨t, hy⟩ => ?_⟩⟩
    · rcases List.mem_cons.mp hy with e | e
      · exact ⟨tk, by rw [e]; exact List.mem_cons_self⟩
      · obtain ⟨t, ht⟩ := (h2 y).mp e
        exact ⟨t, List.mem_cons_of_mem _ ht⟩
    · rcases List.mem_cons.mp hy with e | e
      · cases e; exact List.mem_cons_self
      · exact List.mem_cons_of_mem _ ((h2 y).mpr ⟨t, e⟩)
theorem strs_len : ∀ {l : List Value} {ss : List Str}, StrsAre l ss → ss.length = l.length
  | _, _, .nil => rfl
  | _, _, .cons _ _ h => by rw [List.length_cons, List.length_cons, strs_len h]
def leS (a b : Str) : Bool := decide (a.cps.toList ≤ b.cps.toList)
def sortS (l : List Str) : List Str := isort leS l
theorem leS_trans (a b c : Str) (h : leS a b = true) (k : leS b c = true) : leS a c = true := by
  simp only [leS, decide_eq_true_eq] at *
  exact List.le_trans h k
theorem leS_total (a b : Str) : (leS a b || leS b a) = true := by
  rcases List.le_total a.cps.toList b.cps.toList with h | h <;> simp [leS, h]
theorem sortS_def (l : List Str) : sortS l = l.mergeSort leS := isort_eq leS_trans leS_total l
theorem leS_anti (a b : Str) (h : leS a b = true) (k : leS b a = true) : a = b := by
  simp only [leS, decide_eq_true_eq] at *
  have e := List.le_antisymm h k
  cases a; cases b
  congr 1
  exact Array.toList_inj.mp e
theorem rising_pw : ∀ (l : List Str) (p : Str), risingS p l = true → (p :: l).Pairwise fun a b => leS a b = true
  | [], p, _ => List.pairwise_singleton _ _
  | x :: r, p, h => by
    simp only [risingS, Bool.and_eq_true, Bool.not_eq_true', ltCps_eq, decide_eq_false_iff_not] at h
    have ih := rising_pw r x h.2
    have hx : leS p x = true := by
      simp only [leS, decide_eq_true_eq]
      exact List.not_lt.mp h.1
    refine List.pairwise_cons.mpr ⟨fun y hy => ?_, ih⟩
    rcases List.mem_cons.mp hy with e | e
    · rw [e]; exact hx
    · exact leS_trans _ _ _ hx ((List.pairwise_cons.mp ih).1 y e)
theorem sortS_eq {ys l : List Str} (p : ys.Perm l) (h : sortedS ys = true) : ys = sortS l := by
  rw [sortS_def]
  refine List.Perm.eq_of_pairwise (le := fun a b => leS a b = true) (fun a b _ _ h k => leS_anti a b h k) ?_ (List.pairwise_mergeSort leS_trans leS_total l) (p.trans (List.mergeSort_perm l leS).symm)
  cases ys with
  | nil => exact List.Pairwise.nil
  | cons x r => exact rising_pw r x h
section
variable {P : Program} {w : World} {A : Around} {E : Value → Shared → Prop} {s : Shared}
theorem sorted_setTx {a : Addr} {l : List Str} {Q : Value → Shared → Prop} (T : TxAt P w s.heap a l) (hh : A.handled = none) (h64 : l.length < 64)
    (hQ : ∀ s' p (out : Array Value) (c : Nat), (∀ b o, s.heap.get? b = some o → s'.heap.get? b = some o) → s'.gens = s.gens → s'.os = s.os → s.heap.objs.size ≤ p →
      s'.heap.get? p = some (seqObj "list" out c) → StrsAre out.toList (sortS l) → Q (.ref p) s') :
    wpAny (model P w) A (call (.builtin "sorted") [.ref a]) Q E s := by
  obtain ⟨⟨es, ep, t⟩, ho, T⟩ := T
  have fit : t.fits es.size = true := T.ok.fit
  have sz : es.size = l.length := T.ok.sz
  have mem : ∀ k : Str, k ∈ l ↔ ∃ e ∈ es.toList, (strKind P w).is k e.2 = true := T.ok.mem
  refine Calls.call_function_entry kind_sorted plain_sorted entry_sorted (args_sorted1 _) ?_
  unfold Builtin.«sorted»
  refine wpAny_bind (m := checkCount "sorted" 1 1 _) (wpAny_pure ?_)
  refine wpAny_bind (collect_set (A := A.in1) (es := es) (ep := ep) (t := t) hh ⟨_, ho, rfl, rfl⟩ fit (by rw [sz]; unfold scanBound; omega) T.ris T.led fun s1 vs k1 hz g1 o1 pm => ?_)
  have hvl : vs.length = l.length := by rw [pm.length_eq, List.length_map, Array.length_toList]; exact sz
  obtain ⟨ss, hS, hm⟩ := strs_list vs fun v hv => by
    obtain ⟨e, he, q⟩ := List.mem_map.mp (pm.mem_iff.mp hv)
    obtain ⟨⟨k, h1, _⟩, _⟩ := T.ok.el e he
    obtain ⟨tk, h2⟩ := Value.isStrOf_shape (x := k) (v := e.2) h1
    exact ⟨k, tk, by rw [← q]; exact h2⟩
  have hsl : ss.length = vs.length := strs_len hS
  have pl : ss.Perm l := perm_of_sub T.nd (fun x hx => by
    obtain ⟨e, he, q⟩ := (mem x).mp hx
    obtain ⟨tk, q⟩ := Value.isStrOf_shape (x := x) (v := e.2) q
    exact (hm x).mpr ⟨tk, pm.mem_iff.mpr (by rw [← q]; exact List.mem_map.mpr ⟨e, he, rfl⟩)⟩) (by omega)
  refine wpAny_bind (wpAny_newList ?_ (by rw [hvl, sizeLine_eq]; omega))
  have hoL : (s1.heap.push (seqObj "list" vs.toArray 0)).get? s1.heap.objs.size = some (seqObj "list" vs.toArray 0) := Heap.get?_push_size _ rfl
  refine wpAny_bind (wpAny_holding (wpAny_call_entry slot_list_sort ⟨_, hoL, rfl⟩ entry_list_sort (list_sort_treeK strKind_oneLt hoL hS.keysOf (fun v₁ v₂ rest e => keyKind_strs (by rw [← e]; exact hS)) (by rw [hvl]; exact h64) fun st' hp hs => ⟨_, rfl, ?_⟩) (args_list_sort _)))
  obtain ⟨ys, y1, y2, y3⟩ := sorted_out_str hS hp hs
  obtain ⟨c, hc⟩ := sortedHeap_at (vs := vs) (out := (arrOf st').map (·.2)) hoL
  have e := sortS_eq (y2.trans pl) y3
  subst e
  refine wpAny_pure ⟨_, rfl, hQ _ s1.heap.objs.size _ c (fun b u e => ?_) g1 o1 hz hc y1⟩
  have q := k1 b u e
  have hlt := Heap.lt_size q
  show (sortedHeap (s1.heap.push (seqObj "list" vs.toArray 0)) s1.heap.objs.size vs _).get? b = some u
  rw [sortedHeap_old (Nat.ne_of_lt hlt) (by rw [size_push']; exact Nat.lt_succ_of_lt hlt)]
  exact Heap.get?_push_of_some _ q
end
def dSortSet : D → Option D
  | .lst l => (strsOf l).bind fun xs => if xs.length < 64 then some (.lst ((sortS (xs.foldl addNew [])).map D.str)) else none
  | _ => none
def tSortSet (K : PySem.W.Frag) (ta : TE) : TE := fun σ H Q => ta σ H fun x H1 => ∃ (l : Addr) (xs : List Str), x = V.ref l ∧ SqL K H1 l (xs.map V.str) ∧ xs.length < 64 ∧ ∀ p, H1 p = none → Q (.ref p) (upd H1 p (.lst ((sortS (xs.foldl addNew [])).map V.str)))
theorem pe_sortSetX {X : Cx} {a : Expr} {ta : TE} {p p2 q pos : Pos} (hc : X.calm = true) (hg : Gl X "sorted") (hm : X.mg "sorted" = none) (hg2 : Gl X "set") (hm2 : X.mg "set" = none) (ha : PE X a ta)
    (na : starEach [a] X.env = (false, eval a X.env) :: starEach [] X.env := by rfl) : PE X (.Call (.Name "sorted" p) [.Call (.Name "set" p2) [a] [] q] [] pos) (tSortSet X.K ta) := by
  refine ⟨fun pins s σ H Q I h => ?_⟩
  refine Call_ (ld_blt I hg hm PyProof.Rows.boot_sorted (PyProof.Rows.callWith_builtin1 (PyProof.Rows.args_cons ?_ rfl) rfl rfl))
  refine Call_ (ld_blt I hg2 hm2 PyProof.Rows.boot_set (PyProof.Rows.callWith_type1 (PyProof.Rows.args_cons (thn (ha.run pins s σ H _ I h) fun v s1 ⟨x, H1, I1, r1, q1⟩ => PyProof.Rows.args_nil ?_) na) na rfl))
  obtain ⟨l, xs, rfl, hq, h1, q1⟩ := q1
  cases r1
  obtain ⟨its, r, pl, hz⟩ := I1.list hq
  obtain ⟨vl, vi⟩ := vals_str r
  refine call_setTx xs (I1.ok.hd hc) pl.isList (by rw [List.size_toArray]; exact vl) (fun i v e => vi i v (by simpa using e)) (by unfold scanBound; omega) fun h' tk T kp => PyProof.Rows.args_nil ?_
  have I2 : Inv X pins σ H1 { s1 with heap := h', toks := tk } := I1.kept kp
  have le := got_le xs []
  rw [List.length_nil] at le
  refine sorted_setTx (s := { s1 with heap := h', toks := tk }) T (I1.ok.hd hc) (by omega) fun s' b out c k g o hb hg hi => ?_
  have pm : (sortS (xs.foldl addNew [])).length = (xs.foldl addNew []).length := by rw [sortS_def]; exact List.length_mergeSort _
  have hlen : ((sortS (xs.foldl addNew [])).map V.str).length ≤ sizeLine := by rw [List.length_map, pm, sizeLine_eq]; omega
  have hn : H1 b = none := I2.hok.fresh hb
  have J := I2.call (ch := []) (h' := s'.heap) (g' := s'.gens) (d' := s'.drawn) (t' := s'.toks) (Un.laid k hb hn) (I2.hok.laid (o := .lst ((sortS (xs.foldl addNew [])).map V.str)) k hb ⟨hlen, out.toList, c, vals_of_strs hi, hg⟩) (by rw [g]; exact I2.bare) (fun _ z => nomatch z)
  have e : s' = { ({ s1 with heap := h', toks := tk } : Shared) with heap := s'.heap, gens := s'.gens, drawn := s'.drawn, toks := s'.toks } := by
    cases s'
    cases o
    rfl
  rw [e]
  exact ⟨.ref b, _, J, rfl, q1 b hn⟩
theorem repL_strs {B : Sb} {F : Hp} {k : List Addr} : ∀ l : List Str, RepL B F k (l.map V.str) (l.map D.str)
  | [] => .nil
  | x :: l => .cons (.str x) (repL_strs l)
theorem se_sortSet {X : Cx} {W : WX} {e : Expr} {m : M D} {p p2 q pos : Pos} (he : SE X W e m) (hm : X.mg "sorted" = none) (hm2 : X.mg "set" = none) (hg : Gl X "sorted" := by rfl) (hg2 : Gl X "set" := by rfl) (hc : X.calm = true := by rfl)
    (na : starEach [e] X.env = (false, eval e X.env) :: starEach [] X.env := by rfl) :
    SE X W (.Call (.Name "sorted" p) [.Call (.Name "set" p2) [e] [] q] [] pos) (m1 dSortSet m) := PE_imp (pe_sortSetX hc hg hm hg2 hm2 he na) fun σ H Q ⟨Hb, Fb, kb, k, F, s, ok, h⟩ =>
  ⟨Hb, Fb, kb, k, F, s, ok, h.bind.imp fun dx s1 F1 k1 H1 e1 p1 ok1 h1 v rv => by
    cases rv with
    | @lst a xs l hl rl =>
      cases q : strsOf l with
      | none => simp only [dSortSet, q, Option.bind_none] at h1; exact h1.elim
      | some ys =>
        simp only [dSortSet, q, Option.bind_some] at h1
        by_cases c : ys.length < 64
        · rw [if_pos c] at h1
          have ex := strsOf_at q rl
          subst ex
          refine ⟨a, ys, rfl, SqL.of (ok1.bs.sub _ _ hl), c, fun b hb => ?_⟩
          have gr := Grow.one (o := .lst ((sortS (ys.foldl addNew [])).map V.str)) ok1.bs.sub hb
          exact h1 _ _ k1 gr.ff (List.prefix_refl _) (ok1.grow gr) _ (.lst upd_same (repL_strs _))
        · rw [if_neg c] at h1; exact h1.elim
    | _ => exact h1.elim⟩
end FX

/-! FX: tuple[::-1]; a, b, c = x, y, z; sorted(ints) -/
namespace FX
open PySem L2
open PySem.Spec PyProof.Rows HT
section
variable {prog : Program} {w : World} {A : Around} {E : Value → Shared → Prop} {s : Shared}
theorem applied_back {sl : Addr} {vl vu vs : Value} {n : Nat} {Q : Int × Int × Nat → Shared → Prop} (hs : s.heap.IsSliceOf sl vl vu vs) (pl : IsPart vl none) (pu : IsPart vu none) (ps : IsPart vs (some (-1)))
    (h : Q ((n : Int) - 1, -1, n) s) : wpAny (model prog w) A (Builtin.Slice.sliceApplied (.ref sl) (pure (n : Int))) Q E s := by
  obtain ⟨os, hos, hcs, hds⟩ := id hs
  unfold Builtin.Slice.sliceApplied Builtin.Slice.sliceFields
  refine wpAny_bind (wpAny_bind (wpAny_field hos hds (x := vl) rfl (wpAny_bind (wpAny_field hos hds (x := vu) rfl (wpAny_bind (wpAny_field hos hds (x := vs) rfl (wpAny_pure ?_)))))))
  refine wpAny_bind (HT.slicePart_ ps ?_)
  show wpAny _ _ (if ((-1 : Int) == 0) = true then _ else _) _ _ s
  rw [if_neg (by decide)]
  refine wpAny_bind (HT.slicePart_ pl (wpAny_bind (HT.slicePart_ pu (wpAny_bind (wpAny_pure ?_)))))
  have e : Builtin.Slice.sliceAdjust none none (-1) (n : Int) = ((n : Int) - 1, -1) := rfl
  show wpAny _ _ (match Builtin.Slice.sliceAdjust none none (-1) (n : Int) with | (lo, hi) => pure (lo, (-1 : Int), Builtin.Slice.slicePlaces lo hi (-1))) _ _ s
  rw [e]
  have p : Builtin.Slice.slicePlaces ((n : Int) - 1) (-1) (-1) = n := by
    unfold Builtin.Slice.slicePlaces
    have h1 : ¬ ((-1 : Int) > 0) := by omega
    simp only [h1, if_false]
    split
    · have : ((n : Int) - 1 - -1 - 1) / (- -1) + 1 = n := by
        rw [show (- -1 : Int) = 1 by rfl, Int.ediv_one]; omega
      rw [this]; omega
    · omega
  show wpAny _ _ (pure ((n : Int) - 1, (-1 : Int), Builtin.Slice.slicePlaces ((n : Int) - 1) (-1) (-1))) _ _ s
  rw [p]
  exact wpAny_pure h
theorem pick_back (xs : Array Value) : ((List.range xs.size).filterMap fun (m : Nat) => xs[(((xs.size : Nat) : Int) - 1 + (m : Int) * (-1)).toNat]?).toArray = xs.toList.reverse.toArray := by
  have a := HT.pick_gen xs.toList.reverse.toArray 0 xs.size
  have e : ((xs.toList.reverse.toArray.toList.drop 0).take xs.size) = xs.toList.reverse := by
    rw [List.drop_zero]
    exact List.take_of_length_le (by simp)
  rw [e] at a
  rw [← a]
  congr 1
  have key : ∀ l : List Nat, (∀ m ∈ l, m < xs.size) → l.filterMap (fun (m : Nat) => xs[(((xs.size : Nat) : Int) - 1 + (m : Int) * (-1)).toNat]?) = l.filterMap (fun (m : Nat) => xs.toList.reverse.toArray[(((0 : Nat) : Int) + (m : Int) * 1).toNat]?) := by
    intro l
    induction l with
    | nil => intro _; rfl
    | cons m l ih =>
      intro h
      have hm := h m List.mem_cons_self
      have e1 : xs[(((xs.size : Nat) : Int) - 1 + (m : Int) * (-1)).toNat]? = xs.toList.reverse.toArray[(((0 : Nat) : Int) + (m : Int) * 1).toNat]? := by
        have i1 : (((xs.size : Nat) : Int) - 1 + (m : Int) * (-1)).toNat = xs.size - 1 - m := by omega
        have i2 : (((0 : Nat) : Int) + (m : Int) * 1).toNat = m := by omega
        rw [i1, i2]
        have e2 : xs.toList.reverse.toArray[m]? = xs.toList.reverse[m]? := List.getElem?_toArray ..
        rw [e2, List.getElem?_reverse (by rw [Array.length_toList]; exact hm), Array.getElem?_toList, Array.length_toList]
      simp only [List.filterMap_cons, e1, ih fun y hy => h y (List.mem_cons_of_mem _ hy)]
  exact key _ fun m hm => List.mem_range.mp hm
theorem getItem_back {t sl : Addr} {items : Array Value} {vl vu vs : Value} {Q : Value → Shared → Prop} (ht : IsTup s.heap t items) (hs : s.heap.IsSliceOf sl vl vu vs) (pl : IsPart vl none) (pu : IsPart vu none) (ps : IsPart vs (some (-1)))
    (h : Q (.ref s.heap.objs.size) { s with heap := s.heap.push { cls := .type "tuple", data := .seq items.toList.reverse.toArray } }) (hsz : items.size ≤ sizeLine) : wpAny (model prog w) A (getItem (.ref t) (.ref sl)) Q E s := by
  have hok : sizeOk (.seq items.toList.reverse.toArray) := by
    show items.toList.reverse.toArray.size ≤ sizeLine
    rw [List.size_toArray, List.length_reverse, Array.length_toList]; exact hsz
  obtain ⟨os, hos, hcs, hds⟩ := id hs
  have hTs : s.TypeIs (.ref sl) "slice" := ⟨os, hos, hcs⟩
  unfold getItem
  try with_reducible refine wpAny_holding ?_
  first | refine wpAny_bind (wpAny_pure ?_) | skip
  refine wpAny_bind (wpAny_sequenceKey ht.typeIs (by decide) ?_)
  refine wpAny_bind (wpAny_callSpecial?_slot (name := Str.ofString "__getitem__") ht.typeIs PyProof.Rows.slot_tuple_getitem (wpAny_call_entry PyProof.Rows.slot_tuple_getitem ht.typeIs PyProof.Rows.entry_tuple_getitem ?_ (PyProof.Rows.args_tuple_getitem _ _)))
  show wpAny _ _ (Builtin.Tuple.tupleItemsOf (.ref t) >>= _) _ _ s
  refine wpAny_bind (tupleItemsOf_ ht (wpAny_bind (wpAny_typeOf hTs ?_)))
  rw [if_pos (by decide)]
  refine wpAny_bind (applied_back hs pl pu ps ?_)
  have no : ¬ ((((items.size : Nat) : Int) - 1 == 0 && (-1 : Int) == 1 && items.size == items.size) = true) := by simp
  show wpAny _ _ (if (((items.size : Nat) : Int) - 1 == 0 && (-1 : Int) == 1 && items.size == items.size) = true then _ else _) _ _ s
  rw [if_neg no, pick_back]
  first
    | exact wpAny_bind (m := Builtin.Tuple.tupleExact _) (wpAny_newObj_type (wpAny_pure ⟨_, rfl, wpAny_pure h⟩) hok)
    | exact wpAny_bind (wpAny_bind (m := Builtin.Tuple.tupleExact _) (wpAny_newObj_type (wpAny_pure (wpAny_pure ⟨_, rfl, wpAny_pure h⟩)) hok))
    | exact wpAny_bind (m := Builtin.Tuple.tupleExact _) (wpAny_newObj_type (wpAny_bind (wpAny_pure (wpAny_pure ⟨_, rfl, wpAny_pure h⟩))) hok)
end
def tRevT (K : PySem.W.Frag) (te : TE) : TE := fun σ H Q => te σ H fun x H1 => ∃ a xs, x = .ref a ∧ SqT K H1 a xs ∧ ∀ p, H1 p = none → Q (.ref p) (upd H1 p (.tup xs.reverse))
theorem pe_revT {X : Cx} {e : Expr} {te : TE} {k : Nat} {p1 p2 p3 pos : Pos} (he : PE X e te) : PE X (.Subscript e (.Slice none none (some (.UnaryOp .USub (.Constant (.int 1) k p1) p2)) p3) pos) (tRevT X.K te) := by
  refine ⟨fun pins s σ H Q I h => Subscript_ (thn (he.run pins s σ H _ I h) fun v s1 ⟨x, H1, I1, r1, q1⟩ => ?_)⟩
  obtain ⟨a, xs, ex, hx, q⟩ := q1
  subst ex
  cases r1
  have hst : L2.PO X (some (.UnaryOp .USub (.Constant (.int 1) k p1) p2)) (tPart (tUn (rU fun i => .int (-i)) (tC (.int 1)))) := po_some (pe_un un_neg pe_int)
  refine wpAny_Slice (thn (po_none.run pins s1 σ H1 (fun o H2 => o = none ∧ H2 = H1) I1 ⟨rfl, rfl⟩) fun vl s2 ⟨l, H2, I2, pl, el, e2⟩ => ?_)
  subst el e2
  refine thn (po_none.run pins s2 σ H2 (fun o H3 => o = none ∧ H3 = H2) I2 ⟨rfl, rfl⟩) fun vu s3 ⟨u, H3, I3, pu, eu, e3⟩ => ?_
  subst eu e3
  refine thn (hst.run pins s3 σ H3 (fun o H4 => o = some (-1) ∧ H4 = H3) I3 ⟨1, rfl, -1, rfl, rfl, rfl⟩) fun vs s4 ⟨o, H4, I4, ps, eo, e4⟩ => ?_
  subst eo e4
  have I5 : Inv X pins σ H4 { s4 with heap := s4.heap.push { cls := .type "slice", data := .fields #[vl, vu, vs] } } := I4.kept (t' := s4.toks) fun b ob q => Heap.get?_push_of_some _ q
  obtain ⟨its, r, ht, hz⟩ := I5.tuple hx
  have hlen := r.length
  show wpAny (model X.prog X.w) X.A (subscriptTail e (.Slice none none (some (.UnaryOp .USub (.Constant (.int 1) k p1) p2)) p3) (.ref a) (.ref s4.heap.objs.size)) (EP X pins σ Q) X.xe { s4 with heap := s4.heap.push { cls := .type "slice", data := .fields #[vl, vu, vs] } }
  refine tail_any (ops := [.ref a, .ref s4.heap.objs.size]) ht.typeIs (PyProof.Rows.slot_tuple_getitem.lookup) ?_ (by with_unfolding_all rfl)
  refine getItem_back ht (Heap.IsSliceOf.new _ vl vu vs) pl pu ps ?_ (by rw [List.size_toArray]; omega)
  refine ⟨.ref _, _, I5.laid (t' := s4.toks) (o := .tup xs.reverse) (fun b ob q => Heap.get?_push_of_some _ q) (Nat.le_refl _) ?_, rfl, q _ (I5.hok.fresh (Nat.le_refl _))⟩
  exact ⟨by rw [List.length_reverse]; exact hz, _, r.reverse, IsTup.new _ _⟩
theorem RepL.rev {B : Sb} {F : Hp} {k : List Addr} : ∀ {xs : List V} {ds : List D}, RepL B F k xs ds → RepL B F k xs.reverse ds.reverse
  | _, _, .nil => .nil
  | _, _, .cons h r => by
    rw [List.reverse_cons, List.reverse_cons]
    exact (RepL.rev r).append (.cons h .nil)
def dRev : D → Option D
  | .tup l => some (.tup l.reverse)
  | _ => none
theorem se_rev {X : Cx} {W : WX} {e : Expr} {m : M D} {k : Nat} {p1 p2 p3 pos : Pos} (he : SE X W e m) : SE X W (.Subscript e (.Slice none none (some (.UnaryOp .USub (.Constant (.int 1) k p1) p2)) p3) pos) (m1 dRev m) := PE_imp (pe_revT he) fun σ H Q ⟨Hb, Fb, kb, k, F, s, ok, h⟩ =>
  ⟨Hb, Fb, kb, k, F, s, ok, h.bind.imp fun dx s1 F1 k1 H1 e1 p1 ok1 h1 v rv => by
    cases rv with
    | @tup a xs l hl rl =>
      refine ⟨a, xs, rfl, Evl.ex_t ok1.bs.sub hl, fun p hp => ?_⟩
      have gr := Grow.one (o := .tup xs.reverse) ok1.bs.sub hp
      exact h1 _ _ k1 gr.ff (List.prefix_refl _) (ok1.grow gr) _ (.tup (.inl (.inl upd_same)) (rl.rev.mono gr.ff (List.prefix_refl _)))
    | _ => exact h1.elim⟩
/-! a, b, c = x, y, z -/
def mPar3 (i j l : Nat) (a b c : M D) : M Out := mbind a fun x => mbind b fun y => mbind c fun z s => .ok .nx (setV l z (setV j y (setV i x s)))
theorem ss_par3 {X : Cx} {W : WX} {i j l : Nat} {x y z : Str} {a b c : Expr} {ma mb mc : M D} {px py pz pt pos : Pos} {kt k2 pt2} (hN : X.N.Nodup) (ha : SE X W a ma) (hb : SE X W b mb) (hd : SE X W c mc) (hi : X.N[i]? = some x := by rfl) (hj : X.N[j]? = some y := by rfl) (hl : X.N[l]? = some z := by rfl) (hij : i ≠ j := by decide) (hil : i ≠ l := by decide) (hjl : j ≠ l := by decide)
    (hx : X.env.scope.names.lookup x = some .local := by rfl) (hy : X.env.scope.names.lookup y = some .local := by rfl) (hz : X.env.scope.names.lookup z = some .local := by rfl) (hs1 : starEach (a :: [b, c]) X.env = (false, eval a X.env) :: starEach [b, c] X.env := by rfl) (hs2 : starEach (b :: [c]) X.env = (false, eval b X.env) :: starEach [c] X.env := by rfl) (hs3 : starEach [c] X.env = (false, eval c X.env) :: starEach [] X.env := by rfl)
    (hw : swappedStores [.Tuple [.Name x px, .Name y py, .Name z pz] kt pt] (.Tuple [a, b, c] k2 pt2) X.env = pure (some [x, y, z]) := by rfl)
    (hs : swapsWithSole [.Tuple [.Name x px, .Name y py, .Name z pz] kt pt] (.Tuple [a, b, c] k2 pt2) pos.line X.env = pure false := by rfl) (hc : X.calm = true := by rfl) :
    SS X W (.Assign [.Tuple [.Name x px, .Name y py, .Name z pz] kt pt] (.Tuple [a, b, c] k2 pt2) pos) (mPar3 i j l ma mb mc) :=
  PS_imp (ps_par3 hc hN hi hj hl hij hil hjl hx hy hz (pa_cons ha (pa_cons hb (pa_cons hd pa_nil hs3) hs2) hs1) hw hs) fun E σ H ⟨Hb, Fb, kb, k, F, s, ok, h⟩ =>
  ⟨Hb, Fb, kb, k, F, s, ok, (FinS.ofBind h).imp fun d s1 F1 k1 H1 e1 p1 ok1 h1 v rv => ⟨Hb, Fb, kb, k1, F1, s1, ok1, (FinS.ofBind h1).imp fun d' s2 F2 k2 H2 e2 p2 ok2 h2 u ru =>
    ⟨Hb, Fb, kb, k2, F2, s2, ok2, (FinS.ofBind h2).imp fun d2 s3 F3 k3 H3 e3 p3 ok3 h3 t rt =>
    ⟨v, u, t, rfl, h3 _ H3 F3 k3 (Evl.Ex.refl _) (List.prefix_refl _) (((ok3.setV (rv.mono (e2.trans e3) (p2.trans p3))).setV (ru.mono e3 p3)).setV rt)⟩⟩⟩⟩
end FX

/-! FXIn: x in a list of deep things; None in a list of dicts -/
namespace PySem.SeqAt
open MeetsSeq
theorem rcAt_dict_none {A : Around} {s : Shared} {l : Addr} (hT : s.TypeIs (.ref l) "dict") (hu : A.units < cLine) : RcAt A s (.ref l) .none false := fun prog w E Q h => by
  refine rc_eq_decline_or (k := false) hT rfl (by decide) F.sub_NoneType_dict F.slot_dict_eq F.slot_NoneType_eq_refl
    (fun _ hq => wpAny_call_entry F.slot_dict_eq hT F.entry_dict_eq ?_ (F.args_dict_eq_2 _ _))
    (fun _ hq => call_gives F.slot_NoneType_eq_refl rfl F.entry_NoneType_eq (F.args_NoneType_eq_2 _ _) (NoneType___eq___none_ref_0 l) hq)
    (fun _ hq => wpAny_of_eq (rfl : isSame (.ref l) .none = pure false) hq) (.inr hu) h
  show wpAny _ _ (Builtin.Dict.dictSlotArgs "__eq__" ⟨[.ref l, .none], []⟩ >>= _) _ _ s
  refine wpAny_bind ?_
  unfold Builtin.Dict.dictSlotArgs
  refine wpAny_bind (wpAny_notOrdered_dict hT ?_)
  show wpAny _ _ (pure (Value.ref l, Value.none)) _ _ s
  refine wpAny_pure ?_
  refine wpAny_bind (wpAny_isInstance (T := "NoneType") rfl F.sub_NoneType_dict ?_)
  rw [if_pos (by decide)]
  exact wpAny_bind (wpAny_rule (wpAny_pure ⟨_, rfl, hq⟩))
theorem eqAt_dict_none {A : Around} {s : Shared} {l : Addr} (hT : s.TypeIs (.ref l) "dict") (hu : A.units < cLine) : EqAt A s (.ref l) .none false := fun prog w E Q h => by
  unfold eqBool
  refine wpAny_holding ?_
  refine wpAny_ite_split (fun hab => absurd (eq_of_beq hab) nofun) (fun _ => ?_)
  exact wpAny_bind (rcAt_dict_none hT hu prog w E _ (wpAny_truthy_bool h))
end PySem.SeqAt
namespace FX
open PySem L2
def rNoneIn (K : PySem.W.Frag) : R2 := fun x y H Q => x = .non ∧ ∃ p xs, y = .ref p ∧ SqL K H p xs ∧ (∀ v ∈ xs, ∃ a ks, v = V.ref a ∧ Rd H a (.dK ks)) ∧ Q (.bl false) H
theorem op_noneIn {X : Cx} (hu : X.A.units + 65 < cLine) : OpR X (compareOp .In) (rNoneIn X.K) := by
  intro pins s σ H x y v u Q I rx ry h
  obtain ⟨rfl, p, xs, rfl, hq, hd, q⟩ := h
  cases rx
  cases ry
  obtain ⟨its, r, pl, hz⟩ := I.list hq
  have all : ∀ {xs : List V} {us : List Value}, Vals xs us → (∀ v ∈ xs, ∃ a ks, v = V.ref a ∧ Rd H a (.dK ks)) → ∀ w ∈ us, SeqAt.EqAt X.A.in1 s w .none false := by
    intro xs us r
    induction r with
    | nil => intro _ w hw; cases hw
    | cons r t ih =>
      intro hd w hw
      rcases List.mem_cons.mp hw with rfl | hw
      · obtain ⟨a, ks, rfl, ea⟩ := hd _ List.mem_cons_self
        cases r
        obtain ⟨_, ya, va, ra, da⟩ := (show ObjOk X.prog X.w H s.heap a (.dK ks) from ea.ok I.hok)
        exact SeqAt.eqAt_dict_none da.typeIs (by show X.A.units + 1 < cLine; omega)
      · exact ih (fun v hv => hd v (List.mem_cons_of_mem _ hv)) w hw
  refine SeqAt.in_listAt (fun _ => false) pl.isList (fun w hw => all r hd w (by simpa using hw)) ⟨.bl _, H, I, rfl, ?_⟩
  have : its.toArray.any (fun _ => false) = false := by simp
  rw [this]
  exact q
def isDic : D → Bool
  | .dic _ => true
  | _ => false
def dInD (d e : D) : Option D := match e with
  | .lst xs => if okEq d e = true then some (.bl (xs.any fun y => eqD y d)) else match d with
    | .non => if xs.all isDic = true then some (.bl false) else none
    | _ => none
  | _ => none
def dInX (d e : D) : Option D := match dInA d e with
  | some z => some z
  | none => dInD d e
abbrev rInX (K : PySem.W.Frag) : R2 := fun x y H Q => ((∃ (c : Nat) (z : Str), x = .str ⟨#[c]⟩ ∧ y = .str z ∧ Q (.bl (decide (c ∈ z.cps.toList))) H) ∨ rIn K false x y H Q) ∨ (rInD K x y H Q ∨ rNoneIn K x y H Q)
theorem op_inX {X : Cx} {j : Nat} (hr : Room j X.A) : OpR X (compareOp .In) (rInX X.K) := OpR_or op_inA (OpR_or (op_inD (room65 hr)) (op_noneIn (room65 hr)))
theorem pys_any : ∀ (xs : List D) (d : D), plain d = true → plains xs = true → (pys xs).any (fun y => PyData.eqv y (py d)) = xs.any fun y => eqD y d
  | [], _, _, _ => rfl
  | x :: xs, d, h, hs => by
    simp only [plains, Bool.and_eq_true] at hs
    rw [pys, List.any_cons, List.any_cons, py_eqv x d hs.1 h, pys_any xs d h hs.2]
theorem dics_ref {B : Sb} {F H : Hp} {k : List Addr} (sub : Ex F H) : ∀ {xs : List V} {ds : List D}, RepL B F k xs ds → ds.all isDic = true → ∀ v ∈ xs, ∃ a ks, v = V.ref a ∧ Rd H a (.dK ks)
  | _, _, .nil, _ => fun v hv => by cases hv
  | _, _, .cons h r, p => fun v hv => by
    rw [List.all_cons, Bool.and_eq_true] at p
    rcases List.mem_cons.mp hv with rfl | hv
    · cases h <;> first | (cases p.1; done) | exact ⟨_, _, rfl, .inr ⟨_, sub _ _ (by assumption)⟩⟩
    · exact dics_ref sub r p.2 v hv
theorem od_inX {B : Sb} : OpD B (rInX B.K) dInX := fun F k H x y dx dy z Q sub rx ry e q => by
  unfold dInX at e
  cases c : dInA dx dy with
  | some w => rw [c] at e; cases e; exact .inl (od_inA F k H x y _ _ _ Q sub rx ry c q)
  | none =>
    rw [c] at e
    replace e : dInD dx dy = some z := e
    clear c
    cases dy <;> try (cases e; done)
    case lst ds =>
      unfold dInD at e
      dsimp only at e
      by_cases h : okEq dx (.lst ds) = true
      · rw [if_pos h] at e; cases e
        obtain ⟨s1, s2, p1, p2⟩ := shaped_of h
        refine .inr (.inl ⟨py dx, pys ds, rx.dp sub p1, by have := ry.dp sub p2; rwa [py] at this, s1, by rwa [py] at s2, ?_⟩)
        rw [pys_any ds dx p1 (by simpa only [plain] using p2)]
        exact q _ F H (Grow.refl sub) (.bl _)
      · rw [if_neg h] at e
        cases dx <;> try (cases e; done)
        by_cases h2 : ds.all isDic = true
        · have e : (if ds.all isDic = true then some (D.bl false) else none) = some z := e
          rw [if_pos h2] at e; cases e
          cases rx
          cases ry with
          | lst hl r => exact .inr (.inr ⟨rfl, _, _, rfl, SqL.of (sub _ _ hl), dics_ref sub r h2, q _ F H (Grow.refl sub) (.bl _)⟩)
        · have e : (if ds.all isDic = true then some (D.bl false) else none) = some z := e
          rw [if_neg h2] at e; cases e
section
variable {X : Cx} {W : WX} {pos : Pos} {a b : Expr} {ma mb : M D}
theorem se_inX {j : Nat} (hr : Room j X.A) (ha : SE X W a ma) (hb : SE X W b mb) (hm : behindInMarks .In b = false := by rfl) : SE X W (.Compare a [.In] [b] pos) (m2 dInX ma mb) := se_cmp (op_inX hr) od_inX ha hb hm
theorem st_inX {j : Nat} (hr : Room j X.A) (ha : SE X W a ma) (hb : SE X W b mb) (hm : behindInMarks .In b = false := by rfl) : ST X W (.Compare a [.In] [b] pos) (mB (m2 dInX ma mb)) := st_cmp (op_inX hr) od_inX ha hb hm
end
end FX

/-! FXEnum: enumerate of a tuple -/
namespace FX
open PySem L2
open PySem.Sem (wp)
open PySem.Spec PyProof.Rows
open AutoSeq1 (wpAny_loadPart')
theorem meets_enumT (l : Addr) (items : Array Value) :
    Meets (Builtin.«enumerate.__new__» ⟨[.type "enumerate", .ref l], []⟩) (fun _ R s => s.heap.IsTuple l items ∧
      R (.ok (.ret (.ref (s.heap.push { cls := .type "tuple_iterator", data := .fields #[.ref l, .int 0 0] }).objs.size)))
        { s with heap := (s.heap.push { cls := .type "tuple_iterator", data := .fields #[.ref l, .int 0 0] }).push { cls := .type "enumerate", data := .fields #[.none, .bool false, .ref s.heap.objs.size, rawInt 0, .none, .none] } }) :=
  .of_wp fun prog w A R s h => by
    obtain ⟨hp, g, d, tk, os⟩ := s
    obtain ⟨hL, h⟩ := h
    have hsub := sub_enumerate
    have hL : Heap.IsTuple (Shared.heap ⟨hp, g, d, tk, os⟩) l items := hL
    wp_walk
    refine wpAny_stack_any fun st => wpAny_pure ?_
    split
    · rename_i c _ _ _ _ _
      cases (c == Value.type "enumerate")
      · wp_walk using wpAny_pyIter_tuple hL
        exact ⟨_, rfl, h⟩
      · wp_walk using wpAny_pyIter_tuple hL
        exact ⟨_, rfl, h⟩
    · wp_walk using wpAny_pyIter_tuple hL
      exact ⟨_, rfl, h⟩
section
variable {prog : Program} {w : World} {A : Around} {E : Value → Shared → Prop} {s : Shared}
theorem call_enumT {l : Addr} {items : Array Value} {Q : Value → Shared → Prop} (hL : s.heap.IsTuple l items)
    (h : ∀ h', IsEnum h' (s.heap.objs.size + 1) s.heap.objs.size 0 .none → h'.IsTupleIter s.heap.objs.size l 0 → (∀ b o, s.heap.get? b = some o → h'.get? b = some o) → Q (.ref (s.heap.objs.size + 1)) { s with heap := h' }) :
    wpAny (model prog w) A (call (.type "enumerate") [.ref l]) Q E s := by
  refine callType_new F.called_enumerate (by decide) (F.typeCall_enumerate_1 _) (F.newCall_enumerate_1 _) (fun obj => F.args_object_init_2 obj _) F.entry_enumerate_new (meets_enumT l items) ⟨hL, ?_⟩
  have hz : (s.heap.push { cls := .type "tuple_iterator", data := .fields #[.ref l, .int 0 0] }).objs.size = s.heap.objs.size + 1 := Heap.size_push ..
  show _ ∧ _
  rw [hz]
  have he : IsEnum ((s.heap.push { cls := .type "tuple_iterator", data := .fields #[.ref l, .int 0 0] }).push
      { cls := .type "enumerate", data := .fields #[.none, .bool false, .ref s.heap.objs.size, rawInt 0, .none, .none] }) (s.heap.objs.size + 1) s.heap.objs.size 0 .none := by
    have := Heap.get?_push_size (s.heap.push { cls := .type "tuple_iterator", data := .fields #[.ref l, .int 0 0] })
      (o := { cls := .type "enumerate", data := .fields #[.none, .bool false, .ref s.heap.objs.size, rawInt 0, .none, .none] }) rfl
    rw [hz] at this; exact this
  exact ⟨⟨_, he, rfl⟩, h _ he ⟨_, Heap.get?_push_of_some _ (Heap.get?_push_size _ rfl), rfl, rfl⟩ fun b o x => Heap.get?_push_of_some _ (Heap.get?_push_of_some _ x)⟩
end
/-- the tuple at a, each item in a new pair -/
def ItET (K : PySem.W.Frag) (a : Addr) : It :=
  ⟨fun i H => ∃ (xs : List V) (x : V), SqT K H a xs ∧ xs[i]? = some x, fun i H v H' => ∃ T x, v = .ref T ∧ H T = none ∧ H' = upd H T (.tup [.int (i : Nat), x]) ∧ ∀ xs, SqT K H a xs → xs[i]? = some x, fun i H => ∃ xs : List V, SqT K H a xs ∧ xs.length = i⟩
theorem apart_tup {h : Heap} {a e it : Addr} {items : Array Value} {i : Nat} {c : Int} {old : Value} (ht : h.IsTuple a items) (hi : h.IsTupleIter it a i) (he : IsEnum h e it c old) : a ≠ it ∧ e ∉ [it, a] ∧ e ≠ it := by
  obtain ⟨o, ho, hc, _⟩ := ht
  obtain ⟨o', ho', hc', _⟩ := hi
  have h1 : a ≠ it := fun z => by subst z; rw [ho] at ho'; cases ho'; rw [hc] at hc'; exact absurd hc' (by decide)
  have h2 : e ≠ it := fun z => by subst z; rw [he] at ho'; cases ho'; exact absurd (show Value.type "enumerate" = .type "tuple_iterator" from hc') (by decide)
  have h3 : e ≠ a := fun z => by subst z; rw [he] at ho; cases ho; exact absurd (show Value.type "enumerate" = .type "tuple" from hc) (by decide)
  exact ⟨h1, by simp [h2, h3], h2⟩
theorem turn_ET {P : Program} {w : World} {K : PySem.W.Frag} {elts : List Expr} {kk : Nat} {tpos : Pos} (a e it : Addr) :
    Turn P w K (.Tuple elts kk tpos) (ItET K a) [e, it] e (fun i h => (∃ old, IsEnum h e it ((i : Nat) : Int) old) ∧ h.IsTupleIter it a i) where
  mem := by simp
  obj := fun i h st b hb => by
    obtain ⟨⟨old, he⟩, ⟨o, ho, hc, hd⟩⟩ := st
    have e' : b = e ∨ b = it := by simpa using hb
    rcases e' with z | z
    · rw [z]; exact ⟨_, he, fun v q => nomatch q⟩
    · rw [z]; exact ⟨o, ho, fun v q => by rw [hd] at q; cases q⟩
  keep := fun i h h' st k => let ⟨⟨old, he⟩, hi⟩ := st; ⟨⟨old, k e (by simp) _ he⟩, hi.at fun o q => k it (by simp) o q⟩
  item := by
    intro X hP hw hK hc i pins s σ H E I hf st hg
    subst hP hw hK
    obtain ⟨⟨old, he⟩, hit⟩ := st
    obtain ⟨xs, x, hq, hx⟩ := hg
    obtain ⟨its, rv, p, hz⟩ := I.tuple hq
    have p : s.heap.IsTuple a its.toArray := p
    obtain ⟨u, hu, ru⟩ := rv.get hx
    have hel : e < s.heap.objs.size := Heap.lt_size he
    have hil : it < s.heap.objs.size := by obtain ⟨_, q, _⟩ := hit; exact Heap.lt_size q
    obtain ⟨n1, n2, n3⟩ := apart_tup p hit he
    have hlt : i < its.toArray.size := by
      have := (List.getElem?_eq_some_iff.mp hu).1
      simpa using this
    refine wpAny_pyNext_enum_itemD (Draws.tuple (A := X.A.in1) (I.ok.hd hc) it a n1 its.toArray) he ⟨hit, p⟩ hlt n3 n2 fun y h' tk hy ho hit' hT hsz hk => ?_
    have ey : y = u := by
      have hy : its.toArray[i]? = some y := hy
      have : its.toArray[i]? = some u := by simpa using hu
      rw [this] at hy; cases hy; rfl
    subst ey
    refine ⟨_, rfl, wpAny_letOwnedTupleGo_enum (s := { s with heap := h', toks := tk + 1 }) ho fun h'' he' sb => ?_⟩
    have hT2 : h''.get? s.heap.objs.size = some { cls := .type "tuple", data := .seq #[.int i tk, y] } := (sb.2 _ (Nat.ne_of_gt hel)).trans hT
    have new : ObjOk X.prog X.w (upd H s.heap.objs.size (.tup [.int (i : Nat), x])) h'' s.heap.objs.size (.tup [.int (i : Nat), x]) :=
      ⟨by show 2 ≤ sizeLine; decide, [.int i tk, y], .cons ⟨_, rfl⟩ (.cons ru .nil), ⟨_, hT2, rfl, _, rfl⟩⟩
    have I1 : Inv X pins σ (upd H s.heap.objs.size (.tup [.int (i : Nat), x])) { s with heap := h'', toks := tk + 1 } :=
      I.turnedNew (ch := [e, it]) (fun b ob hb q => (sb.2 b (fun z => hb (by simp [z]))).trans (hk b ob (fun z => hb (by simp [z])) (fun z => hb (by simp [z])) q)) hf (Nat.le_refl _) new
    refine ⟨.ref s.heap.objs.size, _, I1, rfl, ⟨_, x, rfl, I.hok.fresh (Nat.le_refl _), rfl, fun ys hy => by rw [I.tuple_inj hy hq]; exact hx⟩, ⟨⟨y, ?_⟩, hit'.1.at fun o q => (sb.2 it (Ne.symm n3)).trans q⟩, fun b hb => ?_⟩
    · have e1 : ((i + 1 : Nat) : Int) = (i : Int) + 1 := by omega
      rw [e1]; exact he'
    · have hb' : b < s.heap.objs.size := by
        have e' : b = e ∨ b = it := by simpa using hb
        rcases e' with z | z
        · rw [z]; exact hel
        · rw [z]; exact hil
      rw [upd_ne (Nat.ne_of_lt hb')]
      exact (hf b hb).1
  done := by
    intro X hP hw hK hc i pins s σ H E I hf st hg
    subst hP hw hK
    obtain ⟨⟨old, he⟩, hit⟩ := st
    obtain ⟨xs, hq, hx⟩ := hg
    obtain ⟨its, rv, p, hz⟩ := I.tuple hq
    have p : s.heap.IsTuple a its.toArray := p
    obtain ⟨n1, n2, n3⟩ := apart_tup p hit he
    obtain ⟨f0, f1, f2, f3, f4, f5⟩ := hf it (by simp)
    have hl := rv.length
    have en : its.toArray.size = i := by simp; omega
    refine wpAny_pyNext_enum_endD (Draws.tuple (A := X.A.in1) (I.ok.hd hc) it a n1 its.toArray) he (by rw [en]; exact ⟨hit, p⟩) fun h' eb => ⟨rfl, I.turned (t' := s.toks) (fun b o hb q => eb b o hb q) f0 f1 f3 f4 f5⟩
  self := fun A i s Q E st h => let ⟨⟨_, he⟩, _⟩ := st; wpAny_pyIter_enum he h
def iET (K : PySem.W.Frag) (ta : TA) : TI := fun σ H R => ta σ H fun vs H1 => ∃ a xs, vs = [.ref a] ∧ SqT K H1 a xs ∧ R (ItET K a) H1
theorem pi_ET {X : Cx} {e : Expr} {ta : TA} {p pos tpos : Pos} {elts : List Expr} {kk : Nat} (hg : Gl X "enumerate") (hm : X.mg "enumerate" = none) (ha : PA X [e] ta) (hs : starEach [e] X.env = [(false, eval e X.env)] := by rfl) :
    PI X (.Tuple elts kk tpos) (.Call (.Name "enumerate" p) [e] [] pos) (iET X.K ta) := by
  refine ⟨fun pins s σ H R I h => ?_⟩
  refine Call_ (ld_blt I hg hm boot_enumerate (PyProof.Rows.callWith_type1 (thn (ha.run pos pins s σ H _ I h) fun us s1 ⟨vs, H1, I1, r1, q1⟩ => ?_) hs rfl))
  obtain ⟨a, xs, ex, hq, q⟩ := q1
  subst ex
  cases r1 with
  | cons r rr =>
    cases rr
    cases r
    obtain ⟨its, rv, p', hz⟩ := I1.tuple hq
    have p' : s1.heap.IsTuple a its.toArray := p'
    refine call_enumT p' fun h' he hit hk => wpAny_pyIter_enum he ?_
    have I2 : Inv X pins σ H1 { s1 with heap := h' } := I1.kept (t' := s1.toks) hk
    refine ⟨s1.heap.objs.size + 1, [s1.heap.objs.size + 1, s1.heap.objs.size], _, _, H1, rfl, I2, turn_ET a (s1.heap.objs.size + 1) s1.heap.objs.size, ⟨⟨.none, he⟩, hit⟩, fun b hb => ?_, q⟩
    have e' : b = s1.heap.objs.size + 1 ∨ b = s1.heap.objs.size := by simpa using hb
    have hle : s1.heap.objs.size ≤ b := by
      rcases e' with z | z
      · rw [z]; exact Nat.le_add_right _ _
      · rw [z]; exact Nat.le_refl _
    exact I1.fpOk hle (I1.hok.fresh hle)
/-- the items with their places -/
def enumD : Nat → List D → List D
  | _, [] => []
  | n, d :: l => .tup [.int (n : Nat), d] :: enumD (n + 1) l
theorem enumD_length : ∀ (n : Nat) (l : List D), (enumD n l).length = l.length
  | _, [] => rfl
  | n, d :: l => by simp [enumD, enumD_length (n + 1) l]
theorem enumD_get : ∀ {l : List D} {n i : Nat} {d : D}, l[i]? = some d → (enumD n l)[i]? = some (.tup [.int ((n + i : Nat) : Int), d])
  | [], _, _, _, h => by simp at h
  | x :: l, n, 0, d, h => by simp at h; subst h; simp [enumD]
  | x :: l, n, i + 1, d, h => by
    have h : l[i]? = some d := by simpa using h
    have := enumD_get (n := n + 1) h
    simp only [enumD, List.getElem?_cons_succ, this]
    have e : n + 1 + i = n + (i + 1) := by omega
    rw [e]
def mEnumT (m : M (List D)) : M (List D) := mbind m fun ds => match ds with
  | [.tup a] => mpure (enumD 0 a)
  | _ => mno
theorem si_enumT {X : Cx} {W : WX} {elts : List Expr} {kk : Nat} {e : Expr} {m : M (List D)} {p pos tpos : Pos} (h : SA X W [e] m) (hm : X.mg "enumerate" = none) (hg : Gl X "enumerate" := by rfl)
    (hs : starEach [e] X.env = [(false, eval e X.env)] := by rfl) : SI X W (.Tuple elts kk tpos) (.Call (.Name "enumerate" p) [e] [] pos) (mEnumT m) :=
  PI_imp (pi_ET hg hm h hs) fun σ H Q ⟨Hb, Fb, kb, k, F, s, ok, h⟩ =>
  ⟨Hb, Fb, kb, k, F, s, ok, h.bind.imp fun ds s1 F1 k1 H1 e1 p1 ok1 h1 vs rvs => by
    cases rvs with
    | nil => exact h1.elim
    | cons ra rr =>
      cases rr with
      | cons _ _ => cases ra <;> exact h1.elim
      | nil =>
        cases ra <;> try (exact h1.elim)
        case tup a xs ds ha r =>
          refine ⟨a, xs, rfl, Evl.ex_t ok1.bs.sub ha, h1 H1 F1 k1 (Evl.Ex.refl _) (List.prefix_refl _) ok1 _ fun F' H' k' e p sub => ?_⟩
          have qa : SqT X.K H' a xs := Evl.ex_t (e.trans sub) ha
          rw [enumD_length]
          refine ⟨fun i hi => ?_, ⟨xs, qa, by rw [r.length]⟩, fun i v H2 hi y => ?_⟩
          · have h1 : i < xs.length := by rw [r.length]; omega
            exact ⟨xs, xs[i], qa, List.getElem?_eq_getElem h1⟩
          · obtain ⟨T, x, rfl, nT, rfl, fx⟩ := y
            obtain ⟨d, hd, rd⟩ := r.get (fx xs qa)
            have gr := Grow.one (o := .tup [.int (i : Nat), x]) sub nT
            refine ⟨_, .tup [.int (i : Nat), d], gr, ?_, .tup (.inl (.inl upd_same)) (.cons (.int _) (.cons (rd.mono (e.trans gr.ff) p) .nil))⟩
            have := enumD_get (n := 0) hd
            rw [Nat.zero_add] at this
            exact this⟩
end FX

/-! FXSortI: sorted(list of ints) -/
namespace FX
open PySem L2
def intsD : List D → Option (List Int)
  | [] => some []
  | .int i :: l => (intsD l).map fun r => i :: r
  | _ => none
theorem intsD_eq : ∀ {l : List D} {ns : List Int}, intsD l = some ns → l = ns.map D.int
  | [], ns, h => by cases h; rfl
  | x :: l, ns, h => by
    cases x <;> try (cases h; done)
    case int i =>
      have h : (intsD l).map (fun r => i :: r) = some ns := h
      cases e : intsD l with
      | none => rw [e] at h; cases h
      | some r => rw [e] at h; cases h; rw [intsD_eq e]; rfl
theorem intsD_map : ∀ ns : List Int, intsD (ns.map D.int) = some ns
  | [] => rfl
  | i :: l => by
    show (intsD (l.map D.int)).map (fun r => i :: r) = _
    rw [intsD_map l]; rfl
def sortI (ns : List Int) : List Int := ns.mergeSort fun a b => decide (a ≤ b)
theorem sortI_sorted (ns : List Int) : (sortI ns).Pairwise (· ≤ ·) := by
  have := List.pairwise_mergeSort (le := fun a b : Int => decide (a ≤ b)) (fun a b c h1 h2 => by simp at *; omega) (fun a b => by simp; omega) ns
  exact this.imp fun h => by simpa using h
theorem sortI_perm (ns : List Int) : (sortI ns).Perm ns := List.mergeSort_perm ns _
theorem sorted_uniq : ∀ {a b : List Int}, a.Perm b → a.Pairwise (· ≤ ·) → b.Pairwise (· ≤ ·) → a = b
  | [], b, p, _, _ => (List.nil_perm.mp p).symm
  | x :: a, [], p, _, _ => absurd p.length_eq (by simp)
  | x :: a, y :: b, p, h1, h2 => by
    rw [List.pairwise_cons] at h1 h2
    have e : x = y := by
      have m1 : x ∈ y :: b := p.mem_iff.mp List.mem_cons_self
      have m2 : y ∈ x :: a := p.mem_iff.mpr List.mem_cons_self
      rcases List.mem_cons.mp m1 with z | z
      · exact z
      · rcases List.mem_cons.mp m2 with w | w
        · exact w.symm
        · have := h2.1 x z
          have := h1.1 y w
          omega
    subst e
    rw [sorted_uniq (List.perm_cons x |>.mp p) h1.2 h2.2]
def dSortI : List D → Option D
  | [.lst l] => (intsD l).map fun ns => .lst ((sortI ns).map D.int)
  | _ => none
section
variable {B : Sb} {F : Hp} {k : List Addr}
theorem RepL.toInts : ∀ {xs : List V} {ns : List Int}, RepL B F k xs (ns.map D.int) → xs = ns.map V.int
  | _, [], .nil => rfl
  | _, n :: ns, .cons h r => by
    cases h
    rw [RepL.toInts r]; rfl
theorem RepL.ofInts : ∀ ns : List Int, RepL B F k (ns.map V.int) (ns.map D.int)
  | [] => .nil
  | n :: ns => .cons (.int n) (RepL.ofInts ns)
end
theorem cd_sortI {B : Sb} : CallD B (rSortedI B.K) dSortI := fun F k H xs ds z Q sub rx e q => by
  cases rx with
  | nil => cases e
  | cons h r =>
    cases r with
    | cons _ _ => cases h <;> cases e
    | nil =>
      cases h <;> try (cases e; done)
      case lst a xs ds h r =>
        have e : (intsD ds).map (fun ns => D.lst ((sortI ns).map D.int)) = some z := e
        cases ei : intsD ds with
        | none => rw [ei] at e; cases e
        | some ns =>
          rw [ei] at e
          cases e
          have := intsD_eq ei
          subst this
          have := r.toInts
          subst this
          refine ⟨a, ns, rfl, SqL.of (sub _ _ h), fun ns' p pm st hp => ?_⟩
          have : ns' = sortI ns := sorted_uniq (pm.trans (sortI_perm ns).symm) st (sortI_sorted ns)
          subst this
          exact q _ _ _ (Grow.one sub hp) (.lst upd_same (RepL.ofInts _))
section
variable {X : Cx} {W : WX} {pos p : Pos} {e : Expr} {ma : M (List D)}
theorem se_sortI (ha : SA X W [e] ma) (hm : X.mg "sorted" = none) (hg : Gl X "sorted" := by rfl) (he : starEach [e] X.env = [(false, eval e X.env)] := by rfl) : SE X W (.Call (.Name "sorted" p) [e] [] pos) (mCall dSortI ma) :=
  se_callB cr_sortedI cd_sortI hm (by decide +kernel) ha hg (by decide) (by decide) he rfl
end
end FX

/-! FXRg: list(range(n)) -/
namespace FX
open PySem L2
def rgD (n : Int) : List D := (List.range n.toNat).map fun i => D.int (i : Nat)
def dListRg : D → Option D
  | .int n => if -1000 ≤ n ∧ n ≤ 1000000 then some (.lst (rgD n)) else none
  | _ => none
theorem rg_rep {B : Sb} {F : Hp} {k : List Addr} (n : Int) : RepL B F k (rgV 0 n) (rgD n) := by
  unfold rgV rgD
  rw [Int.sub_zero]
  have : ∀ l : List Nat, RepL B F k (l.map fun i => V.int (0 + (i : Nat))) (l.map fun i => D.int (i : Nat)) := fun l => by
    induction l with
    | nil => exact .nil
    | cons x l ih =>
      have e : (0 : Int) + (x : Nat) = (x : Nat) := by omega
      rw [List.map_cons, List.map_cons, e]
      exact .cons (.int _) ih
  exact this _
theorem se_listRg {X : Cx} {W : WX} {e : Expr} {m : M D} {p p2 pos q : Pos} (he : SE X W e m) (hm : X.mg "list" = none) (hm2 : X.mg "range" = none) (hg : Gl X "list" := by rfl) (hg2 : Gl X "range" := by rfl) (hc : X.calm = true := by rfl)
    (na : starEach [e] X.env = (false, eval e X.env) :: starEach [] X.env := by rfl) (nb : starEach [Expr.Call (.Name "range" p2) [e] [] q] X.env = (false, eval (Expr.Call (.Name "range" p2) [e] [] q) X.env) :: starEach [] X.env := by rfl) :
    SE X W (.Call (.Name "list" p) [.Call (.Name "range" p2) [e] [] q] [] pos) (m1 dListRg m) := PE_imp (pe_listRg hc hg hm (prg_1 hg2 hm2 he na) nb) fun σ H Q ⟨Hb, Fb, kb, k, F, s, ok, h⟩ =>
  ⟨Hb, Fb, kb, k, F, s, ok, h.bind.imp fun dx s1 F1 k1 H1 e1 p1 ok1 h1 v rv => by
    cases rv <;> try (exact h1.elim)
    case int n =>
      by_cases c : -1000 ≤ n ∧ n ≤ 1000000
      · have e : dListRg (.int n) = some (.lst (rgD n)) := if_pos c
        rw [e] at h1
        refine ⟨n, rfl, ⟨by omega, by omega, by omega, by omega, by omega⟩, fun q hq => ?_⟩
        have gr := Grow.one (o := .lst (rgV 0 n)) ok1.bs.sub hq
        exact h1 _ _ k1 gr.ff (List.prefix_refl _) (ok1.grow gr) _ (.lst upd_same (rg_rep n))
      · have e : dListRg (.int n) = none := if_neg c
        rw [e] at h1
        exact h1.elim⟩
end FX

/-! FXSI: sorted(set(told)) of a list of rising ints -/
namespace FX
open PySem PySem.Spec PyProof.Rows L2
section
variable {P : Program} {w : World} {A : Around} {E : Value → Shared → Prop} {s : Shared}
theorem call_setI {l : Addr} {items : Array Value} (ns : List Int) {Q : Value → Shared → Prop} (hh : A.handled = none) (hl : s.heap.IsList l items) (hlen : items.size = ns.length) (hit : ∀ (i : Nat) (v : Value), items[i]? = some v → ∃ k t, ns[i]? = some k ∧ v = .int k t) (hfew : ns.length + 1 < scanBound)
    (h : ∀ (h' : Heap) (tk c : Nat), SetR w h' s.heap.objs.size (fun j => decide (j ∈ ns)) c → c ≤ ns.length → (∀ b o, s.heap.get? b = some o → h'.get? b = some o) → Q (.ref s.heap.objs.size) { s with heap := h', toks := tk }) :
    wpAny (model P w) A (call (.type "set") [.ref l]) Q E s := by
  obtain ⟨c, tl, mro⟩ := F.called_set.mro
  have made := F.called_set.made
  have su := F.called_set.sub
  refine wpAny_call (codeAny_of_tree ?_)
  show wpAny _ _ (callAny (.type "set") _) _ _ _
  refine wpAny_pure ⟨Code.quiet_builtin _ (by decide +kernel), codeAny_builtin F.entry_type_call ?_⟩
  rw [Around.under_plain (weight_type_call_type "set" [.ref l] []) rfl]
  have q1 := F.called_set.notType
  have q2 := F.called_set.canCreate
  have q3 := PySem.F.typeCall_set_1 (.ref l)
  repeat (any_goals (first | assumption | wp_step))
  refine codeAny_mono (code_set_led1 (.ref l) (E := E) (Q₁ := fun v t => v = .ref s.heap.objs.size ∧ t = { s with heap := s.heap.push (emptyO w) }) ⟨rfl, rfl⟩) fun r t hr => ?_
  cases r with
  | error e => exact hr
  | ok fl =>
    cases fl with
    | ret obj =>
      obtain ⟨rfl, rfl⟩ := hr
      have at0 : (s.heap.push (emptyO w)).get? s.heap.objs.size = some (emptyO w) := Heap.get?_push_size _ rfl
      have ty0 : Shared.TypeIs { s with heap := s.heap.push (emptyO w) } (.ref s.heap.objs.size) "set" := ⟨_, at0, rfl⟩
      have q4 := F.called_set.init.lookup
      have q5 := F.called_set.init.bind (.ref s.heap.objs.size)
      repeat (any_goals (first | assumption | wp_step))
      refine codeAny_mono (codeAny_call_builtin (R := wants (fun v t => v = .none ∧ ∃ h' tk c, t = { s with heap := h', toks := tk } ∧ SetR w h' s.heap.objs.size (fun j => decide (j ∈ ns)) c ∧ c ≤ ns.length ∧ ∀ b o, s.heap.get? b = some o → h'.get? b = some o) E) F.called_set.init.plain F.entry_set_init (check_set_init_1 ty0 ?_)) fun r2 t2 hr2 => ?_
      · obtain ⟨ol, hol, hcl, nl, hdl⟩ := hl
        obtain ⟨ocls, odict, odata, oslots⟩ := ol
        simp only at hcl hdl
        subst hcl; subst hdl
        have q6 := PySem.F.sub_list_set
        have q7 := PySem.F.sub_list_frozenset
        have q8 : (Value.type "list" == Value.type "dict") = false := by decide
        have at1 : (s.heap.push (emptyO w)).get? l = some { cls := .type "list", dict := odict, data := .seq items nl, slots := oslots } := Heap.get?_push_of_some _ hol
        have li1 : (s.heap.push (emptyO w)).IsList l items := ⟨_, at1, rfl, nl, rfl⟩
        unfold Builtin.«set.__init__» noKeywords Builtin.Frozenset.updateFrom
        generalize hPI : pyIter = PI
        wp_walk
        subst hPI
        refine wpAny_pyIter_list li1 ?_
        refine wpAny_bind (wpAny_runValue ?_)
        have lt0 : l < s.heap.objs.size := Heap.lt_size hol
        have sz1 : (s.heap.push (emptyO w)).objs.size = s.heap.objs.size + 1 := Heap.size_push ..
        have ne1 : l ≠ (s.heap.push (emptyO w)).objs.size := by rw [sz1]; exact Nat.ne_of_lt (Nat.lt_succ_of_lt lt0)
        have no0 : ∀ b, s.heap.objs.size ≤ b → s.heap.get? b = none := fun b hb => by
          cases q : s.heap.get? b with
          | none => rfl
          | some o => exact absurd (Nat.lt_of_lt_of_le (Heap.lt_size q) hb) (Nat.lt_irrefl _)
        have hSf : s.heap.objs.size ∉ [(s.heap.push (emptyO w)).objs.size, l] := by
          rw [sz1]; intro z
          rcases List.mem_cons.mp z with z | z
          · exact absurd z (Nat.ne_of_lt (Nat.lt_succ_self _))
          · exact absurd (List.mem_singleton.mp z) (Nat.ne_of_gt lt0)
        refine set_update_ints ((Walks.list (by simp [hh]) _ l ne1 items).toS) s.heap.objs.size hSf ns hlen hfew hit (items.size - 0) 0 _ (by omega) (Nat.zero_le _) ⟨⟨_, Heap.get?_push_size _ rfl, rfl, rfl⟩, (li1.push _)⟩ ?start ?fin
        case start => exact ⟨0, Nat.le_refl 0, setR_new_at (Heap.get?_push_of_some _ at0)⟩
        case fin =>
          intro s1 c1 mv hc1 T
          rw [hlen] at hc1
          obtain ⟨h1, g1, d1, k1, o1⟩ := s1
          have e1 : g1 = s.gens := mv.gens
          have e2 : d1 = s.drawn := mv.drawn
          have e3 : o1 = s.os := mv.os
          subst e1; subst e2; subst e3
          show wpAny _ _ _ _ _ _
          refine wpAny_pure ?_
          show wpAny _ _ (ret Value.none) _ _ _
          refine wpAny_pure ⟨rfl, h1, k1, c1, rfl, T, hc1, fun b o e => mv.heap b o (fun z => ?_) (Heap.get?_push_of_some _ (Heap.get?_push_of_some _ e))⟩
          have hb := Heap.lt_size e
          rcases List.mem_cons.mp z with z | z
          · exact absurd z (Nat.ne_of_lt hb)
          · rw [sz1] at z
            exact absurd (List.mem_singleton.mp z) (Nat.ne_of_lt (Nat.lt_succ_of_lt hb))
      · cases r2 with
        | error e => exact hr2
        | ok fl2 =>
          cases fl2 with
          | ret v =>
            obtain ⟨rfl, h1, k1, c1, rfl, T, hc1, kp⟩ := hr2
            repeat (any_goals (first | assumption | wp_step))
            exact h _ _ _ T hc1 kp
          | _ => exact hr2.elim
    | _ => exact hr.elim
end
theorem rising_eq {a b : List Int} (h1 : a.Pairwise (· < ·)) (h2 : b.Pairwise (· < ·)) (h : ∀ k, k ∈ a ↔ k ∈ b) : a = b := by
  have nd : ∀ {l : List Int}, l.Pairwise (· < ·) → l.Nodup := fun h => h.imp fun {a b} q e => by omega
  exact sorted_uniq ((List.perm_ext_iff_of_nodup (nd h1) (nd h2)).mpr h) (h1.imp fun q => by omega) (h2.imp fun q => by omega)
def dSortSetI : D → Option D
  | .lst l => (intsD l).bind fun ns => if ns.Pairwise (· < ·) ∧ ns.length < 60 then some (.lst l) else none
  | _ => none
def tSortSetI (K : PySem.W.Frag) (ta : TE) : TE := fun σ H Q => ta σ H fun x H1 => ∃ (l : Addr) (ns : List Int), x = V.ref l ∧ SqL K H1 l (ns.map V.int) ∧ ns.Pairwise (· < ·) ∧ ns.length < 60 ∧ ∀ p, H1 p = none → Q (.ref p) (upd H1 p (.lst (ns.map V.int)))
theorem vals_int : ∀ {ns : List Int} {us : List Value}, Vals (ns.map V.int) us → us.length = ns.length ∧ ∀ (i : Nat) (v : Value), us[i]? = some v → ∃ k t, ns[i]? = some k ∧ v = .int k t
  | [], _, .nil => ⟨rfl, fun i v h => by simp at h⟩
  | n :: ns, _, .cons r t => by
    obtain ⟨l, f⟩ := vals_int t
    obtain ⟨tk, rfl⟩ := r
    refine ⟨by simp [l], fun i v h => ?_⟩
    cases i with
    | zero => simp at h; exact ⟨n, tk, rfl, h.symm⟩
    | succ i => simp at h; obtain ⟨k, t, a, b⟩ := f i v h; exact ⟨k, t, by simpa using a, b⟩
theorem pe_sortSetI {X : Cx} {a : Expr} {ta : TE} {p p2 q pos : Pos} (hc : X.calm = true) (hg : Gl X "sorted") (hm : X.mg "sorted" = none) (hg2 : Gl X "set") (hm2 : X.mg "set" = none) (ha : PE X a ta)
    (na : starEach [a] X.env = (false, eval a X.env) :: starEach [] X.env := by rfl) : PE X (.Call (.Name "sorted" p) [.Call (.Name "set" p2) [a] [] q] [] pos) (tSortSetI X.K ta) := by
  refine ⟨fun pins s σ H Q I h => ?_⟩
  refine Call_ (ld_blt I hg hm PyProof.Rows.boot_sorted (PyProof.Rows.callWith_builtin1 (PyProof.Rows.args_cons ?_ rfl) rfl rfl))
  refine Call_ (ld_blt I hg2 hm2 PyProof.Rows.boot_set (PyProof.Rows.callWith_type1 (PyProof.Rows.args_cons (thn (ha.run pins s σ H _ I h) fun v s1 ⟨x, H1, I1, r1, q1⟩ => PyProof.Rows.args_nil ?_) na) na rfl))
  obtain ⟨l, ns, rfl, hq, hp, h1, q1⟩ := q1
  cases r1
  obtain ⟨its, r, pl, hz⟩ := I1.list hq
  obtain ⟨vl, vi⟩ := vals_int r
  refine call_setI ns (I1.ok.hd hc) pl.isList (by rw [List.size_toArray]; exact vl) (fun i v e => vi i v (by simpa using e)) (by unfold scanBound; omega) fun h' tk c T hcl kp => PyProof.Rows.args_nil ?_
  have I2 : Inv X pins σ H1 { s1 with heap := h', toks := tk } := I1.kept kp
  refine sorted_set (s := { s1 with heap := h', toks := tk }) T (I1.ok.hd hc) (by omega) fun s' b out c ns' k g o hb hg hi hs hm hl => ?_
  have e : ns' = ns := rising_eq hs hp fun k => by rw [hm k]; simp
  subst e
  have hlen : (ns'.map V.int).length ≤ sizeLine := by rw [List.length_map, sizeLine_eq]; omega
  have hn : H1 b = none := I2.hok.fresh hb
  have J := I2.call (ch := []) (h' := s'.heap) (g' := s'.gens) (d' := s'.drawn) (t' := s'.toks) (Un.laid k hb hn) (I2.hok.laid (o := .lst (ns'.map V.int)) k hb ⟨hlen, out.toList, c, vals_of_ints hi, hg⟩) (by rw [g]; exact I2.bare) (fun _ z => nomatch z)
  have e : s' = { ({ s1 with heap := h', toks := tk } : Shared) with heap := s'.heap, gens := s'.gens, drawn := s'.drawn, toks := s'.toks } := by
    cases s'
    cases o
    rfl
  rw [e]
  exact ⟨.ref b, _, J, rfl, q1 b hn⟩
theorem se_sortSetI {X : Cx} {W : WX} {e : Expr} {m : M D} {p p2 q pos : Pos} (he : SE X W e m) (hm : X.mg "sorted" = none) (hm2 : X.mg "set" = none) (hg : Gl X "sorted" := by rfl) (hg2 : Gl X "set" := by rfl) (hc : X.calm = true := by rfl)
    (na : starEach [e] X.env = (false, eval e X.env) :: starEach [] X.env := by rfl) :
    SE X W (.Call (.Name "sorted" p) [.Call (.Name "set" p2) [e] [] q] [] pos) (m1 dSortSetI m) := PE_imp (pe_sortSetI hc hg hm hg2 hm2 he na) fun σ H Q ⟨Hb, Fb, kb, k, F, s, ok, h⟩ =>
  ⟨Hb, Fb, kb, k, F, s, ok, h.bind.imp fun dx s1 F1 k1 H1 e1 p1 ok1 h1 v rv => by
    cases rv <;> try (exact h1.elim)
    case lst a xs ds hl r =>
      cases ei : intsD ds with
      | none =>
        have e : dSortSetI (.lst ds) = none := by unfold dSortSetI; dsimp only; rw [ei]; rfl
        rw [e] at h1; exact h1.elim
      | some ns =>
        by_cases c : ns.Pairwise (· < ·) ∧ ns.length < 60
        · have e : dSortSetI (.lst ds) = some (.lst ds) := by unfold dSortSetI; dsimp only; rw [ei]; exact if_pos c
          rw [e] at h1
          have := intsD_eq ei
          subst this
          have := r.toInts
          subst this
          refine ⟨a, ns, rfl, SqL.of (ok1.bs.sub _ _ hl), c.1, c.2, fun q hq => ?_⟩
          have gr := Grow.one (o := .lst (ns.map V.int)) ok1.bs.sub hq
          exact h1 _ _ k1 gr.ff (List.prefix_refl _) (ok1.grow gr) _ (.lst upd_same (RepL.ofInts _))
        · have e : dSortSetI (.lst ds) = none := by unfold dSortSetI; dsimp only; rw [ei]; exact if_neg c
          rw [e] at h1; exact h1.elim⟩
end FX

/-! FXSw: an own list: places read and set; list(x) as an own list -/
namespace FX
open PySem L2
def gOwn (i : Nat) (mi : M D) : D → M Unit := fun d s => match ownL s i with
  | none => .no
  | some _ => (match mi s with
    | .ok y s' => (match ownL s' i, y with
      | some l, .int j => (match ixN l.length j with
        | some jj => .ok () (setO i (.lst (l.set jj d)) s')
        | none => .no)
      | _, _ => .no)
    | _ => .no)
def mIxO (i : Nat) (mi : M D) : M D := fun s => match ownL s i with
  | none => .no
  | some _ => mbind mi (fun y s' => match ownL s' i, y with
    | some l, .int j => mopt (atI l j) s'
    | _, _ => .no) s
section
variable {X : Cx} {W : WX} {pos p : Pos} {x : Str} {i : Nat} {idx : Expr} {mi : M D}
theorem sg_own (hi : SE X W idx mi) (hN : X.N[i]? = some x := by rfl) (hv : Vis X.env.scope x := by first | exact Or.inl rfl | exact Or.inr (Or.inl rfl) | exact Or.inr (Or.inr rfl)) (hd : (x == ("__debug__" : Str)) = false := by decide)
    (hcd : (x == ("__classdict__" : Str)) = false := by decide)
    (ha : ∀ v, assign (.Subscript (.Name x p) idx pos) X.env v = (do
      let ov ← holding [v] (eval (.Name x p) X.env)
      let iv ← holding [v, ov] (eval idx X.env)
      standAt pos
      holding [v, ov, iv] (setItem ov iv v)
      release [v, ov, iv] []) := by intro _; rfl) : SG X (.Subscript (.Name x p) idx pos) [] (gOwn i mi) :=
  PG_imp (pg_sub (pe_var hN hv hd hcd) hi set_list ha) fun v σ H Q ⟨Hb, Fb, kb, k, F, s, d, ok, r, h⟩ => by
    unfold gOwn at h
    cases q0 : ownL s i with
    | none => rw [q0] at h; exact h.elim
    | some l0 =>
      rw [q0] at h
      obtain ⟨a, ea, _, _, _, xs0, hxs0, _⟩ := ok.own i _ (ownL_some q0)
      refine ⟨.ref a, ea, Hb, Fb, kb, k, F, s, ok, ?_⟩
      cases qm : mi s with
      | ok y s' =>
        rw [qm] at h
        intro H1 F1 k1 e1 p1 ok1 iv riv
        cases q1 : ownL s' i with
        | none => dsimp only at h; rw [q1] at h; exact h.elim
        | some l =>
          dsimp only at h
          rw [q1] at h
          cases riv <;> try (exact h.elim)
          case int j =>
            obtain ⟨b, eb, _, _, _, ys, hys, ry⟩ := ok1.own i _ (ownL_some q1)
            rw [ea] at eb
            cases eb
            cases q2 : ixN l.length j with
            | none => dsimp only at h; rw [q2] at h; exact h.elim
            | some jj =>
              dsimp only at h
              rw [q2] at h
              refine ⟨a, ys, j, jj, rfl, rfl, hys, by rw [ry.length]; exact q2, ?_⟩
              exact h σ _ F1 k1 e1 p1 (Agree.refl _ _) (ok1.mut (ownL_some q1) ea ⟨_, upd_same, RepL.set (r.mono e1 p1) jj ry⟩)
      | _ => rw [qm] at h; exact h.elim
theorem se_ixO (hi : SE X W idx mi) (hs : PlainIx idx) (hN : X.N[i]? = some x := by rfl) (hv : Vis X.env.scope x := by first | exact Or.inl rfl | exact Or.inr (Or.inl rfl) | exact Or.inr (Or.inr rfl)) (hd : (x == ("__debug__" : Str)) = false := by decide)
    (hcd : (x == ("__classdict__" : Str)) = false := by decide) : SE X W (.Subscript (.Name x p) idx pos) (mIxO i mi) :=
  PE_imp (pe_ix ix_seq (pe_var hN hv hd hcd) hi hs) fun σ H Q ⟨Hb, Fb, kb, k, F, s, ok, h⟩ => by
    unfold mIxO at h
    cases q0 : ownL s i with
    | none => rw [q0] at h; exact h.elim
    | some l0 =>
      rw [q0] at h
      obtain ⟨a, ea, _, _, _, xs0, hxs0, _⟩ := ok.own i _ (ownL_some q0)
      refine ⟨.ref a, ea, Hb, Fb, kb, k, F, s, ok, (Fin.bind h).imp fun y s1 F1 k1 H1 e1 p1 ok1 h1 v rv => ?_⟩
      cases q1 : ownL s1 i with
      | none => exact (h1.no (by (try dsimp only); rw [q1])).elim
      | some l =>
        obtain ⟨b, eb, _, _, _, ys, hys, ry⟩ := ok1.own i _ (ownL_some q1)
        rw [ea] at eb
        cases eb
        cases rv
        case int j =>
          cases q2 : atI l j with
          | none => exact (h1.no (by (try dsimp only); rw [q1]; (try dsimp only); rw [q2]; rfl)).elim
          | some z =>
            have h2 := h1.cast (.ok z s1) (by (try dsimp only); rw [q1]; (try dsimp only); rw [q2]; rfl)
            obtain ⟨w, ew, rw'⟩ := ry.atI q2
            exact .inl ⟨a, ys, j, w, rfl, rfl, SqL.of hys, ew, h2 H1 F1 k1 (Evl.Ex.refl _) (List.prefix_refl _) ok1 w rw'⟩
        all_goals exact (h1.no (by (try dsimp only); rw [q1])).elim
end
def mListN (m : M (List D)) : M Ob := mbind m fun ds => match ds with
  | [.tup l] => mpure (.lst l)
  | [.lst l] => mpure (.lst l)
  | _ => mno
theorem sn_listOf {X : Cx} {W : WX} {e : Expr} {p pos : Pos} {ma : M (List D)} (ha : SA X W [e] ma) (hm : X.mg "list" = none) (hg : Gl X "list" := by rfl)
    (he : starEach [e] X.env = (false, eval e X.env) :: starEach [] X.env := by rfl) : SN X W (.Call (.Name "list" p) [e] [] pos) (mListN ma) :=
  PE_imp (pe_callTy call_list_of hg hm (by decide +kernel) ha (by decide) (by decide) he rfl) fun σ H Q ⟨Hb, Fb, kb, k, F, s, ok, h⟩ =>
  ⟨Hb, Fb, kb, k, F, s, ok, h.bind.imp fun ds s1 F1 k1 H1 e1 p1 ok1 h1 vs rv => by
    cases rv with
    | nil => exact h1.elim
    | cons ra rr =>
      cases rr with
      | cons _ _ => cases ra <;> exact h1.elim
      | nil =>
        cases ra <;> try (exact h1.elim)
        case tup a xs ds h r => exact ⟨a, xs, rfl, .inr (Evl.ex_t ok1.bs.sub h), fun p hp => h1 _ F1 k1 (Evl.Ex.refl _) (List.prefix_refl _) (ok1.grow (Grow.junk ok1.bs.sub hp)) p (ok1.free hp) ⟨xs, upd_same, r⟩⟩
        case lst a xs ds h r => exact ⟨a, xs, rfl, .inl (SqL.of (ok1.bs.sub _ _ h)), fun p hp => h1 _ F1 k1 (Evl.Ex.refl _) (List.prefix_refl _) (ok1.grow (Grow.junk ok1.bs.sub hp)) p (ok1.free hp) ⟨xs, upd_same, r⟩⟩⟩
end FX

/-! FXSortP: sorted and min of a list of pairs (row of whole numbers, whole number) -/
namespace FX
open PySem PySem.Spec PyProof.Rows L2
abbrev Pr := List Int × Int
def rpD (p : Pr) : D := .tup [.lst (p.1.map D.int), .int p.2]
def prY (p : Pr) : PyData := .tuple [rowD p.1, .int p.2]
def prOf : D → Option Pr
  | .tup [.lst l, .int i] => (intsOf l).map fun r => (r, i)
  | _ => none
def prsOf : List D → Option (List Pr)
  | [] => some []
  | d :: r => match prOf d, prsOf r with
    | some x, some l => some (x :: l)
    | _, _ => none
theorem prOf_eq {d : D} {p : Pr} (e : prOf d = some p) : d = rpD p := by
  unfold prOf at e
  split at e
  · rename_i l i
    cases q : intsOf l with
    | none => rw [q] at e; cases e
    | some r => rw [q] at e; cases e; rw [intsOf_eq q]; rfl
  · cases e
theorem prsOf_eq : ∀ {l : List D} {ps : List Pr}, prsOf l = some ps → l = ps.map rpD
  | [], _, e => by cases e; rfl
  | d :: l, ps, e => by
    simp only [prsOf] at e
    cases h1 : prOf d with
    | none => simp only [h1] at e; cases e
    | some x =>
      cases h2 : prsOf l with
      | none => simp only [h1, h2] at e; cases e
      | some ys =>
        simp only [h1, h2] at e
        cases e
        rw [prOf_eq h1, prsOf_eq h2]; rfl
theorem py_pr (p : Pr) : py (rpD p) = prY p := by unfold rpD prY; simp only [py, pys, pys_int]; rfl
theorem pys_prs : ∀ ps : List Pr, pys (ps.map rpD) = ps.map prY
  | [] => rfl
  | p :: ps => by simp only [List.map_cons, pys, py_pr, pys_prs ps]
theorem plain_pr (p : Pr) : plain (rpD p) = true := by unfold rpD; simp only [plain, plains, plains_int, Bool.and_self]
theorem plains_prs : ∀ ps : List Pr, plains (ps.map rpD) = true
  | [] => rfl
  | p :: ps => by simp only [List.map_cons, plains, plain_pr, plains_prs ps, Bool.and_self]
theorem alike_prs (a b : Pr) : PySem.W.alike (prY a) (prY b) = true := by
  unfold prY
  simp only [PySem.W.alike, PySem.W.alikeAll, alike_rows, Bool.and_self]
theorem depth_pr (a : Pr) : PyData.depth (prY a) = 2 := by unfold prY; simp [PyData.depth, PyData.depthAll, depth_row]
theorem depth_prs : ∀ ps : List Pr, PyData.depthAll (ps.map prY) ≤ 2
  | [] => by simp [PyData.depthAll]
  | p :: ps => by have := depth_prs ps; simp only [List.map_cons, PyData.depthAll, depth_pr]; omega
def lePr (p q : Pr) : Bool := decide (p.1 < q.1 ∨ (p.1 = q.1 ∧ p.2 ≤ q.2))
theorem eqv_row (a b : List Int) : PyData.eqv (rowD a) (rowD b) = decide (a = b) := by
  unfold rowD
  have : ∀ a b : List Int, PyData.eqvAll (a.map PyData.int) (b.map PyData.int) = decide (a = b) := fun a => by
    induction a with
    | nil => intro b; cases b <;> simp [PyData.eqvAll]
    | cons x a ih =>
      intro b
      cases b with
      | nil => simp [PyData.eqvAll]
      | cons y b =>
        have e : PyData.eqvAll ((x :: a).map PyData.int) ((y :: b).map PyData.int) = (decide (x = y) && PyData.eqvAll (a.map PyData.int) (b.map PyData.int)) := by
          simp only [List.map_cons, PyData.eqvAll, PyData.eqv]
          congr 1
        rw [e, ih b]
        by_cases h1 : x = y <;> by_cases h2 : a = b <;> simp [h1, h2]
  simp only [PyData.eqv, this]
theorem dataLt_prs (a b : Pr) : PySem.W.dataLt (prY a) (prY b) = decide (a.1 < b.1 ∨ (a.1 = b.1 ∧ a.2 < b.2)) := by
  unfold prY
  rw [PySem.W.dataLt_pair (alike_rows _ _) (by simp [PySem.W.alike]), eqv_row, dataLt_row]
  have ii : PySem.W.dataLt (.int a.2) (.int b.2) = decide (a.2 < b.2) := by
    have := congrFun (congrFun (PySem.W.dataLe_int (β := Int) id) b.2) a.2
    rw [PySem.W.dataLe_eq] at this
    have this : (!PySem.W.dataLt (.int a.2) (.int b.2)) = decide (b.2 ≤ a.2) := this
    rw [← Bool.not_not (PySem.W.dataLt (.int a.2) (.int b.2)), this]
    by_cases h : a.2 < b.2
    · rw [decide_eq_true h, decide_eq_false (by omega)]; rfl
    · rw [decide_eq_false h, decide_eq_true (by omega)]; rfl
  rw [ii]
  by_cases h1 : a.1 = b.1
  · have nl : ¬ b.1 < b.1 := List.lt_irrefl _
    by_cases h2 : a.2 = b.2
    · simp [h1, h2, nl, PyData.eqv]
    · simp [h1, h2, nl, PyData.eqv]
  · simp [h1]
theorem dataLe_prs {β : Type} (k : β → Pr) : PySem.W.dataLe false (fun b => prY (k b)) = fun a b => lePr (k a) (k b) := by
  funext a b
  rw [PySem.W.dataLe_eq]
  show (!PySem.W.dataLt (prY (k b)) (prY (k a))) = _
  rw [dataLt_prs]
  unfold lePr
  rw [← decide_not]
  congr 1
  apply propext
  constructor
  · intro h
    have h1 : ¬ (k b).1 < (k a).1 := fun z => h (.inl z)
    by_cases z : (k a).1 = (k b).1
    · refine .inr ⟨z, ?_⟩
      have : ¬ (k b).2 < (k a).2 := fun y => h (.inr ⟨z.symm, y⟩)
      omega
    · refine .inl (Classical.byContradiction fun y => z ?_)
      exact List.le_antisymm (List.not_lt.mp h1) (List.not_lt.mp y)
  · rintro (h | ⟨h, h'⟩) (z | ⟨z, z'⟩)
    · exact List.lt_asymm h z
    · rw [z] at h; exact List.lt_irrefl _ h
    · rw [h] at z; exact List.lt_irrefl _ z
    · omega
def rSortP (K : PySem.W.Frag) : List V → Hp → VK → Prop := fun vs H Q => ∃ (p : Addr) (bs : List (V × Pr)), vs = [.ref p] ∧ SqL K H p (bs.map (·.1)) ∧ DpAll K H (bs.map (·.1)) (bs.map fun b => prY b.2) ∧ ∀ a, H a = none → Q (.ref a) (upd H a (.lst ((bs.mergeSort fun a b => lePr a.2 b.2).map (·.1))))
theorem eachRel : ∀ {bs : List (V × Pr)} {us : List Value}, Vals (bs.map (·.1)) us → PySem.W.EachIs (fun u (b : V × Pr) => RelV b.1 u) us bs
  | [], _, .nil => .nil
  | _ :: _, _, .cons a r => .cons a (eachRel r)
theorem relEach : ∀ {us : List Value} {bs : List (V × Pr)}, PySem.W.EachIs (fun u (b : V × Pr) => RelV b.1 u) us bs → Vals (bs.map (·.1)) us
  | _, _, .nil => .nil
  | _, _, .cons a r => .cons a (relEach r)
theorem cr_sortP {X : Cx} {j : Nat} (hr : Room j X.A) : CallR X (.builtin "sorted") (rSortP X.K) := by
  intro pins s σ H vs us Q I r h
  obtain ⟨p, bs, rfl, hs, hd, q⟩ := h
  obtain ⟨its, rv, hl, hz⟩ := I.list hs
  rw [Vals.ref1 r]
  obtain ⟨as, ra⟩ := Dp.readsAll I _ _ its hd rv
  rw [List.length_map] at hz
  refine PySem.W.sorted_data (R := fun u (b : V × Pr) => RelV b.1 u) (enc := fun b : V × Pr => prY b.2) hl.isList (eachRel rv) (PySem.W.readsAll_each (fun b : V × Pr => prY b.2) ra) (PySem.W.AllAlike.of fun b b' => alike_prs _ _) (PySem.W.Sortable.tuples fun b => ⟨_, _, rfl⟩) hz (fun b _ => ?_) fun out hlo ho => ?_
  · rw [depth_pr]
    have := hr.un
    omega
  · rw [dataLe_prs] at ho
    have vo := relEach ho
    obtain ⟨ep, he'⟩ := PyProof.Rows.sortedAll_at s.heap its out.toArray
    have hlen : ((bs.mergeSort fun a b => lePr a.2 b.2).map (·.1)).length ≤ sizeLine := by rw [List.length_map, List.length_mergeSort]; exact hz
    exact ⟨.ref _, upd H (s.heap.objs.size + 1) (.lst ((bs.mergeSort fun a b => lePr a.2 b.2).map (·.1))), I.laid (t' := s.toks) (fun _ _ => PyProof.Rows.sortedAll_old) (Nat.le_succ _) ⟨hlen, out, ep, vo, he'⟩, rfl, q _ (I.hok.fresh (Nat.le_succ _))⟩
def dSortP : List D → Option D
  | [.lst l] => (prsOf l).map fun ps => .lst ((ps.mergeSort lePr).map rpD)
  | _ => none
theorem repL_zip {B : Sb} {F : Hp} {k : List Addr} : ∀ {xs : List V} {ps : List Pr}, RepL B F k xs (ps.map rpD) → ∃ bs : List (V × Pr), bs.map (·.1) = xs ∧ bs.map (·.2) = ps ∧ ∀ b ∈ bs, Rep B F k b.1 (rpD b.2)
  | _, [], .nil => ⟨[], rfl, rfl, fun _ h => by cases h⟩
  | v :: vs, p :: ps, .cons h r => by
    obtain ⟨bs, e1, e2, e3⟩ := repL_zip r
    refine ⟨(v, p) :: bs, by simp [e1], by simp [e2], fun b hb => ?_⟩
    rcases List.mem_cons.mp hb with z | z
    · rw [z]; exact h
    · exact e3 b z
theorem cd_sortP {B : Sb} : CallD B (rSortP B.K) dSortP := fun F k H xs ds z Q sub rx e q => by
  cases rx with
  | nil => cases e
  | cons h r =>
    cases r with
    | cons _ _ => cases h <;> cases e
    | nil =>
      cases h <;> try (cases e; done)
      case lst a ys l ha rl =>
        simp only [dSortP] at e
        cases c : prsOf l with
        | none => simp only [c] at e; cases e
        | some ps =>
          simp only [c, Option.map_some, Option.some.injEq] at e
          subst e
          have el := prsOf_eq c
          subst el
          obtain ⟨bs, e1, e2, e3⟩ := repL_zip rl
          have dp := rl.dp sub (plains_prs _)
          rw [pys_prs] at dp
          refine ⟨a, bs, rfl, by rw [e1]; exact SqL.of (sub _ _ ha), ?_, fun p hp => ?_⟩
          · rw [e1]
            have : (bs.map fun b => prY b.2) = ps.map prY := by rw [← e2, List.map_map]; rfl
            rw [this]; exact dp
          · have gr := Grow.one (o := .lst ((bs.mergeSort fun a b => lePr a.2 b.2).map (·.1))) sub hp
            refine q _ _ _ gr (.lst upd_same ?_)
            have em : ps.mergeSort lePr = (bs.mergeSort fun a b => lePr a.2 b.2).map (·.2) := by
              rw [← e2, ← List.map_mergeSort (r := fun a b : V × Pr => lePr a.2 b.2) (fun _ _ _ _ => rfl)]
            rw [em]
            have mem : ∀ b ∈ bs.mergeSort (fun a b => lePr a.2 b.2), Rep B F k b.1 (rpD b.2) := fun b hb => e3 b (List.mem_mergeSort.mp hb)
            generalize bs.mergeSort (fun a b => lePr a.2 b.2) = y at mem gr ⊢
            clear em
            refine RepL.mono gr.ff (List.prefix_refl _) ?_
            clear gr
            induction y with
            | nil => exact .nil
            | cons b y ih => exact .cons (mem b List.mem_cons_self) (ih fun c hc => mem c (List.mem_cons_of_mem _ hc))
section
variable {X : Cx} {W : WX} {pos p : Pos} {e : Expr} {ma : M (List D)} {j : Nat}
theorem se_sortP (hr : Room j X.A) (ha : SA X W [e] ma) (hm : X.mg "sorted" = none) (hg : Gl X "sorted" := by rfl) (he : starEach [e] X.env = [(false, eval e X.env)] := by rfl) : SE X W (.Call (.Name "sorted" p) [e] [] pos) (mCall dSortP ma) :=
  se_callB (cr_sortP hr) cd_sortP hm (by decide +kernel) ha hg (by decide) (by decide) he rfl
end
/-! min -/
def ltPr (p q : Pr) : Bool := decide (p.1 < q.1 ∨ (p.1 = q.1 ∧ p.2 < q.2))
def minPr (r : Pr) (rs : List Pr) : Pr := rs.foldl (fun b x => if ltPr x b = true then x else b) r
theorem minD_prs : ∀ (rs : List Pr) (r : Pr), PySem.W.minD (prY r) (rs.map prY) = prY (minPr r rs)
  | [], r => rfl
  | x :: rs, r => by
    have e : PySem.W.minD (prY r) ((x :: rs).map prY) = PySem.W.minD (if PySem.W.dataLt (prY x) (prY r) then prY x else prY r) (rs.map prY) := rfl
    rw [e, dataLt_prs]
    show _ = prY (minPr (if ltPr x r = true then x else r) rs)
    rw [← minD_prs rs]
    show PySem.W.minD (if ltPr x r = true then prY x else prY r) (rs.map prY) = _
    by_cases h : ltPr x r = true <;> simp [h]
theorem prY_inj {a b : Pr} (h : prY a = prY b) : a = b := by
  unfold prY at h
  injection h with h
  injection h with h1 h2
  injection h2 with h2
  injection h2 with h2
  obtain ⟨a1, a2⟩ := a
  obtain ⟨b1, b2⟩ := b
  rw [show a1 = b1 from rowD_inj h1, show a2 = b2 from h2]
theorem lay_pr (a : Pr) : PyData.canLay0 (prY a) = true := by
  have := lay_row a.1
  unfold prY
  simp [PyData.canLay0, PyData.canLayAll0, this]
def rMinP (K : PySem.W.Frag) : List V → Hp → VK → Prop := fun vs H Q => ∃ p xs r rs, vs = [.ref p] ∧ SqL K H p xs ∧ DpAll K H xs ((r :: rs).map prY) ∧ ∀ (i : Nat) x, xs[i]? = some x → (r :: rs)[i]? = some (minPr r rs) → Q x H
theorem cr_minP {X : Cx} {j : Nat} (hc : X.calm = true) (hr : Room j X.A) : CallR X (.builtin "min") (rMinP X.K) := by
  intro pins s σ H vs us Q I r h
  obtain ⟨p, xs, r0, rs, rfl, hs, hd, q⟩ := h
  obtain ⟨its, rv, hl, _⟩ := I.list hs
  rw [Vals.ref1 r]
  obtain ⟨as, ra⟩ := Dp.readsAll I _ xs its hd rv
  have hu : X.A.units + 1 + PyData.depthAll ((r0 :: rs).map prY) < cLine := by
    have a := depth_prs (r0 :: rs)
    have b := hr.un
    omega
  have al : PySem.W.AlikeAll ((r0 :: rs).map prY) := ⟨fun x hx y hy => by
    obtain ⟨a, _, rfl⟩ := List.mem_map.mp hx
    obtain ⟨b, _, rfl⟩ := List.mem_map.mp hy
    exact alike_prs a b, fun x hx => by
    obtain ⟨a, _, rfl⟩ := List.mem_map.mp hx
    exact fun z => by unfold prY at z; cases z⟩
  refine PySem.W.min_list_data (I.ok.hd hc) hl.isList (x := prY r0) (xs := rs.map prY) (as := as) (by simpa using ra) al hu fun i v h' tk bs hv rd kp => ?_
  rw [minD_prs] at rd
  have hv' : its[i]? = some v := by simpa using hv
  obtain ⟨x, ex, rx⟩ := vals_at rv hv'
  have I2 : Inv X pins σ H { s with heap := h', toks := tk } := I.kept kp
  obtain ⟨d, ed, dx⟩ := dpAll_at hd ex
  obtain ⟨cs, rd2⟩ := Dp.reads I2 d x v dx rx
  have e := SeqAt.Reads.unique _ _ v _ _ (lay_pr _) rd rd2
  refine ⟨x, H, I2, rx, q i x ex ?_⟩
  rw [← e, List.getElem?_map] at ed
  cases z : (r0 :: rs)[i]? with
  | none => rw [z] at ed; cases ed
  | some y =>
    rw [z] at ed
    rw [prY_inj (Option.some.inj ed)]
/-- min of pairs -/
def dMinP : List D → Option D
  | [.lst l] => match prsOf l with
    | some (r :: rs) => some (rpD (minPr r rs))
    | _ => none
  | _ => none
theorem cd_minP {B : Sb} : CallD B (rMinP B.K) dMinP := fun F k H xs ds z Q sub rx e q => by
  cases rx with
  | nil => cases e
  | cons h r =>
    cases r with
    | cons _ _ => cases h <;> cases e
    | nil =>
      cases h <;> try (cases e; done)
      case lst a ys l ha rl =>
        simp only [dMinP] at e
        cases c : prsOf l with
        | none => simp only [c] at e; cases e
        | some rs =>
          cases rs with
          | nil => simp only [c] at e; cases e
          | cons r0 rs =>
            simp only [c] at e
            cases e
            have el := prsOf_eq c
            refine ⟨a, ys, r0, rs, rfl, SqL.of (sub _ _ ha), ?_, fun i x ex er => ?_⟩
            · have := rl.dp sub (by rw [el]; exact plains_prs _)
              rw [el, pys_prs] at this
              exact this
            · obtain ⟨y, ey, ry⟩ := rl.get ex
              rw [el, List.getElem?_map, er] at ey
              cases ey
              exact q _ F H (Grow.refl sub) ry
/-! a or b, a a text or None -/
def mOrX (a b : M D) : M D := mbind a fun d => match d with
  | .non => b
  | .str x => if x.length ≤ 1000 then (if x.length = 0 then b else mpure (.str x)) else mno
  | _ => mno
theorem se_orX {X : Cx} {W : WX} {pos : Pos} {a b : Expr} {rest : List Expr} {ma mb : M D} (h : SE X W a ma) (h2 : SE X W (.BoolOp .Or (b :: rest) pos) mb) : SE X W (.BoolOp .Or (a :: b :: rest) pos) (mOrX ma mb) := PE_imp (pe_orT h h2) fun σ H Q ⟨Hb, Fb, kb, k, F, s, ok, h⟩ =>
  ⟨Hb, Fb, kb, k, F, s, ok, h.bind.imp fun d s1 F1 k1 H1 e1 p1 ok1 h1 v rv => by
    cases d with
    | non =>
      cases rv
      refine ⟨false, rfl, ?_⟩
      rw [if_neg Bool.false_ne_true]
      exact ⟨Hb, Fb, kb, k1, F1, s1, ok1, h1⟩
    | str x =>
      cases rv
      by_cases c : x.length ≤ 1000
      · by_cases z : x.length = 0
        · refine ⟨false, ⟨by rw [sizeLine_eq]; omega, by rw [z]; rfl⟩, ?_⟩
          rw [if_neg Bool.false_ne_true]
          have h2 := h1.cast (mb s1) (by dsimp only; rw [if_pos c, if_pos z])
          exact ⟨Hb, Fb, kb, k1, F1, s1, ok1, h2⟩
        · refine ⟨true, ⟨by rw [sizeLine_eq]; omega, ?_⟩, ?_⟩
          · have : ((x.length : Int) != 0) = true := by simpa using z
            rw [this]
          · rw [if_pos rfl]
            have h2 := h1.cast (.ok (.str x) s1) (by dsimp only; rw [if_pos c, if_neg z])
            exact h2 H1 F1 k1 (Evl.Ex.refl _) (List.prefix_refl _) ok1 _ (.str x)
      · exact (h1.no (by dsimp only; rw [if_neg c])).elim
    | _ => exact h1.elim⟩
end FX

/-! FXLd: dicts whose keys are carried by value (None, numbers, texts), and dicts of nested keys, read alike -/
namespace FX
open PySem PySem.Spec PyProof.Rows L2
abbrev LO (X : Cx) (d : Addr) (xs : List (Leaf × V)) : HO := .ext (LD0 X.prog X.w d xs)
def lfV : Leaf → V
  | .none => .non
  | .num i => .int i
  | .text x => .str x
theorem lfV_is {P : Program} {w : World} {q : Leaf} {u : Value} (r : RelV (lfV q) u) : (leafKind P w).is q u = true := by
  cases q with
  | none => cases r; rfl
  | num i => obtain ⟨t, rfl⟩ := (show ∃ t, u = Value.int i t from r); exact decide_eq_true rfl
  | text x => obtain ⟨t, rfl⟩ := (show ∃ t, u = Value.str x t from r); show (x == x) = true; simp
def valN (xs : List (NestedKey × Addr × V)) (q : NestedKey) : Option V := (xs.find? fun e => decide (e.1 = q)).map (·.2.2)
section
variable {X : Cx} {pins : List (Addr × Obj)} {σ : L2.St} {H : Hp} {s : Shared} {a : Addr} {j : Nat}
theorem ld_rd {xs : List (Leaf × V)} (I : Inv X pins σ H s) (e : Rd H a (LO X a xs)) : (a == sysModules) = false ∧ ∃ ys, KV xs ys ∧ s.heap.DictOf (leafKind X.prog X.w) a ys := by
  obtain ⟨⟨n, ys, p, d⟩, _⟩ := (show ObjOk X.prog X.w H s.heap a (LO X a xs) from e.ok I.hok)
  exact ⟨n, ys, p, d⟩
theorem nd_rd {xs : List (NestedKey × Addr × V)} (I : Inv X pins σ H s) (e : Rd H a (NO X a xs)) (ks : NKeys X H xs) : ∃ ys, Paired PairN xs ys ∧ s.heap.DictOfH (nestedKind X.prog X.w) a ys ∧ (a == sysModules) = false := by
  obtain ⟨⟨o, es, ep, ys, ho, hx, hd, pr, he, nd, ns⟩, _⟩ := (show ObjOk X.prog X.w H s.heap a (NO X a xs) from e.ok I.hok)
  refine ⟨ys, pr, ⟨o, es, ep, ho, hx, hd, he, fun y hy => ?_, nd⟩, ns⟩
  obtain ⟨x, hx, h1, h2, h3⟩ := paired_mem pr hy
  obtain ⟨k1, k2⟩ := ks x hx
  rw [← h1, ← h2]
  exact ⟨k2 pins σ s _ I rfl, k1⟩
theorem val_nd {q : NestedKey} : ∀ {xs : List (NestedKey × Addr × V)} {ys : List (NestedKey × Addr × Value)}, Paired PairN xs ys → RelO (valN xs q) (valueAt (pairsH ys) q) := by
  intro xs ys h
  induction h with
  | nil => exact True.intro
  | @cons x y xs ys h t ih =>
    obtain ⟨h1, h2, h3⟩ := h
    by_cases e : x.1 = q
    · have e' : y.1 = q := h1.symm.trans e
      have l : valN (x :: xs) q = some x.2.2 := by simp [valN, List.find?_cons, e]
      have r : valueAt (pairsH (y :: ys)) q = some y.2.2 := by simp [pairsH, valueAt, List.find?_cons, e']
      rw [l, r]; exact h3
    · have e' : ¬ y.1 = q := fun z => e (h1.trans z)
      have l : valN (x :: xs) q = valN xs q := by simp [valN, List.find?_cons, e]
      have r : valueAt (pairsH (y :: ys)) q = valueAt (pairsH ys) q := by simp [pairsH, valueAt, List.find?_cons, e']
      rw [l, r]; exact ih
/-- what the dict at a holds at the key y -/
def EGet (X : Cx) (H : Hp) (a : Addr) (y : V) (r : Option V) : Prop :=
  (∃ xs q, Rd H a (LO X a xs) ∧ y = lfV q ∧ r = valV xs q) ∨ ∃ xs q b, Rd H a (NO X a xs) ∧ y = .ref b ∧ NKey X H (.ref b) q ∧ NKeys X H xs ∧ r = valN xs q
def EIs (X : Cx) (H : Hp) (a : Addr) : Prop := (∃ xs, Rd H a (LO X a xs)) ∨ ∃ xs, Rd H a (NO X a xs) ∧ NKeys X H xs
theorem eis_at (I : Inv X pins σ H s) (d : EIs X H a) : s.TypeIs (.ref a) "dict" ∧ (∀ b, Value.ref a = .ref b → ∃ ob, s.heap.get? b = some ob ∧ ob.dict = none) ∧ (a == sysModules) = false := by
  rcases d with ⟨xs, e⟩ | ⟨xs, e, ks⟩
  · obtain ⟨hd, ys, _, dd⟩ := ld_rd I e
    refine ⟨dd.typeIs, fun b q => ?_, hd⟩
    cases q
    obtain ⟨ob, _, _, h1, h2, _⟩ := dd
    exact ⟨ob, h1, h2.2.1⟩
  · obtain ⟨ys, _, dd, hd⟩ := nd_rd I e ks
    refine ⟨dd.typeIs, fun b q => ?_, hd⟩
    cases q
    obtain ⟨ob, _, _, h1, h2, _⟩ := dd
    exact ⟨ob, h1, h2.2.1⟩
theorem EGet.is {y : V} {r : Option V} (g : EGet X H a y r) : EIs X H a := by
  rcases g with ⟨xs, q, e, _⟩ | ⟨xs, q, b, e, _, _, ks, _⟩
  · exact .inl ⟨xs, e⟩
  · exact .inr ⟨xs, e, ks⟩
variable {y v d : V} {u r : Value} {o : Option V} {E : Value → Shared → Prop}
theorem e_getItem {Q : Value → Shared → Prop} (hr : Room j X.A) (I : Inv X pins σ H s) (g : EGet X H a y (some v)) (ry : RelV y u) (h : ∀ w' s', Inv X pins σ H s' → RelV v w' → Q w' s') :
    wpAny (model X.prog X.w) X.A (getItem (.ref a) u) Q E s := by
  rcases g with ⟨xs, q, e, ey, l⟩ | ⟨xs, q, b, e, ey, nq, ks, l⟩
  · subst ey
    obtain ⟨hd, ys, rel, dd⟩ := ld_rd I e
    obtain ⟨w', hw, rw'⟩ := RelO.some_of (v := v) (o := valueAt ys q) (by rw [l]; exact rel.val q)
    exact wpAny_getItem_of (lfV_is ry) dd.mapOf hw (h w' _ (I.tok _) rw')
  · subst ey
    cases (show u = Value.ref b from ry)
    obtain ⟨ys, rel, dd, hd⟩ := nd_rd I e ks
    obtain ⟨w', hw, rw'⟩ := RelO.some_of (v := v) (o := valueAt (pairsH ys) q) (by rw [l]; exact val_nd rel)
    exact getItem_keyed (room8 hr) ⟨nq.2 pins σ s _ I rfl, nq.1⟩ ⟨ys, dd, rfl⟩ hw (h w' _ (I.tok _) rw')
theorem e_get1 {Q : Value → Shared → Prop} (hr : Room j X.A) (I : Inv X pins σ H s) (g : EGet X H a y o) (ry : RelV y u) (h : ∀ w' s', Inv X pins σ H s' → RelV (o.getD .non) w' → Q w' s') :
    wpAny (model X.prog X.w) X.A (call (.builtin "dict.get") [.ref a, u]) Q E s := by
  rcases g with ⟨xs, q, e, ey, l⟩ | ⟨xs, q, b, e, ey, nq, ks, l⟩
  · subst ey
    obtain ⟨hd, ys, rel, dd⟩ := ld_rd I e
    refine call_meetsIn PySem.F.slot_dict_get dd.typeIs PySem.F.entry_dict_get (PySem.F.args_dict_get_2 _ _) (meets_dict_get (leafKind X.prog X.w) a (lfV_is ry) hd) ⟨_, dd.mapOf, h _ _ (I.tok _) ?_⟩
    rw [l]
    exact (rel.val q).getD rfl
  · subst ey
    cases (show u = Value.ref b from ry)
    obtain ⟨ys, rel, dd, hd⟩ := nd_rd I e ks
    refine get_keyed (room8 hr) ⟨nq.2 pins σ s _ I rfl, nq.1⟩ hd ⟨ys, dd, rfl⟩ (h _ _ (I.tok _) ?_)
    rw [l]
    exact (val_nd rel).getD rfl
theorem e_get2 {Q : Value → Shared → Prop} (hr : Room j X.A) (I : Inv X pins σ H s) (g : EGet X H a y o) (ry : RelV y u) (rd : RelV d r) (h : ∀ w' s', Inv X pins σ H s' → RelV (o.getD d) w' → Q w' s') :
    wpAny (model X.prog X.w) X.A (call (.builtin "dict.get") [.ref a, u, r]) Q E s := by
  rcases g with ⟨xs, q, e, ey, l⟩ | ⟨xs, q, b, e, ey, nq, ks, l⟩
  · subst ey
    obtain ⟨hd, ys, rel, dd⟩ := ld_rd I e
    refine call_meetsIn PySem.F.slot_dict_get dd.typeIs PySem.F.entry_dict_get (PySem.F.args_dict_get_3 _ _ _) (meets_dict_get_default (leafKind X.prog X.w) a (lfV_is ry) hd r) ⟨_, dd.mapOf, h _ _ (I.tok _) ?_⟩
    rw [l]
    exact (rel.val q).getD rd
  · subst ey
    cases (show u = Value.ref b from ry)
    obtain ⟨ys, rel, dd, hd⟩ := nd_rd I e ks
    refine getOr_keyed (room8 hr) ⟨nq.2 pins σ s _ I rfl, nq.1⟩ hd ⟨ys, dd, rfl⟩ (h _ _ (I.tok _) ?_)
    rw [l]
    exact (val_nd rel).getD rd
theorem ld_new {H' : Hp} {h' : Heap} {xs : List (Leaf × V)} {ys : List (Leaf × Value)} (hd : (a == sysModules) = false) (rel : KV xs ys) (dd : h'.DictOf (leafKind X.prog X.w) a ys) : ObjOk X.prog X.w H' h' a (LO X a xs) := by
  obtain ⟨o, es, ep, ho, r⟩ := dd
  exact ⟨⟨hd, ys, rel, o, es, ep, ho, r⟩, ⟨o, ho⟩, fun h1 h2 ⟨n, zs, p, o, es, ep, ho, r⟩ k => ⟨n, zs, p, o, es, ep, k o ho, r⟩⟩
theorem l_setItem {xs : List (Leaf × V)} {q : Leaf} {Q : Unit → Shared → Prop} (I : Inv X pins σ H s) (e : H a = some (LO X a xs)) (hl : xs.length ≤ 100000) (ry : RelV (lfV q) u) (rv : RelV v r) (h : ∀ s', Inv X pins σ (upd H a (LO X a (putK xs q v))) s' → Q () s') {A : Around} :
    wpAny (model X.prog X.w) A (setItem (.ref a) u r) Q E s := by
  obtain ⟨hd, ys, rel, dd⟩ := ld_rd I (.inl e)
  have hz : ys.length ≤ sizeLine := by rw [← rel.length]; exact Evl.sz_of hl
  refine wpAny_setItem_pairs (hsz := hz) (lfV_is ry) dd fun h' dd' hs => h _ ?_
  have he : ∃ q, h'.get? a = some q := let ⟨q, _, _, hq, _⟩ := dd'; ⟨q, hq⟩
  exact d_write I (by rw [e]; exact True.intro) hs he (ld_new hd (rel.put q rv) dd')
theorem l_setd {xs : List (Leaf × V)} {q : Leaf} {Q : Value → Shared → Prop} {A : Around} (I : Inv X pins σ H s) (e : H a = some (LO X a xs)) (ry : RelV (lfV q) u) (rd : RelV d r) (hl : xs.length ≤ 100000)
    (h1 : ∀ v, valV xs q = some v → ∀ (w' : Value) (s' : Shared), Inv X pins σ H s' → RelV v w' → Q w' s') (h2 : valV xs q = none → ∀ (w' : Value) (s' : Shared), Inv X pins σ (upd H a (LO X a (putK xs q d))) s' → RelV d w' → Q w' s') :
    wpAny (model X.prog X.w) A (call (.builtin "dict.setdefault") [.ref a, u, r]) Q E s := by
  obtain ⟨hd, vs, rel, dd⟩ := ld_rd I (.inl e)
  have hz : vs.length ≤ sizeLine := by rw [← rel.length]; exact Evl.sz_of hl
  refine call_meetsIn PySem.F.slot_dict_setdefault dd.typeIs PySem.F.entry_dict_setdefault (PySem.F.args_dict_setdefault_3 _ _ _) (kt_meets_setdefault (leafKind X.prog X.w) a (lfV_is ry) hd r) ⟨vs, dd, hz, fun v hv => ?_, fun hn h' dd' hs => ?_⟩
  · have z := rel.val q
    rw [hv] at z
    cases q0 : valV xs q with
    | none => rw [q0] at z; exact (show False from z).elim
    | some v0 => rw [q0] at z; exact h1 v0 q0 _ _ (I.tok _) z
  · have z := rel.val q
    rw [hn] at z
    cases q0 : valV xs q with
    | some v0 => rw [q0] at z; exact (show False from z).elim
    | none =>
      have he : ∃ q, h'.get? a = some q := let ⟨q, _, _, hq, _⟩ := dd'; ⟨q, hq⟩
      exact h2 q0 _ _ (d_write (t' := s.toks + 1) I (by rw [e]; exact True.intro) hs he (ld_new hd (rel.put q rd) dd')) rd
end
/-! expressions and statements -/
def tE0 (X : Cx) : TE := fun σ H Q => ∀ p, H p = none → Q (.ref p) (upd H p (LO X p []))
def tEGet (X : Cx) (td ty : TE) : TE := fun σ H Q => td σ H fun x H1 => ty σ H1 fun y H2 => ∃ a v, x = .ref a ∧ EGet X H2 a y (some v) ∧ Q v H2
def tEGet1 (X : Cx) (td ty : TE) : TE := fun σ H Q => td σ H fun x H1 => ∃ a, x = .ref a ∧ EIs X H1 a ∧ ty σ H1 fun y H2 => ∃ o, EGet X H2 a y o ∧ Q (o.getD .non) H2
def tEGet2 (X : Cx) (td ty tx : TE) : TE := fun σ H Q => td σ H fun x H1 => ∃ a, x = .ref a ∧ EIs X H1 a ∧ ty σ H1 fun y H2 => tx σ H2 fun z H3 => ∃ o, EGet X H3 a y o ∧ Q (o.getD z) H3
def tESetd (X : Cx) (td ty tx : TE) : TE := fun σ H Q => td σ H fun x H1 => ∃ a, x = .ref a ∧ EIs X H1 a ∧ ty σ H1 fun y H2 => tx σ H2 fun z H3 => ∃ xs q, H3 a = some (LO X a xs) ∧ y = lfV q ∧ xs.length ≤ 100000 ∧
  (∀ v, valV xs q = some v → Q v H3) ∧ (valV xs q = none → Q z (upd H3 a (LO X a (putK xs q z))))
def rSetL (X : Cx) : V → V → V → Hp → (Hp → Prop) → Prop := fun o i v H Q => ∃ d xs q, o = .ref d ∧ i = lfV q ∧ H d = some (LO X d xs) ∧ xs.length ≤ 100000 ∧ Q (upd H d (LO X d (putK xs q v)))
def sEAug (X : Cx) (td ty tv : TE) (rd : V → V → Hp → VK → Prop) : TS := fun D σ H => td σ H fun x H1 => ty σ H1 fun y H2 => ∃ a v, x = .ref a ∧ EGet X H2 a y (some v) ∧
  tv σ H2 fun y2 H3 => rd v y2 H3 fun z H4 => ∃ xs q, H4 a = some (LO X a xs) ∧ y = lfV q ∧ xs.length ≤ 100000 ∧ D.nx σ (upd H4 a (LO X a (putK xs q z)))
section
variable {X : Cx} {o e f i value : Expr} {td ty tx tv : TE} {apos cpos pos tpos : Pos} {j : Nat}
theorem pe_e0 : PE X (.Dict [] [] pos) (tE0 X) := ⟨fun pins s σ H Q I h =>
  wpAny_Dict_empty ⟨.ref s.heap.objs.size, _, I.laid (a := s.heap.objs.size) (o := LO X s.heap.objs.size []) (t' := s.toks) (fun _ _ q => Heap.get?_push_of_some _ q) (Nat.le_refl _) (ld_new (beq_eq_false_iff_ne.mpr (Ne.symm (Nat.ne_of_lt I.big))) .nil (Heap.DictOf.new s.heap)), rfl, h _ (I.hok.fresh (Nat.le_refl _))⟩⟩
theorem pe_eget (hr : Room j X.A) (ho : PE X o td) (hi : PE X i ty) (hs : NoSl i) : PE X (.Subscript o i pos) (tEGet X td ty) := by
  refine ⟨fun pins s σ H Q I h => ?_⟩
  refine subD_of PySem.F.slot_dict_getitem.lookup hs (thn (ho.run pins s σ H _ I h) fun u s1 ⟨x, H1, I1, rx, q1⟩ => thn (hi.run pins s1 σ H1 _ I1 q1) fun iv s2 ⟨y, H2, I2, ry, a, v, ex, g, q2⟩ => ?_)
  subst ex
  obtain rfl : u = Value.ref a := rx
  exact ⟨(eis_at I2 g.is).1, e_getItem hr I2 g ry fun w' s3 I3 rw' => ⟨v, H2, I3, rw', q2⟩⟩
theorem pe_eget1 (hr : Room j X.A) (ho : PE X o td) (he : PE X e ty) (m : M1 X o "get" apos e cpos) : PE X (.Call (.Attribute o "get" apos) [e] [] cpos) (tEGet1 X td ty) := by
  refine ⟨fun pins s σ H Q I h => ?_⟩
  refine wpAny_Call_method m.base m.few m.line PySem.F.plainAttrs_dict PySem.F.slot_dict_get PySem.F.type_dict_get (thn (ho.run pins s σ H _ I h) fun u s1 ⟨x, H1, I1, rx, a, ex, d, q1⟩ => ?_)
  subst ex
  obtain rfl : u = Value.ref a := rx
  obtain ⟨t1, t2, _⟩ := eis_at I1 d
  refine ⟨t1, t2, ?_⟩
  rw [m.trees]
  refine Calls.callWith_builtin rfl (Calls.evalArgs_plain (Calls.spliced_cons (thn (he.run pins s1 σ H1 _ I1 q1) fun iv s2 ⟨y, H2, I2, ry, ov, g, q2⟩ => Calls.spliced_nil ?_)))
  exact e_get1 hr I2 g ry fun w' s3 I3 rw' => ⟨_, H2, I3, rw', q2⟩
theorem pe_eget2 (hr : Room j X.A) (ho : PE X o td) (he : PE X e ty) (hf : PE X f tx) (m : M2 X o "get" apos e f cpos) : PE X (.Call (.Attribute o "get" apos) [e, f] [] cpos) (tEGet2 X td ty tx) := by
  refine ⟨fun pins s σ H Q I h => ?_⟩
  refine wpAny_Call_method m.base m.few m.line PySem.F.plainAttrs_dict PySem.F.slot_dict_get PySem.F.type_dict_get (thn (ho.run pins s σ H _ I h) fun u s1 ⟨x, H1, I1, rx, a, ex, d, q1⟩ => ?_)
  subst ex
  obtain rfl : u = Value.ref a := rx
  obtain ⟨t1, t2, _⟩ := eis_at I1 d
  refine ⟨t1, t2, ?_⟩
  rw [m.trees]
  refine Calls.callWith_builtin rfl (Calls.evalArgs_plain (Calls.spliced_cons (thn (he.run pins s1 σ H1 _ I1 q1) fun iv s2 ⟨y, H2, I2, ry, q2⟩ =>
    Calls.spliced_cons (thn (hf.run pins s2 σ H2 _ I2 q2) fun fv s3 ⟨z, H3, I3, rz, ov, g, q3⟩ => Calls.spliced_nil ?_))))
  exact e_get2 hr I3 g ry rz fun w' s4 I4 rw' => ⟨_, H3, I4, rw', q3⟩
theorem pe_esetd (ho : PE X o td) (he : PE X e ty) (hf : PE X f tx) (m : M2 X o "setdefault" apos e f cpos) : PE X (.Call (.Attribute o "setdefault" apos) [e, f] [] cpos) (tESetd X td ty tx) := by
  refine ⟨fun pins s σ H Q I h => ?_⟩
  refine wpAny_Call_method m.base m.few m.line PySem.F.plainAttrs_dict PySem.F.slot_dict_setdefault PySem.F.type_dict_setdefault (thn (ho.run pins s σ H _ I h) fun u s1 ⟨x, H1, I1, rx, a, ex, d, q1⟩ => ?_)
  subst ex
  obtain rfl : u = Value.ref a := rx
  obtain ⟨t1, t2, _⟩ := eis_at I1 d
  refine ⟨t1, t2, ?_⟩
  rw [m.trees]
  refine Calls.callWith_builtin rfl (Calls.evalArgs_plain (Calls.spliced_cons (thn (he.run pins s1 σ H1 _ I1 q1) fun iv s2 ⟨y, H2, I2, ry, q2⟩ =>
    Calls.spliced_cons (thn (hf.run pins s2 σ H2 _ I2 q2) fun fv s3 ⟨z, H3, I3, rz, kvs, k, ea, ey, hl, q3, q4⟩ => Calls.spliced_nil ?_))))
  subst ey
  exact l_setd I3 ea ry rz hl (fun v hv w' s4 I4 rw' => ⟨v, _, I4, rw', q3 v hv⟩) fun hn w' s4 I4 rw' => ⟨z, _, I4, rw', q4 hn⟩
theorem set_ld : PSet X (rSetL X) := by
  intro pins s σ H o i v ov iv u Q I ro ri rv h
  obtain ⟨d, xs, q, rfl, rfl, e, hl, h⟩ := h
  cases ro
  exact l_setItem I e hl ri rv fun s' I' => ⟨_, I', h⟩
theorem ps_eaug {op : Operator} {rd : V → V → Hp → VK → Prop} (hr : Room j X.A) (ho : PE X o td) (hi : PE X i ty) (hv : PE X value tv) (hop : InOp X op rd)
    (ha : ∀ ov iv new, augStore i ov iv new = (do holding [new, ov, iv] (setItem ov iv new); release [new, ov, iv] []; pure .next)) : PS X (.AugAssign (.Subscript o i tpos) op value pos) (sEAug X td ty tv rd) := by
  refine ⟨fun pins s σ H D I h => ?_⟩
  refine wpAny_AugAssign_SubscriptAny (thn (ho.run pins s σ H _ I h) fun u s1 ⟨x, H1, I1, rx, q1⟩ => thn (hi.run pins s1 σ H1 _ I1 q1) fun iv s2 ⟨y, H2, I2, ry, a, v, ex, g, q2⟩ => ?_) ha
  subst ex
  obtain rfl : u = Value.ref a := rx
  refine e_getItem hr I2 g ry fun w' s3 I3 rw' => thn (hv.run pins s3 σ H2 _ I3 q2) fun w2 s4 ⟨y2, H3, I4, ry2, q3⟩ => thn (hop pins s4 σ H3 v y2 w' w2 _ I4 rw' ry2 q3) fun w3 s5 ⟨z, H4, I5, rz, xs, q, e4, ey, hl, q4⟩ => ?_
  subst ey
  exact l_setItem I5 e4 hl ry rz fun s6 I6 => ⟨σ, _, I6, q4⟩
end
/-! ### by data -/
def lfOf : D → Option Leaf
  | .non => some .none
  | .int i => some (.num i)
  | .str x => some (.text x)
  | _ => none
def lkL (q : Leaf) (ds : List (D × D)) : Option D := (ds.find? fun p => decide (lfOf p.1 = some q)).map (·.2)
def putL (ds : List (D × D)) (q : Leaf) (d : D) : List (D × D) := if (ds.any fun p => decide (lfOf p.1 = some q)) = true then ds.map (fun p => if lfOf p.1 = some q then (p.1, d) else p) else ds ++ [(lfD q, d)]
def lkN (q : NestedKey) (ds : List (D × D)) : Option D := (ds.find? fun p => decide (nk8 p.1 = some q)).map (·.2)
theorem lf_D (q : Leaf) : lfOf (lfD q) = some q := by cases q <;> rfl
theorem lfOf_eq {d : D} {q : Leaf} (h : lfOf d = some q) : d = lfD q := by
  cases d <;> simp only [lfOf, Option.some.injEq] at h <;> first | (subst h; rfl) | cases h
section
variable {B : Sb} {F : Hp} {k : List Addr}
theorem Rep.lf {v : V} {d : D} {q : Leaf} (h : Rep B F k v d) (e : lfOf d = some q) : v = lfV q := by
  have := lfOf_eq e
  subst this
  cases q <;> cases h <;> rfl
theorem RepE.length : ∀ {xs : List (Leaf × V)} {ds : List (D × D)}, RepE B F k xs ds → xs.length = ds.length
  | _, _, .nil => rfl
  | _, _, .cons _ r => by rw [List.length_cons, List.length_cons, r.length]
theorem RepE.miss {q : Leaf} : ∀ {xs : List (Leaf × V)} {ds : List (D × D)}, RepE B F k xs ds → lkL q ds = none → valV xs q = none
  | _, _, .nil, _ => rfl
  | _, _, .cons (q := q') h r, e => by
    by_cases c : q' = q
    · subst c; simp [lkL, List.find?_cons, lf_D] at e
    · have ih := RepE.miss (q := q) r (by simpa [lkL, List.find?_cons, lf_D, c] using e)
      rw [valV_neg (by exact c)]; exact ih
theorem RepE.hit {q : Leaf} {d : D} : ∀ {xs : List (Leaf × V)} {ds : List (D × D)}, RepE B F k xs ds → lkL q ds = some d → ∃ v, valV xs q = some v ∧ Rep B F k v d
  | _, _, .nil, e => by cases e
  | _, _, .cons (q := q') (v := v) h r, e => by
    by_cases c : q' = q
    · subst c
      simp [lkL, List.find?_cons, lf_D] at e
      subst e
      exact ⟨v, valV_pos rfl, h⟩
    · obtain ⟨u, e1, e2⟩ := RepE.hit (q := q) r (by simpa [lkL, List.find?_cons, lf_D, c] using e)
      exact ⟨u, by rw [valV_neg (by exact c)]; exact e1, e2⟩
theorem RepE.any {q : Leaf} : ∀ {xs : List (Leaf × V)} {ds : List (D × D)}, RepE B F k xs ds → (xs.any fun kv => decide (kv.1 = q)) = ds.any fun p => decide (lfOf p.1 = some q)
  | _, _, .nil => rfl
  | _, _, .cons (q := q') h r => by rw [List.any_cons, List.any_cons, RepE.any r, lf_D]; simp
theorem RepE.repl {q : Leaf} {v : V} {d : D} (hv : Rep B F k v d) : ∀ {xs : List (Leaf × V)} {ds : List (D × D)}, RepE B F k xs ds → RepE B F k (xs.map fun kv => if kv.1 = q then (kv.1, v) else kv) (ds.map fun p => if lfOf p.1 = some q then (p.1, d) else p)
  | _, _, .nil => .nil
  | _, _, .cons (q := q') h r => by
    have ih := RepE.repl (q := q) hv r
    simp only [List.map_cons, lf_D, Option.some.injEq]
    by_cases e : q' = q
    · simp only [e, if_true]; exact .cons hv (by simpa using ih)
    · simp only [e, if_false]; exact .cons h (by simpa using ih)
theorem RepE.snoc {q : Leaf} {v : V} {d : D} (hv : Rep B F k v d) : ∀ {xs : List (Leaf × V)} {ds : List (D × D)}, RepE B F k xs ds → RepE B F k (xs ++ [(q, v)]) (ds ++ [(lfD q, d)])
  | _, _, .nil => .cons hv .nil
  | _, _, .cons h r => .cons h (RepE.snoc hv r)
theorem RepE.put {q : Leaf} {v : V} {d : D} (hv : Rep B F k v d) {xs : List (Leaf × V)} {ds : List (D × D)} (r : RepE B F k xs ds) : RepE B F k (putK xs q v) (putL ds q d) := by
  unfold putK putL
  rw [r.any]
  by_cases c : (ds.any fun p => decide (lfOf p.1 = some q)) = true
  · rw [if_pos c, if_pos c]; exact r.repl hv
  · rw [if_neg c, if_neg c]; exact r.snoc hv
end
def ownLd (s : S) (i : Nat) : Option (List (D × D)) := match s.e[i]? with
  | some (some (.own (.ld l))) => some l
  | _ => none
theorem ownLd_some {s : S} {i : Nat} {l : List (D × D)} (h : ownLd s i = some l) : s.e[i]? = some (some (.own (.ld l))) := by
  unfold ownLd at h
  split at h
  · rename_i l' e
    rw [e]
    cases h
    rfl
  · cases h
def mLd0 : M Ob := mpure (.ld [])
/-- slot.get(key) -/
def mGetL (i : Nat) (mk : M D) : M D := fun s => match ownLd s i with
  | none => .no
  | some _ => mbind mk (fun y s' => match ownLd s' i, lfOf y with
    | some l, some q => .ok ((lkL q l).getD .non) s'
    | _, _ => .no) s
/-- slot.setdefault(key, value) -/
def mSetdL (i : Nat) (mk mv : M D) : M D := fun s => match ownLd s i with
  | none => .no
  | some _ => mbind mk (fun y => mbind mv fun d s' => match ownLd s' i, lfOf y with
    | some l, some q => if l.length < 100000 then (match lkL q l with
      | some z => .ok z s'
      | none => .ok d (setO i (.ld (putL l q d)) s')) else .no
    | _, _ => .no) s
/-- slot[key] = value -/
def mPutL (i : Nat) (mk mv : M D) : M Out := mbind mv fun d s1 => match ownLd s1 i with
  | none => .no
  | some _ => mbind mk (fun y s2 => match ownLd s2 i, lfOf y with
    | some l, some q => if l.length < 100000 then .ok .nx (setO i (.ld (putL l q d)) s2) else .no
    | _, _ => .no) s1
section
variable {X : Cx} {W : WX} {pos pos' p apos cpos : Pos} {x : Str} {i : Nat} {e f ke ve : Expr} {mk mv : M D} {j : Nat}
theorem sn_ld0 : SN X W (.Dict [] [] pos) mLd0 := PE_imp pe_e0 fun σ H Q ⟨Hb, Fb, kb, k, F, s, ok, h⟩ p hp =>
  h _ F k (Evl.Ex.refl _) (List.prefix_refl _) (ok.grow (Grow.junk ok.bs.sub hp)) p (ok.free hp) ⟨[], upd_same, .nil⟩
theorem se_getL (hr : Room j X.A) (he : SE X W e mk) (m : M1 X (.Name x p) "get" apos e cpos := by exact ⟨rfl, rfl, rfl, rfl⟩) (hN : X.N[i]? = some x := by rfl) (hv : Vis X.env.scope x := by first | exact Or.inl rfl | exact Or.inr (Or.inl rfl) | exact Or.inr (Or.inr rfl)) (hd : (x == ("__debug__" : Str)) = false := by decide)
    (hcd : (x == ("__classdict__" : Str)) = false := by decide) : SE X W (.Call (.Attribute (.Name x p) "get" apos) [e] [] cpos) (mGetL i mk) :=
  PE_imp (pe_eget1 hr (pe_var hN hv hd hcd) he m) fun σ H Q ⟨Hb, Fb, kb, k, F, s, ok, h⟩ => by
    unfold mGetL at h
    cases q0 : ownLd s i with
    | none => rw [q0] at h; exact h.elim
    | some l0 =>
      rw [q0] at h
      obtain ⟨a, ea, _, _, _, xs0, hxs0, _⟩ := ok.own i _ (ownLd_some q0)
      refine ⟨.ref a, ea, a, rfl, .inl ⟨xs0, .inl hxs0⟩, Hb, Fb, kb, k, F, s, ok, (Fin.bind h).imp fun y s1 F1 k1 H1 e1 p1 ok1 h1 v rv => ?_⟩
      cases q1 : ownLd s1 i with
      | none => exact (h1.no (by (try dsimp only); rw [q1])).elim
      | some l =>
        cases q2 : lfOf y with
        | none => exact (h1.no (by (try dsimp only); rw [q1, q2])).elim
        | some q =>
          have h2 := h1.cast (.ok ((lkL q l).getD .non) s1) (by (try dsimp only); rw [q1, q2])
          obtain ⟨b, eb, _, _, _, ys, hys, ry⟩ := ok1.own i _ (ownLd_some q1)
          rw [ea] at eb
          cases eb
          refine ⟨valV ys q, .inl ⟨ys, q, .inl hys, rv.lf q2, rfl⟩, ?_⟩
          cases q3 : lkL q l with
          | none =>
            rw [q3] at h2
            rw [ry.miss q3]
            exact h2 H1 F1 k1 (Evl.Ex.refl _) (List.prefix_refl _) ok1 _ .non
          | some z =>
            rw [q3] at h2
            obtain ⟨u, eu, ru⟩ := ry.hit q3
            rw [eu]
            exact h2 H1 F1 k1 (Evl.Ex.refl _) (List.prefix_refl _) ok1 _ ru
theorem se_setdL (he : SE X W e mk) (hf : SE X W f mv) (m : M2 X (.Name x p) "setdefault" apos e f cpos := by exact ⟨rfl, rfl, rfl, rfl⟩) (hN : X.N[i]? = some x := by rfl) (hv : Vis X.env.scope x := by first | exact Or.inl rfl | exact Or.inr (Or.inl rfl) | exact Or.inr (Or.inr rfl)) (hd : (x == ("__debug__" : Str)) = false := by decide)
    (hcd : (x == ("__classdict__" : Str)) = false := by decide) : SE X W (.Call (.Attribute (.Name x p) "setdefault" apos) [e, f] [] cpos) (mSetdL i mk mv) :=
  PE_imp (pe_esetd (pe_var hN hv hd hcd) he hf m) fun σ H Q ⟨Hb, Fb, kb, k, F, s, ok, h⟩ => by
    unfold mSetdL at h
    cases q0 : ownLd s i with
    | none => rw [q0] at h; exact h.elim
    | some l0 =>
      rw [q0] at h
      obtain ⟨a, ea, _, _, _, xs0, hxs0, _⟩ := ok.own i _ (ownLd_some q0)
      refine ⟨.ref a, ea, a, rfl, .inl ⟨xs0, .inl hxs0⟩, Hb, Fb, kb, k, F, s, ok, (Fin.bind h).imp fun y s1 F1 k1 H1 e1 p1 ok1 h1 v rv => ⟨Hb, Fb, kb, k1, F1, s1, ok1, (Fin.bind h1).imp fun d s2 F2 k2 H2 e2 p2 ok2 h2 u ru => ?_⟩⟩
      cases q1 : ownLd s2 i with
      | none => exact (h2.no (by (try dsimp only); rw [q1])).elim
      | some l =>
        cases q2 : lfOf y with
        | none => exact (h2.no (by (try dsimp only); rw [q1, q2])).elim
        | some q =>
          by_cases hl : l.length < 100000
          · have h3 := h2.cast (match lkL q l with | some z => .ok z s2 | none => .ok d (setO i (.ld (putL l q d)) s2)) (by (try dsimp only); rw [q1, q2]; (try dsimp only); rw [if_pos hl])
            obtain ⟨b, eb, _, _, _, ys, hys, ry⟩ := ok2.own i _ (ownLd_some q1)
            rw [ea] at eb
            cases eb
            refine ⟨ys, q, hys, rv.lf q2, by rw [ry.length]; omega, fun w ew => ?_, fun ew => ?_⟩
            · cases q3 : lkL q l with
              | none => rw [ry.miss q3] at ew; cases ew
              | some z =>
                rw [q3] at h3
                obtain ⟨w', eu, rw'⟩ := ry.hit q3
                rw [ew] at eu
                cases eu
                exact h3 H2 F2 k2 (Evl.Ex.refl _) (List.prefix_refl _) ok2 _ rw'
            · cases q3 : lkL q l with
              | some z =>
                obtain ⟨w', eu, rw'⟩ := ry.hit q3
                rw [ew] at eu
                cases eu
              | none =>
                rw [q3] at h3
                exact h3 _ F2 k2 (Evl.Ex.refl _) (List.prefix_refl _) (ok2.mut (ownLd_some q1) ea ⟨_, upd_same, ry.put ru⟩) _ ru
          · exact (h2.no (by (try dsimp only); rw [q1, q2]; (try dsimp only); rw [if_neg hl])).elim
theorem ss_putL (hk : SE X W ke mk) (hvv : SE X W ve mv) (hN : X.N[i]? = some x := by rfl) (hv : Vis X.env.scope x := by first | exact Or.inl rfl | exact Or.inr (Or.inl rfl) | exact Or.inr (Or.inr rfl)) (hd : (x == ("__debug__" : Str)) = false := by decide)
    (hcd : (x == ("__classdict__" : Str)) = false := by decide)
    (ha : ∀ v, assign (.Subscript (.Name x p) ke pos') X.env v = (do
      let ov ← holding [v] (eval (.Name x p) X.env)
      let iv ← holding [v, ov] (eval ke X.env)
      standAt pos'
      holding [v, ov, iv] (setItem ov iv v)
      release [v, ov, iv] []) := by intro _; rfl)
    (hs : swapsWithSole [.Subscript (.Name x p) ke pos'] ve pos.line X.env = pure false := by rfl) (hw : swappedStores [.Subscript (.Name x p) ke pos'] ve X.env = pure none := by rfl) (h1 : (assignEach [.Subscript (.Name x p) ke pos'] X.env).map (·.2) = [assign (.Subscript (.Name x p) ke pos') X.env] := by rfl) :
    SS X W (.Assign [.Subscript (.Name x p) ke pos'] ve pos) (mPutL i mk mv) := PS_imp (ps_asg hvv (pg_sub (pe_var hN hv hd hcd) hk set_ld ha) hs hw h1) fun E σ H ⟨Hb, Fb, kb, k, F, s, ok, h⟩ =>
  ⟨Hb, Fb, kb, k, F, s, ok, (FinS.ofBind h).imp fun d s1 F1 k1 H1 e1 p1 ok1 h1 v rv => by
    have no : ∀ {k F} {r : R Out}, FinS (sbOf X) Hb Fb kb k F W r E → r = .no → False := fun h e => by rw [e] at h; exact h
    cases q : ownLd s1 i with
    | none => exact (no h1 (by (try dsimp only); rw [q])).elim
    | some l0 =>
      have h1 := h1.cast (mbind mk (fun y s2 => match ownLd s2 i, lfOf y with | some l, some q => if l.length < 100000 then .ok .nx (setO i (.ld (putL l q d)) s2) else .no | _, _ => .no) s1) (by (try dsimp only); rw [q])
      obtain ⟨a, ea, _, _, _, xs, hxs, _⟩ := ok1.own i _ (ownLd_some q)
      refine ⟨.ref a, ea, Hb, Fb, kb, k1, F1, s1, ok1, (FinS.ofBind h1).imp fun dy s2 F2 k2 H2 e2 p2 ok2 h2 y ry => ?_⟩
      cases q2 : ownLd s2 i with
      | none => exact (no h2 (by (try dsimp only); rw [q2])).elim
      | some l =>
        cases q3 : lfOf dy with
        | none => exact (no h2 (by (try dsimp only); rw [q2, q3])).elim
        | some q0 =>
          obtain ⟨b, eb, _, _, _, ys, hys, rys⟩ := ok2.own i _ (ownLd_some q2)
          rw [ea] at eb
          cases eb
          by_cases hl : l.length < 100000
          · have h3 := h2.cast (.ok .nx (setO i (.ld (putL l q0 d)) s2)) (by (try dsimp only); rw [q2, q3]; (try dsimp only); rw [if_pos hl])
            refine ⟨a, ys, q0, rfl, ry.lf q3, hys, by rw [rys.length]; omega, ?_⟩
            exact h3 σ _ F2 k2 (Evl.Ex.refl _) (List.prefix_refl _) (ok2.mut (ownLd_some q2) ea ⟨_, upd_same, rys.put (rv.mono e2 p2)⟩)
          · exact (no h2 (by (try dsimp only); rw [q2, q3]; (try dsimp only); rw [if_neg hl])).elim⟩
end
end FX

/-! FXLd2: dict values walked and read by key; get with a default; slot[k] += e; {k: v for ..} -/
namespace FX
open PySem PySem.Spec PyProof.Rows L2
/-! ### for key in dict, the dict locked -/
/-- the dict at d, locked as o, has the keys kl -/
def KeyL (X : Cx) (d : Addr) (o : Obj) (u : HO) (kl : List V) : Prop := ∀ (pins : List (Addr × Obj)) (σ : L2.St) (H : Hp) (s : Shared), Inv X pins σ H s → H d = some (.frz o u) →
  (d == sysModules) = false ∧ s.heap.get? d = some o ∧ o.ExactDict ∧ ∃ (es : Array DictEntry) (ep : Nat), o.data = .dict es ep ∧ es.size = kl.length ∧ ∀ (i : Nat) (x : V), kl[i]? = some x → ∃ en, es[i]? = some en ∧ RelV x en.key
def Itx (d : Addr) (o : Obj) (u : HO) (kl : List V) : It :=
  ⟨fun i H => H d = some (.frz o u) ∧ i < kl.length, fun i H x H' => H' = H ∧ kl[i]? = some x, fun i H => H d = some (.frz o u) ∧ kl.length ≤ i⟩
/-- .. wherever it is held -/
def KeyLW (P : Program) (w : World) (d : Addr) (o : Obj) (u : HO) (kl : List V) : Prop := ∀ (H : Hp) (h : Heap), HOk P w H h → H d = some (.frz o u) →
  (d == sysModules) = false ∧ h.get? d = some o ∧ o.ExactDict ∧ ∃ (es : Array DictEntry) (ep : Nat), o.data = .dict es ep ∧ es.size = kl.length ∧ ∀ (i : Nat) (x : V), kl[i]? = some x → ∃ en, es[i]? = some en ∧ RelV x en.key
theorem turn_x {P : Program} {w : World} {K : PySem.W.Frag} {tg : Expr} {d : Addr} {o : Obj} {u : HO} {kl : List V} {es : Array DictEntry} {ep : Nat} (it : Addr) (hod : o.data = .dict es ep) (hk : KeyLW P w d o u kl) : Turn P w K tg (Itx d o u kl) [it] it (fun i h => h.IsKeyIter it d i kl.length ep) where
  mem := by simp
  obj := fun i h st b hb => by
    have e : b = it := by simpa using hb
    subst e
    obtain ⟨oi, e, c, dd⟩ := st
    exact ⟨oi, e, fun v z => by rw [dd] at z; cases z⟩
  keep := fun i h h' st k => st.at fun oi e => k it (by simp) oi e
  item := by
    intro X hP hw hK hc i pins s σ H E I hf st hg
    subst hP hw hK
    obtain ⟨hd, hi⟩ := hg
    obtain ⟨f0, f1, f2, f3, f4, f5⟩ := hf it (by simp)
    obtain ⟨hs, hgd, hx, es', ep', hdt, hsz, ent⟩ := hk H s.heap I.hok hd
    obtain ⟨rfl, rfl⟩ := dict_ep hod hdt
    obtain ⟨x, hx2⟩ : ∃ x, kl[i]? = some x := ⟨kl[i], List.getElem?_eq_getElem hi⟩
    obtain ⟨en, hen, rx⟩ := ent i x hx2
    refine next_key_item st hgd hdt hsz hen fun h' st' sb => ?_
    have I1 : Inv X pins σ H { s with heap := h' } := I.turned (t' := s.toks) (fun b ob hb e => (sb.2 b hb).trans e) f0 f1 f3 f4 f5
    obtain ⟨oi, e, c, dd⟩ := id st'
    exact ⟨en.key, rfl, go_of (s := { s with heap := h' }) e c dd (by decide) ⟨x, H, I1, rx, ⟨rfl, hx2⟩, st', fun b hb => (hf b hb).1⟩⟩
  done := by
    intro X hP hw hK hc i pins s σ H E I hf st hg
    subst hP hw hK
    obtain ⟨hd, hi⟩ := hg
    obtain ⟨f0, f1, f2, f3, f4, f5⟩ := hf it (by simp)
    obtain ⟨hs, hgd, hx, es', ep', hdt, hsz, ent⟩ := hk H s.heap I.hok hd
    obtain ⟨rfl, rfl⟩ := dict_ep hod hdt
    exact next_key_end (I.ok.hd hc) st hgd hdt hsz hi fun h' eb => ⟨rfl, I.turned (t' := s.toks) (fun b ob hb e => eb b ob hb e) f0 f1 f3 f4 f5⟩
  self := fun A i s Q E st h => wpAny_pyIter_keyiter st h
def iX (X : Cx) (td : TE) : TI := fun σ H R => td σ H fun x H1 => ∃ d o u kl, x = .ref d ∧ H1 d = some (.frz o u) ∧ KeyLW X.prog X.w d o u kl ∧ R (Itx d o u kl) H1
theorem pi_x {X : Cx} {tg e : Expr} {td : TE} (he : PE X e td) : PI X tg e (iX X td) := by
  refine ⟨fun pins s σ H R I h => ?_⟩
  refine thn (he.run pins s σ H _ I h) fun u s1 ⟨x, H1, I1, rx, d, o, w, kl, ex, hd, hk, q⟩ => ?_
  subst ex
  obtain rfl : u = Value.ref d := rx
  obtain ⟨hs, hgd, hx, es, ep, hdt, hsz, ent⟩ := hk H1 s1.heap I1.hok hd
  refine iter_keys hs hgd hx hdt (pi_one (tk := s1.toks) I1 _ (turn_x _ hdt hk) ⟨_, Heap.get?_push_size _ rfl, rfl, ?_⟩ q)
  rw [hsz] <;> rfl
theorem keyN {P : Program} {w : World} {d : Addr} {o : Obj} {xs : List (NestedKey × Addr × V)} : KeyLW P w d o (.ext (ND0 P w d xs)) (xs.map fun x => V.ref x.2.1) := fun H h ok e => by
  obtain ⟨hd, ⟨o', es, ep, ys, ho, hx, hdt, pr, he, nd, ns⟩, _⟩ := ok d _ e
  rw [hd] at ho
  cases ho
  have l1 : es.size = ys.length := by rw [← Array.length_toList, he, List.length_map]
  refine ⟨ns, hd, hx, es, ep, hdt, by rw [l1, List.length_map]; exact (Paired.length pr).symm, fun i x ex => ?_⟩
  rw [List.getElem?_map] at ex
  cases q : xs[i]? with
  | none => rw [q] at ex; cases ex
  | some a =>
    rw [q] at ex
    cases ex
    obtain ⟨b, hb, p1, p2, p3⟩ := paired_get pr q
    refine ⟨entryOfKey (nestedKind P w) b, ?_, ?_⟩
    · rw [← Array.getElem?_toList, he, List.getElem?_map, hb]; rfl
    · show Value.ref b.2.1 = Value.ref a.2.1
      rw [p2]
def plainLf : Leaf → Bool
  | .num _ => false
  | _ => true
theorem relL {P : Program} {w : World} {q : Leaf} {u : Value} (h : (leafKind P w).is q u = true) (n : plainLf q = true) : RelV (lfV q) u := by
  cases q with
  | none => cases u <;> first | rfl | cases h
  | num i => cases n
  | text x =>
    obtain ⟨t, rfl⟩ := Value.isStrOf_shape (show Value.isStrOf x u = true from h)
    exact ⟨t, rfl⟩
theorem pairs_at {P : Program} {w : World} : ∀ {es : List DictEntry} {ys : List (Leaf × Value)}, Pairs (leafKind P w) es ys → ∀ (i : Nat) (y : Leaf × Value), ys[i]? = some y → ∃ en, es[i]? = some en ∧ (leafKind P w).is y.1 en.key = true := by
  intro es ys h
  induction h with
  | nil => intro i y e; simp at e
  | @cons en kv es ys h1 h2 t ih =>
    intro i y e
    cases i with
    | zero => simp at e; subst e; exact ⟨en, rfl, h1⟩
    | succ i => obtain ⟨en', e1, e2⟩ := ih i y (by simpa using e); exact ⟨en', by simpa using e1, e2⟩
theorem keyLd {P : Program} {w : World} {d : Addr} {o : Obj} {xs : List (Leaf × V)} (hn : ∀ x ∈ xs, plainLf x.1 = true) : KeyLW P w d o (.ext (LD0 P w d xs)) (xs.map fun x => lfV x.1) := fun H h ok e => by
  obtain ⟨hd, ⟨ns, ys, pr, o', es, ep, ho, hx, hdt, kk, ps, nd⟩, _⟩ := ok d _ e
  rw [hd] at ho
  cases ho
  have l1 : es.size = ys.length := by rw [← Array.length_toList]; exact ps.length
  refine ⟨ns, hd, hx, es, ep, hdt, by rw [l1, List.length_map]; exact (Paired.length pr).symm, fun i x ex => ?_⟩
  rw [List.getElem?_map] at ex
  cases q : xs[i]? with
  | none => rw [q] at ex; cases ex
  | some a =>
    rw [q] at ex
    cases ex
    obtain ⟨b, hb, p1, p3⟩ := paired_get pr q
    obtain ⟨en, e1, e2⟩ := pairs_at ps i b hb
    refine ⟨en, by rw [← Array.getElem?_toList]; exact e1, ?_⟩
    show RelV (lfV a.1) en.key
    rw [p1]
    exact relL e2 (by rw [← p1]; exact hn a (List.mem_of_getElem? q))
/-! by data -/
def keysE : D → Option (List D)
  | .kdc l => some (l.map (·.1))
  | .ldc l => if (l.all fun p => match p.1 with | .non => true | .str _ => true | _ => false) = true then some (l.map (·.1)) else none
  | _ => none
def mItemsE (m : M D) : M (List D) := mbind m fun d => mopt (keysE d)
section
variable {B : Sb} {F : Hp} {k : List Addr}
theorem RepN.get : ∀ {xs : List (NestedKey × Addr × V)} {ds : List (D × D)}, RepN B F k xs ds → ∀ {i : Nat} {x : V}, (xs.map fun x => V.ref x.2.1)[i]? = some x → ∃ d, (ds.map (·.1))[i]? = some d ∧ Rep B F k x d
  | _, _, .nil, i, x, e => by simp at e
  | _, _, .cons n h1 h2 r, 0, x, e => by simp at e; subst e; exact ⟨_, rfl, h1⟩
  | _, _, .cons n h1 h2 r, i + 1, x, e => by
    obtain ⟨d, e1, e2⟩ := RepN.get r (i := i) (x := x) (by simpa using e)
    exact ⟨d, by simpa using e1, e2⟩
theorem rep_lf (q : Leaf) : Rep B F k (lfV q) (lfD q) := by
  cases q with
  | none => exact .non
  | num i => exact .int i
  | text x => exact .str x
theorem RepE.get : ∀ {xs : List (Leaf × V)} {ds : List (D × D)}, RepE B F k xs ds → ∀ {i : Nat} {x : V}, (xs.map fun x => lfV x.1)[i]? = some x → ∃ d, (ds.map (·.1))[i]? = some d ∧ Rep B F k x d
  | _, _, .nil, i, x, e => by simp at e
  | _, _, .cons h r, 0, x, e => by simp at e; subst e; exact ⟨_, rfl, rep_lf _⟩
  | _, _, .cons h r, i + 1, x, e => by
    obtain ⟨d, e1, e2⟩ := RepE.get r (i := i) (x := x) (by simpa using e)
    exact ⟨d, by simpa using e1, e2⟩
theorem RepE.plain : ∀ {xs : List (Leaf × V)} {ds : List (D × D)}, RepE B F k xs ds → (ds.all fun p => match p.1 with | .non => true | .str _ => true | _ => false) = true → ∀ x ∈ xs, plainLf x.1 = true
  | _, _, .nil, _, x, hx => by cases hx
  | _, _, .cons (q := q) h r, e, x, hx => by
    rw [List.all_cons, Bool.and_eq_true] at e
    rcases List.mem_cons.mp hx with z | z
    · rw [z]
      cases q with
      | none => rfl
      | num i => exact absurd e.1 (by simp [lfD])
      | text y => rfl
    · exact RepE.plain r e.2 x z
end
theorem walk_x {B : Sb} {F : Hp} {k : List Addr} {d : Addr} {o : Obj} {u : HO} {kl : List V} {ds : List D} (e : F d = some (.frz o u)) (hl : kl.length = ds.length) (hr : ∀ (i : Nat) (x : V), kl[i]? = some x → ∃ y, ds[i]? = some y ∧ Rep B F k x y) : WalkD B F k (Itx d o u kl) ds := fun F' H' k' ex pr sub => by
  have eH : H' d = some (.frz o u) := sub d _ (ex d _ e)
  refine ⟨fun i hi => ⟨eH, by rw [hl]; exact hi⟩, ⟨eH, by rw [hl]; exact Nat.le_refl _⟩, fun i x H2 hi y => ?_⟩
  obtain ⟨rfl, y⟩ := y
  obtain ⟨d', e1, e2⟩ := hr i x y
  exact ⟨F', d', Grow.refl sub, e1, e2.mono ex pr⟩
theorem si_keysE {X : Cx} {W : WX} {tg e : Expr} {m : M D} (h : SE X W e m) : SI X W tg e (mItemsE m) := PI_imp (pi_x h) fun σ H Q ⟨Hb, Fb, kb, k, F, s, ok, h⟩ =>
  ⟨Hb, Fb, kb, k, F, s, ok, h.bind.imp fun d s1 F1 k1 H1 e1 p1 ok1 h1 v rv => by
    cases rv with
    | @kdc a ob xs ds hF rn =>
      exact ⟨a, ob, _, _, rfl, ok1.bs.sub _ _ hF, keyN, h1 H1 F1 k1 (Evl.Ex.refl _) (List.prefix_refl _) ok1 _ (walk_x hF (by rw [List.length_map, List.length_map, rn.length]) fun i x ex => rn.get ex)⟩
    | @ldc a ob xs ds hF re =>
      by_cases c : (ds.all fun p => match p.1 with | .non => true | .str _ => true | _ => false) = true
      · have h2 := h1.cast (.ok (ds.map (·.1)) s1) (by show mopt (if _ then _ else _) s1 = _; rw [if_pos c]; rfl)
        exact ⟨a, ob, _, _, rfl, ok1.bs.sub _ _ hF, keyLd (re.plain c), h2 H1 F1 k1 (Evl.Ex.refl _) (List.prefix_refl _) ok1 _ (walk_x hF (by rw [List.length_map, List.length_map, re.length]) fun i x ex => re.get ex)⟩
      · exact (h1.no (by show mopt (if _ then _ else _) s1 = _; rw [if_neg c]; rfl)).elim
    | _ => exact h1.elim⟩
/-! ### value[key] -/
def dIxE (x y : D) : Option D := match x with
  | .ldc l => (lfOf y).bind fun q => lkL q l
  | .kdc l => (nk8 y).bind fun q => lkN q l
  | _ => none
def mIxE (mo mi : M D) : M D := mbind mo fun x => mbind mi fun y => mopt (dIxE x y)
section
variable {B : Sb} {F : Hp} {k : List Addr}
theorem RepN.hit {q : NestedKey} {d : D} : ∀ {xs : List (NestedKey × Addr × V)} {ds : List (D × D)}, RepN B F k xs ds → lkN q ds = some d → ∃ v, valN xs q = some v ∧ Rep B F k v d
  | _, _, .nil, e => by cases e
  | _, _, .cons (q := q') (a := a) (v := v) n h1 h2 r, e => by
    by_cases c : q' = q
    · subst c
      simp [lkN, List.find?_cons, n] at e
      subst e
      exact ⟨v, by simp [valN, List.find?_cons], h2⟩
    · obtain ⟨u, e1, e2⟩ := RepN.hit (q := q) r (by simpa [lkN, List.find?_cons, n, c] using e)
      exact ⟨u, by simpa [valN, List.find?_cons, c] using e1, e2⟩
theorem RepN.miss {q : NestedKey} : ∀ {xs : List (NestedKey × Addr × V)} {ds : List (D × D)}, RepN B F k xs ds → lkN q ds = none → valN xs q = none
  | _, _, .nil, _ => rfl
  | _, _, .cons (q := q') n h1 h2 r, e => by
    by_cases c : q' = q
    · subst c; simp [lkN, List.find?_cons, n] at e
    · have ih := RepN.miss (q := q) r (by simpa [lkN, List.find?_cons, n, c] using e)
      simpa [valN, List.find?_cons, c] using ih
end
section
variable {X : Cx} {W : WX} {pos pos' p apos cpos tpos : Pos} {x : Str} {i : Nat} {o idx e f ke ve : Expr} {mo mi mk mv : M D} {j : Nat}
theorem se_ixE (hr : Room j X.A) (ho : SE X W o mo) (hi : SE X W idx mi) (hs : NoSl idx) : SE X W (.Subscript o idx pos) (mIxE mo mi) := PE_imp (pe_eget hr ho hi hs) fun σ H Q ⟨Hb, Fb, kb, k, F, s, ok, h⟩ =>
  ⟨Hb, Fb, kb, k, F, s, ok, h.bind.imp fun dx s1 F1 k1 H1 e1 p1 ok1 h1 v rv => ⟨Hb, Fb, kb, k1, F1, s1, ok1, h1.bind.imp fun dy s2 F2 k2 H2 e2 p2 ok2 h2 u ru => by
    cases q : dIxE dx dy with
    | none => rw [q] at h2; exact h2.elim
    | some z =>
      rw [q] at h2
      have fin : ∀ w, Rep (sbOf X) F2 k2 w z → Q w H2 := fun w rw' => h2 H2 F2 k2 (Evl.Ex.refl _) (List.prefix_refl _) ok2 w rw'
      have rv := rv.mono e2 p2
      cases rv <;> try (cases q; done)
      case kdc a ob xs ds hF rn =>
        have q : (nk8 dy).bind (fun q => lkN q ds) = some z := q
        cases qn : nk8 dy with
        | none => rw [qn] at q; cases q
        | some qk =>
          rw [qn] at q
          obtain ⟨w, ew, rw'⟩ := rn.hit (show lkN qk ds = some z from q)
          obtain ⟨_, _, l', rfl⟩ := nk8_some qn
          cases ru with
          | @tup b zs ds' hq rl =>
            exact ⟨a, w, rfl, .inr ⟨xs, qk, b, .inr ⟨ob, ok2.bs.sub _ _ hF⟩, rfl, Rep.nkey (.tup hq rl) ok2.bs.sub qn, rn.nkeys ok2.bs.sub, ew.symm⟩, fin w rw'⟩
      case ldc a ob xs ds hF re =>
        have q : (lfOf dy).bind (fun q => lkL q ds) = some z := q
        cases qn : lfOf dy with
        | none => rw [qn] at q; cases q
        | some qk =>
          rw [qn] at q
          obtain ⟨w, ew, rw'⟩ := re.hit (show lkL qk ds = some z from q)
          exact ⟨a, w, rfl, .inl ⟨xs, qk, .inr ⟨ob, ok2.bs.sub _ _ hF⟩, ru.lf qn, ew.symm⟩, fin w rw'⟩⟩⟩
/-- slot.get(key, default), the keys nested -/
def mGetN (i : Nat) (mk mv : M D) : M D := fun s => match ownN s i with
  | none => .no
  | some _ => mbind mk (fun y => mbind mv fun d s' => match ownN s' i, nk8 y with
    | some l, some q => .ok ((lkN q l).getD d) s'
    | _, _ => .no) s
theorem se_getN (hr : Room j X.A) (he : SE X W e mk) (hf : SE X W f mv) (m : M2 X (.Name x p) "get" apos e f cpos := by exact ⟨rfl, rfl, rfl, rfl⟩) (hN : X.N[i]? = some x := by rfl) (hv : Vis X.env.scope x := by first | exact Or.inl rfl | exact Or.inr (Or.inl rfl) | exact Or.inr (Or.inr rfl)) (hd : (x == ("__debug__" : Str)) = false := by decide)
    (hcd : (x == ("__classdict__" : Str)) = false := by decide) : SE X W (.Call (.Attribute (.Name x p) "get" apos) [e, f] [] cpos) (mGetN i mk mv) :=
  PE_imp (pe_eget2 hr (pe_var hN hv hd hcd) he hf m) fun σ H Q ⟨Hb, Fb, kb, k, F, s, ok, h⟩ => by
    unfold mGetN at h
    cases q0 : ownN s i with
    | none => rw [q0] at h; exact h.elim
    | some l0 =>
      rw [q0] at h
      obtain ⟨a, ea, _, _, _, xs0, hxs0, rx0⟩ := ok.own i _ (ownN_some q0)
      refine ⟨.ref a, ea, a, rfl, .inr ⟨xs0, .inl hxs0, rx0.nkeys ok.bs.sub⟩, Hb, Fb, kb, k, F, s, ok, (Fin.bind h).imp fun y s1 F1 k1 H1 e1 p1 ok1 h1 v rv => ⟨Hb, Fb, kb, k1, F1, s1, ok1, (Fin.bind h1).imp fun d s2 F2 k2 H2 e2 p2 ok2 h2 u ru => ?_⟩⟩
      cases q1 : ownN s2 i with
      | none => exact (h2.no (by (try dsimp only); rw [q1])).elim
      | some l =>
        cases q2 : nk8 y with
        | none => exact (h2.no (by (try dsimp only); rw [q1, q2])).elim
        | some q =>
          have h3 := h2.cast (.ok ((lkN q l).getD d) s2) (by (try dsimp only); rw [q1, q2])
          obtain ⟨b, eb, _, _, _, ys, hys, ry⟩ := ok2.own i _ (ownN_some q1)
          rw [ea] at eb
          cases eb
          have rv := rv.mono e2 p2
          obtain ⟨_, _, l', rfl⟩ := nk8_some q2
          cases rv with
          | @tup c zs ds' hq rl =>
            refine ⟨valN ys q, .inr ⟨ys, q, c, .inl hys, rfl, Rep.nkey (.tup hq rl) ok2.bs.sub q2, ry.nkeys ok2.bs.sub, rfl⟩, ?_⟩
            cases q3 : lkN q l with
            | none =>
              rw [q3] at h3
              rw [ry.miss q3]
              exact h3 H2 F2 k2 (Evl.Ex.refl _) (List.prefix_refl _) ok2 _ ru
            | some z =>
              rw [q3] at h3
              obtain ⟨w, ew, rw'⟩ := ry.hit q3
              rw [ew]
              exact h3 H2 F2 k2 (Evl.Ex.refl _) (List.prefix_refl _) ok2 _ rw'
/-- slot[key] += value -/
def mAugL (i : Nat) (mk mv : M D) : M Out := fun s => match ownLd s i with
  | none => .no
  | some _ => mbind mk (fun y s1 => match ownLd s1 i, lfOf y with
    | some l1, some q => (match lkL q l1 with
      | some (.int a) => mbind mv (fun d s2 => match ownLd s2 i, d with
        | some l2, .int b => if l2.length < 100000 then .ok .nx (setO i (.ld (putL l2 q (.int (a + b)))) s2) else .no
        | _, _ => .no) s1
      | _ => .no)
    | _, _ => .no) s
theorem ss_augL (hr : Room j X.A) (hk : SE X W ke mk) (hvv : SE X W ve mv) (hN : X.N[i]? = some x := by rfl) (hv : Vis X.env.scope x := by first | exact Or.inl rfl | exact Or.inr (Or.inl rfl) | exact Or.inr (Or.inr rfl)) (hd : (x == ("__debug__" : Str)) = false := by decide)
    (hcd : (x == ("__classdict__" : Str)) = false := by decide) (ha : ∀ ov iv new, augStore ke ov iv new = (do holding [new, ov, iv] (setItem ov iv new); release [new, ov, iv] []; pure .next) := by intros; rfl) :
    SS X W (.AugAssign (.Subscript (.Name x p) ke tpos) .Add ve pos) (mAugL i mk mv) := PS_imp (ps_eaug hr (pe_var hN hv hd hcd) hk hvv ip_add ha) fun E σ H ⟨Hb, Fb, kb, k, F, s, ok, h⟩ => by
  have no : ∀ {k F} {r : R Out}, FinS (sbOf X) Hb Fb kb k F W r E → r = .no → False := fun h e => by rw [e] at h; exact h
  unfold mAugL at h
  cases q0 : ownLd s i with
  | none => rw [q0] at h; exact h.elim
  | some l0 =>
    rw [q0] at h
    obtain ⟨a, ea, _, _, _, xs0, hxs0, _⟩ := ok.own i _ (ownLd_some q0)
    refine ⟨.ref a, ea, Hb, Fb, kb, k, F, s, ok, (FinS.ofBind h).imp fun y s1 F1 k1 H1 e1 p1 ok1 h1 v rv => ?_⟩
    cases q1 : ownLd s1 i with
    | none => exact (no h1 (by (try dsimp only); rw [q1])).elim
    | some l1 =>
      cases q2 : lfOf y with
      | none => exact (no h1 (by (try dsimp only); rw [q1, q2])).elim
      | some q =>
        obtain ⟨b, eb, _, _, _, ys, hys, ry⟩ := ok1.own i _ (ownLd_some q1)
        rw [ea] at eb
        cases eb
        cases q3 : lkL q l1 with
        | none => exact (no h1 (by (try dsimp only); rw [q1, q2]; (try dsimp only); rw [q3])).elim
        | some z =>
          obtain ⟨w, ew, rw'⟩ := ry.hit q3
          obtain ⟨ia, rfl⟩ : ∃ ia, z = D.int ia := by
            cases z <;> first | exact ⟨_, rfl⟩ | exact (no h1 (by (try dsimp only); rw [q1, q2]; (try dsimp only); rw [q3])).elim
          cases rw'
          have h2 := h1.cast (mbind mv (fun d s2 => match ownLd s2 i, d with | some l2, .int b => if l2.length < 100000 then .ok .nx (setO i (.ld (putL l2 q (.int (ia + b)))) s2) else .no | _, _ => .no) s1) (by (try dsimp only); rw [q1, q2]; (try dsimp only); rw [q3])
          refine ⟨a, .int ia, rfl, .inl ⟨ys, q, .inl hys, rv.lf q2, ew.symm⟩, Hb, Fb, kb, k1, F1, s1, ok1, (FinS.ofBind h2).imp fun d s2 F2 k2 H2 e2 p2 ok2 h3 u ru => ?_⟩
          cases q4 : ownLd s2 i with
          | none => exact (no h3 (by (try dsimp only); rw [q4])).elim
          | some l2 =>
            obtain ⟨ib, rfl⟩ : ∃ ib, d = D.int ib := by
              cases d <;> first | exact ⟨_, rfl⟩ | exact (no h3 (by (try dsimp only); rw [q4])).elim
            cases ru
            obtain ⟨c, ec, _, _, _, zs, hzs, rz⟩ := ok2.own i _ (ownLd_some q4)
            rw [ea] at ec
            cases ec
            by_cases hl : l2.length < 100000
            · have h4 := h3.cast (.ok .nx (setO i (.ld (putL l2 q (.int (ia + ib)))) s2)) (by (try dsimp only); rw [q4]; (try dsimp only); rw [if_pos hl])
              refine ⟨ia, ib, rfl, rfl, zs, q, hzs, rv.lf q2, by rw [rz.length]; omega, ?_⟩
              exact h4 σ _ F2 k2 (Evl.Ex.refl _) (List.prefix_refl _) (ok2.mut (ownLd_some q4) ea ⟨_, upd_same, rz.put (.int _)⟩)
            · exact (no h3 (by (try dsimp only); rw [q4]; (try dsimp only); rw [if_neg hl])).elim
end
end FX

/-! FXLd3: {k: v for ..} set to a name, as a dict whose keys are carried by value; a dict of texts and numbers taken as such -/
namespace FX
open PySem PySem.Spec PyProof.Rows L2
def toLf : Key → Leaf
  | .inl i => .num i
  | .inr x => .text x
def toLfs {α : Type} (l : List (Key × α)) : List (Leaf × α) := l.map fun p => (toLf p.1, p.2)
theorem toLf_inj {a b : Key} (h : toLf a = toLf b) : a = b := by
  cases a <;> cases b <;> first | (injection h with h; rw [h]) | cases h
theorem leaf_of_mix {P : Program} {w : World} {k : Key} {u : Value} (h : (mixKind P w).is k u = true) : (leafKind P w).is (toLf k) u = true := by
  rcases keyIs_shape h with ⟨i, t, rfl, rfl⟩ | ⟨x, t, rfl, rfl⟩
  · exact decide_eq_true rfl
  · show (x == x) = true; simp
theorem hash_of_mix {P : Program} {w : World} (k : Key) : (leafKind P w).hash (toLf k) = (mixKind P w).hash k := by
  cases k <;> rfl
theorem dictOf_leaf {P : Program} {w : World} {h : Heap} {a : Addr} {vs : List (Key × Value)} (d : h.DictOf (mixKind P w) a vs) : h.DictOf (leafKind P w) a (toLfs vs) := by
  obtain ⟨o, es, ep, ho, hx, hd, kk, ps, nd⟩ := d
  refine ⟨o, es, ep, ho, hx, hd, fun e he => ?_, ?_, ?_⟩
  · obtain ⟨k, k1, k2⟩ := kk e he
    exact ⟨toLf k, leaf_of_mix k1, by rw [hash_of_mix]; exact k2⟩
  · clear kk nd hd hx ho
    generalize es.toList = l at ps
    induction ps with
    | nil => exact .nil
    | cons h1 h2 t ih => exact .cons (leaf_of_mix h1) h2 ih
  · have : (toLfs vs).map (·.1) = (vs.map (·.1)).map toLf := by unfold toLfs; rw [List.map_map, List.map_map]; rfl
    rw [this]
    exact List.Pairwise.map _ (fun a b hn z => hn (toLf_inj z)) nd
theorem kv_leaf {xs : List (Key × V)} {ys : List (Key × Value)} (h : KV xs ys) : KV (toLfs xs) (toLfs ys) := by
  unfold KV at h ⊢
  induction h with
  | nil => exact .nil
  | cons p t ih => exact .cons ⟨congrArg toLf p.1, p.2⟩ ih
theorem Inv.toL {X : Cx} {pins : List (Addr × Obj)} {σ : L2.St} {H : Hp} {s : Shared} {d : Addr} {kvs : List (Key × V)} (I : Inv X pins σ H s) (h : H d = some (.dK kvs)) : Inv X pins σ (upd H d (LO X d (toLfs kvs))) s := by
  obtain ⟨z, hs, vs, kv, dd⟩ := dk_of I.hok h
  obtain ⟨o, es, ep, e, r⟩ := id dd
  exact I.write (x := d) (e := d) (t' := s.toks) (h' := s.heap) (by rw [h]; exact True.intro) (.inl rfl) (fun b v _ q => q) ⟨o, e⟩ (ld_new hs (kv_leaf kv) (dictOf_leaf dd))
def tToL (X : Cx) (t : TE) : TE := fun σ H Q => t σ H fun v H1 => ∃ a kvs, H1 a = some (.dK kvs) ∧ Q v (upd H1 a (LO X a (toLfs kvs)))
theorem pe_toL {X : Cx} {e : Expr} {t : TE} (h : PE X e t) : PE X e (tToL X t) := ⟨fun pins s σ H Q I q => thn (h.run pins s σ H _ I q) fun v s1 ⟨x, H1, I1, r1, a, kvs, hu, q1⟩ => ⟨x, _, Inv.toL I1 hu, r1, q1⟩⟩
def tSToL (X : Cx) (t : TS) : TS := fun D σ H => t { D with nx := fun σ' H' => ∃ a kvs, H' a = some (.dK kvs) ∧ D.nx σ' (upd H' a (LO X a (toLfs kvs))) } σ H
theorem ps_toL {X : Cx} {st : Stmt} {t : TS} (h : PS X st t) : PS X st (tSToL X t) := by
  refine ⟨fun pins s σ H D I hw => thn (h.run pins s σ H _ I hw) fun f s1 q => ?_⟩
  cases f with
  | next => obtain ⟨σ', H', I2, a, kvs, e, q⟩ := q; exact ⟨σ', _, Inv.toL I2 e, q⟩
  | brk => exact q
  | cont => exact q
  | ret v => exact q
section
variable {X : Cx}
/-- name = {..} on one line, the name a local -/
theorem ps_setDc {i : Nat} {y : Str} {py : Pos} {kx vx tg iter : Expr} {ifs : List Expr} {scope : Scope} {own : List (Str × Nat)} {pos spos : Pos} {wi : TI} {g : TG} {tt : TT} {tk tv : TE} (hc : X.calm = true) (hN : X.N.Nodup) (hy : X.N[i]? = some y) (hyl : X.env.scope.names.lookup y = some .local)
    (hsw : swapsWith (.DictComp kx vx [⟨tg, iter, ifs, 0⟩] scope pos) (some (.Name y py)) spos.line X.env = pure true) (hi : PI X tg iter wi) (ok : BlkOk X.N X.env.scope scope own)
    (hg : ∀ (s : Shared) (H : Hp) (C : Addr) (cl : List (Str × Addr)) (fp : List Addr), PG (X.blk s H scope (compEnvC scope cl C X.env) fp) tg g) (ht : ∀ (s : Shared) (H : Hp) (C : Addr) (cl : List (Str × Addr)) (fp : List Addr), PTs (X.blk s H scope (compEnvC scope cl C X.env) fp) ifs tt)
    (hk : ∀ (s : Shared) (H : Hp) (C : Addr) (cl : List (Str × Addr)) (fp : List Addr), PE (X.blk s H scope (compEnvC scope cl C X.env) fp) kx tk)
    (he : ∀ (s : Shared) (H : Hp) (C : Addr) (cl : List (Str × Addr)) (fp : List Addr), PE (X.blk s H scope (compEnvC scope cl C X.env) fp) vx tv) (hs : ∀ x, foldedSetIterable iter X.env x = pure x := by intro _; rfl) :
    PS X (.Assign [.Name y py] (.DictComp kx vx [⟨tg, iter, ifs, 0⟩] scope pos) spos) (tAsg (tDc wi g tt tk tv (own.map (·.2))) (gName i)) := by
  refine ⟨fun pins s σ H D I h => ?_⟩
  rw [exec_Assign_Name_used _ _ _ _ hsw]
  refine wpAny_bind (wpAny_standAt (wpAny_bind ?_))
  show wpAny _ X.A (do let _ ← comprehension (.DictComp kx vx [⟨tg, iter, ifs, 0⟩] scope pos) scope X.env (firstIterPos [⟨tg, iter, ifs, 0⟩] pos) newDict false (eval iter X.env) (some (assign (.Name y py) X.env))) _ _ s
  have h : tDc wi g tt tk tv (own.map (·.2)) σ H (fun x H1 => gName i x σ H1 D.nx) := h
  refine wpAny_bind (thn (dc_core (Qf := fun _ s' => SP X pins D .next s') hc hN I hi ok hg ht hk he hs h fun L C s' m H' I' q hn f => ?_) fun _ s' hq => wpAny_pure (wpAny_pure hq))
  show wpAny _ _ (assign (.Name y py) X.env (.ref L)) _ _ _
  refine wpAny_assign_Name (store_ok2 (v := V.ref L) I' hN hy (.inl hyl) rfl (fun s2 I2 ⟨a, sb, ha⟩ => ?_) (.inr hyl))
  obtain ⟨f0, f1, f2, f3, f4, f5⟩ := f
  have haC : C ≠ a := by
    rcases ha with z | z
    · rw [z]; exact f1
    · exact fun e => f4 y a z e.symm
  refine ⟨m, hn.sameBut sb haC, fun h3 sb3 => ?_⟩
  exact ⟨_, H', I2.turned (t' := s2.toks) (fun b o hb e => (sb3.2 b hb).trans e) f0 f1 f3 f4 f5, q⟩
end
theorem sw_trueD {kx vx : Expr} {gs : List Comprehension} {scope : Scope} {pos py : Pos} {y : Str} {l : Nat} {env : Env} (hk : env.scope.kind = .function) (hy : env.scope.names.lookup y = some .local) (hl : (py.line == pos.line) = true)
    (ha : (scope.names.any fun (n, k) => n == y && (k == .local || k == .cell)) = false) : swapsWith (.DictComp kx vx gs scope pos) (some (.Name y py)) l env = pure true := by
  have ky : env.kindOf y = some .local := hy
  have hb : env.blockKind = .function := by unfold Env.blockKind; rw [hk]; rfl
  unfold swapsWith
  simp only [hb, ky, ha, Expr.pos, hl]
  rfl
/-! by data -/
def cbodyD (g : D → M Unit) (t : M Bool) (mk mv : M D) : D → M (Option D) := fun d => mbind (g d) fun _ => mbind t fun b => if b = true then mbind mk fun y => mbind mv fun z => mpure (some (.tup [y, z])) else mpure none
def putsD : List (D × D) → List D → Option (List (D × D))
  | acc, [] => some acc
  | acc, .tup [y, z] :: r => match keyOf y with
    | some q => putsD (putD acc q z) r
    | none => none
  | _, _ => none
def mDcL (mi : M (List D)) (vs : List Nat) (g : D → M Unit) (t : M Bool) (mk mv : M D) : M Ob := mbind mi fun ds s => match compR (hideE (wipeE s.e vs)) (cbodyD g t mk mv) ds s.g with
  | some (l, g') => if l.length ≤ 100000 then (match putsD [] l with
    | some ps => .ok (.ld ps) ⟨s.e, g'⟩
    | none => .no) else .no
  | none => .no
theorem RepK.toE {B : Sb} {F : Hp} {k : List Addr} : ∀ {xs : List (Key × V)} {ds : List (D × D)}, RepK B F k xs ds → RepE B F k (toLfs xs) ds
  | _, _, .nil => .nil
  | _, _, .cons (q := q) h r => by
    have e : kD q = lfD (toLf q) := by cases q <;> rfl
    rw [e]
    exact .cons h (RepK.toE r)
theorem putD_len (ds : List (D × D)) (q : Key) (d : D) : (putD ds q d).length ≤ ds.length + 1 := by
  have : ∀ ds : List (D × D), (setD q d ds).length = ds.length := fun ds => by
    induction ds with
    | nil => rfl
    | cons p ds ih => unfold setD; split <;> simp [ih]
  unfold putD
  split
  · rw [this]; omega
  · simp
theorem dc_imp {B : Sb} {W : WX} {mi : M (List D)} {vs0 us : List Nat} {g : D → M Unit} {t : M Bool} {mk mv : M D} (hu : ∀ i ∈ us, i ∈ vs0) (σ : L2.St) (H : Hp) (Q : VK) :
    (∃ Hb Fb kb k F s, Ok B Hb Fb kb k F s σ H ∧ Fin B Hb Fb kb k F σ W (mDcL mi vs0 g t mk mv s) fun o s' F' k' H' => ∀ ps, o = .ld ps → ∀ a, Free Hb k' F' s' σ a → ∀ xs, H' a = some (.dK xs) → RepK B F' k' xs ps → Q (.ref a) H') →
    tDc (tI B W mi) (tG B us g) (tT B (fun _ _ _ _ => False) t) (tE B (fun _ _ _ _ => False) mk) (tE B (fun _ _ _ _ => False) mv) vs0 σ H Q := fun ⟨Hb, Fb, kb, k, F, s, ok, h⟩ => ⟨Hb, Fb, kb, k, F, s, ok, h.bind.imp fun ds s1 F1 k1 H1 e1 p1 ok1 h1 J wk Da hD => by
    cases q : compR (hideE (wipeE s1.e vs0)) (cbodyD g t mk mv) ds s1.g with
    | none => exact (h1.no (by (try dsimp only); rw [q])).elim
    | some z =>
      obtain ⟨l, gf⟩ := z
      by_cases hl : l.length ≤ 100000
      case neg => exact (h1.no (by (try dsimp only); rw [q]; (try dsimp only); rw [if_neg hl])).elim
      cases qp : putsD [] l with
      | none => exact (h1.no (by (try dsimp only); rw [q]; (try dsimp only); rw [if_pos hl, qp])).elim
      | some ps =>
      have h1 := h1.cast (.ok (Ob.ld ps) ⟨s1.e, gf⟩) (by (try dsimp only); rw [q]; (try dsimp only); rw [if_pos hl, qp])
      have fr0 := ok1.free hD
      refine ⟨fun i m H' => m = ds.length - i ∧ i ≤ ds.length ∧ ∃ F2 k2 g2 vs ys rest, Ex F1 F2 ∧ Pre k1 k2 ∧ Ok B Hb Fb kb k2 F2 ⟨s1.e, g2⟩ σ H' ∧ Free Hb k2 F2 ⟨s1.e, g2⟩ σ Da ∧ H' Da = some (.dK vs) ∧ RepK B F2 k2 vs ys ∧
          compR (hideE (wipeE s1.e vs0)) (cbodyD g t mk mv) (ds.drop i) g2 = some (rest, gf) ∧ putsD ys rest = some ps ∧ ys.length + rest.length ≤ 100000,
        ⟨ds.length, by simp, Nat.zero_le _, F1, k1, s1.g, [], [], l, Evl.Ex.refl _, List.prefix_refl _, ok1.grow (Grow.junk ok1.bs.sub hD), fr0, upd_same, .nil, q, qp, by simpa using hl⟩, ?_⟩
      rintro i m H' ⟨rfl, hi', F2, k2, g2, vs, ys, rest, e2, p2, ok2, fr2, hD2, rl2, hcr, hp2, hl2⟩
      obtain ⟨go, stop, yld⟩ := wk F2 H' k2 e2 p2 ok2.bs.sub
      by_cases hlt : i < ds.length
      · refine .inr ⟨go i hlt, fun H3 => ∃ F3 k3 g3 vs ys rest, Ex F1 F3 ∧ Pre k1 k3 ∧ Ok B Hb Fb kb k3 F3 ⟨s1.e, g3⟩ σ H3 ∧ Free Hb k3 F3 ⟨s1.e, g3⟩ σ Da ∧ H3 Da = some (.dK vs) ∧ RepK B F3 k3 vs ys ∧
          compR (hideE (wipeE s1.e vs0)) (cbodyD g t mk mv) (ds.drop (i + 1)) g3 = some (rest, gf) ∧ putsD ys rest = some ps ∧ ys.length + rest.length ≤ 100000, fun H3 z => ⟨ds.length - (i + 1), by omega, rfl, hlt, z⟩, fun x H3 y => ?_⟩
        obtain ⟨F3, d, gr, hd, rd⟩ := yld i x H3 hlt y
        rw [drop_get hd] at hcr
        obtain ⟨yy, s4, hb, hrest⟩ := compR_cons hcr
        have ok3 := ok2.grow gr
        have okI := ok3.inner vs0
        have hD3 : H3 Da = some (.dK vs) := gr.hh Da _ hD2
        have nD3 : Da ∉ k2 := fr2.2.1
        have hb' : mbind (g d) (fun _ => mbind t fun b => if b = true then mbind mk fun y => mbind mv fun z => mpure (some (.tup [y, z])) else mpure none) ⟨hideE (wipeE s1.e vs0), g2⟩ = .ok yy s4 := hb
        have after : ∀ {k4 F4 g4 H4}, Ex F3 F4 → Bs B H3 F3 k2 k4 F4 g4 H4 → Ok B Hb Fb kb k4 F4 ⟨s1.e, g4⟩ σ H4 ∧ Free Hb k4 F4 ⟨s1.e, g4⟩ σ Da ∧ H4 Da = some (.dK vs) := fun {k4 F4 g4 H4} e4 b4 => by
          refine ⟨ok3.evo b4, ⟨?_, fun z => ?_, fr2.2.2.1, fr2.2.2.2⟩, b4.keep Da _ hD3 nD3⟩
          · cases z : F4 Da with
            | none => rfl
            | some o' =>
              rcases b4.frz Da o' z with y | y
              · rcases gr.new Da o' y with y' | y'
                · rw [fr2.1] at y'; cases y'
                · rw [hD2] at y'; cases y'
              · rw [hD3] at y; cases y
          · rcases b4.new Da z with y | y
            · exact nD3 y
            · rw [hD3] at y; cases y
        refine ⟨H3, F3, k2, k2, F3, ⟨hideE (wipeE s1.e vs0), g2⟩, d, okI, rd, ?_⟩
        obtain ⟨u, s5, q1, hb1⟩ := mbind_ok hb'
        obtain ⟨b, s6, q2, hb2⟩ := mbind_ok hb1
        rw [q1]
        intro σ4 H4 F4 k4 e4 p4 ag ok4
        refine ⟨(wipe_agree hu ag).trans (wipe_wipe σ _), H3, F3, k2, k4, F4, s5, ok4, ?_⟩
        rw [q2]
        intro H5 F5 k5 e5 p5 ok5
        cases b with
        | false =>
          rw [if_neg Bool.false_ne_true]
          have hb' : R.ok none s6 = R.ok yy s4 := hb2
          cases hb'
          obtain ⟨a1, a2, a3⟩ := after (e4.trans e5) ok5.bs
          exact ⟨F5, k5, s4.g, vs, ys, rest, e2.trans (gr.ff.trans (e4.trans e5)), p2.trans (p4.trans p5), a1, a2, a3, rl2.mono (gr.ff.trans (e4.trans e5)) (p4.trans p5), hrest, hp2, hl2⟩
        | true =>
          rw [if_pos rfl]
          refine ⟨H3, F3, k2, k5, F5, s6, ok5, ?_⟩
          obtain ⟨yk, s7, q3, hb3⟩ := mbind_ok (show mbind mk (fun y => mbind mv fun z => mpure (some (.tup [y, z]))) s6 = R.ok yy s4 from hb2)
          rw [q3]
          intro H6 F6 k6 e6 p6 ok6 vk rk
          refine ⟨H3, F3, k2, k6, F6, s7, ok6, ?_⟩
          obtain ⟨yv, s8, q4, hb4⟩ := mbind_ok (show mbind mv (fun z => mpure (some (.tup [yk, z]))) s7 = R.ok yy s4 from hb3)
          rw [q4]
          have hb' : R.ok (some (D.tup [yk, yv])) s8 = R.ok yy s4 := hb4
          cases hb'
          obtain ⟨l', rfl, hrest⟩ := hrest
          intro H7 F7 k7 e7 p7 ok7 v rv
          have e37 : Ex F3 F7 := e4.trans (e5.trans (e6.trans e7))
          have p37 : Pre k2 k7 := p4.trans (p5.trans (p6.trans p7))
          obtain ⟨a1, a2, a3⟩ := after e37 ok7.bs
          cases qk : keyOf yk with
          | none => simp only [putsD, qk] at hp2; cases hp2
          | some kq =>
            simp only [putsD, qk] at hp2
            have hk := keyOf_kD qk
            subst hk
            have hv : vk = kV kq := by cases kq <;> cases rk <;> rfl
            have ln := putD_len ys kq yv
            rw [List.length_cons] at hl2
            refine ⟨vs, kq, hv, a3, Evl.sz_lt (by rw [rl2.length]; omega), F7, k7, s4.g, putK vs kq v, putD ys kq yv, l', e2.trans (gr.ff.trans e37), p2.trans p37, a1.free_upd a2, a2, upd_same, RepK.put kq rv (rl2.mono (gr.ff.trans e37) p37), hrest, hp2, by omega⟩
      · have e : i = ds.length := by omega
        subst e
        rw [List.drop_length] at hcr
        have z : some ([], g2) = some (rest, gf) := hcr
        cases z
        have z2 : some ys = some ps := hp2
        cases z2
        exact .inl ⟨stop, h1 H' F2 k2 e2 p2 ok2 _ rfl Da fr2 vs hD2 rl2⟩⟩
section
variable {X : Cx} {W : WX} {pos : Pos} {kx vx tg iter : Expr} {ifs : List Expr} {scope : Scope} {own : List (Str × Nat)} {mi : M (List D)} {us : List Nat} {g : D → M Unit} {t : M Bool} {mk mv : M D}
theorem ss_setDcL {i : Nat} {y : Str} {py spos : Pos} (hN : X.N.Nodup) (hi : SI X W tg iter mi) (ok : BlkOk X.N X.env.scope scope own)
    (hg : ∀ (s : Shared) (H : Hp) (C : Addr) (cl : List (Str × Addr)) (fp : List Addr), SG (X.blk s H scope (compEnvC scope cl C X.env) fp) tg us g)
    (ht : ∀ (s : Shared) (H : Hp) (C : Addr) (cl : List (Str × Addr)) (fp : List Addr), STs (X.blk s H scope (compEnvC scope cl C X.env) fp) (fun _ _ _ _ => False) ifs t)
    (hk : ∀ (s : Shared) (H : Hp) (C : Addr) (cl : List (Str × Addr)) (fp : List Addr), SE (X.blk s H scope (compEnvC scope cl C X.env) fp) (fun _ _ _ _ => False) kx mk)
    (he : ∀ (s : Shared) (H : Hp) (C : Addr) (cl : List (Str × Addr)) (fp : List Addr), SE (X.blk s H scope (compEnvC scope cl C X.env) fp) (fun _ _ _ _ => False) vx mv) (hu : ∀ i ∈ us, i ∈ own.map (·.2))
    (hsw : swapsWith (.DictComp kx vx [⟨tg, iter, ifs, 0⟩] scope pos) (some (.Name y py)) spos.line X.env = pure true) (hy : X.N[i]? = some y := by rfl) (hyl : X.env.scope.names.lookup y = some .local := by rfl) (hc : X.calm = true := by rfl)
    (hs : ∀ x, foldedSetIterable iter X.env x = pure x := by intro _; rfl) : SS X W (.Assign [.Name y py] (.DictComp kx vx [⟨tg, iter, ifs, 0⟩] scope pos) spos) (mSetN i (mDcL mi (own.map (·.2)) g t mk mv)) :=
  PS_imp (ps_toL (ps_setDc (g := tG (sbOf X) us g) (tt := tT (sbOf X) (fun _ _ _ _ => False) t) (tk := tE (sbOf X) (fun _ _ _ _ => False) mk) (tv := tE (sbOf X) (fun _ _ _ _ => False) mv) hc hN hy hyl hsw hi ok hg ht hk he hs)) fun E σ H ⟨Hb, Fb, kb, k, F, s, ok, h⟩ =>
    dc_imp (W := W) hu σ H (fun x H1 => gName i x σ H1 fun σ' H' => ∃ a kvs, H' a = some (.dK kvs) ∧ E.nx σ' (upd H' a (LO X a (toLfs kvs)))) ⟨Hb, Fb, kb, k, F, s, ok, (FinS.ofBind h).imp fun o s1 F1 k1 H1 e1 p1 ok1 h1 ps eo a f xs hx rx => by
      subst eo
      refine ⟨a, xs, hx, ?_⟩
      exact h1 _ _ F1 k1 (Evl.Ex.refl _) (List.prefix_refl _) ((ok1.free_upd f).setO f (show ObAt (sbOf X) F1 k1 _ a (.ld ps) from ⟨toLfs xs, upd_same, rx.toE⟩))⟩
end
end FX

/-! FXTs: len(set(xs)), xs a tuple of texts -/
namespace FX
open PySem PySem.Spec PyProof.Rows L2
section
variable {P : Program} {w : World} {A : Around} {E : Value → Shared → Prop} {s : Shared}
set_option maxHeartbeats 3200000 in
/-- set(xs), xs a tuple of texts -/
theorem call_setTxT {l : Addr} {items : Array Value} (xs : List Str) {Q : Value → Shared → Prop} (hh : A.handled = none) (hl : s.heap.IsTuple l items) (hlen : items.size = xs.length) (hit : ∀ (i : Nat) (v : Value), items[i]? = some v → ∃ x u, xs[i]? = some x ∧ v = .str x u) (hfew : xs.length + 1 < scanBound)
    (h : ∀ (h' : Heap) (tk : Nat), TxAt P w h' s.heap.objs.size (xs.foldl addNew []) → (∀ b o, s.heap.get? b = some o → h'.get? b = some o) → Q (.ref s.heap.objs.size) { s with heap := h', toks := tk }) :
    wpAny (model P w) A (call (.type "set") [.ref l]) Q E s := by
  obtain ⟨c, tl, mro⟩ := F.called_set.mro
  have made := F.called_set.made
  have su := F.called_set.sub
  refine wpAny_call (codeAny_of_tree ?_)
  show wpAny _ _ (callAny (.type "set") _) _ _ _
  refine wpAny_pure ⟨Code.quiet_builtin _ (by decide +kernel), codeAny_builtin F.entry_type_call ?_⟩
  rw [Around.under_plain (weight_type_call_type "set" [.ref l] []) rfl]
  have q1 := F.called_set.notType
  have q2 := F.called_set.canCreate
  have q3 := PySem.F.typeCall_set_1 (.ref l)
  repeat (any_goals (first | assumption | wp_step))
  refine codeAny_mono (code_set_led1 (.ref l) (E := E) (Q₁ := fun v t => v = .ref s.heap.objs.size ∧ t = { s with heap := s.heap.push (emptyO w) }) ⟨rfl, rfl⟩) fun r t hr => ?_
  cases r with
  | error e => exact hr
  | ok fl =>
    cases fl with
    | ret obj =>
      obtain ⟨rfl, rfl⟩ := hr
      have at0 : (s.heap.push (emptyO w)).get? s.heap.objs.size = some (emptyO w) := Heap.get?_push_size _ rfl
      have ty0 : Shared.TypeIs { s with heap := s.heap.push (emptyO w) } (.ref s.heap.objs.size) "set" := ⟨_, at0, rfl⟩
      have q4 := F.called_set.init.lookup
      have q5 := F.called_set.init.bind (.ref s.heap.objs.size)
      repeat (any_goals (first | assumption | wp_step))
      refine codeAny_mono (codeAny_call_builtin (R := wants (fun v t => v = .none ∧ ∃ h' tk, t = { s with heap := h', toks := tk } ∧ TxAt P w h' s.heap.objs.size (xs.foldl addNew []) ∧ ∀ b o, s.heap.get? b = some o → h'.get? b = some o) E) F.called_set.init.plain F.entry_set_init (check_set_init_1 ty0 ?_)) fun r2 t2 hr2 => ?_
      · obtain ⟨ol, hol, hcl, nl, hdl⟩ := hl
        obtain ⟨ocls, odict, odata, oslots⟩ := ol
        simp only at hcl hdl
        subst hcl; subst hdl
        have q6 := PySem.F.sub_tuple_set
        have q7 := PySem.F.sub_tuple_frozenset
        have q8 : (Value.type "tuple" == Value.type "dict") = false := by decide
        have at1 : (s.heap.push (emptyO w)).get? l = some { cls := .type "tuple", dict := odict, data := .seq items nl, slots := oslots } := Heap.get?_push_of_some _ hol
        have li1 : (s.heap.push (emptyO w)).IsTuple l items := ⟨_, at1, rfl, nl, rfl⟩
        unfold Builtin.«set.__init__» noKeywords Builtin.Frozenset.updateFrom
        generalize hPI : pyIter = PI
        wp_walk
        subst hPI
        refine wpAny_pyIter_tuple li1 ?_
        refine wpAny_bind (wpAny_runValue ?_)
        have lt0 : l < s.heap.objs.size := Heap.lt_size hol
        have sz1 : (s.heap.push (emptyO w)).objs.size = s.heap.objs.size + 1 := Heap.size_push ..
        have ne1 : l ≠ (s.heap.push (emptyO w)).objs.size := by rw [sz1]; exact Nat.ne_of_lt (Nat.lt_succ_of_lt lt0)
        have no0 : ∀ b, s.heap.objs.size ≤ b → s.heap.get? b = none := fun b hb => by
          cases q : s.heap.get? b with
          | none => rfl
          | some o => exact absurd (Nat.lt_of_lt_of_le (Heap.lt_size q) hb) (Nat.lt_irrefl _)
        have hSf : s.heap.objs.size ∉ [(s.heap.push (emptyO w)).objs.size, l] := by
          rw [sz1]; intro z
          rcases List.mem_cons.mp z with z | z
          · exact absurd z (Nat.ne_of_lt (Nat.lt_succ_self _))
          · exact absurd (List.mem_singleton.mp z) (Nat.ne_of_gt lt0)
        refine tx_loop ((Walks.tuple (by simp [hh]) _ l ne1 items).toS) s.heap.objs.size hSf xs hlen hit (by omega) (items.size - 0) 0 _ (by omega) (Nat.zero_le _) ⟨⟨_, Heap.get?_push_size _ rfl, rfl, rfl⟩, (li1.push _)⟩ ?start ?fin
        case start => exact ⟨(#[], 0, .fresh 0 0 (!w.params.followText "set-order")), Heap.get?_push_of_some _ at0, Tx.zero⟩
        case fin =>
          intro s1 mv T
          obtain ⟨h1, g1, d1, k1, o1⟩ := s1
          have e1 : g1 = s.gens := mv.gens
          have e2 : d1 = s.drawn := mv.drawn
          have e3 : o1 = s.os := mv.os
          subst e1; subst e2; subst e3
          show wpAny _ _ _ _ _ _
          refine wpAny_pure ?_
          show wpAny _ _ (ret Value.none) _ _ _
          refine wpAny_pure ⟨rfl, h1, k1, rfl, T, fun b o e => mv.heap b o (fun z => ?_) (Heap.get?_push_of_some _ (Heap.get?_push_of_some _ e))⟩
          have hb := Heap.lt_size e
          rcases List.mem_cons.mp z with z | z
          · exact absurd z (Nat.ne_of_lt hb)
          · rw [sz1] at z
            exact absurd (List.mem_singleton.mp z) (Nat.ne_of_lt (Nat.lt_succ_of_lt hb))
      · cases r2 with
        | error e => exact hr2
        | ok fl2 =>
          cases fl2 with
          | ret v =>
            obtain ⟨rfl, h1, k1, rfl, T, kp⟩ := hr2
            repeat (any_goals (first | assumption | wp_step))
            exact h _ _ T kp
          | _ => exact hr2.elim
    | _ => exact hr.elim
end
def dLenSetT : D → Option D
  | .tup l => (strsOf l).bind fun xs => if xs.length ≤ 1000 then some (.int (xs.foldl addNew []).length) else none
  | _ => none
def tLenSetT (K : PySem.W.Frag) (ta : TE) : TE := fun σ H Q => ta σ H fun x H1 => ∃ (l : Addr) (xs : List Str), x = V.ref l ∧ SqT K H1 l (xs.map V.str) ∧ xs.length ≤ 1000 ∧ Q (.int (xs.foldl addNew []).length) H1
theorem pe_lenSetTX {X : Cx} {a : Expr} {ta : TE} {p p2 q pos : Pos} (hc : X.calm = true) (hg : Gl X "len") (hm : X.mg "len" = none) (hg2 : Gl X "set") (hm2 : X.mg "set" = none) (ha : PE X a ta)
    (na : starEach [a] X.env = (false, eval a X.env) :: starEach [] X.env := by rfl) : PE X (.Call (.Name "len" p) [.Call (.Name "set" p2) [a] [] q] [] pos) (tLenSetT X.K ta) := by
  refine ⟨fun pins s σ H Q I h => ?_⟩
  refine Call_ (ld_blt I hg hm PySem.boot_len (PyProof.Rows.callWith_builtin1 (PyProof.Rows.args_cons ?_ rfl) rfl rfl))
  refine Call_ (ld_blt I hg2 hm2 PyProof.Rows.boot_set (PyProof.Rows.callWith_type1 (PyProof.Rows.args_cons (thn (ha.run pins s σ H _ I h) fun v s1 ⟨x, H1, I1, r1, q1⟩ => PyProof.Rows.args_nil ?_) na) na rfl))
  obtain ⟨l, xs, rfl, hq, h1, q1⟩ := q1
  cases r1
  obtain ⟨its, r, pl, hz⟩ := I1.tuple hq
  obtain ⟨vl, vi⟩ := vals_str r
  refine call_setTxT xs (I1.ok.hd hc) pl (by rw [List.size_toArray]; exact vl) (fun i v e => vi i v (by simpa using e)) (by unfold scanBound; omega) fun h' tk T kp => PyProof.Rows.args_nil ?_
  obtain ⟨D, ho, T⟩ := T
  have I2 : Inv X pins σ H1 { s1 with heap := h', toks := tk } := I1.kept kp
  have sz := T.ok.sz
  have le := got_le xs []
  rw [List.length_nil] at le
  refine call_len_set ho ⟨rfl, rfl, rfl⟩ rfl T.ok.fit (by rw [sz]; omega) ⟨.int (xs.foldl addNew []).length, H1, I2.tok _, ⟨_, by rw [sz]⟩, q1⟩
theorem se_lenSetT {X : Cx} {W : WX} {e : Expr} {m : M D} {p p2 q pos : Pos} (he : SE X W e m) (hm : X.mg "len" = none) (hm2 : X.mg "set" = none) (hg : Gl X "len" := by rfl) (hg2 : Gl X "set" := by rfl) (hc : X.calm = true := by rfl)
    (na : starEach [e] X.env = (false, eval e X.env) :: starEach [] X.env := by rfl) :
    SE X W (.Call (.Name "len" p) [.Call (.Name "set" p2) [e] [] q] [] pos) (m1 dLenSetT m) := PE_imp (pe_lenSetTX hc hg hm hg2 hm2 he na) fun σ H Q ⟨Hb, Fb, kb, k, F, s, ok, h⟩ =>
  ⟨Hb, Fb, kb, k, F, s, ok, h.bind.imp fun dx s1 F1 k1 H1 e1 p1 ok1 h1 v rv => by
    cases rv with
    | @tup a xs l hl rl =>
      cases q : strsOf l with
      | none => simp only [dLenSetT, q, Option.bind_none] at h1; exact h1.elim
      | some ys =>
        simp only [dLenSetT, q, Option.bind_some] at h1
        by_cases c : ys.length ≤ 1000
        · rw [if_pos c] at h1
          have ex := strsOf_at q rl
          subst ex
          exact ⟨a, ys, rfl, Evl.ex_t ok1.bs.sub hl, c, h1 H1 F1 k1 (Evl.Ex.refl _) (List.prefix_refl _) ok1 _ (.int _)⟩
        · rw [if_neg c] at h1; exact h1.elim
    | _ => exact h1.elim⟩
end FX

/-! FXMo: sum of ints, tuple(range(n)), pop(i), == and != of dicts whose keys are carried by value -/
namespace FX
open PySem PySem.Spec PyProof.Rows L2
/-! ### sum -/
def dSum : List D → Option D
  | [.lst l] => (intsD l).map fun ns => .int ns.sum
  | _ => none
theorem cd_sum {B : Sb} : CallD B (rSum B.K) dSum := fun F k H xs ds z Q sub rx e q => by
  cases rx with
  | nil => cases e
  | cons h r =>
    cases r with
    | cons _ _ => cases h <;> cases e
    | nil =>
      cases h <;> try (cases e; done)
      case lst a xs ds h r =>
        have e : (intsD ds).map (fun ns => D.int ns.sum) = some z := e
        cases ei : intsD ds with
        | none => rw [ei] at e; cases e
        | some ns =>
          rw [ei] at e
          cases e
          have := intsD_eq ei
          subst this
          have := r.toInts
          subst this
          exact ⟨a, ns, rfl, SqL.of (sub _ _ h), q _ F H (Grow.refl sub) (.int _)⟩
/-! ### tuple(range(n)) -/
def dTupRg : D → Option D
  | .int n => if -1000 ≤ n ∧ n ≤ 1000000 then some (.tup (rgD n)) else none
  | _ => none
theorem se_tupRg {X : Cx} {W : WX} {e : Expr} {m : M D} {p p2 pos q : Pos} (he : SE X W e m) (hm : X.mg "tuple" = none) (hm2 : X.mg "range" = none) (hg : Gl X "tuple" := by rfl) (hg2 : Gl X "range" := by rfl) (hc : X.calm = true := by rfl)
    (na : starEach [e] X.env = (false, eval e X.env) :: starEach [] X.env := by rfl) (nb : starEach [Expr.Call (.Name "range" p2) [e] [] q] X.env = (false, eval (Expr.Call (.Name "range" p2) [e] [] q) X.env) :: starEach [] X.env := by rfl) :
    SE X W (.Call (.Name "tuple" p) [.Call (.Name "range" p2) [e] [] q] [] pos) (m1 dTupRg m) := PE_imp (pe_tupRg hc hg hm (prg_1 hg2 hm2 he na) nb) fun σ H Q ⟨Hb, Fb, kb, k, F, s, ok, h⟩ =>
  ⟨Hb, Fb, kb, k, F, s, ok, h.bind.imp fun dx s1 F1 k1 H1 e1 p1 ok1 h1 v rv => by
    cases rv <;> try (exact h1.elim)
    case int n =>
      by_cases c : -1000 ≤ n ∧ n ≤ 1000000
      · have e : dTupRg (.int n) = some (.tup (rgD n)) := if_pos c
        rw [e] at h1
        refine ⟨n, rfl, ⟨by omega, by omega, by omega, by omega, by omega⟩, fun q hq => ?_⟩
        have gr := Grow.one (o := .tup (rgV 0 n)) ok1.bs.sub hq
        exact h1 _ _ k1 gr.ff (List.prefix_refl _) (ok1.grow gr) _ (.tup (SqT.of upd_same) (rg_rep n))
      · have e : dTupRg (.int n) = none := if_neg c
        rw [e] at h1
        exact h1.elim⟩
/-! ### slot.pop(i) -/
def mPopI (i : Nat) (m : M D) : M D := fun s => match ownL s i with
  | none => .no
  | some _ => mbind m (fun d s1 => match ownL s1 i, d with
    | some l, .int j => if 0 ≤ j ∧ j < 100000 then (match l[j.toNat]? with
      | some y => .ok y (setO i (.lst (l.eraseIdx j.toNat)) s1)
      | none => .no) else .no
    | _, _ => .no) s
theorem RepL.erase {B : Sb} {F : Hp} {k : List Addr} : ∀ {xs : List V} {ds : List D}, RepL B F k xs ds → ∀ n, RepL B F k (xs.eraseIdx n) (ds.eraseIdx n)
  | _, _, .nil, n => by simpa using RepL.nil
  | _, _, .cons h r, 0 => r
  | _, _, .cons h r, n + 1 => .cons h (RepL.erase r n)
section
variable {X : Cx} {W : WX} {p apos cpos : Pos} {x : Str} {i : Nat} {e : Expr} {m : M D}
theorem se_popI (he : SE X W e m) (hN : X.N[i]? = some x := by rfl) (hv : Vis X.env.scope x := by first | exact Or.inl rfl | exact Or.inr (Or.inl rfl) | exact Or.inr (Or.inr rfl)) (hd : (x == ("__debug__" : Str)) = false := by decide)
    (hcd : (x == ("__classdict__" : Str)) = false := by decide) (hbase : attributeBase (.Name x p) "pop" X.env (eval (.Name x p) X.env) = eval (.Name x p) X.env := by rfl)
    (hfew : ((backTo cpos (starEach [e] X.env)).all (fun x => !x.1) && (backToKw cpos (keywordEach [] X.env)).all (fun x => x.1.isSome) && decide (([e] : List Expr).length + ([] : List Keyword).length + (if ([] : List Keyword).isEmpty then 0 else 1) < 30)) = true := by rfl)
    (hline : (apos.endLine == cpos.line) = true := by rfl) (hs : starEach [e] X.env = (false, eval e X.env) :: starEach [] X.env := by rfl) (hplain : (backTo cpos (starEach [] X.env)).any (·.1) = false := by rfl) :
    SE X W (.Call (.Attribute (.Name x p) "pop" apos) [e] [] cpos) (mPopI i m) :=
  PE_imp (pe_bm PySem.F.plainAttrs_list PySem.F.slot_list_pop PySem.F.type_list_pop mt_popAt (pe_var hN hv hd hcd) (pa_cons he pa_nil hs) hbase hfew hline hs hplain) fun σ H Q ⟨Hb, Fb, kb, k, F, s, ok, h⟩ => by
    unfold mPopI at h
    cases q : ownL s i with
    | none => rw [q] at h; exact h.elim
    | some l0 =>
      rw [q] at h
      obtain ⟨a, ea, _, _, _, xs, hxs, _⟩ := ok.own i _ (ownL_some q)
      refine ⟨.ref a, ea, .inl ⟨rfl, xs, SqL.of hxs⟩, Hb, Fb, kb, k, F, s, ok, (Fin.bind h).imp fun d s1 F1 k1 H1 e1 p1 ok1 h1 v rv => ?_⟩
      cases q1 : ownL s1 i with
      | none => exact (h1.no (by (try dsimp only); rw [q1])).elim
      | some l =>
        obtain ⟨b, eb, _, _, _, ys, hys, ry⟩ := ok1.own i _ (ownL_some q1)
        rw [ea] at eb
        cases eb
        obtain ⟨j, rfl⟩ : ∃ j, d = D.int j := by
          cases d <;> first | exact ⟨_, rfl⟩ | exact (h1.no (by (try dsimp only); rw [q1])).elim
        cases rv
        by_cases c : 0 ≤ j ∧ j < 100000
        · cases q2 : l[j.toNat]? with
          | none => exact (h1.no (by (try dsimp only); rw [q1]; (try dsimp only); rw [if_pos c, q2])).elim
          | some y =>
            have h2 := h1.cast (.ok y (setO i (.lst (l.eraseIdx j.toNat)) s1)) (by (try dsimp only); rw [q1]; (try dsimp only); rw [if_pos c, q2])
            have lt : j.toNat < l.length := (List.getElem?_eq_some_iff.mp q2).1
            have ly : ys.length = l.length := ry.length
            obtain ⟨w, ew⟩ : ∃ w, ys[j.toNat]? = some w := ⟨ys[j.toNat]'(by omega), List.getElem?_eq_getElem (by omega)⟩
            obtain ⟨y', ey, rw'⟩ := ry.get ew
            rw [q2] at ey
            cases ey
            refine ⟨a, ys, j, j.toNat, w, rfl, rfl, hys, by omega, by omega, ?_, ew, ?_⟩
            · have nj : ¬ j < 0 := by omega
              have lj : j < (ys.length : Nat) := by omega
              unfold seqIndex?
              simp [nj, c.1, lj]
            · exact h2 _ F1 k1 (Evl.Ex.refl _) (List.prefix_refl _) (ok1.mut (ownL_some q1) ea ⟨_, upd_same, ry.erase _⟩) _ rw'
        · exact (h1.no (by (try dsimp only); rw [q1]; (try dsimp only); rw [if_neg c])).elim
end
/-! ### == and != -/
def AlikeL (P : Program) (w : World) (K : PySem.W.Frag) (H : Hp) (x y : V) : Prop := ∃ (a b : Addr) (ks ls : List (Leaf × V)), x = .ref a ∧ y = .ref b ∧ Rd H a (.ext (LD0 P w a ks)) ∧ Rd H b (.ext (LD0 P w b ls)) ∧ ks.length = ls.length ∧
  ∀ p ∈ ks, ∃ u d e, valV ls p.1 = some u ∧ Dp K H p.2 d ∧ Dp K H u e ∧ SeqAt.shaped d = true ∧ SeqAt.shaped e = true ∧ PyData.eqv d e = true
section
variable {X : Cx}
theorem hitsL {pins : List (Addr × Obj)} {σ : L2.St} {H : Hp} {s : Shared} (I : Inv X pins σ H s) {A : Around} (hu : A.units + 64 < cLine) {ls : List (Leaf × V)} {vb : List (Leaf × Value)} (rb : KV ls vb) : ∀ {ks : List (Leaf × V)} {va : List (Leaf × Value)}, KV ks va →
    (∀ p ∈ ks, ∃ u d e, valV ls p.1 = some u ∧ Dp X.K H p.2 d ∧ Dp X.K H u e ∧ SeqAt.shaped d = true ∧ SeqAt.shaped e = true ∧ PyData.eqv d e = true) → PySem.W.KeqHits A s vb va true := fun {ks va} ra => by
  unfold KV at ra
  induction ra with
  | nil => exact fun _ => .nil
  | @cons p q ps qs h t ih =>
    intro hp
    obtain ⟨h1, h2⟩ := h
    obtain ⟨u, d, e, hv, hd, he, sd, se, eq⟩ := hp p List.mem_cons_self
    have rr : RelO (some u) (valueAt vb p.1) := by rw [← hv]; exact rb.val p.1
    obtain ⟨y, hy, ry⟩ := rr.some_of
    obtain ⟨key, v⟩ := q
    have h1' : p.1 = key := h1
    rw [h1'] at hy
    obtain ⟨as, r1⟩ := Dp.reads I d _ _ hd h2
    obtain ⟨bs, r2⟩ := Dp.reads I e _ _ he ry
    have hdep : d.depth ≤ 64 := by unfold SeqAt.shaped at sd; simp only [Bool.and_eq_true, decide_eq_true_eq] at sd; exact sd.2
    have ea := SeqAt.eqAt_reads d e A s v y as bs r1 r2 (SeqAt.canLay_of_shaped sd) (SeqAt.canLay_of_shaped se) (by omega)
    rw [eq] at ea
    exact PySem.W.KeqHits.hit (e := true) (b := true) hy ea (ih fun p' hm => hp p' (List.mem_cons_of_mem _ hm))
theorem op_eqL {j : Nat} (hr : Room j X.A) : OpR X (compareOp .Eq) (fun x y H Q => AlikeL X.prog X.w X.K H x y ∧ Q (.bl true) H) := by
  intro pins s σ H x y v u Q I rx ry h
  obtain ⟨⟨a, b, ks, ls, rfl, rfl, ea, eb, hlen, hp⟩, q⟩ := h
  obtain rfl : v = Value.ref a := rx
  obtain rfl : u = Value.ref b := ry
  obtain ⟨ya, va, ra, da⟩ := ld_rd I ea
  obtain ⟨yb, vb, rb, db⟩ := ld_rd I eb
  have hu := room65 hr
  have hl : va.length = vb.length := by rw [← ra.length, ← rb.length]; exact hlen
  exact PySem.W.keq_eq (knd := leafKind X.prog X.w) (r := true) ya yb da db (by omega) (fun _ => hitsL I (by show X.A.units + 1 + 64 < cLine; omega) rb ra hp) (fin_bl I q (by simp [hl]))
theorem op_neL {j : Nat} (hr : Room j X.A) : OpR X (compareOp .NotEq) (fun x y H Q => AlikeL X.prog X.w X.K H x y ∧ Q (.bl false) H) := by
  intro pins s σ H x y v u Q I rx ry h
  obtain ⟨⟨a, b, ks, ls, rfl, rfl, ea, eb, hlen, hp⟩, q⟩ := h
  obtain rfl : v = Value.ref a := rx
  obtain rfl : u = Value.ref b := ry
  obtain ⟨ya, va, ra, da⟩ := ld_rd I ea
  obtain ⟨yb, vb, rb, db⟩ := ld_rd I eb
  have hu := room65 hr
  have hl : va.length = vb.length := by rw [← ra.length, ← rb.length]; exact hlen
  exact PySem.W.keq_ne (knd := leafKind X.prog X.w) (r := true) ya yb da db (by omega) (fun _ => hitsL I (by show X.A.units + 1 + 64 < cLine; omega) rb ra hp) (fin_bl I q (by simp [hl]))
end
def eqLd (a b : List (D × D)) : Bool := decide (a.length = b.length) && a.all fun p => match lfOf p.1 with
  | some q => (match lkL q b with
    | some u => okEq p.2 u && eqD p.2 u
    | none => false)
  | none => false
def dEqL (x y : D) : Option D := match x, y with
  | .ldc a, .ldc b => if eqLd a b = true then some (.bl true) else none
  | _, _ => none
def dNeL (x y : D) : Option D := match x, y with
  | .ldc a, .ldc b => if eqLd a b = true then some (.bl false) else none
  | _, _ => none
theorem Rep.alikeL {B : Sb} {F H : Hp} {k : List Addr} {x y : V} {a b : List (D × D)} (sub : Ex F H) (rx : Rep B F k x (.ldc a)) (ry : Rep B F k y (.ldc b)) (e : eqLd a b = true) : AlikeL B.P B.w B.K H x y := by
  cases rx with
  | @ldc p o1 ks _ hp rk =>
    cases ry with
    | @ldc q o2 ls _ hq rl =>
      unfold eqLd at e
      simp only [Bool.and_eq_true, decide_eq_true_eq] at e
      refine ⟨p, q, ks, ls, rfl, rfl, .inr ⟨o1, sub _ _ hp⟩, .inr ⟨o2, sub _ _ hq⟩, by rw [rk.length, rl.length]; exact e.1, ?_⟩
      have e2 := e.2
      clear e hp
      have go : ∀ (a : List (D × D)) (ks : List (Leaf × V)), RepE B F k ks a → (a.all fun p => match lfOf p.1 with
          | some q => (match lkL q b with
            | some u => okEq p.2 u && eqD p.2 u
            | none => false)
          | none => false) = true → ∀ p ∈ ks, ∃ u d e, valV ls p.1 = some u ∧ Dp B.K H p.2 d ∧ Dp B.K H u e ∧ SeqAt.shaped d = true ∧ SeqAt.shaped e = true ∧ PyData.eqv d e = true := by
        intro a
        induction a with
        | nil =>
          intro ks r _ p hp
          cases r
          simp at hp
        | cons c r ih =>
          intro ks rk e p hp
          cases rk with
          | @cons q0 v d vs ds h t =>
            rw [List.all_cons, Bool.and_eq_true] at e
            have e1 := e.1
            simp only [lf_D] at e1
            cases hl : lkL q0 b with
            | none => simp only [hl] at e1; exact absurd e1 Bool.false_ne_true
            | some u =>
              simp only [hl] at e1
              rw [Bool.and_eq_true] at e1
              rcases List.mem_cons.mp hp with z | z
              · subst z
                obtain ⟨w, hw, rw'⟩ := rl.hit hl
                obtain ⟨s1, s2, p1, p2⟩ := shaped_of e1.1
                exact ⟨w, py d, py u, hw, h.dp sub p1, rw'.dp sub p2, s1, s2, by rw [py_eqv _ _ p1 p2]; exact e1.2⟩
              · exact ih vs t e.2 p z
      exact go a ks rk e2
theorem od_eqL {B : Sb} : OpD B (fun x y H Q => AlikeL B.P B.w B.K H x y ∧ Q (.bl true) H) dEqL := fun F k H x y dx dy z Q sub rx ry e q => by
  cases dx <;> try (cases e; done)
  cases dy <;> try (cases e; done)
  rename_i a b
  have e : (if eqLd a b = true then some (D.bl true) else none) = some z := e
  by_cases he : eqLd a b = true
  · rw [if_pos he] at e; cases e
    exact ⟨rx.alikeL sub ry he, q _ F H (Grow.refl sub) (.bl _)⟩
  · rw [if_neg he] at e; cases e
theorem od_neL {B : Sb} : OpD B (fun x y H Q => AlikeL B.P B.w B.K H x y ∧ Q (.bl false) H) dNeL := fun F k H x y dx dy z Q sub rx ry e q => by
  cases dx <;> try (cases e; done)
  cases dy <;> try (cases e; done)
  rename_i a b
  have e : (if eqLd a b = true then some (D.bl false) else none) = some z := e
  by_cases he : eqLd a b = true
  · rw [if_pos he] at e; cases e
    exact ⟨rx.alikeL sub ry he, q _ F H (Grow.refl sub) (.bl _)⟩
  · rw [if_neg he] at e; cases e
end FX

/-! FXDl: dict(pairs), the keys carried by value, as an own thing -/
namespace FX
open PySem PySem.Spec PyProof.Rows L2
def mergeL (kvs more : List (Leaf × V)) : List (Leaf × V) := more.foldl (fun acc kv => putK acc kv.1 kv.2) kvs
theorem kv_mergeL : ∀ {more : List (Leaf × V)} {rs : List (Leaf × Value)}, KV more rs → ∀ {kvs : List (Leaf × V)} {vs : List (Leaf × Value)}, KV kvs vs → KV (mergeL kvs more) (merged vs rs) := by
  intro more rs h
  unfold KV at h
  induction h with
  | nil => intro kvs vs h; exact h
  | @cons p q ps qs h t ih =>
    intro kvs vs r
    obtain ⟨h1, h2⟩ := h
    have r2 := KV.put r p.1 h2
    show KV (mergeL (putK kvs p.1 p.2) ps) (merged (stored vs q.1 q.2) qs)
    rw [← h1]
    exact ih r2
/-- the pairs of a list: where each lies, its key, what the key is, its value -/
abbrev Tr := Addr × Value × Leaf × Value
theorem pairsL_of {X : Cx} {pins : List (Addr × Obj)} {σ : L2.St} {H : Hp} {s : Shared} (I : Inv X pins σ H s) : ∀ {ps : List Addr} {kvs : List (Leaf × V)}, Paired (fun p (kv : Leaf × V) => SqT X.K H p [lfV kv.1, kv.2]) ps kvs →
    ∃ L : List Tr, ps = L.map (·.1) ∧ KV kvs (L.map fun t => (t.2.2.1, t.2.2.2)) ∧ ∀ t ∈ L, IsTup s.heap t.1 #[t.2.1, t.2.2.2] ∧ (leafKind X.prog X.w).is t.2.2.1 t.2.1 = true
  | _, _, .nil => ⟨[], rfl, .nil, fun t h => by cases h⟩
  | _, _, .cons (a := p) (b := kv) h t => by
    obtain ⟨L, e, r, hL⟩ := pairsL_of I t
    obtain ⟨its, rv, ht, _⟩ := I.tuple h
    obtain ⟨u, y, ei, ru, ry⟩ := vals2 rv
    subst ei
    refine ⟨(p, u, kv.1, y) :: L, by rw [e]; rfl, .cons ⟨rfl, ry⟩ r, fun t ht' => ?_⟩
    rcases List.mem_cons.mp ht' with z | z
    · rw [z]; exact ⟨ht, lfV_is ru⟩
    · exact hL t z
theorem call_dictL {X : Cx} (hcalm : X.calm = true) : CallR X (.type "dict") (fun xs H Q => ∃ (a : Addr) (ps : List Addr) (kvs : List (Leaf × V)), xs = [.ref a] ∧ SqL X.K H a (ps.map V.ref) ∧ Paired (fun p (kv : Leaf × V) => SqT X.K H p [lfV kv.1, kv.2]) ps kvs ∧
    ∀ p, H p = none → Q (.ref p) (upd H p (LO X p (mergeL [] kvs)))) := by
  intro pins s σ H xs us Q I r q
  obtain ⟨a, ps, kvs, ex, hq, hp, q⟩ := q
  subst ex
  obtain ⟨u, eu, rx⟩ := vals1 r
  subst eu
  cases rx
  obtain ⟨its, rv, pl, hz⟩ := I.list hq
  have ei := refs_at rv
  subst ei
  rw [List.length_map] at hz
  obtain ⟨L, el, rel, hL⟩ := pairsL_of I hp
  subst el
  rw [List.length_map] at hz
  obtain ⟨o, n, ho, hc, hd, hdat⟩ := pl
  have get : ∀ {β : Type} (f : Tr → β) (j : Nat) (y : β), (L.map f)[j]? = some y → ∃ t, L[j]? = some t ∧ f t = y := fun {β} f j y e => by
    rw [List.getElem?_map] at e
    cases c : L[j]? with
    | none => rw [c] at e; cases e
    | some t => rw [c] at e; exact ⟨t, rfl, by injection e⟩
  refine call_dict_pairs (knd := leafKind X.prog X.w) (kvs := L.map fun t => (t.2.2.1, t.2.2.2)) (PairArg.list a ((L.map (·.1)).map Value.ref).toArray (fun j => ((L.map (·.1))[j]?).getD 0) (L.map fun t => (t.2.1, t.2.2.2))) (I.ok.hd hcalm) ⟨⟨o, n, ho, hc, hd, hdat⟩, ?_⟩ ?_ ?_ fun h' tk hd' k => ?_
  · refine ⟨by simp, fun j key v e => ?_⟩
    obtain ⟨t, et, e2⟩ := get _ j _ e
    cases e2
    refine ⟨by simp [et], .inl ?_⟩
    show s.heap.IsTuple (((L.map (·.1))[j]?).getD 0) #[t.2.1, t.2.2.2]
    rw [List.getElem?_map, et]
    exact (hL t (List.mem_of_getElem? et)).1
  · refine ⟨by simp, fun j key v e => ?_⟩
    obtain ⟨t, et, e2⟩ := get _ j _ (show (L.map fun t => (t.2.1, t.2.2.2))[j]? = some (key, v) from e)
    cases e2
    exact ⟨t.2.2.1, by rw [List.getElem?_map, et]; rfl, (hL t (List.mem_of_getElem? et)).2⟩
  · rw [List.length_map]; exact hz
  · have hm : (s.heap.objs.size == sysModules) = false := beq_eq_false_iff_ne.mpr (Nat.ne_of_gt I.big)
    exact ⟨.ref s.heap.objs.size, upd H s.heap.objs.size (LO X s.heap.objs.size (mergeL [] kvs)), I.laid (t' := tk) (fun b ob e => k b ob (by simp) e) (Nat.le_refl _) (ld_new hm (kv_mergeL rel .nil) hd'), rfl, q _ (I.hok.fresh (Nat.le_refl _))⟩
/-! by data -/
def pairLf : D → Option (Leaf × D)
  | .tup [a, b] => (lfOf a).map fun q => (q, b)
  | _ => none
def pairsLf : List D → Option (List (Leaf × D))
  | [] => some []
  | d :: r => match pairLf d, pairsLf r with
    | some p, some ps => some (p :: ps)
    | _, _ => none
def mergeLD (acc : List (D × D)) (kv : List (Leaf × D)) : List (D × D) := kv.foldl (fun acc p => putL acc p.1 p.2) acc
def mDictL (m : M (List D)) : M Ob := mbind m fun ds => match ds with
  | [.lst l] => (match pairsLf l with
    | some kv => mpure (.ld (mergeLD [] kv))
    | none => mno)
  | _ => mno
section
variable {B : Sb} {F H : Hp} {k : List Addr}
theorem pairsLf_rep (sub : Ex F H) : ∀ (ds : List D) (xs : List V) (kv : List (Leaf × D)), RepL B F k xs ds → pairsLf ds = some kv → ∃ (ps : List Addr) (kvs : List (Leaf × V)), xs = ps.map V.ref ∧ Paired (fun p (q : Leaf × V) => SqT B.K H p [lfV q.1, q.2]) ps kvs ∧
    Paired (fun (a : Leaf × V) (b : Leaf × D) => a.1 = b.1 ∧ Rep B F k a.2 b.2) kvs kv
  | [], _, _, .nil, e => by cases e; exact ⟨[], [], rfl, .nil, .nil⟩
  | d :: ds, _, kv, .cons h r, e => by
    unfold pairsLf at e
    cases e1 : pairLf d with
    | none => rw [e1] at e; cases e
    | some p =>
      cases e2 : pairsLf ds with
      | none => rw [e1, e2] at e; cases e
      | some q =>
        rw [e1, e2] at e
        cases e
        obtain ⟨ps, kvs, rfl, i1, i2⟩ := pairsLf_rep sub ds _ _ r e2
        unfold pairLf at e1
        split at e1
        · rename_i a b
          cases ql : lfOf a with
          | none => rw [ql] at e1; cases e1
          | some q0 =>
            rw [ql] at e1
            cases e1
            cases h with
            | @tup c zs _ hq rl =>
              cases rl with
              | cons ra rl =>
                cases rl with
                | cons rb rl =>
                  cases rl
                  have := ra.lf ql
                  subst this
                  exact ⟨c :: ps, (q0, _) :: kvs, rfl, .cons (Evl.ex_t sub hq) i1, .cons ⟨rfl, rb⟩ i2⟩
        · cases e1
theorem RepE.merge : ∀ {kvs : List (Leaf × V)} {kv : List (Leaf × D)}, Paired (fun (a : Leaf × V) (b : Leaf × D) => a.1 = b.1 ∧ Rep B F k a.2 b.2) kvs kv → ∀ {xs : List (Leaf × V)} {ds : List (D × D)}, RepE B F k xs ds → RepE B F k (mergeL xs kvs) (mergeLD ds kv) := by
  intro kvs kv h
  induction h with
  | nil => intro xs ds r; exact r
  | @cons a b as bs h t ih =>
    intro xs ds r
    obtain ⟨h1, h2⟩ := h
    show RepE B F k (mergeL (putK xs a.1 a.2) as) (mergeLD (putL ds b.1 b.2) bs)
    rw [← h1]
    exact ih (RepE.put h2 r)
end
theorem sn_dictL {X : Cx} {W : WX} {e : Expr} {p pos : Pos} {ma : M (List D)} (ha : SA X W [e] ma) (hm : X.mg "dict" = none) (hg : Gl X "dict" := by rfl) (hc : X.calm = true := by rfl)
    (he : starEach [e] X.env = (false, eval e X.env) :: starEach [] X.env := by rfl) : SN X W (.Call (.Name "dict" p) [e] [] pos) (mDictL ma) :=
  PE_imp (pe_callTy (call_dictL hc) hg hm (by decide +kernel) ha (by decide) (by decide) he rfl) fun σ H Q ⟨Hb, Fb, kb, k, F, s, ok, h⟩ =>
  ⟨Hb, Fb, kb, k, F, s, ok, h.bind.imp fun ds s1 F1 k1 H1 e1 p1 ok1 h1 vs rv => by
    cases rv with
    | nil => exact h1.elim
    | cons ra rr =>
      cases rr with
      | cons _ _ => cases ra <;> exact h1.elim
      | nil =>
        cases ra <;> try (exact h1.elim)
        case lst a xs ds h r =>
          cases c : pairsLf ds with
          | none => exact (h1.no (by (try dsimp only); rw [c])).elim
          | some kv =>
            have h2 := h1.cast (.ok (.ld (mergeLD [] kv)) s1) (by (try dsimp only); rw [c])
            obtain ⟨ps, kvs, rfl, i1, i2⟩ := pairsLf_rep ok1.bs.sub ds _ kv r c
            exact ⟨a, ps, kvs, rfl, SqL.of (ok1.bs.sub _ _ h), i1, fun p hp => h2 _ F1 k1 (Evl.Ex.refl _) (List.prefix_refl _) (ok1.grow (Grow.junk ok1.bs.sub hp)) p (ok1.free hp) ⟨_, upd_same, RepE.merge i2 .nil⟩⟩⟩
/-! ### len(slot), the slot's own list -/
def mLenO (i : Nat) : M D := fun s => match ownL s i with
  | some l => .ok (.int (l.length : Nat)) s
  | none => .no
theorem se_lenO {X : Cx} {W : WX} {x : Str} {i : Nat} {p p2 pos : Pos} (hm : X.mg "len" = none) (hg : Gl X "len" := by rfl) (hN : X.N[i]? = some x := by rfl) (hv : Vis X.env.scope x := by first | exact Or.inl rfl | exact Or.inr (Or.inl rfl) | exact Or.inr (Or.inr rfl)) (hd : (x == ("__debug__" : Str)) = false := by decide)
    (hcd : (x == ("__classdict__" : Str)) = false := by decide) (he : starEach [Expr.Name x p2] X.env = (false, eval (.Name x p2) X.env) :: starEach [] X.env := by rfl) : SE X W (.Call (.Name "len" p) [.Name x p2] [] pos) (mLenO i) :=
  PE_imp (pe_callB call_len hg hm (by decide +kernel) (pa_cons (pe_var hN hv hd hcd) pa_nil he) (by decide) (by decide) he rfl) fun σ H Q ⟨Hb, Fb, kb, k, F, s, ok, h⟩ => by
    unfold mLenO at h
    cases q : ownL s i with
    | none => rw [q] at h; exact h.elim
    | some l =>
      rw [q] at h
      obtain ⟨a, ea, _, _, _, xs, hxs, rx⟩ := ok.own i _ (ownL_some q)
      refine ⟨.ref a, ea, ?_⟩
      refine ⟨.ref a, xs.length, rfl, .inl ⟨xs, SqL.of hxs, rfl⟩, ?_⟩
      rw [rx.length]
      exact h _ F k (Evl.Ex.refl _) (List.prefix_refl _) ok _ (.int _)
end FX

/-! FX: cells made by expressions; leaf dicts in cells: += and comparison; len of a leaf dict -/
namespace FX
open PySem L2
/-- a new thing, as a cell -/
def mCellN (m : M Ob) : M D := mbind m fun o s => .ok (.cell s.g.length) ⟨s.e, s.g ++ [o]⟩
theorem se_cellN {X : Cx} {W : WX} {e : Expr} {m : M Ob} (h : SN X W e m) : SE X W e (mCellN m) := PE_imp h fun σ H Q ⟨Hb, Fb, kb, k, F, s, ok, h⟩ =>
  ⟨Hb, Fb, kb, k, F, s, ok, h.bind.imp fun o s1 F1 k1 H1 e1 p1 ok1 h1 a f q =>
    h1 H1 F1 (k1 ++ [a]) (Evl.Ex.refl _) (List.prefix_append _ _) (ok1.newC f q) _ (.cell (by rw [← ok1.bs.len, List.getElem?_append_right (Nat.le_refl _), Nat.sub_self]; rfl))⟩
def cellLd (s : S) (n : Nat) : Option (List (D × D)) := match s.g[n]? with
  | some (.ld l) => some l
  | _ => none
theorem cellLd_some {s : S} {n : Nat} {l : List (D × D)} (h : cellLd s n = some l) : s.g[n]? = some (.ld l) := by
  unfold cellLd at h
  split at h
  · rename_i l' e; cases h; exact e
  · cases h
section
variable {X : Cx} {W : WX} {pos tpos : Pos} {o ke ve : Expr} {mo mk mv : M D} {j : Nat}
theorem Ok.cellLd {B : Sb} {Hb Fb : Hp} {kb k : List Addr} {F : Hp} {s : S} {σ : L2.St} {H : Hp} {n : Nat} {a : Addr} {l : List (D × D)} (h : Ok B Hb Fb kb k F s σ H) (ea : k[n]? = some a) (eg : s.g[n]? = some (.ld l)) : ∃ xs, H a = some (.ext (LD0 B.P B.w a xs)) ∧ RepE B F k xs l := h.bs.cel n a _ ea eg
/-- cell[key] += value -/
def mAugCL (mo mk mv : M D) : M Out := mbind mo fun x => mbind mk fun y s1 => match x, lfOf y with
  | .cell n, some q => (match cellLd s1 n with
    | some l1 => (match lkL q l1 with
      | some (.int a) => mbind mv (fun d s2 => match cellLd s2 n, d with
        | some l2, .int b => if l2.length < 100000 then .ok .nx (setC n (.ld (putL l2 q (.int (a + b)))) s2) else .no
        | _, _ => .no) s1
      | _ => .no)
    | _ => .no)
  | _, _ => .no
theorem ss_augCL (hr : Room j X.A) (ho : SE X W o mo) (hk : SE X W ke mk) (hvv : SE X W ve mv) (ha : ∀ ov iv new, augStore ke ov iv new = (do holding [new, ov, iv] (setItem ov iv new); release [new, ov, iv] []; pure .next) := by intros; rfl) :
    SS X W (.AugAssign (.Subscript o ke tpos) .Add ve pos) (mAugCL mo mk mv) := PS_imp (ps_eaug hr ho hk hvv ip_add ha) fun E σ H ⟨Hb, Fb, kb, k, F, s, ok, h⟩ => by
  have no : ∀ {k F} {r : R Out}, FinS (sbOf X) Hb Fb kb k F W r E → r = .no → False := fun h e => by rw [e] at h; exact h
  refine ⟨Hb, Fb, kb, k, F, s, ok, (FinS.ofBind h).imp fun x s0 F0 k0 H0 e0 p0 ok0 h0 vx rx => ?_⟩
  refine ⟨Hb, Fb, kb, k0, F0, s0, ok0, (FinS.ofBind h0).imp fun y s1 F1 k1 H1 e1 p1 ok1 h1 v rv => ?_⟩
  cases x with
  | cell n =>
    cases rx with
    | @cell a _ ea0 =>
      have ea : k1[n]? = some a := p1.get ea0
      cases q2 : lfOf y with
      | none => exact (no h1 (by (try dsimp only); rw [q2])).elim
      | some q =>
        cases q1 : FX.cellLd s1 n with
        | none => exact (no h1 (by (try dsimp only); rw [q2]; (try dsimp only); rw [q1])).elim
        | some l1 =>
          obtain ⟨ys, hys, ry⟩ := ok1.cellLd ea (cellLd_some q1)
          cases q3 : lkL q l1 with
          | none => exact (no h1 (by (try dsimp only); rw [q2]; (try dsimp only); rw [q1]; (try dsimp only); rw [q3])).elim
          | some z =>
            obtain ⟨w, ew, rw'⟩ := ry.hit q3
            obtain ⟨ia, rfl⟩ : ∃ ia, z = D.int ia := by
              cases z <;> first | exact ⟨_, rfl⟩ | exact (no h1 (by (try dsimp only); rw [q2]; (try dsimp only); rw [q1]; (try dsimp only); rw [q3])).elim
            cases rw'
            have h2 := h1.cast (mbind mv (fun d s2 => match FX.cellLd s2 n, d with | some l2, .int b => if l2.length < 100000 then .ok .nx (setC n (.ld (putL l2 q (.int (ia + b)))) s2) else .no | _, _ => .no) s1) (by (try dsimp only); rw [q2]; (try dsimp only); rw [q1]; (try dsimp only); rw [q3])
            refine ⟨a, .int ia, rfl, .inl ⟨ys, q, .inl hys, rv.lf q2, ew.symm⟩, Hb, Fb, kb, k1, F1, s1, ok1, (FinS.ofBind h2).imp fun d s2 F2 k2 H2 e2 p2 ok2 h3 u ru => ?_⟩
            cases q4 : FX.cellLd s2 n with
            | none => exact (no h3 (by (try dsimp only); rw [q4])).elim
            | some l2 =>
              obtain ⟨ib, rfl⟩ : ∃ ib, d = D.int ib := by
                cases d <;> first | exact ⟨_, rfl⟩ | exact (no h3 (by (try dsimp only); rw [q4])).elim
              cases ru
              have ea2 : k2[n]? = some a := p2.get ea
              obtain ⟨zs, hzs, rz⟩ := ok2.cellLd ea2 (cellLd_some q4)
              by_cases hl : l2.length < 100000
              · have h4 := h3.cast (.ok .nx (setC n (.ld (putL l2 q (.int (ia + ib)))) s2)) (by (try dsimp only); rw [q4]; (try dsimp only); rw [if_pos hl])
                refine ⟨ia, ib, rfl, rfl, zs, q, hzs, rv.lf q2, by rw [rz.length]; omega, ?_⟩
                exact h4 σ _ F2 k2 (Evl.Ex.refl _) (List.prefix_refl _) (ok2.mutC ea2 ⟨_, upd_same, rz.put (.int _)⟩)
              · exact (no h3 (by (try dsimp only); rw [q4]; (try dsimp only); rw [if_neg hl])).elim
  | _ => exact (no h1 (by (try dsimp only))).elim
end
/-! ### == of leaf dicts, wherever they lie -/
theorem alikeE {B : Sb} {F H : Hp} {k : List Addr} {p q : Addr} {ks ls : List (Leaf × V)} {a b : List (D × D)} (sub : Ex F H) (hp : Rd H p (.ext (LD0 B.P B.w p ks))) (rk : RepE B F k ks a) (hq : Rd H q (.ext (LD0 B.P B.w q ls))) (rl : RepE B F k ls b) (e : eqLd a b = true) : AlikeL B.P B.w B.K H (.ref p) (.ref q) := by
  unfold eqLd at e
  simp only [Bool.and_eq_true, decide_eq_true_eq] at e
  refine ⟨p, q, ks, ls, rfl, rfl, hp, hq, by rw [rk.length, rl.length]; exact e.1, ?_⟩
  have e2 := e.2
  clear e hp
  have go : ∀ (a : List (D × D)) (ks : List (Leaf × V)), RepE B F k ks a → (a.all fun p => match lfOf p.1 with
      | some q => (match lkL q b with
        | some u => okEq p.2 u && eqD p.2 u
        | none => false)
      | none => false) = true → ∀ p ∈ ks, ∃ u d e, valV ls p.1 = some u ∧ Dp B.K H p.2 d ∧ Dp B.K H u e ∧ SeqAt.shaped d = true ∧ SeqAt.shaped e = true ∧ PyData.eqv d e = true := by
    intro a
    induction a with
    | nil =>
      intro ks r _ p hp
      cases r
      simp at hp
    | cons c r ih =>
      intro ks rk e p hp
      cases rk with
      | @cons q0 v d vs ds h t =>
        rw [List.all_cons, Bool.and_eq_true] at e
        have e1 := e.1
        simp only [lf_D] at e1
        cases hl : lkL q0 b with
        | none => simp only [hl] at e1; exact absurd e1 Bool.false_ne_true
        | some u =>
          simp only [hl] at e1
          rw [Bool.and_eq_true] at e1
          rcases List.mem_cons.mp hp with z | z
          · subst z
            obtain ⟨w, hw, rw'⟩ := rl.hit hl
            obtain ⟨s1, s2, p1, p2⟩ := shaped_of e1.1
            exact ⟨w, py d, py u, hw, h.dp sub p1, rw'.dp sub p2, s1, s2, by rw [py_eqv _ _ p1 p2]; exact e1.2⟩
          · exact ih vs t e.2 p z
  exact go a ks rk e2
/-- value != cell -/
def mNeLC (ma mb : M D) : M D := mbind ma fun x => mbind mb fun y s => match x, y with
  | .ldc a, .cell n => (match cellLd s n with
    | some b => if eqLd a b = true then .ok (.bl false) s else .no
    | none => .no)
  | _, _ => .no
section
variable {X : Cx} {W : WX} {pos : Pos} {a b : Expr} {ma mb : M D} {j : Nat}
theorem se_neLC (hr : Room j X.A) (ha : SE X W a ma) (hb : SE X W b mb) (hm : behindInMarks .NotEq b = false) : SE X W (.Compare a [.NotEq] [b] pos) (mNeLC ma mb) := PE_imp (pe_cmpR (op_neL hr) ha hb hm) fun σ H Q ⟨Hb, Fb, kb, k, F, s, ok, h⟩ =>
  ⟨Hb, Fb, kb, k, F, s, ok, h.bind.imp fun x s1 F1 k1 H1 e1 p1 ok1 h1 v rv => ⟨Hb, Fb, kb, k1, F1, s1, ok1, h1.bind.imp fun y s2 F2 k2 H2 e2 p2 ok2 h2 u ru => by
    cases x with
    | ldc l =>
      cases y with
      | cell n =>
        cases rv with
        | @ldc p o1 ks _ hp rk =>
          cases ru with
          | @cell q _ ea =>
            cases q1 : FX.cellLd s2 n with
            | none => exact (h2.no (by (try dsimp only); rw [q1])).elim
            | some l2 =>
              obtain ⟨ls, hls, rl⟩ := ok2.cellLd ea (cellLd_some q1)
              by_cases he : eqLd l l2 = true
              · have h3 := h2.cast (.ok (.bl false) s2) (by (try dsimp only); rw [q1]; (try dsimp only); rw [if_pos he])
                refine ⟨alikeE ok2.bs.sub (.inr ⟨o1, ok2.bs.sub _ _ (e2 _ _ hp)⟩) (RepE.mono e2 p2 rk) (.inl hls) rl he, h3 H2 F2 k2 (Evl.Ex.refl _) (List.prefix_refl _) ok2 _ (.bl false)⟩
              · exact (h2.no (by (try dsimp only); rw [q1]; (try dsimp only); rw [if_neg he])).elim
      | _ => exact (h2.no (by (try dsimp only))).elim
    | _ => exact (h2.no (by (try dsimp only))).elim⟩⟩
end
/-! ### len of a leaf dict -/
theorem call_lenLd {X : Cx} : CallR X (.builtin "len") (fun xs H Q => ∃ a ks, xs = [.ref a] ∧ Rd H a (LO X a ks) ∧ ks.length ≤ 100000 ∧ Q (.int ks.length) H) := by
  intro pins s σ H xs us Q I r h
  obtain ⟨a, ks, rfl, e, hl, q⟩ := h
  obtain ⟨hd, vs, rel, dd⟩ := ld_rd I e
  obtain ⟨u, rfl, ru⟩ : ∃ u, us = [u] ∧ RelV (.ref a) u := by
    cases r with
    | cons h t => cases t; exact ⟨_, rfl, h⟩
  obtain rfl : u = Value.ref a := ru
  refine call_len_dict hd dd (by rw [← rel.length]; omega) ⟨.int ks.length, H, (I.tok _).tok _, ⟨_, by rw [← rel.length]⟩, q⟩
def dLenL : List D → Option D
  | [.ldc l] => if l.length ≤ 100000 then some (.int l.length) else none
  | _ => none
theorem cd_lenL {B : Sb} : CallD B (fun xs H Q => ∃ a ks, xs = [.ref a] ∧ Rd H a (.ext (LD0 B.P B.w a ks)) ∧ ks.length ≤ 100000 ∧ Q (.int ks.length) H) dLenL := fun F k H xs ds z Q sub rx e q => by
  cases rx with
  | nil => cases e
  | cons h r =>
    cases r with
    | cons _ _ => simp [dLenL] at e
    | nil =>
      cases h with
      | @ldc a o xs _ ha rk =>
        rename_i l
        have e : (if l.length ≤ 100000 then some (D.int l.length) else none) = some z := e
        by_cases hl : l.length ≤ 100000
        · rw [if_pos hl] at e; cases e
          refine ⟨a, xs, rfl, .inr ⟨o, sub _ _ ha⟩, by rw [rk.length]; exact hl, ?_⟩
          rw [rk.length]
          exact q _ F H (Grow.refl sub) (.int _)
        · rw [if_neg hl] at e; cases e
      | _ => cases e
/-! ### x, y = a, b for names that comprehensions read; b a new thing -/
section
variable {X : Cx} {W : WX} {pos px py pt pt2 : Pos} {a b : Expr} {i j : Nat} {x y : Str} {kt k2 : Nat}
theorem ss_asgVN {ma : M D} {mb : M Ob} (hN : X.N.Nodup) (ha : SE X W a ma) (hb : SN X W b mb) (hi : X.N[i]? = some x := by rfl) (hj : X.N[j]? = some y := by rfl) (hx : Loc X.env.scope x := by first | exact Or.inl rfl | exact Or.inr rfl) (hy : Loc X.env.scope y := by first | exact Or.inl rfl | exact Or.inr rfl)
    (hf : X.fn x = true ∨ X.env.scope.names.lookup x = some .local := by first | exact .inl rfl | exact .inr rfl | assumption) (hg : X.fn y = true ∨ X.env.scope.names.lookup y = some .local := by first | exact .inl rfl | exact .inr rfl | assumption)
    (hs : swapsWithSole [.Tuple [.Name x px, .Name y py] kt pt] (.Tuple [a, b] k2 pt2) pos.line X.env = pure false := by rfl) (hw : swappedStores [.Tuple [.Name x px, .Name y py] kt pt] (.Tuple [a, b] k2 pt2) X.env = pure none := by rfl)
    (h1 : (assignEach [.Tuple [.Name x px, .Name y py] kt pt] X.env).map (·.2) = [assign (.Tuple [.Name x px, .Name y py] kt pt) X.env] := by rfl) (hc : X.calm = true := by rfl)
    (hn : (assignEach [.Name x px, .Name y py] X.env).length = 2 := by rfl) (hst : (assignEach [.Name x px, .Name y py] X.env).findIdx? (·.1) = none := by rfl)
    (g1 : (assignEach [.Name x px, .Name y py] X.env).map (·.2) = assign (.Name x px) X.env :: (assignEach [.Name y py] X.env).map (·.2) := by rfl) (g2 : (assignEach [.Name y py] X.env).map (·.2) = assign (.Name y py) X.env :: (assignEach [] X.env).map (·.2) := by rfl)
    (s1 : starEach [a, b] X.env = (false, eval a X.env) :: starEach [b] X.env := by rfl) (s2 : starEach [b] X.env = (false, eval b X.env) :: starEach [] X.env := by rfl) :
    SS X W (.Assign [.Tuple [.Name x px, .Name y py] kt pt] (.Tuple [a, b] k2 pt2) pos) (mParVN i j ma mb) := PS_imp (ps_asg (pe_tup (pa_cons ha (pa_cons hb pa_nil s2) s1)) (pg_tup hc (pgs_cons (pg_name hN hi hx hf) (pgs_cons (pg_name hN hj hy hg) pgs_nil g2) g1) hn hst) hs hw h1) fun E σ H ⟨Hb, Fb, kb, k, F, s, ok, h⟩ =>
  ⟨Hb, Fb, kb, k, F, s, ok, (FinS.ofBind h).imp fun d s1 F1 k1 H1 e1 p1 ok1 h1 v rv => ⟨Hb, Fb, kb, k1, F1, s1, ok1, (FinS.ofBind h1).imp fun o s2 F2 k2 H2 e2 p2 ok2 h2 q fr ob =>
    ⟨Evl.sz_of (by simp), fun p hp => ⟨p, [v, .ref q], rfl, .inl (.inl upd_same), rfl, v, [.ref q], rfl, .ref q, [], rfl, rfl, by
      obtain ⟨u, hu⟩ := ob.has
      have ne : q ≠ p := fun z => by rw [z, hp] at hu; cases hu
      have ok3 := ok2.grow (Grow.junk (o := .tup [v, .ref q]) ok2.bs.sub hp)
      exact h2 _ _ F2 k2 (Evl.Ex.refl _) (List.prefix_refl _) ((ok3.setV (rv.mono e2 p2)).setO fr.setV (ob.mono (Evl.Ex.refl _) (List.prefix_refl _) fun w hw => by rw [upd_ne ne]; exact hw))⟩⟩⟩⟩
end
end FX

/-! FX: dict(zip(a, b)), d.get(k) and list(d) of leaf dicts given as values -/
namespace FX
open PySem L2 PyProof.Rows
theorem zip_keys {P : Program} {w : World} : ∀ {as bs : List V} {us ws : List Value} {kvs : List (Leaf × V)}, Vals as us → Vals bs ws → as.zip bs = kvs.map (fun kv => (lfV kv.1, kv.2)) →
    ∃ rs : List (Leaf × Value), rs.length = min us.length ws.length ∧ KV kvs rs ∧ ∀ (j : Nat) (k v : Value), us[j]? = some k → ws[j]? = some v → ∃ q, rs[j]? = some (q, v) ∧ (leafKind P w).is q k = true := by
  intro as bs us ws kvs ra
  induction ra generalizing bs ws kvs with
  | nil =>
    intro rb e
    have : kvs = [] := by cases kvs with | nil => rfl | cons _ _ => simp at e
    subst this
    exact ⟨[], by simp, .nil, fun j k v h => by simp at h⟩
  | @cons a u as us h t ih =>
    intro rb e
    cases rb with
    | nil =>
      have : kvs = [] := by cases kvs with | nil => rfl | cons _ _ => simp at e
      subst this
      exact ⟨[], by simp, .nil, fun j k v _ h => by simp at h⟩
    | @cons b w' bs ws h2 t2 =>
      cases kvs with
      | nil => simp at e
      | cons kv kvs =>
        simp only [List.zip_cons_cons, List.map_cons, List.cons.injEq, Prod.mk.injEq] at e
        obtain ⟨⟨e1, e2⟩, e3⟩ := e
        obtain ⟨rs, l, r, f⟩ := ih t2 e3
        refine ⟨(kv.1, w') :: rs, by simp only [List.length_cons, l]; omega, .cons ⟨rfl, by rw [← e2]; exact h2⟩ r, fun j k v hk hv => ?_⟩
        cases j with
        | zero =>
          simp at hk hv
          subst hk hv
          exact ⟨kv.1, rfl, lfV_is (by rw [← e1]; exact h)⟩
        | succ j => exact f j k v (by simpa using hk) (by simpa using hv)
theorem zip_apart {n a b : Nat} (la : a < n) (lb : b < n) : ZipApart (n + 4) (n + 2) (n + 3) n (n + 1) a b where
  TIz := fun e => absurd (show n + 2 = n + 4 from e) (by omega)
  TOz := fun e => absurd (show n + 3 = n + 4 from e) (by omega)
  i1z := fun e => absurd (show n = n + 4 from e) (by omega)
  i2z := fun e => absurd (show n + 1 = n + 4 from e) (by omega)
  TITO := fun e => absurd (show n + 2 = n + 3 from e) (by omega)
  TIi1 := fun e => absurd (show n + 2 = n from e) (by omega)
  TIi2 := fun e => absurd (show n + 2 = n + 1 from e) (by omega)
  TOi1 := fun e => absurd (show n + 3 = n from e) (by omega)
  TOi2 := fun e => absurd (show n + 3 = n + 1 from e) (by omega)
  i12 := fun e => absurd (show n = n + 1 from e) (by omega)
  l1z := fun e => absurd (show a = n + 4 from e) (by omega)
  l1TO := fun e => absurd (show a = n + 3 from e) (by omega)
  l1i1 := fun e => absurd (show a = n from e) (by omega)
  l1i2 := fun e => absurd (show a = n + 1 from e) (by omega)
  l2z := fun e => absurd (show b = n + 4 from e) (by omega)
  l2TO := fun e => absurd (show b = n + 3 from e) (by omega)
  l2i1 := fun e => absurd (show b = n from e) (by omega)
  l2i2 := fun e => absurd (show b = n + 1 from e) (by omega)
def tDz (X : Cx) (ta : TA) : TE := fun σ H Q => ta σ H fun xs H1 => ∃ (a b : Addr) (as bs : List V) (kvs : List (Leaf × V)), xs = [.ref a, .ref b] ∧ SqL X.K H1 a as ∧ SqL X.K H1 b bs ∧ as.zip bs = kvs.map (fun kv => (lfV kv.1, kv.2)) ∧ ∀ p, H1 p = none → Q (.ref p) (upd H1 p (LO X p (mergeL [] kvs)))
theorem pe_dz {X : Cx} {e1 e2 : Expr} {ta : TA} {p p2 q pos : Pos} (hc : X.calm = true) (hg : Gl X "dict") (hm : X.mg "dict" = none) (hg2 : Gl X "zip") (hm2 : X.mg "zip" = none) (ha : PA X [e1, e2] ta)
    (he : starEach [e1, e2] X.env = (false, eval e1 X.env) :: starEach [e2] X.env := by rfl) (hpl : (backTo q (starEach [e2] X.env)).any (·.1) = false := by rfl) : PE X (.Call (.Name "dict" p) [.Call (.Name "zip" p2) [e1, e2] [] q] [] pos) (tDz X ta) := by
  refine ⟨fun pins s σ H Q I h => ?_⟩
  refine Call_ (ld_blt I hg hm PyProof.Rows.boot_dict (PyProof.Rows.callWith_type1 (PyProof.Rows.args_cons ?_ rfl) rfl rfl))
  refine Call_ (ld_blt I hg2 hm2 PyProof.Rows.boot_zip (PyProof.Rows.callWith_type1 (thn (ha.run q pins s σ H _ I h) fun us s1 hh => ?_) he hpl))
  obtain ⟨xs, H1, I1, r1, a, b, as, bs, kvs, rfl, ha1, hb1, ez, qq⟩ := hh
  obtain ⟨u1, u2, rfl, ru1, ru2⟩ := vals2 r1
  cases ru1
  cases ru2
  obtain ⟨its1, rv1, pl1, hz1⟩ := I1.list ha1
  obtain ⟨its2, rv2, pl2, hz2⟩ := I1.list hb1
  obtain ⟨rs, hlen, hrel, hf⟩ := zip_keys (P := X.prog) (w := X.w) rv1 rv2 ez
  have la : a < s1.heap.objs.size := by obtain ⟨o, _, ho, _⟩ := pl1; exact Heap.lt_size ho
  have lb : b < s1.heap.objs.size := by obtain ⟨o, _, ho, _⟩ := pl2; exact Heap.lt_size ho
  have lz := rv1.length
  refine call_zip_2 pl1.isList pl2.isList fun h' Z hTI hTO i1 i2 sz keep => PyProof.Rows.args_nil ?_
  have D : ZipApart (s1.heap.objs.size + 4) (s1.heap.objs.size + 2) (s1.heap.objs.size + 3) s1.heap.objs.size (s1.heap.objs.size + 1) a b := zip_apart la lb
  refine call_dict_pairs (knd := leafKind X.prog X.w) (kvs := rs) (s := { s1 with heap := h' }) (PairArg.zip (s1.heap.objs.size + 4) (s1.heap.objs.size + 2) (s1.heap.objs.size + 3) s1.heap.objs.size (s1.heap.objs.size + 1) a b D its1.toArray its2.toArray) (I1.ok.hd hc) ⟨Z, hTI, ⟨_, _, hTO⟩, i1, i2, pl1.isList.at fun o e => keep _ o e, pl2.isList.at fun o e => keep _ o e⟩ ⟨by simpa using hlen, fun i key v hr => hf i key v (by simpa using hr.1) (by simpa using hr.2)⟩ (by simp only [List.size_toArray]; omega) fun h2 tk hd' k => ?_
  have hs : h'.objs.size = s1.heap.objs.size + 5 := sz
  have hm' : (h'.objs.size == sysModules) = false := beq_eq_false_iff_ne.mpr (Nat.ne_of_gt (Nat.lt_of_lt_of_le I1.big (by rw [hs]; exact Nat.le_add_right _ _)))
  have fr : H1 h'.objs.size = none := I1.hok.fresh (by omega)
  exact ⟨.ref h'.objs.size, upd H1 h'.objs.size (LO X h'.objs.size (mergeL [] kvs)), I1.laid (t' := tk) (fun c o e => k c o (fun z => by
    have lc : c < s1.heap.objs.size := Heap.lt_size e
    simp only [List.mem_cons, List.not_mem_nil, or_false] at z
    rcases z with z | z | z | z
    · exact Nat.ne_of_lt (Nat.lt_of_lt_of_le lc (Nat.le_add_right _ 4)) z
    · exact Nat.ne_of_lt (Nat.lt_of_lt_of_le lc (Nat.le_add_right _ 3)) z
    · exact Nat.ne_of_lt lc z
    · exact Nat.ne_of_lt (Nat.lt_of_lt_of_le lc (Nat.le_add_right _ 1)) z) (keep c o e)) (by omega) (ld_new hm' (kv_mergeL hrel .nil) hd'), rfl, qq _ fr⟩
def zipLf : List D → List D → Option (List (Leaf × D))
  | a :: as, b :: bs => match lfOf a, zipLf as bs with
    | some q, some r => some ((q, b) :: r)
    | _, _ => none
  | _, _ => some []
def mDictZ (m : M (List D)) : M Ob := mbind m fun ds => match ds with
  | [.lst a, .lst b] => (match zipLf a b with
    | some kv => mpure (.ld (mergeLD [] kv))
    | none => mno)
  | _ => mno
theorem zipLf_rep {B : Sb} {F : Hp} {k : List Addr} : ∀ {da db : List D} {as bs : List V} {kv : List (Leaf × D)}, RepL B F k as da → RepL B F k bs db → zipLf da db = some kv → ∃ kvs : List (Leaf × V), as.zip bs = kvs.map (fun kv => (lfV kv.1, kv.2)) ∧ Paired (fun (a : Leaf × V) (b : Leaf × D) => a.1 = b.1 ∧ Rep B F k a.2 b.2) kvs kv
  | _, _, _, _, kv, .nil, rb, e => by
    have e : some [] = some kv := e
    cases e
    exact ⟨[], by simp, .nil⟩
  | _, _, _, _, kv, .cons h t, .nil, e => by
    have e : some [] = some kv := e
    cases e
    exact ⟨[], by simp, .nil⟩
  | _, _, _, _, kv, .cons (v := v) (d := d) (ds := ds) h t, .cons (v := v2) (d := d2) (ds := ds2) h2 t2, e => by
    cases c : lfOf d with
    | none => simp only [zipLf, c] at e; cases e
    | some q =>
      cases c2 : zipLf ds ds2 with
      | none => simp only [zipLf, c, c2] at e; cases e
      | some r =>
        simp only [zipLf, c, c2] at e
        cases e
        obtain ⟨kvs, e1, e2⟩ := zipLf_rep t t2 c2
        refine ⟨(q, v2) :: kvs, ?_, .cons ⟨rfl, h2⟩ e2⟩
        rw [List.zip_cons_cons, List.map_cons, e1, h.lf c]
theorem sn_dictZ {X : Cx} {W : WX} {e1 e2 : Expr} {p p2 q pos : Pos} {ma : M (List D)} (ha : SA X W [e1, e2] ma) (hm : X.mg "dict" = none) (hm2 : X.mg "zip" = none) (hg : Gl X "dict" := by rfl) (hg2 : Gl X "zip" := by rfl) (hc : X.calm = true := by rfl)
    (he : starEach [e1, e2] X.env = (false, eval e1 X.env) :: starEach [e2] X.env := by rfl) (hpl : (backTo q (starEach [e2] X.env)).any (·.1) = false := by rfl) : SN X W (.Call (.Name "dict" p) [.Call (.Name "zip" p2) [e1, e2] [] q] [] pos) (mDictZ ma) :=
  PE_imp (pe_dz hc hg hm hg2 hm2 ha he hpl) fun σ H Q ⟨Hb, Fb, kb, k, F, s, ok, h⟩ =>
  ⟨Hb, Fb, kb, k, F, s, ok, h.bind.imp fun ds s1 F1 k1 H1 e1 p1 ok1 h1 vs rv => by
    cases rv with
    | nil => exact h1.elim
    | cons ra rr =>
      cases rr with
      | nil => cases ra <;> exact h1.elim
      | cons rb rr =>
        cases rr with
        | cons _ _ => cases ra <;> first | exact h1.elim | (cases rb <;> exact h1.elim)
        | nil =>
          cases ra <;> try (exact h1.elim)
          case lst a xs ds h r =>
            cases rb <;> try (exact h1.elim)
            case lst b ys ds2 h2 r2 =>
              cases c : zipLf ds ds2 with
              | none => exact (h1.no (by (try dsimp only); rw [c])).elim
              | some kv =>
                have h3 := h1.cast (.ok (.ld (mergeLD [] kv)) s1) (by (try dsimp only); rw [c])
                obtain ⟨kvs, i1, i2⟩ := zipLf_rep r r2 c
                exact ⟨a, b, xs, ys, kvs, rfl, SqL.of (ok1.bs.sub _ _ h), SqL.of (ok1.bs.sub _ _ h2), i1, fun p hp => h3 _ F1 k1 (Evl.Ex.refl _) (List.prefix_refl _) (ok1.grow (Grow.junk ok1.bs.sub hp)) p (ok1.free hp) ⟨_, upd_same, RepE.merge i2 .nil⟩⟩⟩
/-! ### d.get(k), d a value -/
def mGet1E (mo mk : M D) : M D := mbind mo fun x => match x with
  | .ldc l => mbind mk fun y => match lfOf y with
    | some q => mpure ((lkL q l).getD .non)
    | none => mno
  | _ => mno
theorem se_get1E {X : Cx} {W : WX} {o e : Expr} {apos cpos : Pos} {mo mk : M D} {j : Nat} (hr : Room j X.A) (ho : SE X W o mo) (he : SE X W e mk) (m : M1 X o "get" apos e cpos := by exact ⟨rfl, rfl, rfl, rfl⟩) : SE X W (.Call (.Attribute o "get" apos) [e] [] cpos) (mGet1E mo mk) := PE_imp (pe_eget1 hr ho he m) fun σ H Q ⟨Hb, Fb, kb, k, F, s, ok, h⟩ =>
  ⟨Hb, Fb, kb, k, F, s, ok, h.bind.imp fun x s1 F1 k1 H1 e1 p1 ok1 h1 v rv => by
    cases rv <;> try (exact h1.elim)
    case ldc a ob xs ds ha rk =>
      refine ⟨a, rfl, .inl ⟨xs, .inr ⟨ob, ok1.bs.sub _ _ ha⟩⟩, Hb, Fb, kb, k1, F1, s1, ok1, h1.bind.imp fun y s2 F2 k2 H2 e2 p2 ok2 h2 u ru => ?_⟩
      cases c : lfOf y with
      | none => exact (h2.no (by (try dsimp only); rw [c])).elim
      | some q =>
        have h3 := h2.cast (.ok ((lkL q ds).getD .non) s2) (by (try dsimp only); rw [c])
        refine ⟨valV xs q, .inl ⟨xs, q, .inr ⟨ob, ok2.bs.sub _ _ (e2 _ _ ha)⟩, ru.lf c, rfl⟩, ?_⟩
        cases c2 : lkL q ds with
        | none => rw [c2] at h3; rw [rk.miss c2]; exact h3 H2 F2 k2 (Evl.Ex.refl _) (List.prefix_refl _) ok2 _ .non
        | some d =>
          rw [c2] at h3
          obtain ⟨z, ez, rz⟩ := rk.hit c2
          rw [ez]
          exact h3 H2 F2 k2 (Evl.Ex.refl _) (List.prefix_refl _) ok2 _ (rz.mono e2 p2)⟩
/-! ### list(d), d a leaf dict whose keys are None or texts -/
theorem vals_of : ∀ {xs : List V} {us : List Value}, xs.length = us.length → (∀ (j : Nat) (x : V) (u : Value), xs[j]? = some x → us[j]? = some u → RelV x u) → Vals xs us
  | [], [], _, _ => .nil
  | [], _ :: _, l, _ => by simp at l
  | _ :: _, [], l, _ => by simp at l
  | x :: xs, u :: us, l, f => .cons (f 0 x u rfl rfl) (vals_of (by simpa using l) fun j y v h1 h2 => f (j + 1) y v (by simpa using h1) (by simpa using h2))
theorem call_listLd {X : Cx} (hc : X.calm = true) : CallR X (.type "list") (fun xs H Q => ∃ a ks, xs = [.ref a] ∧ Rd H a (LO X a ks) ∧ (∀ x ∈ ks, plainLf x.1 = true) ∧ ks.length ≤ 100000 ∧ ∀ l, H l = none → Q (.ref l) (upd H l (.lst (ks.map fun x => lfV x.1)))) := by
  intro pins s σ H xs us Q I r h
  obtain ⟨a, ks, rfl, e, pl, hl, q⟩ := h
  obtain ⟨u, rfl, ru⟩ := vals1 r
  cases ru
  obtain ⟨hd, vs, rel, dd⟩ := ld_rd I e
  have lk := rel.length
  have sz : 100000 ≤ sizeLine := by rw [sizeLine_eq]; omega
  obtain ⟨o, es, ep, d1, d2, d3, d4, d5, d6⟩ := dd
  refine PySem.W.kdl_call (PySem.W.kdl_dict (knd := leafKind X.prog X.w) (kvs := vs) (ep := ep) hd) (I.ok.hd hc) ⟨o, es, d1, d2, d3, d4, d5, d6⟩ (by omega) fun h' tk acc c' keep hg items => ?_
  refine ⟨.ref s.heap.objs.size, upd H s.heap.objs.size (.lst (ks.map fun x => lfV x.1)), I.laid (t' := tk) (fun b u e => keep b u e) (Nat.le_refl _) ⟨by rw [List.length_map]; omega, acc.toList, c', ?_, ?_⟩, rfl, q _ (I.hok.fresh (Nat.le_refl _))⟩
  · refine vals_of (by rw [List.length_map]; have h1 : acc.toList.length = acc.size := Array.length_toList; have h2 := items.1; omega) fun j x u hx hu => ?_
    rw [List.getElem?_map] at hx
    cases c : ks[j]? with
    | none => rw [c] at hx; cases hx
    | some y =>
      rw [c] at hx
      cases hx
      obtain ⟨kk, z, h1, h2⟩ := items.2 j u (by rw [← Array.getElem?_toList]; exact hu)
      obtain ⟨b, hb, p1, p3⟩ := paired_get rel c
      rw [h1] at hb
      cases hb
      have p1 : y.1 = kk := p1
      show RelV (lfV y.1) u
      rw [p1]
      exact relL h2 (by rw [← p1]; exact pl y (List.mem_of_getElem? c))
  · rw [Array.toArray_toList]; exact hg
theorem RepE.keysL {B : Sb} {F : Hp} {k : List Addr} : ∀ {ks : List (Leaf × V)} {ds : List (D × D)}, RepE B F k ks ds → RepL B F k (ks.map fun x => lfV x.1) (ds.map (·.1))
  | _, _, .nil => .nil
  | _, _, .cons _ t => .cons (rep_lf _) (RepE.keysL t)
def dListL : List D → Option D
  | [.ldc l] => if l.length ≤ 100000 then (keysE (.ldc l)).map D.lst else none
  | _ => none
theorem cd_listL {B : Sb} : CallD B (fun xs H Q => ∃ a ks, xs = [.ref a] ∧ Rd H a (.ext (LD0 B.P B.w a ks)) ∧ (∀ x ∈ ks, plainLf x.1 = true) ∧ ks.length ≤ 100000 ∧ ∀ l, H l = none → Q (.ref l) (upd H l (.lst (ks.map fun x => lfV x.1)))) dListL := fun F k H xs ds z Q sub rx e q => by
  cases rx with
  | nil => cases e
  | cons h r =>
    cases r with
    | cons _ _ => simp [dListL] at e
    | nil =>
      cases h with
      | @ldc a o ks l ha rk =>
        have e : (if l.length ≤ 100000 then (keysE (.ldc l)).map D.lst else none) = some z := e
        by_cases hl : l.length ≤ 100000
        · rw [if_pos hl] at e
          by_cases hp : (l.all fun p => match p.1 with | .non => true | .str _ => true | _ => false) = true
          · have ek : keysE (.ldc l) = some (l.map (·.1)) := if_pos hp
            rw [ek] at e
            cases e
            refine ⟨a, ks, rfl, .inr ⟨o, sub _ _ ha⟩, rk.plain hp, by rw [rk.length]; exact hl, fun p hp' => ?_⟩
            have gr := Grow.one (o := .lst (ks.map fun x => lfV x.1)) sub hp'
            refine q _ _ _ gr (.lst upd_same (RepL.mono gr.ff (List.prefix_refl _) ?_))
            exact RepE.keysL rk
          · have ek : keysE (.ldc l) = none := if_neg hp
            rw [ek] at e; cases e
        · rw [if_neg hl] at e; cases e
      | _ => cases e
end FX

/-! FX: raise, and try .. except X as e: return f(e), f a def that asks for the error's class -/
namespace FX
open PySem L2 PyProof.Rows
abbrev mroVE : List Value := [.type "ValueError", .type "Exception", .type "BaseException", .type "object"]
/-- a class of errors of the program, by its name -/
structure ExcN (K : PySem.W.Frag) (mg : Str → Option Value) (x : Str) (C : Addr) : Prop where
  gl : mg x = some (.ref C)
  ex : PySem.W.excIn K C mroVE "ValueError.__new__" = true
  kp : PySem.W.keepIn K (.ref C) = true
  sb : PySem.W.subIn K (.ref C) (.type "BaseException") = some true
  ty : PySem.W.typeIn K (.ref C) = some (.type "type")
def mRaise (c : Str) : M Out := fun s => .ex c s
theorem pmk_bare {X : Cx} {x : Str} {C : Addr} {p pos : Pos} (T : ExcN X.K X.mg x C) (hg : Gl X x) (hdb : (x == ("__debug__" : Str)) = false) : L2N.PMk X (.Call (.Name x p) [] [] pos) (fun _ H Q => Q (.ref C) none H) := fun pins s σ H Q I h => by
  refine wpAny_Call_Name_kw (ld_glob I hg T.gl (PySem.W.callWith_K0 I.kIn T.kp ?_) hdb)
  obtain ⟨_, _, _, _, _, _, _, _, _, _, _, _, _, _, _, _, _, hC, hN, hni, tl⟩ := exc_obj I.kIn T.ex
  show wpAny _ _ (call (.ref C) []) _ _ _
  exact wpAny_call_exc_subT PySem.F.excBase_ValueError tl hC hN hni (fun h' e hm => L2N.mk_of I hm (raises_own T.sb T.ty) h (I.hok.gone hm.new)) (Nat.zero_le _)
theorem ss_raise {X : Cx} {W : WX} {x : Str} {C : Addr} {p pos pos' : Pos} (T : ExcN X.K X.mg x C) (tk : L2N.Takes X W) (hg : Gl X x := by rfl) (hdb : (x == ("__debug__" : Str)) = false := by decide) (hc : X.calm = true := by rfl) :
    SS X W (.Raise (some (.Call (.Name x p) [] [] pos)) none pos') (mRaise x) := PS_imp (L2N.ps_raise hc tk (pmk_bare T hg hdb)) fun E σ H ⟨Hb, Fb, kb, k, F, s, ok, h⟩ => h (.ref C) σ H F k T.gl ok
/-! ### a def called while an error is handled; the error's object is pinned -/
structure FnP (P : Program) (w : World) (K : PySem.W.Frag) (mg : Str → Option Value) (base : Heap) (k : Nat) (f : Addr) (fd : FuncData) (ps : List Str) (sp : Addr × Obj → Sp) : Prop where
  len : ∀ p vs H Q E, sp p vs H Q E → vs.length = ps.length
  run : ∀ (A : Around) (outer : List Env) (s : Shared) (H : Hp) (args : Args) (us : List Value) (vs : List V) (Q : VK) (E : XK) (p : Addr × Obj), L2H.RoomH k A → L2H.PinOk outer H s p → Env0 P w K mg base A outer s H → BindsTo s fd args (ps.zip us) → Vals vs us → sp p vs H Q E →
    codeAny (model P w) A (.call (.ref f) args) (CR (L2N.CX P w) outer P w H s Q E) s
abbrev cxP (P : Program) (w : World) (K : PySem.W.Frag) (mg : Str → Option Value) (base : Heap) (N : List Str) (qual : Str) (st : Stmt) (f : Addr) (cd : Value) (A : Around) (outer : List Env) (s : Shared) (H : Hp) (E : XK) (p : Addr × Obj) : Cx :=
  L2H.cxH (L2N.CX P w) P w K mg base N qual (defScope st) f cd A outer s H E p
theorem fnP_of {P : Program} {w : World} {K : PySem.W.Frag} {mg : Str → Option Value} {base : Heap} {x qual : Str} {st : Stmt} {f : Addr} {fd : FuncData} {N ps : List Str} {k : Nat} {sp : Addr × Obj → Sp} (F : Fun K x qual st f fd) (Sc : FnScope N ps (defScope st)) (hl : ∀ p vs H Q E, sp p vs H Q E → vs.length = ps.length)
    (hb : ∀ (cd : Value) (A : Around) (outer : List Env) (s : Shared) (H : Hp) (vs : List V) (Q : VK) (E : XK) (p : Addr × Obj), L2H.RoomH k (A.deeper (envOfC qual (defScope st) s.heap.objs.size f cd)) → sp p vs H Q E →
      ∃ t, PSs (cxP P w K mg base N qual st f cd A outer s H E p) (defBody st) t ∧ t { nx := fun _ H' => Q .non H', rt := Q } (start N vs) H) : FnP P w K mg base (k + 1) f fd ps sp := by
  obtain ⟨_, _, _, _, _, _, code, _, _, rfl, look, ok⟩ := F.ex
  refine ⟨hl, fun A outer s H args us vs Q E p room pin env bind rel wish => ?_⟩
  have len := hl _ _ _ _ _ wish
  have KX : K.In s.heap := env.mod.kin.keeps fun b o e => (env.bs b o e).1
  have nl : s.heap.NoLimit := env.mod.nolimit.keeps fun b o e => (env.bs b o e).1
  refine codeAny_call_function room.depth (KX _ _ look) rfl Sc.co Sc.gen rfl (PySem.W.codeRec_of KX ok) (bind _ _ _ _ (wpAny_newFunctionEnv_cells Sc.kind (fun ⟨n, v⟩ hy => ?_) fun e' he s1 x => ?_))
  · rcases Sc.par n (List.of_mem_zip hy).1 with z | z
    · exact .inl z
    · exact .inr ⟨z, PySem.W.cellsFrom_some _ _ _ (.inl z)⟩
  · subst he
    obtain ⟨t, ht, hq⟩ := hb code A outer s H vs Q E p (room.deeper _) wish
    have I : Inv (cxP P w K mg base N qual st f code A outer s H E p) [] (start N vs) H s1 := L2H.inv_startH Sc pin env len rel x
    refine ⟨nl.keeps x.toInCall.keep, codeAny_func (wpAny_mono (ht.run [] s1 (start N vs) H _ I hq) (fun fl s' hs => ?_) fun _ _ z => z)⟩
    cases fl with
    | ret u => obtain ⟨v, _, H', J, rv, q⟩ := hs; exact ⟨v, H', J.os, J.bare, J.base, J.hok, rv, q⟩
    | next => obtain ⟨_, H', J, q⟩ := hs; exact ⟨V.non, H', J.os, J.bare, J.base, J.hok, rfl, q⟩
    | brk => obtain ⟨_, _, _, q⟩ := hs; cases q
    | cont => obtain ⟨_, _, _, q⟩ := hs; cases q
/-! ### isinstance(error, T), the error's object pinned -/
theorem call_isP {X : Cx} {p : Addr × Obj} {C : Addr} (T : ExcC X.K C) (hp : p ∈ X.pn) (hz : Zc (.ref C) none p.2) (hf : ∃ vs, p.2.data = .fields vs) : CallR X (.builtin "isinstance") (rIsE X.K C p.1) := fun pins s σ H xs us Q I r h => by
  obtain ⟨c, cv, b, rfl, one, e, q⟩ := h
  obtain ⟨u1, u2, rfl, r1, r2⟩ := vals2 r
  cases r1
  cases one _ r2
  have hg := (I.pin p (List.mem_append_left _ hp)).1
  obtain ⟨vs, hv⟩ := hf
  have J : PySem.W.InstAt s.heap p.1 p.2 C none := by
    obtain ⟨a, cl, di, da, sl⟩ := p
    obtain ⟨h1, h2⟩ := hz
    dsimp only at h1 h2 hv hg
    subst h1 h2 hv
    exact ⟨hg, rfl, rfl, trivial⟩
  refine PySem.W.kia_one (PySem.W.handS_kitx_exc T.hg T.hk T.hs T.hd T.ha T.hn T.ht T.hm) I.kIn J e (fun z => nomatch z) fun tk => ?_
  exact ⟨.bl b, H, I.kept (t' := tk) fun _ _ z => z, rfl, q⟩
def dIsE (a : Addr) (b : Bool) (d : D) : Option D := match d with
  | .raw a' => if a' = a then some (.bl b) else none
  | _ => none
theorem dIsE_self (a : Addr) (b : Bool) : dIsE a b (.raw a) = some (.bl b) := if_pos rfl
section
variable {X : Cx} {W : WX} {e : Expr} {x : Str} {p1 p2 pos : Pos} {me : M D} {p : Addr × Obj} {C : Addr}
theorem se_isP {c : V} {cv : Value} {b : Bool} (T : ExcC X.K C) (hp : p ∈ X.pn) (hz : Zc (.ref C) none p.2) (hf : ∃ vs, p.2.data = .fields vs) (he : SE X W e me) (hT : PE X (.Name x p2) (tC c)) (hcv : ∀ u, RelV c u → u = cv) (hkit : PySem.W.kitOne X.K (.ref C) cv = some b) (hm : X.mg "isinstance" = none) (hg : Gl X "isinstance" := by rfl)
    (hs : starEach [e, .Name x p2] X.env = (false, eval e X.env) :: starEach [.Name x p2] X.env := by rfl) (hs2 : starEach [.Name x p2] X.env = (false, eval (.Name x p2) X.env) :: starEach [] X.env := by rfl) (hpl : (backTo pos (starEach [.Name x p2] X.env)).any (·.1) = false := by rfl) :
    SE X W (.Call (.Name "isinstance" p1) [e, .Name x p2] [] pos) (m1 (dIsE p.1 b) me) :=
  PE_imp (pe_callB (call_isP T hp hz hf) hg hm (by decide +kernel) (pa_cons he (pa_cons hT pa_nil hs2) hs) (by decide) (by decide) hs hpl) fun σ H Q ⟨Hb, Fb, kb, k, F, s, ok, h⟩ =>
    ⟨Hb, Fb, kb, k, F, s, ok, h.bind.imp fun d s1 F1 k1 H1 e1 p1 ok1 h1 v rv => by
      cases rv <;> try (exact h1.elim)
      case raw a =>
        by_cases ea : a = p.1
        · subst ea
          rw [dIsE_self] at h1
          exact ⟨c, cv, b, rfl, hcv, hkit, h1 H1 F1 k1 (Evl.Ex.refl _) (List.prefix_refl _) ok1 _ (.bl _)⟩
        · have : dIsE p.1 b (.raw a) = none := if_neg ea
          rw [this] at h1
          exact h1.elim⟩
end
/-! ### l.count(x), l.index(x) of plain lists -/
def dCnt : D → D → Option D
  | .lst l, d => if okEq (.lst l) d = true then some (.int ((l.countP fun y => eqD y d : Nat) : Int)) else none
  | _, _ => none
def dIdx : D → D → Option D
  | .lst l, d => if okEq (.lst l) d = true then (l.findIdx? fun y => eqD y d).map fun j => .int ((j : Nat) : Int) else none
  | _, _ => none
theorem mt_countD {X : Cx} (hu : X.A.units + 65 < cLine) : MtR X "list.count" (fun x xs H Q => ∃ (a : Addr) (y : V) (d : PyData) (ds : List PyData), x = V.ref a ∧ xs = [y] ∧ Dp X.K H (V.ref a) (.list ds) ∧ Dp X.K H y d ∧ SeqAt.shaped (.list ds) = true ∧ SeqAt.shaped d = true ∧ Q (.int ((ds.countP fun z => PyData.eqv z d : Nat) : Int)) H) := by
  intro pins s σ H x xs v us Q I rx rxs h
  obtain ⟨a, y, d, ds, rfl, rfl, hl, hy, sl, sd, q⟩ := h
  cases rx
  obtain ⟨uy, rfl, ry⟩ := vals1 rxs
  obtain ⟨bs, r1⟩ := Dp.reads I d y uy hy ry
  have hxs : PyData.canLayAll0 ds = true := SeqAt.canLay_of_shaped sl
  cases hl with
  | lst hs ha =>
    obtain ⟨its, rv, ⟨⟨cls, dd, data, sls⟩, n, ho, hc, hdn, hdt⟩, hlen⟩ := I.list hs
    simp only at hc hdt
    subst hc hdt
    obtain ⟨as, h4⟩ := Dp.readsAll I ds _ its ha rv
    have hmap : its.map (SeqAt.readOf s.heap) = ds := SeqAt.readsAll_map ds its as hxs h4
    refine call_meets PySem.F.slot_list_count ⟨_, ho, rfl⟩ PySem.F.entry_list_count (PySem.F.args_list_count_2 _ _) (SeqAt.list_countAt a its.toArray n dd sls uy (fun u => PyData.eqv (SeqAt.readOf s.heap u) d)) ⟨ho, SeqAt.items_eqAt (vs := its.toArray) (show ReadsAll s.heap its.toArray.toList ds as from h4) r1 hxs (SeqAt.canLay_of_shaped sd) (room_in_shaped sd hu), ?_⟩
    refine ⟨.int _, H, I.tok _, ⟨_, rfl⟩, ?_⟩
    have e : its.toArray.toList.countP (fun u => PyData.eqv (SeqAt.readOf s.heap u) d) = ds.countP fun z => PyData.eqv z d := by rw [← hmap, List.countP_map]; rfl
    rw [e]
    exact q
theorem pys_count {d : D} (hd : plain d = true) : ∀ {l : List D}, plains l = true → (pys l).countP (fun z => PyData.eqv z (py d)) = l.countP fun y => eqD y d
  | [], _ => rfl
  | y :: l, h => by
    simp only [plains, Bool.and_eq_true] at h
    simp only [pys, List.countP_cons, pys_count hd h.2, py_eqv y d h.1 hd]
theorem pys_find {d : D} (hd : plain d = true) : ∀ {l : List D}, plains l = true → (pys l).findIdx? (fun z => PyData.eqv z (py d)) = l.findIdx? fun y => eqD y d
  | [], _ => rfl
  | y :: l, h => by
    simp only [plains, Bool.and_eq_true] at h
    simp only [pys, List.findIdx?_cons, pys_find hd h.2, py_eqv y d h.1 hd]
/-- a method of a list value, with one argument -/
def mLm (f : D → D → Option D) (mo me : M D) : M D := mbind mo fun x => match x with
  | .lst l => mbind me fun y => mopt (f (.lst l) y)
  | _ => mno
section
variable {X : Cx} {W : WX} {o e : Expr} {apos cpos : Pos} {mo me : M D} {j : Nat}
theorem lm_imp {r : V → List V → Hp → VK → Prop} {f : D → D → Option D} (hf : ∀ (F : Hp) (k : List Addr) (H : Hp) (a : Addr) (xs : List V) (l : List D) (y : V) (dy z : D) (Q : VK), Ex F H → F a = some (.lst xs) → RepL (sbOf X) F k xs l → Rep (sbOf X) F k y dy → f (.lst l) dy = some z → (∀ v, Rep (sbOf X) F k v z → Q v H) → r (.ref a) [y] H Q)
    (σ : L2.St) (H : Hp) (Q : VK) : tE (sbOf X) W (mLm f mo me) σ H Q → tBM X.K "list" r (tE (sbOf X) W mo) (tCons (tE (sbOf X) W me) tNil) σ H Q := fun ⟨Hb, Fb, kb, k, F, s, ok, h⟩ =>
  ⟨Hb, Fb, kb, k, F, s, ok, h.bind.imp fun x s1 F1 k1 H1 e1 p1 ok1 h1 v rv => by
    cases rv <;> try (exact h1.elim)
    case lst a xs l ha rl =>
      refine ⟨.inl ⟨rfl, xs, SqL.of (ok1.bs.sub _ _ ha)⟩, Hb, Fb, kb, k1, F1, s1, ok1, h1.bind.imp fun y s2 F2 k2 H2 e2 p2 ok2 h2 u ru => ?_⟩
      cases c : f (.lst l) y with
      | none => rw [c] at h2; exact h2.elim
      | some z =>
        rw [c] at h2
        exact hf F2 k2 H2 a xs l u y z Q ok2.bs.sub (e2 _ _ ha) (rl.mono e2 p2) ru c fun v rv => h2 H2 F2 k2 (Evl.Ex.refl _) (List.prefix_refl _) ok2 v rv⟩
theorem se_count (hu : X.A.units + 65 < cLine) (ho : SE X W o mo) (he : SE X W e me) (hbase : attributeBase o "count" X.env (eval o X.env) = eval o X.env := by rfl)
    (hfew : ((backTo cpos (starEach [e] X.env)).all (fun x => !x.1) && (backToKw cpos (keywordEach [] X.env)).all (fun x => x.1.isSome) && decide ([e].length + ([] : List Keyword).length + (if ([] : List Keyword).isEmpty then 0 else 1) < 30)) = true := by rfl)
    (hline : (apos.endLine == cpos.line) = true := by rfl) (hs : starEach [e] X.env = (false, eval e X.env) :: starEach [] X.env := by rfl) : SE X W (.Call (.Attribute o "count" apos) [e] [] cpos) (mLm dCnt mo me) :=
  PE_imp (pe_bm PySem.F.plainAttrs_list PySem.F.slot_list_count PySem.F.type_list_count (mt_countD hu) ho (pa_cons he pa_nil hs) hbase hfew hline hs rfl) (lm_imp fun F k H a xs l y dy z Q sub ha rl ry c q => by
    have c : (if okEq (.lst l) dy = true then some (D.int ((l.countP fun y => eqD y dy : Nat) : Int)) else none) = some z := c
    by_cases okk : okEq (.lst l) dy = true
    · rw [if_pos okk] at c
      cases c
      obtain ⟨s1, s2, p1, p2⟩ := shaped_of okk
      have p1' : plains l = true := by simpa only [plain] using p1
      have dl : Dp X.K H (.ref a) (.list (pys l)) := by have := (Rep.lst ha rl).dp sub p1; simpa only [py] using this
      refine ⟨a, y, py dy, pys l, rfl, rfl, dl, ry.dp sub p2, by simpa only [py] using s1, s2, ?_⟩
      rw [pys_count p2 p1']
      exact q _ (.int _)
    · rw [if_neg okk] at c; cases c)
theorem se_index (hu : X.A.units + 65 < cLine) (ho : SE X W o mo) (he : SE X W e me) (hbase : attributeBase o "index" X.env (eval o X.env) = eval o X.env := by rfl)
    (hfew : ((backTo cpos (starEach [e] X.env)).all (fun x => !x.1) && (backToKw cpos (keywordEach [] X.env)).all (fun x => x.1.isSome) && decide ([e].length + ([] : List Keyword).length + (if ([] : List Keyword).isEmpty then 0 else 1) < 30)) = true := by rfl)
    (hline : (apos.endLine == cpos.line) = true := by rfl) (hs : starEach [e] X.env = (false, eval e X.env) :: starEach [] X.env := by rfl) : SE X W (.Call (.Attribute o "index" apos) [e] [] cpos) (mLm dIdx mo me) :=
  PE_imp (pe_bm PySem.F.plainAttrs_list PySem.F.slot_list_index PySem.F.type_list_index (mt_indexD hu) ho (pa_cons he pa_nil hs) hbase hfew hline hs rfl) (lm_imp fun F k H a xs l y dy z Q sub ha rl ry c q => by
    have c : (if okEq (.lst l) dy = true then (l.findIdx? fun y => eqD y dy).map (fun j => D.int ((j : Nat) : Int)) else none) = some z := c
    by_cases okk : okEq (.lst l) dy = true
    · rw [if_pos okk] at c
      obtain ⟨s1, s2, p1, p2⟩ := shaped_of okk
      have p1' : plains l = true := by simpa only [plain] using p1
      have dl : Dp X.K H (.ref a) (.list (pys l)) := by have := (Rep.lst ha rl).dp sub p1; simpa only [py] using this
      cases f : l.findIdx? fun y => eqD y dy with
      | none => rw [f] at c; cases c
      | some i =>
        rw [f] at c
        cases c
        have f2 := f
        rw [← pys_find p2 p1'] at f2
        obtain ⟨hi, hyes, hno⟩ := List.findIdx?_eq_some_iff_getElem.mp f2
        exact ⟨a, y, py dy, pys l, i, (pys l)[i], rfl, rfl, dl, ry.dp sub p2, by simpa only [py] using s1, s2, List.getElem?_eq_getElem hi, hyes, fun m z' hm hz => by
          obtain ⟨hml, e⟩ := List.getElem?_eq_some_iff.mp hz
          have := hno m hm
          rw [e] at this
          simpa using this, q _ (.int _)⟩
    · rw [if_neg okk] at c; cases c)
end
theorem op_neU {X : Cx} (hu : X.A.units + 65 < cLine) : OpR X (compareOp .NotEq) (rNeA X.K) := OpR_or (op_neD (by omega)) (op_neDic (by omega) hu)
/-! ### the start of a def -/
theorem ok_start {B : Sb} {H F : Hp} {k : List Addr} {g : List Ob} {vs : List V} {ds : List D} {N : List Str} (bs : Bs B H F k k F g H) (r : RepL B F k vs ds) : Ok B H F k k F ⟨initE N.length ds, g⟩ (start N vs) H := by
  have hv : vs.length = ds.length := r.length
  have no : ∀ {i : Nat} {o : Ob}, (initE N.length ds)[i]? = some (some (.own o)) → False := fun {i o} e => by
    have e : (ds.map (fun d => some (Sl.val d)) ++ List.replicate (N.length - ds.length) none)[i]? = some (some (.own o)) := e
    by_cases hi : i < ds.length
    · rw [List.getElem?_append_left (by simpa using hi), List.getElem?_map] at e
      cases q : ds[i]? with
      | none => rw [q] at e; cases e
      | some d' => rw [q] at e; cases e
    · rw [List.getElem?_append_right (by simpa using Nat.le_of_not_lt hi), List.getElem?_replicate] at e
      split at e <;> cases e
  refine ⟨bs, fun i d e => ?_, fun i o e => (no e).elim, fun i l o o' a _ e _ _ _ => (no e).elim, ?_⟩
  · have e : (ds.map (fun d => some (Sl.val d)) ++ List.replicate (N.length - ds.length) none)[i]? = some (some (.val d)) := e
    by_cases hi : i < ds.length
    · rw [List.getElem?_append_left (by simpa using hi), List.getElem?_map] at e
      cases q : ds[i]? with
      | none => rw [q] at e; cases e
      | some d' =>
        rw [q] at e
        cases e
        obtain ⟨v, e1, r1⟩ := r.getD q
        refine ⟨v, ?_, r1⟩
        show (vs.map some ++ List.replicate (N.length - vs.length) none)[i]? = _
        rw [List.getElem?_append_left (by simpa [hv] using hi), List.getElem?_map, e1]
        rfl
    · rw [List.getElem?_append_right (by simpa using Nat.le_of_not_lt hi), List.getElem?_replicate] at e
      split at e <;> cases e
  · show (ds.map (fun d => some (Sl.val d)) ++ List.replicate (N.length - ds.length) none).length = (vs.map some ++ List.replicate (N.length - vs.length) none).length
    simp [hv]
/-! ### a def that is called with the pinned error: its class is the i-th of Cs -/
def spP (B : Sb) (Cs : List Addr) (Fw : Nat → Addr → Fn) : Addr × Obj → Sp := fun p vs H Q _ => ∃ k F g i C, Bs B H F k k F g H ∧ vs = [.ref p.1] ∧ Cs[i]? = some C ∧ Zc (.ref C) none p.2 ∧ (∃ vs, p.2.data = .fields vs) ∧ match Fw i p.1 [.raw p.1] g with
  | .ok d g' => ∀ v H' F' k', Bs B H F k k' F' g' H' → Rep B F' k' v d → Q v H'
  | _ => False
theorem fnP_ok {P : Program} {w : World} {K : PySem.W.Frag} {mg : Str → Option Value} {base : Heap} {x qual y : Str} {st : Stmt} {f : Addr} {fd : FuncData} {N : List Str} {j : Nat} {Cs : List Addr} {m : Nat → Addr → M Out} (F : Fun K x qual st f fd) (Sc : FnScope N [y] (defScope st))
    (hb : ∀ (cd : Value) (A : Around) (outer : List Env) (s : Shared) (H : Hp) (E : XK) (p : Addr × Obj) (i : Nat) (C : Addr), L2H.RoomH j (A.deeper (envOfC qual (defScope st) s.heap.objs.size f cd)) → Cs[i]? = some C → Zc (.ref C) none p.2 → (∃ vs, p.2.data = .fields vs) →
      SSs (cxP P w K mg base N qual st f cd A outer s H E p) (fun _ _ _ _ => False) (defBody st) (m i p.1)) :
    FnP P w K mg base (j + 1) f fd [y] (spP ⟨K, mg, P, w⟩ Cs fun i a => mkF N.length (m i a)) := by
  refine fnP_of F Sc (fun p vs H Q E h => ?_) fun cd A outer s H vs Q E p room h => ?_
  · obtain ⟨_, _, _, _, _, _, rfl, _⟩ := h
    rfl
  · obtain ⟨k, F0, g, i, C, bs, rfl, hC, hz, hf, h⟩ := h
    refine ⟨_, hb cd A outer s H E p i C room hC hz hf, H, F0, k, k, F0, ⟨initE N.length [.raw p.1], g⟩, ok_start bs (.cons .raw .nil), ?_⟩
    have h : (match frOf (m i p.1 ⟨initE N.length [.raw p.1], g⟩) with | .ok d g' => ∀ v H' F' k', Bs ⟨K, mg, P, w⟩ H F0 k k' F' g' H' → Rep ⟨K, mg, P, w⟩ F' k' v d → Q v H' | _ => False) := h
    cases q : m i p.1 ⟨initE N.length [.raw p.1], g⟩ with
    | ok o s' =>
      rw [q] at h
      cases o with
      | nx => exact fun σ' H' F' k' _ _ ok' => h .non H' F' k' ok'.bs .non
      | rt d => exact fun v H' F' k' _ _ b r => h v H' F' k' b r
      | bk => exact h.elim
      | ct => exact h.elim
    | ex c s' => rw [q] at h; exact h.elim
    | no => rw [q] at h; exact h.elim
theorem pe_callP {X : Cx} {k : Nat} {f : Addr} {fd : FuncData} {ps : List Str} {sp : Addr × Obj → Sp} {x : Str} {q pos : Pos} {e : Expr} {es : List Expr} {t : TA} {p : Addr × Obj} (F : FnP X.prog X.w X.K X.mg X.base k f fd ps sp) (hr : L2H.RoomH k X.A) (hp : p ∈ X.pn) (hg : Gl X x) (hm : X.mg x = some (.ref f)) (hk : PySem.W.keepIn X.K (.ref f) = true) (hb : Binds X.K fd ps [])
    (ha : PA X (e :: es) t) (hdb : (x == ("__debug__" : Str)) = false := by decide) (he : starEach (e :: es) X.env = (false, eval e X.env) :: starEach es X.env := by rfl) (hpl : (backTo pos (starEach es X.env)).any (·.1) = false := by rfl) :
    PE X (.Call (.Name x q) (e :: es) [] pos) (fun σ H Q => t σ H fun vs H1 => sp p vs H1 Q fun _ _ _ => False) := by
  refine ⟨fun pins s σ H Q I h => wpAny_Call_Name_kw (ld_glob I hg hm (PySem.W.callWith_K (h₀ := X.base) I.ok.mod.kin hk (thn (ha.run pos pins s σ H _ I h) fun us s1 hh => ?_) he hpl) hdb)⟩
  obtain ⟨vs, H1, I1, r, w⟩ := hh
  refine ⟨I1.kIn, ?_⟩
  have hl : us.length = ps.length := r.length.symm.trans (F.len _ _ _ _ _ w)
  have b := hb s1 us I1.kIn (by rw [List.append_nil]; exact hl)
  rw [List.append_nil] at b
  obtain ⟨p1, p2, p3, p4, p5⟩ := I1.pin p (List.mem_append_left _ hp)
  have pin : L2H.PinOk X.stack H1 s1 p := ⟨p1, p2, fun z => (List.mem_cons.mp (I1.stkSub p.1 z)).elim p3 p4, p5⟩
  refine wpAny_call (codeAny_mono (F.run X.A X.stack s1 H1 ⟨us, []⟩ us vs Q (fun _ _ _ => False) p hr pin I1.env0 b r w) fun res s2 hq => ?_)
  cases res with
  | error err =>
    obtain ⟨_, _, _, _, _, _, _, _, _, _, _, _, no⟩ := (hq : L2N.CX X.prog X.w X.stack H1 s1 (fun _ _ _ => False) err s2)
    cases no
  | ok fl =>
    cases fl with
    | ret u => exact I1.after hq
    | next => cases hq
    | brk => cases hq
    | cont => cases hq
/-! ### try: body, except X as n: return f(n) -/
def mTry (i : Nat) (names : List Str) (tab : Nat → D) (mb : M Out) : M Out := fun s => match mb ⟨hideE s.e, s.g⟩ with
  | .ok (.rt d) s' => .ok (.rt d) ⟨s.e, s'.g⟩
  | .ex c s' => (match names.findIdx? (· == c) with
    | some i0 => if i < s'.e.length then .ok (.rt (tab i0)) ⟨s.e, s'.g⟩ else .no
    | none => .no)
  | _ => .no
/-- the classes of errors and the def that asks for them -/
structure Asks (P : Program) (w : World) (K : PySem.W.Frag) (mg : Str → Option Value) (base : Heap) (fn xr : Str) (names : List Str) (tab : Nat → D) (j : Nat) : Prop where
  ex : ∃ (Cs : List Addr) (R f : Addr) (fd : FuncData) (y : Str) (Fw : Nat → Addr → Fn), mg xr = some (.ref R) ∧ Cs.length = names.length ∧ (∀ (i : Nat) (C : Addr) (nm : Str), Cs[i]? = some C → names[i]? = some nm → mg nm = some (.ref C) ∧ PySem.W.exmOne K (.ref C) (.ref R) = some true) ∧
    FnP P w K mg base j f fd [y] (spP ⟨K, mg, P, w⟩ Cs Fw) ∧ mg fn = some (.ref f) ∧ PySem.W.keepIn K (.ref f) = true ∧ Binds K fd [y] [] ∧ ∀ (i : Nat) (a : Addr) (g : List Ob), i < names.length → Fw i a [.raw a] g = .ok (tab i) g
section
variable {X : Cx} {W : WX} {body : List Stmt} {mb : M Out} {x n fn : Str} {i : Nat} {np pos pos' q q2 q3 q4 : Pos} {names : List Str} {tab : Nat → D} {j : Nat}
theorem ss_try (AS : Asks X.prog X.w X.K X.mg X.base fn x names tab j) (hr : Room j X.A) (tk : L2N.Takes X W) (hN : X.N.Nodup)
    (hb : ∀ (W : WX) (pn : List (Addr × Obj)) (xe : Value → Shared → Prop), L2N.Takes (X.tr pn xe) W → PassesOwn (model X.prog X.w) X.A X.env xe → SSs (X.tr pn xe) W body mb)
    (hi : X.N[i]? = some n := by rfl) (hln : X.env.kindOf n = some .local := by rfl) (hg : Gl X x := by rfl) (hdb : (x == ("__debug__" : Str)) = false := by decide) (hg2 : Gl X fn := by rfl) (hdb2 : (fn == ("__debug__" : Str)) = false := by decide)
    (hd : (n == ("__debug__" : Str)) = false := by decide) (hcd : (n == ("__classdict__" : Str)) = false := by decide) (hs : X.stack = X.env :: X.outer := by rfl) (hf : X.env.frame = some X.env.locals := by rfl)
    (he : starEach [.Name n q2] X.env = (false, eval (.Name n q2) X.env) :: starEach [] X.env := by rfl) :
    SS X W (.Try body [.ExceptHandler (some (.Name x np)) (some n) [.Return (some (.Call (.Name fn q) [.Name n q2] [] q3)) q4] pos'] [] [] pos) (mTry i names tab mb) := by
  obtain ⟨Cs, R, f, fd, y, Fw, gR, hl, hcs, F, gf, kf, bf, ft⟩ := AS.ex
  let ts : Addr → Value → Option Addr → TS := fun a cls d => fun E σ H => ∃ v, σ[i]? = some (some v) ∧ ∀ oe, Zc cls d oe → (∃ vs, oe.data = .fields vs) → spP (sbOf X) Cs Fw (a, oe) [v] H E.rt fun _ _ _ => False
  refine PS_imp (L2N.ps_try_as (tb := fun W => tS (sbOf X) W mb) (ts := ts) hs hf hN hi hln ⟨hg, hdb, .inl gR⟩ tk (fun W pn xe t p => hb W pn xe t p) fun a oe cls d pn zn fl => ?_) fun E σ H ⟨Hb, Fb, kb, k, F0, s, ok, h⟩ => ?_
  · have rr : L2H.RoomH j (X.suite a ((a, oe) :: pn)).A := ⟨hr.dp, hr.un⟩
    refine pss_one (PS_imp (ps_ret (pe_callP (X := X.suite a ((a, oe) :: pn)) (p := (a, oe)) F rr List.mem_cons_self hg2 gf kf bf (pa_cons (pe_var (i := i) hi (.inl hln) hd hcd) pa_nil he) hdb2 he rfl)) fun E σ H z => ?_)
    obtain ⟨v, hv, sp⟩ := z
    exact ⟨v, hv, sp oe zn.zc fl⟩
  · have ok0 : Ok (sbOf X) H F0 k k F0 ⟨hideE s.e, s.g⟩ σ H := ok.inner []
    refine ⟨H, F0, k, k, F0, ⟨hideE s.e, s.g⟩, ok0, ?_⟩
    unfold mTry at h
    cases c : mb ⟨hideE s.e, s.g⟩ with
    | no => rw [c] at h; exact h.elim
    | ok o s' =>
      rw [c] at h
      cases o with
      | rt d => exact fun v H' F' k' e1 p1 b r => h v H' F' k' e1 p1 (ok.evo b).bs r
      | nx => exact h.elim
      | bk => exact h.elim
      | ct => exact h.elim
    | ex c' s' =>
      rw [c] at h
      cases ci : names.findIdx? (· == c') with
      | none => exact (h.cast .no (by (try dsimp only); rw [ci])).elim
      | some i0 =>
        rcases Nat.lt_or_ge i s'.e.length with hle | hge
        rotate_left
        · exact (h.cast .no (by (try dsimp only); rw [ci]; (try dsimp only); rw [if_neg (Nat.not_lt.mpr hge)])).elim
        have h := h.cast (.ok (.rt (tab i0)) ⟨s.e, s'.g⟩) (by (try dsimp only); rw [ci]; (try dsimp only); rw [if_pos hle])
        obtain ⟨hi0, hyes, _⟩ := List.findIdx?_eq_some_iff_getElem.mp ci
        intro C σ' H' F' k' mC ok'
        have en : names[i0]? = some c' := by rw [List.getElem?_eq_getElem hi0]; congr 1; simpa using hyes
        obtain ⟨D0, hD⟩ : ∃ D0, Cs[i0]? = some D0 := ⟨_, List.getElem?_eq_getElem (by omega)⟩
        obtain ⟨m1, m2⟩ := hcs i0 D0 c' hD en
        have eC : C = .ref D0 := by
          have : X.mg c' = some C := mC
          rw [m1] at this
          exact (Option.some.inj this).symm
        subst eC
        refine ⟨true, m2, fun _ a na => ⟨.ref a, ?_, fun oe zc fl => ⟨k', F', s'.g, i0, D0, ok'.bs.start, rfl, hD, zc, fl, ?_⟩⟩, fun z => by cases z⟩
        · exact List.getElem?_set_self (by rw [← ok'.elen]; exact hle)
        · have hw := ft i0 a s'.g hi0
          show (match Fw i0 a [.raw a] s'.g with | .ok d g' => _ | _ => False)
          rw [hw]
          exact fun v H2 F2 k2 b r => h v H2 F2 k2 (ok'.bs.fb.trans b.fb) (ok'.bs.pre.trans b.pre) ((ok.evo (ok'.evo b).bs).bs) r
end
end FX

/-! FX: lists in cells (append, pop, ==, list(..)); methods that may raise, methods without arguments, len of an instance -/
namespace FX
open PySem L2 PyProof.Rows
def cellL (s : S) (n : Nat) : Option (List D) := match s.g[n]? with
  | some (.lst l) => some l
  | _ => none
theorem cellL_some {s : S} {n : Nat} {l : List D} (h : cellL s n = some l) : s.g[n]? = some (.lst l) := by
  unfold cellL at h
  split at h
  · rename_i l' e; cases h; exact e
  · cases h
/-- cell.append(e) -/
def mAppC (mo me : M D) : M D := mbind mo fun x s => match x with
  | .cell n => (match cellL s n with
    | some _ => mbind me (fun d s1 => match cellL s1 n with
      | some l => if l.length < 100000 then .ok D.non (setC n (.lst (l ++ [d])) s1) else .no
      | none => .no) s
    | none => .no)
  | _ => .no
/-- cell.pop() -/
def mPopC (mo : M D) : M D := mbind mo fun x s => match x with
  | .cell n => (match cellL s n with
    | some l => (match l[l.length - 1]? with
      | some d => .ok d (setC n (.lst l.dropLast) s)
      | none => .no)
    | none => .no)
  | _ => .no
/-- cell == e -/
def mEqC (mo me : M D) : M D := mbind mo fun x => mbind me fun y s => match x with
  | .cell n => (match cellL s n with
    | some l => if okEq (.lst l) y = true then .ok (.bl (eqD (.lst l) y)) s else .no
    | none => .no)
  | _ => .no
/-- list(cell), as a new thing -/
def mListC (mo : M D) : M Ob := mbind mo fun x s => match x with
  | .cell n => (match cellL s n with
    | some l => .ok (.lst l) s
    | none => .no)
  | _ => .no
section
variable {X : Cx} {W : WX} {apos cpos pos p : Pos} {o e : Expr} {mo me : M D} {j : Nat}
theorem se_appC (ho : SE X W o mo) (he : SE X W e me) (hbase : attributeBase o "append" X.env (eval o X.env) = eval o X.env := by rfl)
    (hfew : ((backTo cpos (starEach [e] X.env)).all (fun x => !x.1) && (backToKw cpos (keywordEach [] X.env)).all (fun x => x.1.isSome) && decide (([e] : List Expr).length + ([] : List Keyword).length + (if ([] : List Keyword).isEmpty then 0 else 1) < 30)) = true := by rfl)
    (hline : (apos.endLine == cpos.line) = true := by rfl) (hs : starEach [e] X.env = (false, eval e X.env) :: starEach [] X.env := by rfl) : SE X W (.Call (.Attribute o "append" apos) [e] [] cpos) (mAppC mo me) :=
  PE_imp (pe_bm PySem.F.plainAttrs_list PySem.F.slot_list_append PySem.F.type_list_append mt_append ho (pa_cons he pa_nil hs) hbase hfew hline hs rfl) fun σ H Q ⟨Hb, Fb, kb, k, F, s, ok, h⟩ =>
  ⟨Hb, Fb, kb, k, F, s, ok, h.bind.imp fun x s1 F1 k1 H1 e1 p1 ok1 h1 v rv => by
    cases rv <;> try (exact h1.elim)
    case cell a n ea =>
      cases q : FX.cellL s1 n with
      | none => exact (h1.no (by (try dsimp only); rw [q])).elim
      | some l0 =>
        have h2 := h1.cast (mbind me (fun d s1 => match FX.cellL s1 n with | some l => if l.length < 100000 then .ok D.non (setC n (.lst (l ++ [d])) s1) else .no | none => .no) s1) (by (try dsimp only); rw [q])
        obtain ⟨xs, hxs, _⟩ := ok1.cellL ea (cellL_some q)
        refine ⟨.inl ⟨rfl, xs, SqL.of hxs⟩, Hb, Fb, kb, k1, F1, s1, ok1, h2.bind.imp fun d s2 F2 k2 H2 e2 p2 ok2 h3 u ru => ?_⟩
        cases q1 : FX.cellL s2 n with
        | none => exact (h3.no (by (try dsimp only); rw [q1])).elim
        | some l =>
          have ea2 := p2.get ea
          obtain ⟨ys, hys, ry⟩ := ok2.cellL ea2 (cellL_some q1)
          by_cases hl : l.length < 100000
          · have h4 := h3.cast (.ok D.non (setC n (.lst (l ++ [d])) s2)) (by (try dsimp only); rw [q1]; (try dsimp only); rw [if_pos hl])
            refine ⟨a, ys, u, rfl, rfl, hys, by rw [ry.length]; exact Evl.sz_lt hl, ?_⟩
            exact h4 _ F2 k2 (Evl.Ex.refl _) (List.prefix_refl _) (ok2.mutC ea2 ⟨_, upd_same, ry.append (.cons ru .nil)⟩) .non .non
          · exact (h3.no (by (try dsimp only); rw [q1]; (try dsimp only); rw [if_neg hl])).elim⟩
theorem se_popC (ho : SE X W o mo) (hbase : attributeBase o "pop" X.env (eval o X.env) = eval o X.env := by rfl) (hline : (apos.endLine == cpos.line) = true := by rfl) : SE X W (.Call (.Attribute o "pop" apos) [] [] cpos) (mPopC mo) :=
  PE_imp (pe_bm0 PySem.F.plainAttrs_list PySem.F.slot_list_pop PySem.F.type_list_pop mt_pop ho hbase hline) fun σ H Q ⟨Hb, Fb, kb, k, F, s, ok, h⟩ =>
  ⟨Hb, Fb, kb, k, F, s, ok, h.bind.imp fun x s1 F1 k1 H1 e1 p1 ok1 h1 v rv => by
    cases rv <;> try (exact h1.elim)
    case cell a n ea =>
      cases q : FX.cellL s1 n with
      | none => exact (h1.no (by (try dsimp only); rw [q])).elim
      | some l =>
        obtain ⟨xs, hxs, rx⟩ := ok1.cellL ea (cellL_some q)
        refine ⟨.inl ⟨rfl, xs, SqL.of hxs⟩, ?_⟩
        cases q1 : l[l.length - 1]? with
        | none => exact (h1.no (by (try dsimp only); rw [q]; (try dsimp only); rw [q1])).elim
        | some d =>
          have h2 := h1.cast (.ok d (setC n (.lst l.dropLast) s1)) (by (try dsimp only); rw [q]; (try dsimp only); rw [q1])
          obtain ⟨v, ev, rv⟩ := rx.getD q1
          refine ⟨a, xs, v, rfl, rfl, hxs, by rw [rx.length]; exact ev, ?_⟩
          exact h2 _ F1 k1 (Evl.Ex.refl _) (List.prefix_refl _) (ok1.mutC ea ⟨_, upd_same, rx.dropLast⟩) v rv⟩
theorem eqC_imp {B : Sb} (σ : L2.St) (H : Hp) (Q : VK) : tE B W (mEqC mo me) σ H Q → tOp (rEqA B.K) (tE B W mo) (tE B W me) σ H Q := fun ⟨Hb, Fb, kb, k, F, s, ok, h⟩ =>
  ⟨Hb, Fb, kb, k, F, s, ok, h.bind.imp fun x s1 F1 k1 H1 e1 p1 ok1 h1 v rv => ⟨Hb, Fb, kb, k1, F1, s1, ok1, h1.bind.imp fun y s2 F2 k2 H2 e2 p2 ok2 h2 u ru => by
    cases rv <;> try (exact h2.elim)
    case cell a n ea =>
      cases q : FX.cellL s2 n with
      | none => exact (h2.no (by (try dsimp only); rw [q])).elim
      | some l =>
        obtain ⟨xs, hxs, rx⟩ := ok2.cellL (p2.get ea) (cellL_some q)
        by_cases hk : okEq (.lst l) y = true
        · have h3 := h2.cast (.ok (.bl (eqD (.lst l) y)) s2) (by (try dsimp only); rw [q]; (try dsimp only); rw [if_pos hk])
          obtain ⟨s1', s2', q1, q2⟩ := shaped_of hk
          have pl : plains l = true := by simpa only [plain] using q1
          have d1 : Dp B.K H2 (.ref a) (py (.lst l)) := by simp only [py]; exact .lst (SqL.of hxs) (RepL.dp ok2.bs.sub rx pl)
          refine .inl ⟨py (.lst l), py y, d1, ru.dp ok2.bs.sub q2, s1', s2', ?_⟩
          rw [py_eqv _ _ q1 q2]
          exact h3 H2 F2 k2 (Evl.Ex.refl _) (List.prefix_refl _) ok2 _ (.bl _)
        · exact (h2.no (by (try dsimp only); rw [q]; (try dsimp only); rw [if_neg hk])).elim⟩⟩
theorem se_eqC (hr : Room j X.A) (ho : SE X W o mo) (he : SE X W e me) (hm : behindInMarks .Eq e = false) : SE X W (.Compare o [.Eq] [e] pos) (mEqC mo me) := PE_imp (pe_cmpR (op_eqA hr) ho he hm) eqC_imp
theorem st_eqC (hr : Room j X.A) (ho : SE X W o mo) (he : SE X W e me) (hm : behindInMarks .Eq e = false) : ST X W (.Compare o [.Eq] [e] pos) (mB (mEqC mo me)) := PT_imp (pt_cmpR (op_eqA hr) ho he hm) fun σ H Q h => eqC_imp σ H _ (tB_imp σ H Q h)
theorem sn_listC (ho : SE X W o mo) (hm : X.mg "list" = none) (hg : Gl X "list" := by rfl) (he : starEach [o] X.env = (false, eval o X.env) :: starEach [] X.env := by rfl) : SN X W (.Call (.Name "list" p) [o] [] pos) (mListC mo) :=
  PE_imp (pe_callTy call_list_of hg hm (by decide +kernel) (pa_cons ho pa_nil he) (by decide) (by decide) he rfl) fun σ H Q ⟨Hb, Fb, kb, k, F, s, ok, h⟩ =>
  ⟨Hb, Fb, kb, k, F, s, ok, h.bind.imp fun x s1 F1 k1 H1 e1 p1 ok1 h1 v rv => by
    cases rv <;> try (exact h1.elim)
    case cell a n ea =>
      cases q : FX.cellL s1 n with
      | none => exact (h1.no (by (try dsimp only); rw [q])).elim
      | some l =>
        obtain ⟨xs, hxs, rx⟩ := ok1.cellL ea (cellL_some q)
        have h2 := h1.cast (.ok (.lst l) s1) (by (try dsimp only); rw [q])
        exact ⟨a, xs, rfl, .inl (SqL.of hxs), fun p hp => h2 _ F1 k1 (Evl.Ex.refl _) (List.prefix_refl _) (ok1.grow (Grow.junk ok1.bs.sub hp)) p (ok1.free hp) ⟨xs, upd_same, rx⟩⟩⟩
end
/-! ### methods that may raise -/
def tMthS (C : Addr) (m : Str) (sp : Sp) (E : L2.St → XK) (ta : TE) (t : TA) : TE := fun σ H Q => ta σ H fun x H1 => ∃ a dx fs, x = .ref a ∧ H1 a = some (.ins C dx fs) ∧ fs.lookup m = none ∧ t σ H1 fun vs H2 => sp (x :: vs) H2 Q (E σ)
section
variable {X : Cx} {CX : CXT} {k : Nat} {f C : Addr} {fd : FuncData} {ps : List Str} {sp : Sp} {E : L2.St → XK} {m : Str} {pos apos : Pos} {e o : Expr} {es : List Expr} {ta : TE} {t : TA}
theorem pe_mthS {pl : Sem Bool} (he : PE X o ta) (c : Cls X.K C) (hm : Meth X.K C m f) (F : FnOk X.prog X.w X.K X.mg X.base CX k f fd ps sp) (hr : Room k X.A) (hb : Binds X.K fd ps []) (hx : ∀ σ, PassesAt CX X σ (E σ)) (ha : PA X (e :: es) t)
    (hst : starEach (e :: es) X.env = (false, eval e X.env) :: starEach es X.env) (hpl : (backTo pos (starEach es X.env)).any (·.1) = false)
    (ht : eval (.Call (.Attribute o m apos) (e :: es) [] pos) X.env = (do
      let ov ← eval o X.env
      standAt apos.atName
      let (f, first) ← holding [ov] (getMethod ov m pl)
      callWith pos f first (backTo pos (starEach (e :: es) X.env)) (backToKw pos (keywordEach [] X.env)))) : PE X (.Call (.Attribute o m apos) (e :: es) [] pos) (tMthS C m sp E ta t) := ⟨fun pins s σ H Q I h => by
  refine PySem.W.methodCall_KW (pl := pl) (thn (he.run pins s σ H _ I h) fun u s1 hh => ?_) ht
  obtain ⟨x, H1, I1, rx, a, dx, fs, rfl, ea, l, q⟩ := hh
  obtain rfl : u = Value.ref a := rx
  refine getmeth_ok I1 ea c hm l (PySem.W.callWith_K (first := [.ref a]) (h₀ := X.base) I.ok.mod.kin hm.kp (thn (ha.run pos pins s1 σ H1 _ I1 q) fun us s2 hh => ?_) hst hpl)
  obtain ⟨vs, H2, I2, r, q2⟩ := hh
  exact ⟨I2.kIn, run_fnS (us := .ref a :: us) (vs := .ref a :: vs) F hr hb (hx σ) I2 (.cons rfl r) q2⟩⟩
theorem pe_mthS0 {pl : Sem Bool} (he : PE X o ta) (c : Cls X.K C) (hm : Meth X.K C m f) (F : FnOk X.prog X.w X.K X.mg X.base CX k f fd ps sp) (hr : Room k X.A) (hb : Binds X.K fd ps []) (hx : ∀ σ, PassesAt CX X σ (E σ))
    (ht : eval (.Call (.Attribute o m apos) [] [] pos) X.env = (do
      let ov ← eval o X.env
      standAt apos.atName
      let (f, first) ← holding [ov] (getMethod ov m pl)
      callWith pos f first (backTo pos (starEach [] X.env)) (backToKw pos (keywordEach [] X.env)))) : PE X (.Call (.Attribute o m apos) [] [] pos) (tMthS C m sp E ta tNil) := ⟨fun pins s σ H Q I h => by
  refine PySem.W.methodCall_KW (pl := pl) (thn (he.run pins s σ H _ I h) fun u s1 hh => ?_) ht
  obtain ⟨x, H1, I1, rx, a, dx, fs, rfl, ea, l, q⟩ := hh
  obtain rfl : u = Value.ref a := rx
  exact getmeth_ok I1 ea c hm l (PySem.W.callWith_K0 (first := [.ref a]) I1.kIn hm.kp (run_fnS (us := [.ref a]) (vs := [.ref a]) F hr hb (hx σ) I1 (.cons rfl .nil) q))⟩
end
def mMethE (cn m : Str) (n : Nat) (f : Fn) (mo : M D) (ma : M (List D)) : M D := mbind mo fun x s => match x with
  | .cell c => (match insAt cn s.g c with
    | some fs => if (fs.lookup m).isNone = true then mbind ma (fun ds => runF n f (.cell c :: ds)) s else .no
    | none => .no)
  | _ => .no
section
variable {X : Cx} {W : WX} {pos p apos : Pos} {o e : Expr} {es : List Expr} {mo : M D} {ma : M (List D)} {cn m : Str} {j n : Nat} {f : Fn}
theorem methE_imp {C a : Addr} {fd : FuncData} {ps : List Str} (hm : X.mg cn = some (.ref C)) {t : TA} (ht : ∀ σ H Q, tA (sbOf X) W ma σ H Q → t σ H Q) (σ : L2.St) (H : Hp) (Q : VK) : tE (sbOf X) W (mMethE cn m n f mo ma) σ H Q → tMthS C m (spF (sbOf X) n f) (WE W) (tE (sbOf X) W mo) t σ H Q := fun ⟨Hb, Fb, kb, k, F, s, ok, h⟩ => by
  refine ⟨Hb, Fb, kb, k, F, s, ok, h.bind.imp fun dx s1 F1 k1 H1 e1 p1 ok1 h1 v rv => ?_⟩
  cases rv <;> try (exact h1.elim)
  case cell b c eb =>
    cases q : insAt cn s1.g c with
    | none => exact (h1.no (by (try dsimp only); rw [q])).elim
    | some fs =>
      by_cases q2 : (fs.lookup m).isNone = true
      · have h2 := h1.cast (mbind ma (fun ds => runF n f (.cell c :: ds)) s1) (by (try dsimp only); rw [q]; (try dsimp only); rw [if_pos q2])
        obtain ⟨C', dx, xs, hc, hxs, rx⟩ := ok1.bs.cel c b _ eb (insAt_of q)
        have eC : C' = C := by
          have z : X.mg cn = some (.ref C') := hc
          rw [z] at hm
          injection hm with hm
          injection hm
        subst eC
        have ln : xs.lookup m = none := (rx.lk (f := m)).1 (by cases z : fs.lookup m with | none => rfl | some _ => rw [z] at q2; cases q2)
        refine ⟨b, dx, xs, rfl, hxs, ln, ht _ _ _ ⟨Hb, Fb, kb, k1, F1, s1, ok1, h2.bind.imp fun ds s2 F2 k2 H2 e2 p2 ok2 h3 vs rvs => ?_⟩⟩
        show spF (sbOf X) n f (.ref b :: vs) H2 Q (WE W σ)
        have h3 : Fin (sbOf X) Hb Fb kb k2 F2 σ W (if (D.cell c :: ds).length = n then (match f (.cell c :: ds) s2.g with | .ok d g' => .ok d ⟨s2.e, g'⟩ | .ex c g' => .ex c ⟨s2.e, g'⟩ | .no => .no) else .no) (fun d _ F' k' H' => ∀ v, Rep (sbOf X) F' k' v d → Q v H') := h3
        by_cases hl : (D.cell c :: ds).length = n
        · rw [if_pos hl] at h3
          refine ⟨k2, F2, s2.g, .cell c :: ds, ok2.bs.start, .cons (.cell (p2.get eb)) rvs, hl, ?_⟩
          cases z : f (.cell c :: ds) s2.g with
          | ok d g' =>
            rw [z] at h3
            exact fun v H' F' k' b r => h3 H' F' k' b.fb b.pre (ok2.evo b) v r
          | ex c g' =>
            rw [z] at h3
            exact fun C H' F' k' m b => h3 C H' F' k' m (ok2.evo b)
          | no => rw [z] at h3; exact h3.elim
        · rw [if_neg hl] at h3; exact h3.elim
      · exact (h1.no (by (try dsimp only); rw [q]; (try dsimp only); rw [if_neg q2])).elim
theorem se_methE (M : CalM X.prog X.w X.K X.mg X.base cn m j n f) (hr : Room j X.A) (tk : L2N.Takes X W) (ho : SE X W o mo) (ha : SA X W (e :: es) ma)
    (hst : starEach (e :: es) X.env = (false, eval e X.env) :: starEach es X.env := by rfl) (hpl : (backTo pos (starEach es X.env)).any (·.1) = false := by rfl) {pl : Sem Bool}
    (ht : eval (.Call (.Attribute o m apos) (e :: es) [] pos) X.env = (do
      let ov ← eval o X.env
      standAt apos.atName
      let (f, first) ← holding [ov] (getMethod ov m pl)
      callWith pos f first (backTo pos (starEach (e :: es) X.env)) (backToKw pos (keywordEach [] X.env))) := by rfl) : SE X W (.Call (.Attribute o m apos) (e :: es) [] pos) (mMethE cn m n f mo ma) := by
  obtain ⟨C, a, fd, ps, F, hm, cl, mt, hb⟩ := M.ex
  exact PE_imp (pe_mthS (pl := pl) ho cl mt F hr hb (fun σ => L2N.passAt tk σ) ha hst hpl ht) (methE_imp (a := a) (fd := fd) (ps := ps) hm fun _ _ _ z => z)
theorem se_methE0 (M : CalM X.prog X.w X.K X.mg X.base cn m j n f) (hr : Room j X.A) (tk : L2N.Takes X W) (ho : SE X W o mo) {pl : Sem Bool}
    (ht : eval (.Call (.Attribute o m apos) [] [] pos) X.env = (do
      let ov ← eval o X.env
      standAt apos.atName
      let (f, first) ← holding [ov] (getMethod ov m pl)
      callWith pos f first (backTo pos (starEach [] X.env)) (backToKw pos (keywordEach [] X.env))) := by rfl) : SE X W (.Call (.Attribute o m apos) [] [] pos) (mMethE cn m n f mo mNil) := by
  obtain ⟨C, a, fd, ps, F, hm, cl, mt, hb⟩ := M.ex
  refine PE_imp (pe_mthS0 (pl := pl) ho cl mt F hr hb (fun σ => L2N.passAt tk σ) ht) (methE_imp (a := a) (fd := fd) (ps := ps) (ma := mNil) (t := tNil) hm fun σ H Q ⟨Hb, Fb, kb, k, F, s, ok, h⟩ => ?_)
  exact h H F k (Evl.Ex.refl _) (List.prefix_refl _) ok [] .nil
end
/-! ### len of an instance -/
def mLenI (cn : Str) (f : Fn) (mo : M D) : M D := mbind mo fun x s => match x with
  | .cell c => (match insAt cn s.g c with
    | some _ => (match f [.cell c] s.g with
      | .ok (.int i) g' => if 0 ≤ i ∧ i ≤ 100000 then .ok (.int i) ⟨s.e, g'⟩ else .no
      | _ => .no)
    | none => .no)
  | _ => .no
theorem len_ins {X : Cx} {pins : List (Addr × Obj)} {σ : L2.St} {H : Hp} {s : Shared} {a C dx f : Addr} {fs : List (Str × V)} {fd : FuncData} {ps : List Str} {j n : Nat} {F0 : Fn} {Q : VK} (I : Inv X pins σ H s) (e : H a = some (.ins C dx fs)) (mt : Meth X.K C "__len__" f) (F : FnOk X.prog X.w X.K X.mg X.base (L2N.CX X.prog X.w) j f fd ps (spF (sbOf X) n F0)) (hb : Binds X.K fd ps []) (hr : Room (j + 1) X.A)
    (h : spF (sbOf X) n F0 [.ref a] H (fun v H' => ∃ i : Int, v = .int i ∧ 0 ≤ i ∧ i ≤ 100000 ∧ Q (.int i) H') E0) : wpAny (model X.prog X.w) X.A (call (.builtin "len") [.ref a]) (EP X pins σ Q) X.xe s := by
  obtain ⟨mA, O, _, _, _, _⟩ := ins_get I.hok e
  obtain ⟨od, J, _⟩ := O.look
  have lk : PySem.W.Looks (model X.prog X.w) s.heap (specialOf (.ref a) "__len__") (some (.ref f)) := J.type.andThen (PySem.W.looks_findIn I.kIn mt.at_)
  have lf : PySem.W.Looks (model X.prog X.w) s.heap (typeOf (.ref f)) (.type "function") := PySem.W.looks_typeIn I.kIn (beq_iff_eq.mp mt.fn)
  have hl : ([Value.ref a] ++ []).length = ps.length := F.len _ _ _ _ h
  have room : Room j X.A.in1 := ⟨hr.hd, by have := hr.dp; show X.A.depth + 3 * j + 5 < _; omega, by have := hr.un; show X.A.units + 1 + 16 * j + 200 < _; omega⟩
  have run : wpAny (model X.prog X.w) X.A.in1 (call (.ref f) [.ref a]) (fun u s' => ∃ (i : Int) (t : Tok) (H' : Hp), u = .int i t ∧ 0 ≤ i ∧ i ≤ 100000 ∧ Inv X pins σ H' s' ∧ Q (.int i) H') X.xe s := by
    have rel : Vals [V.ref a] ([Value.ref a] ++ []) := .cons rfl .nil
    refine wpAny_call (codeAny_mono (F.run X.A.in1 X.stack s H ⟨[.ref a], []⟩ ([.ref a] ++ []) [.ref a] _ E0 room I.env0.in1 (hb s [.ref a] I.kIn hl) rel h) fun res s2 hq => ?_)
    cases res with
    | error z =>
      obtain ⟨_, _, _, _, _, _, _, _, _, _, _, _, no⟩ := (hq : L2N.CX X.prog X.w X.stack H s E0 z s2)
      cases no
    | ok fl =>
      cases fl with
      | ret u =>
        obtain ⟨v, H', I', rv, i, rfl, i0, i1, q⟩ := I.after hq
        obtain ⟨t, rfl⟩ := (show ∃ t, u = Value.int i t from rv)
        exact ⟨i, t, H', rfl, i0, i1, I', q⟩
      | next => cases hq
      | brk => cases hq
      | cont => cases hq
  refine Calls.call_function_entry kind_len plain_len entry_len (args_len1 _) ?_
  unfold Builtin.«len»
  refine wpAny_bind (m := oneArg "len" _) (wpAny_pure (wpAny_bind (m := callSpecial? (.ref a) (Str.ofString "__len__")) ?_))
  unfold callSpecial? bindSpecial
  refine wpAny_bind (lk.here (wpAny_holding (wpAny_bind (wpAny_bind (lf.here ?_)))))
  rw [if_pos (by decide)]
  refine wpAny_pure (wpAny_bind (wpAny_mono run (fun u s2 hu => ?_) fun _ _ z => z))
  obtain ⟨i, t, H', rfl, i0, i1, I', q⟩ := hu
  refine wpAny_pure (wpAny_bind (wpAny_holding (wpAny_pure (wpAny_bind (wpAny_letGo ?_)))))
  show wpAny _ _ (if i < 0 then _ else _) _ _ _
  rw [if_neg (Int.not_lt.mpr i0)]
  show wpAny _ _ (if i ≥ 2 ^ 63 then _ else _) _ _ _
  rw [if_neg (by omega)]
  exact wpAny_bind (wpAny_mkInt (wpAny_pure ⟨_, rfl, .int i, H', I'.tok _, ⟨_, rfl⟩, q⟩))
theorem se_lenI {X : Cx} {W : WX} {o : Expr} {p pos : Pos} {mo : M D} {cn : Str} {j : Nat} {f : Fn} (M : CalM X.prog X.w X.K X.mg X.base cn "__len__" j 1 f) (hr : Room (j + 1) X.A) (ho : SE X W o mo) (hm : X.mg "len" = none) (hg : Gl X "len" := by rfl)
    (he : starEach [o] X.env = (false, eval o X.env) :: starEach [] X.env := by rfl) : SE X W (.Call (.Name "len" p) [o] [] pos) (mLenI cn f mo) := by
  obtain ⟨C, a, fd, ps, F, hc, cl, mt, hb⟩ := M.ex
  refine PE_imp (t := fun σ H Q => tE (sbOf X) W mo σ H fun x H1 => ∃ b dx fs, x = .ref b ∧ H1 b = some (.ins C dx fs) ∧ spF (sbOf X) 1 f [.ref b] H1 (fun v H' => ∃ i : Int, v = .int i ∧ 0 ≤ i ∧ i ≤ 100000 ∧ Q (.int i) H') E0) ⟨fun pins s σ H Q I h => ?_⟩ fun σ H Q ⟨Hb, Fb, kb, k, F', s, ok, h⟩ => ?_
  · refine Call_ (ld_blt I hg hm PySem.boot_len (PyProof.Rows.callWith_builtin1 (PyProof.Rows.args_cons (thn (ho.run pins s σ H _ I h) fun v s1 hh => PyProof.Rows.args_nil ?_) he) he rfl))
    obtain ⟨x, H1, I1, rx, b, dx, fs, rfl, eb, q⟩ := hh
    obtain rfl : v = Value.ref b := rx
    exact len_ins I1 eb mt F hb hr q
  · refine ⟨Hb, Fb, kb, k, F', s, ok, h.bind.imp fun dx s1 F1 k1 H1 e1 p1 ok1 h1 v rv => ?_⟩
    cases rv <;> try (exact h1.elim)
    case cell b c eb =>
      cases q : insAt cn s1.g c with
      | none => exact (h1.no (by (try dsimp only); rw [q])).elim
      | some fs =>
        obtain ⟨C', dx, xs, hc', hxs, rx⟩ := ok1.bs.cel c b _ eb (insAt_of q)
        have eC : C' = C := by
          have z : X.mg cn = some (.ref C') := hc'
          rw [z] at hc
          injection hc with hc
          injection hc
        subst eC
        refine ⟨b, dx, xs, rfl, hxs, k1, F1, s1.g, [.cell c], ok1.bs.start, .cons (.cell eb) .nil, rfl, ?_⟩
        cases z : f [.cell c] s1.g with
        | ok d g' =>
          have h2 := h1.cast (match D.cell c, (FR.ok d g') with | .cell c, .ok (.int i) g' => if 0 ≤ i ∧ i ≤ 100000 then .ok (.int i) ⟨s1.e, g'⟩ else .no | _, _ => .no) (by (try dsimp only); rw [q]; (try dsimp only); rw [z]; cases d <;> rfl)
          cases d <;> try (exact h2.elim)
          rename_i i
          by_cases hi : 0 ≤ i ∧ i ≤ 100000
          · have h3 := h2.cast (.ok (.int i) ⟨s1.e, g'⟩) (by (try dsimp only); rw [if_pos hi])
            intro v H' F2 k2 b2 r
            cases r
            exact ⟨i, rfl, hi.1, hi.2, h3 H' F2 k2 b2.fb b2.pre (ok1.evo b2) _ (.int i)⟩
          · exact (h2.no (by (try dsimp only); rw [if_neg hi])).elim
        | ex c g' => exact (h1.no (by (try dsimp only); rw [q]; (try dsimp only); rw [z])).elim
        | no => exact (h1.no (by (try dsimp only); rw [q]; (try dsimp only); rw [z])).elim
end FX

/-! FX: the classes of errors of the program, all at once -/
namespace FX
open PySem L2 PyProof.Rows
def eqOv (a b : Option (Option Value)) : Bool := match a, b with
  | some (some (.builtin x)), some (some (.builtin y)) => x == y
  | some none, some none => true
  | _, _ => false
def excOne (K : PySem.W.Frag) (C : Addr) : Bool :=
  PySem.W.excIn K C mroVE "ValueError.__new__" && PySem.W.keepIn K (.ref C) && (PySem.W.subIn K (.ref C) (.type "BaseException") == some true) && (PySem.W.typeIn K (.ref C) == some (.type "type")) &&
  eqOv (PySem.W.findIn K (.ref C) "__getattribute__") (some (some (.builtin "BaseException.__getattribute__"))) && eqOv (PySem.W.findIn K (.ref C) "__getattr__") (some none) && PySem.W.hasDictIn K C &&
  eqOv (PySem.W.findIn K (.ref C) "__class__") (some (some (.builtin "object.__class__"))) && eqOv (PySem.W.specialIn K (.builtin "object.__class__") "__get__") (some (some (.builtin "getset_descriptor.__get__"))) &&
  (PySem.W.takesIn K (.builtin "object.__class__") == some true) && (PySem.W.mroIn K C (.type "object") == some true)
/-- the classes Cs, all derived from R, none from another -/
def excSet (K : PySem.W.Frag) (R : Addr) (Cs : List Addr) : Bool :=
  (Cs.all fun C => excOne K C && (PySem.W.exmOne K (.ref C) (.ref R) == some true) && (PySem.W.kitOne K (.ref C) (.type "ValueError") == some true)) &&
  ((List.range Cs.length).all fun i => (List.range Cs.length).all fun j => PySem.W.kitOne K (.ref (Cs.getD i 0)) (.ref (Cs.getD j 0)) == some (decide (i = j)))
theorem eqOv_b {a : Option (Option Value)} {x : String} (h : eqOv a (some (some (.builtin x))) = true) : a = some (some (.builtin x)) := by
  unfold eqOv at h
  split at h <;> first | (rename_i y z e1 e2; cases e2; simp at h; subst h; rfl) | (rename_i e; cases e) | cases h
theorem eqOv_n {a : Option (Option Value)} (h : eqOv a (some none) = true) : a = some none := by
  unfold eqOv at h
  split at h <;> first | rfl | (rename_i e2; cases e2) | cases h
theorem beq_b {a : Option Bool} {b : Bool} (h : (a == some b) = true) : a = some b := by
  cases a with
  | none => cases h
  | some c => cases c <;> cases b <;> first | rfl | cases h
theorem exc_one {K : PySem.W.Frag} {C : Addr} (h : excOne K C = true) : ExcC K C ∧ ∀ {mg : Str → Option Value} {x : Str}, mg x = some (.ref C) → ExcN K mg x C := by
  unfold excOne at h
  simp only [Bool.and_eq_true] at h
  obtain ⟨⟨⟨⟨⟨⟨⟨⟨⟨⟨h1, h2⟩, h3⟩, h4⟩, h5⟩, h6⟩, h7⟩, h8⟩, h9⟩, h10⟩, h11⟩ := h
  have h4 := beq_iff_eq.mp h4
  exact ⟨⟨eqOv_b h5, eqOv_n h6, beq_b h3, h7, eqOv_b h8, eqOv_b h9, beq_b h10, beq_b h11⟩, fun {mg x} e => ⟨e, h1, h2, beq_b h3, h4⟩⟩
theorem exc_at {K : PySem.W.Frag} {R : Addr} {Cs : List Addr} (h : excSet K R Cs = true) {i : Nat} {C : Addr} (hC : Cs[i]? = some C) : excOne K C = true ∧ PySem.W.exmOne K (.ref C) (.ref R) = some true ∧ PySem.W.kitOne K (.ref C) (.type "ValueError") = some true := by
  unfold excSet at h
  rw [Bool.and_eq_true, List.all_eq_true] at h
  have := h.1 C (List.mem_of_getElem? hC)
  simp only [Bool.and_eq_true] at this
  exact ⟨this.1.1, beq_b this.1.2, beq_b this.2⟩
theorem exc_kit {K : PySem.W.Frag} {R : Addr} {Cs : List Addr} (h : excSet K R Cs = true) {i j : Nat} {C D : Addr} (hC : Cs[i]? = some C) (hD : Cs[j]? = some D) : PySem.W.kitOne K (.ref C) (.ref D) = some (decide (i = j)) := by
  unfold excSet at h
  rw [Bool.and_eq_true, List.all_eq_true, List.all_eq_true] at h
  have li : i < Cs.length := (List.getElem?_eq_some_iff.mp hC).1
  have lj : j < Cs.length := (List.getElem?_eq_some_iff.mp hD).1
  have := h.2 i (List.mem_range.mpr li)
  rw [List.all_eq_true] at this
  have := beq_b (this j (List.mem_range.mpr lj))
  rw [List.getD_eq_getElem?_getD, List.getD_eq_getElem?_getD, hC, hD] at this
  exact this
theorem roomU {k : Nat} {A : Around} (r : L2H.RoomH k A) : A.units + 65 < cLine := by have := r.un; omega
theorem ev_isE {a : Addr} {b : Bool} {s : S} (h : s.e[0]? = some (some (.val (.raw a)))) : m1 (dIsE a b) (mVar 0) s = .ok (.bl b) s := by
  unfold m1 mbind mVar
  rw [h]
  simp only [dIsE_self, mopt]
theorem gl_at {mg : Str → Option Value} : ∀ (L : List (Str × Addr)), (∀ p ∈ L, mg p.1 = some (.ref p.2)) → ∀ (i : Nat) (C : Addr) (nm : Str), (L.map (·.2))[i]? = some C → (L.map (·.1))[i]? = some nm → mg nm = some (.ref C)
  | [], _, i, C, nm, h, _ => by simp at h
  | p :: L, k, 0, C, nm, h1, h2 => by
    simp at h1 h2
    subst h1 h2
    exact k p List.mem_cons_self
  | p :: L, k, i + 1, C, nm, h1, h2 => gl_at L (fun q hq => k q (List.mem_cons_of_mem _ hq)) i C nm (by simpa using h1) (by simpa using h2)
theorem ev_extW {i : Nat} {m : M D} {s s1 : S} {l0 l r : List D} (h : ownL s i = some l0) (k : m s = .ok (.lst r) s1) (h1 : ownL s1 i = some l) (hl : l.length + r.length ≤ 100000) : mExt i m s = .ok .non (setO i (.lst (l ++ r)) s1) := by
  unfold mExt
  simp only [h]
  unfold mbind
  rw [k]
  simp only [h1]
  rw [if_pos hl]
theorem eqOv_of {a : Option (Option Value)} {x : String} (h : a = some (some (.builtin x))) : eqOv a (some (some (.builtin x))) = true := by
  rw [h]; simp [eqOv]
theorem eqOv_no {a : Option (Option Value)} (h : a = some none) : eqOv a (some none) = true := by rw [h]; rfl
theorem excOne_of {K : PySem.W.Frag} {C : Addr} (h1 : PySem.W.excIn K C mroVE "ValueError.__new__" = true) (h2 : PySem.W.keepIn K (.ref C) = true) (h3 : PySem.W.subIn K (.ref C) (.type "BaseException") = some true) (h4 : PySem.W.typeIn K (.ref C) = some (.type "type"))
    (h5 : PySem.W.findIn K (.ref C) "__getattribute__" = some (some (.builtin "BaseException.__getattribute__"))) (h6 : PySem.W.findIn K (.ref C) "__getattr__" = some none) (h7 : PySem.W.hasDictIn K C = true) (h8 : PySem.W.findIn K (.ref C) "__class__" = some (some (.builtin "object.__class__")))
    (h9 : PySem.W.specialIn K (.builtin "object.__class__") "__get__" = some (some (.builtin "getset_descriptor.__get__"))) (h10 : PySem.W.takesIn K (.builtin "object.__class__") = some true) (h11 : PySem.W.mroIn K C (.type "object") = some true) : excOne K C = true := by
  unfold excOne
  rw [h1, h2, h3, beq_iff_eq.mpr h4, eqOv_of h5, eqOv_no h6, h7, eqOv_of h8, eqOv_of h9, h10, h11]
  rfl
def excAll (K : PySem.W.Frag) (R : Addr) (Cs : List Addr) : Prop := ∀ C ∈ Cs, excOne K C = true ∧ PySem.W.exmOne K (.ref C) (.ref R) = some true ∧ PySem.W.kitOne K (.ref C) (.type "ValueError") = some true
theorem ea_nil {K : PySem.W.Frag} {R : Addr} : excAll K R [] := fun _ h => by cases h
theorem ea_cons {K : PySem.W.Frag} {R C : Addr} {Cs : List Addr} (h1 : excOne K C = true) (h2 : PySem.W.exmOne K (.ref C) (.ref R) = some true) (h3 : PySem.W.kitOne K (.ref C) (.type "ValueError") = some true) (r : excAll K R Cs) : excAll K R (C :: Cs) := fun D hD => by
  rcases List.mem_cons.mp hD with z | z
  · rw [z]; exact ⟨h1, h2, h3⟩
  · exact r D z
def kitRow (K : PySem.W.Frag) (i : Nat) (C : Addr) (j : Nat) (Ds : List Addr) : Prop := ∀ m D, Ds[m]? = some D → PySem.W.kitOne K (.ref C) (.ref D) = some (decide (i = j + m))
theorem kr_nil {K : PySem.W.Frag} {i j : Nat} {C : Addr} : kitRow K i C j [] := fun m D h => by simp at h
theorem kr_cons {K : PySem.W.Frag} {i j : Nat} {C D : Addr} {Ds : List Addr} (h : PySem.W.kitOne K (.ref C) (.ref D) = some (decide (i = j))) (r : kitRow K i C (j + 1) Ds) : kitRow K i C j (D :: Ds) := fun m E hE => by
  cases m with
  | zero => cases hE; exact h
  | succ m =>
    have := r m E (by simpa using hE)
    rw [this]
    congr 1
    exact decide_eq_decide.mpr (by omega)
def kitMat (K : PySem.W.Frag) (A : List Addr) (i : Nat) (Cs : List Addr) : Prop := ∀ m C, Cs[m]? = some C → kitRow K (i + m) C 0 A
theorem km_nil {K : PySem.W.Frag} {A : List Addr} {i : Nat} : kitMat K A i [] := fun m D h => by simp at h
theorem km_cons {K : PySem.W.Frag} {A : List Addr} {i : Nat} {C : Addr} {Cs : List Addr} (h : kitRow K i C 0 A) (r : kitMat K A (i + 1) Cs) : kitMat K A i (C :: Cs) := fun m E hE => by
  cases m with
  | zero => cases hE; exact h
  | succ m =>
    have := r m E (by simpa using hE)
    rw [show i + (m + 1) = i + 1 + m by omega]
    exact this
theorem excSet_of {K : PySem.W.Frag} {R : Addr} {Cs : List Addr} (h : excAll K R Cs) (k : kitMat K Cs 0 Cs) : excSet K R Cs = true := by
  unfold excSet
  rw [Bool.and_eq_true, List.all_eq_true, List.all_eq_true]
  refine ⟨fun C hC => ?_, fun i hi => ?_⟩
  · obtain ⟨a, b, c⟩ := h C hC
    rw [a, b, c]; rfl
  · rw [List.all_eq_true]
    intro j hj
    have li := List.mem_range.mp hi
    have lj := List.mem_range.mp hj
    have q := k i Cs[i] (List.getElem?_eq_getElem li) j Cs[j] (List.getElem?_eq_getElem lj)
    simp only [Nat.zero_add] at q
    rw [List.getD_eq_getElem?_getD, List.getD_eq_getElem?_getD, List.getElem?_eq_getElem li, List.getElem?_eq_getElem lj]
    simp only [Option.getD_some]
    rw [q]
    exact beq_self_eq_true _
end FX

/-! FX: methods of texts: split, partition, join, startswith -/
namespace FX
open PySem PySem.Spec PyProof.Rows L2
def dSplit (a : Str) : D → Option D
  | .str b => if (b.length == 0) = false ∧ a.length ≤ 100000 then some (.lst ((Txt.split a b).map D.str)) else none
  | _ => none
def dPartition (a : Str) : D → Option D
  | .str b => if (b.length == 0) = false ∧ a.length ≤ 100000 then some (.tup [.str (Txt.partition a b).1, .str (Txt.partition a b).2.1, .str (Txt.partition a b).2.2]) else none
  | _ => none
def dStarts (a : Str) : D → Option D
  | .str b => some (.bl (Txt.startswith a b))
  | _ => none
def dJoin (a : Str) : D → Option D
  | .lst l => (strsOf l).bind fun ys => if (ys.map (·.length)).sum + ys.length * a.length ≤ 100000 then some (.str (Txt.join a ys)) else none
  | _ => none
/-- a method of a text, with one argument -/
def mTm (f : Str → D → Option D) (mo me : M D) : M D := mbind mo fun x => match x with
  | .str a => mbind me fun y => mopt (f a y)
  | _ => mno
theorem RepL.texts {B : Sb} {F : Hp} {k : List Addr} : ∀ ys : List Str, RepL B F k (ys.map V.str) (ys.map D.str)
  | [] => .nil
  | x :: r => .cons (.str x) (RepL.texts r)
section
variable {X : Cx} {W : WX} {o e : Expr} {apos cpos : Pos} {mo me : M D}
theorem tm_imp {r : V → List V → Hp → VK → Prop} {f : Str → D → Option D} (hf : ∀ (F : Hp) (k : List Addr) (H : Hp) (a : Str) (y : V) (dy z : D) (Q : VK), Ex F H → Rep (sbOf X) F k y dy → f a dy = some z → (∀ v F' H', Grow F H F' H' → Rep (sbOf X) F' k v z → Q v H') → r (.str a) [y] H Q)
    (σ : L2.St) (H : Hp) (Q : VK) : tE (sbOf X) W (mTm f mo me) σ H Q → tBM X.K "str" r (tE (sbOf X) W mo) (tCons (tE (sbOf X) W me) tNil) σ H Q := fun ⟨Hb, Fb, kb, k, F, s, ok, h⟩ =>
  ⟨Hb, Fb, kb, k, F, s, ok, h.bind.imp fun x s1 F1 k1 H1 e1 p1 ok1 h1 v rv => by
    cases rv <;> try (exact h1.elim)
    case str a =>
      refine ⟨rfl, Hb, Fb, kb, k1, F1, s1, ok1, h1.bind.imp fun y s2 F2 k2 H2 e2 p2 ok2 h2 u ru => ?_⟩
      cases c : f a y with
      | none => rw [c] at h2; exact h2.elim
      | some z =>
        rw [c] at h2
        exact hf F2 k2 H2 a u y z Q ok2.bs.sub ru c fun v F' H' gr rv => h2 H' F' k2 gr.ff (List.prefix_refl _) (ok2.grow gr) v rv⟩
theorem se_split (ho : SE X W o mo) (he : SE X W e me) (hbase : attributeBase o "split" X.env (eval o X.env) = eval o X.env := by rfl)
    (hfew : ((backTo cpos (starEach [e] X.env)).all (fun x => !x.1) && (backToKw cpos (keywordEach [] X.env)).all (fun x => x.1.isSome) && decide ([e].length + ([] : List Keyword).length + (if ([] : List Keyword).isEmpty then 0 else 1) < 30)) = true := by rfl)
    (hline : (apos.endLine == cpos.line) = true := by rfl) (hs : starEach [e] X.env = (false, eval e X.env) :: starEach [] X.env := by rfl) : SE X W (.Call (.Attribute o "split" apos) [e] [] cpos) (mTm dSplit mo me) :=
  PE_imp (pe_bm PySem.F.plainAttrs_str PySem.F.slot_str_split PySem.F.type_str_split mt_split ho (pa_cons he pa_nil hs) hbase hfew hline hs rfl) (tm_imp fun F k H a y dy z Q sub ry c q => by
    cases ry <;> try (cases c; done)
    case str b =>
      have c : (if (b.length == 0) = false ∧ a.length ≤ 100000 then some (D.lst ((Txt.split a b).map D.str)) else none) = some z := c
      by_cases cc : (b.length == 0) = false ∧ a.length ≤ 100000
      · rw [if_pos cc] at c
        cases c
        refine ⟨a, b, rfl, rfl, cc.1, by have := cc.2; show a.length + 2 ≤ 2 ^ 24; omega, fun p hp => ?_⟩
        exact q _ _ _ (Grow.one (o := .lst ((Txt.split a b).map V.str)) sub hp) (.lst upd_same (RepL.texts _))
      · rw [if_neg cc] at c; cases c)
theorem se_partition (ho : SE X W o mo) (he : SE X W e me) (hbase : attributeBase o "partition" X.env (eval o X.env) = eval o X.env := by rfl)
    (hfew : ((backTo cpos (starEach [e] X.env)).all (fun x => !x.1) && (backToKw cpos (keywordEach [] X.env)).all (fun x => x.1.isSome) && decide ([e].length + ([] : List Keyword).length + (if ([] : List Keyword).isEmpty then 0 else 1) < 30)) = true := by rfl)
    (hline : (apos.endLine == cpos.line) = true := by rfl) (hs : starEach [e] X.env = (false, eval e X.env) :: starEach [] X.env := by rfl) : SE X W (.Call (.Attribute o "partition" apos) [e] [] cpos) (mTm dPartition mo me) :=
  PE_imp (pe_bm PySem.F.plainAttrs_str PySem.F.slot_str_partition PySem.F.type_str_partition mt_partition ho (pa_cons he pa_nil hs) hbase hfew hline hs rfl) (tm_imp fun F k H a y dy z Q sub ry c q => by
    cases ry <;> try (cases c; done)
    case str b =>
      have c : (if (b.length == 0) = false ∧ a.length ≤ 100000 then some (D.tup [.str (Txt.partition a b).1, .str (Txt.partition a b).2.1, .str (Txt.partition a b).2.2]) else none) = some z := c
      by_cases cc : (b.length == 0) = false ∧ a.length ≤ 100000
      · rw [if_pos cc] at c
        cases c
        refine ⟨a, b, rfl, rfl, cc.1, by have := cc.2; show a.length ≤ 2 ^ 24; omega, fun p hp => ?_⟩
        exact q _ _ _ (Grow.one (o := .tup [.str (Txt.partition a b).1, .str (Txt.partition a b).2.1, .str (Txt.partition a b).2.2]) sub hp) (.tup (SqT.of upd_same) (.cons (.str _) (.cons (.str _) (.cons (.str _) .nil))))
      · rw [if_neg cc] at c; cases c)
theorem se_starts (ho : SE X W o mo) (he : SE X W e me) (hbase : attributeBase o "startswith" X.env (eval o X.env) = eval o X.env := by rfl)
    (hfew : ((backTo cpos (starEach [e] X.env)).all (fun x => !x.1) && (backToKw cpos (keywordEach [] X.env)).all (fun x => x.1.isSome) && decide ([e].length + ([] : List Keyword).length + (if ([] : List Keyword).isEmpty then 0 else 1) < 30)) = true := by rfl)
    (hline : (apos.endLine == cpos.line) = true := by rfl) (hs : starEach [e] X.env = (false, eval e X.env) :: starEach [] X.env := by rfl) : SE X W (.Call (.Attribute o "startswith" apos) [e] [] cpos) (mTm dStarts mo me) :=
  PE_imp (pe_bm PySem.F.plainAttrs_str PySem.F.slot_str_startswith PySem.F.type_str_startswith mt_startswith ho (pa_cons he pa_nil hs) hbase hfew hline hs rfl) (tm_imp fun F k H a y dy z Q sub ry c q => by
    cases ry <;> try (cases c; done)
    case str b =>
      cases c
      exact ⟨a, b, rfl, rfl, q _ _ _ (Grow.refl sub) (.bl _)⟩)
theorem se_join (ho : SE X W o mo) (he : SE X W e me) (hbase : attributeBase o "join" X.env (eval o X.env) = eval o X.env := by rfl)
    (hfew : ((backTo cpos (starEach [e] X.env)).all (fun x => !x.1) && (backToKw cpos (keywordEach [] X.env)).all (fun x => x.1.isSome) && decide ([e].length + ([] : List Keyword).length + (if ([] : List Keyword).isEmpty then 0 else 1) < 30)) = true := by rfl)
    (hline : (apos.endLine == cpos.line) = true := by rfl) (hs : starEach [e] X.env = (false, eval e X.env) :: starEach [] X.env := by rfl) : SE X W (.Call (.Attribute o "join" apos) [e] [] cpos) (mTm dJoin mo me) :=
  PE_imp (pe_bm PySem.F.plainAttrs_str PySem.F.slot_str_join PySem.F.type_str_join mt_join ho (pa_cons he pa_nil hs) hbase hfew hline hs rfl) (tm_imp fun F k H a y dy z Q sub ry c q => by
    cases ry <;> try (cases c; done)
    case lst p xs l hp rl =>
      have c : ((strsOf l).bind fun ys => if (ys.map (·.length)).sum + ys.length * a.length ≤ 100000 then some (D.str (Txt.join a ys)) else none) = some z := c
      obtain ⟨ys, e1, e2⟩ := Option.bind_eq_some_iff.mp c
      have ex := strsOf_at e1 rl
      subst ex
      by_cases cc : (ys.map (·.length)).sum + ys.length * a.length ≤ 100000
      · rw [if_pos cc] at e2
        cases e2
        exact ⟨a, p, ys, rfl, rfl, .inl (SqL.of (sub _ _ hp)), by omega, q _ _ _ (Grow.refl sub) (.str _)⟩
      · rw [if_neg cc] at e2; cases e2)
end
end FX
namespace FX
open PySem PySem.Spec PyProof.Rows L2
/-! list * n -/
def dRepL : D → D → Option D
  | .lst l, .int k => if 1 ≤ k ∧ k ≤ 1000 ∧ l.length ≤ 1000 then some (.lst (List.replicate k.toNat l).flatten) else none
  | _, _ => none
theorem od_repL {B : Sb} : OpD B rRep dRepL := fun F k H x y dx dy z Q sub rx ry e q => by
  cases rx <;> try (cases e)
  case lst a xs ds ha r =>
    cases ry <;> try (cases e)
    case int i =>
      have e : (if 1 ≤ i ∧ i ≤ 1000 ∧ ds.length ≤ 1000 then some (D.lst (List.replicate i.toNat ds).flatten) else none) = some z := e
      by_cases c : 1 ≤ i ∧ i ≤ 1000 ∧ ds.length ≤ 1000
      · rw [if_pos c] at e
        cases e
        obtain ⟨c1, c2, c3⟩ := c
        have le := r.length
        refine ⟨a, i, xs, rfl, rfl, sub _ _ ha, by omega, by omega, ?_, fun p hp => ?_⟩
        · have m : xs.length * i.toNat ≤ 1000 * 1000 := Nat.mul_le_mul (by omega) (by omega)
          show xs.length * i.toNat ≤ 2 ^ 24
          omega
        · have gr := Grow.one (o := .lst (List.replicate i.toNat xs).flatten) sub hp
          exact q _ _ _ gr (.lst upd_same ((r.rep _).mono gr.ff (List.prefix_refl _)))
      · rw [if_neg c] at e; cases e
end FX

/-! FX: a def out of a display of defs, called -/
namespace FX
open PySem PySem.Spec PyProof.Rows L2
def mRaws : List Addr → M (List D)
  | [] => mNil
  | a :: r => mCons (mC (.raw a)) (mRaws r)
theorem mRaws_ok : ∀ (as : List Addr) (s : S), mRaws as s = .ok (as.map D.raw) s
  | [], s => rfl
  | a :: r, s => by
    show mbind (mC (.raw a)) (fun d => mbind (mRaws r) fun ds => mpure (d :: ds)) s = _
    show mbind (mRaws r) (fun ds => mpure (D.raw a :: ds)) s = _
    unfold mbind
    rw [mRaws_ok r s]
    rfl
def mCallI (fns : List (Nat × Fn)) (mi : M D) (ma : M (List D)) : M D := mbind mi fun y => match y with
  | .int i => (match fns[i.toNat]? with
    | some nf => if 0 ≤ i then mbind ma (fun ds => runF nf.1 nf.2 ds) else mno
    | none => mno)
  | _ => mno
section
variable {X : Cx} {W : WX} {j : Nat}
def FnAt (X : Cx) (j : Nat) (x : Str) (a : Addr) (n : Nat) (f : Fn) : Prop := ∃ (fd : FuncData) (ps : List Str), FnOk X.prog X.w X.K X.mg X.base (L2N.CX X.prog X.w) j a fd ps (spF (sbOf X) n f) ∧ X.mg x = some (.ref a) ∧ PySem.W.keepIn X.K (.ref a) = true ∧ Binds X.K fd ps []
inductive FnsOk (X : Cx) (j : Nat) : List Expr → List (Nat × Fn) → List Addr → Prop
  | nil : FnsOk X j [] [] []
  | cons {x : Str} {p : Pos} {es : List Expr} {n : Nat} {f : Fn} {fs : List (Nat × Fn)} {a : Addr} {as : List Addr} : FnAt X j x a n f → Gl X x → (x == ("__debug__" : Str)) = false → FnsOk X j es fs as → FnsOk X j (.Name x p :: es) ((n, f) :: fs) (a :: as)
theorem fns_nil : ∃ as, FnsOk X j [] [] as := ⟨[], .nil⟩
theorem fns_cons {x : Str} {p : Pos} {es : List Expr} {i n : Nat} {f : Fn} {fs : List (Nat × Fn)} (C : Cal X.prog X.w X.K X.mg X.base x i n f) (hij : i ≤ j) (h : ∃ as, FnsOk X j es fs as) (hg : Gl X x := by rfl) (hdb : (x == ("__debug__" : Str)) = false := by decide) : ∃ as, FnsOk X j (.Name x p :: es) ((n, f) :: fs) as := by
  obtain ⟨a, fd, ps, F, hm, hk, hb⟩ := C.ex
  obtain ⟨as, h⟩ := h
  exact ⟨a :: as, .cons ⟨fd, ps, F.mono hij, hm, hk, hb⟩ hg hdb h⟩
theorem se_raw {x : Str} {p : Pos} {a : Addr} (hg : Gl X x) (hm : X.mg x = some (.ref a)) (hdb : (x == ("__debug__" : Str)) = false) : SE X W (.Name x p) (mC (.raw a)) :=
  PE_imp (pe_glob (v := .ref a) hg hm rfl hdb) fun σ H Q ⟨Hb, Fb, kb, k, F, s, ok, h⟩ => h H F k (Evl.Ex.refl _) (List.prefix_refl _) ok _ .raw
theorem sa_fns : ∀ {es : List Expr} {fs : List (Nat × Fn)} {as : List Addr}, FnsOk X j es fs as → SA X W es (mRaws as)
  | _, _, _, .nil => sa_nil
  | _, _, _, .cons ⟨_, _, _, hm, _, _⟩ hg hdb r => sa_cons (se_raw hg hm hdb) (sa_fns r)
theorem FnsOk.get : ∀ {es : List Expr} {fs : List (Nat × Fn)} {as : List Addr}, FnsOk X j es fs as → ∀ {i : Nat} {nf : Nat × Fn}, fs[i]? = some nf → ∃ a x, as[i]? = some a ∧ FnAt X j x a nf.1 nf.2
  | _, _, _, .nil, i, nf, h => by simp at h
  | _, _, _, .cons q hg hdb r, 0, nf, h => by simp at h; subst h; exact ⟨_, _, rfl, q⟩
  | _, _, _, .cons q hg hdb r, i + 1, nf, h => by
    obtain ⟨a, x, e, f⟩ := FnsOk.get r (i := i) (nf := nf) (by simpa using h)
    exact ⟨a, x, by simpa using e, f⟩
theorem FnsOk.length : ∀ {es : List Expr} {fs : List (Nat × Fn)} {as : List Addr}, FnsOk X j es fs as → as.length = fs.length
  | _, _, _, .nil => rfl
  | _, _, _, .cons q hg hdb r => by rw [List.length_cons, List.length_cons, FnsOk.length r]
def tCallR (X : Cx) (W : WX) (j : Nat) (tf : TE) (t : TA) : TE := fun σ H Q => tf σ H fun y H1 => ∃ a n f x, y = V.ref a ∧ FnAt X j x a n f ∧ t σ H1 fun vs H2 => spF (sbOf X) n f vs H2 Q (WE W σ)
theorem pe_callR {fe e : Expr} {es : List Expr} {tf : TE} {t : TA} {pos : Pos} (hr : Room j X.A) (tk : L2N.Takes X W) (hf : PE X fe tf) (ha : PA X (e :: es) t)
    (ht : eval (.Call fe (e :: es) [] pos) X.env = (do callWith pos (← eval fe X.env) [] (backTo pos (starEach (e :: es) X.env)) (backToKw pos (keywordEach [] X.env))) := by rfl)
    (he : starEach (e :: es) X.env = (false, eval e X.env) :: starEach es X.env := by rfl) (hpl : (backTo pos (starEach es X.env)).any (·.1) = false := by rfl) : PE X (.Call fe (e :: es) [] pos) (tCallR X W j tf t) := by
  refine ⟨fun pins s σ H Q I h => ?_⟩
  refine Call_ (thn (hf.run pins s σ H _ I h) fun u s1 ⟨y, H1, I1, ry, a, n, f, x, ey, ⟨fd, ps, F, hm, hk, hb⟩, q⟩ => ?_) ht
  subst ey
  obtain rfl : u = Value.ref a := ry
  refine PySem.W.callWith_K (h₀ := X.base) I1.ok.mod.kin hk (thn (ha.run pos pins s1 σ H1 _ I1 q) fun us s2 ⟨vs, H2, I2, r, q2⟩ => ⟨I2.kIn, ?_⟩) he hpl
  exact run_fnS F hr hb (L2N.passAt tk σ) I2 r q2
theorem finW {α : Type} {B : Sb} {Hb Fb : Hp} {kb k k' : List Addr} {F F' : Hp} {σ : L2.St} {r : R α} {P : α → S → Hp → List Addr → Hp → Prop} (h : Fin B Hb Fb kb k F σ W r P) (e : Ex F F') (p : Pre k k') : Fin B Hb Fb kb k' F' σ W r P := by
  cases r with
  | ok a s => exact fun H2 F2 k2 e2 p2 o => h H2 F2 k2 (e.trans e2) (p.trans p2) o
  | ex c s => exact h
  | no => exact h
theorem se_callI {fes es : List Expr} {ix e : Expr} {fns : List (Nat × Fn)} {mi : M D} {ma : M (List D)} {lp sp pos : Pos} (A : ∃ as, FnsOk X j fes fns as) (hr : Room j X.A) (tk : L2N.Takes X W) (hi : SE X W ix mi) (ha : SA X W (e :: es) ma) (hl : fns.length ≤ 1000 := by decide) (hs : PlainIx ix := by exact fun _ _ => rfl)
    (ht : eval (.Call (.Subscript (.List fes lp) ix sp) (e :: es) [] pos) X.env = (do callWith pos (← eval (.Subscript (.List fes lp) ix sp) X.env) [] (backTo pos (starEach (e :: es) X.env)) (backToKw pos (keywordEach [] X.env))) := by rfl)
    (he : starEach (e :: es) X.env = (false, eval e X.env) :: starEach es X.env := by rfl) (hpl : (backTo pos (starEach es X.env)).any (·.1) = false := by rfl) : SE X W (.Call (.Subscript (.List fes lp) ix sp) (e :: es) [] pos) (mCallI fns mi ma) := by
  obtain ⟨as, A⟩ := A
  refine PE_imp (pe_callR hr tk (se_ix ix_seq od_ix (se_ofN (sn_list (sa_fns A))) hi hs) ha ht he hpl) fun σ H Q ⟨Hb, Fb, kb, k, F, s, ok, h⟩ => ?_
  refine ⟨Hb, Fb, kb, k, F, s, ok, ?_⟩
  have la : (as.map D.raw).length ≤ 100000 := by rw [List.length_map, A.length]; omega
  have e1 : m2 dIx (mFz (mLst (mRaws as))) mi s = mbind mi (fun y => mopt (dIx (.lst (as.map D.raw)) y)) s := by
    have q : mFz (mLst (mRaws as)) s = .ok (.lst (as.map D.raw)) s := by
      unfold mFz mLst mbind
      rw [mRaws_ok]
      simp only
      rw [if_pos la]
      rfl
    show mbind (mFz (mLst (mRaws as))) (fun x => mbind mi fun y => mopt (dIx x y)) s = _
    unfold mbind
    rw [q]
  rw [e1]
  have hh : Fin (sbOf X) Hb Fb kb k F σ W (mCallI fns mi ma s) _ := h
  unfold mCallI mbind at hh
  unfold mbind
  cases q : mi s with
  | no => rw [q] at hh; exact hh.elim
  | ex c s1 => rw [q] at hh; exact hh
  | ok y s1 =>
    rw [q] at hh
    simp only at hh ⊢
    cases y <;> try (exact hh.elim)
    case int i =>
      simp only at hh
      cases qf : fns[i.toNat]? with
      | none => rw [qf] at hh; exact hh.elim
      | some nf =>
        rw [qf] at hh
        simp only at hh
        by_cases c0 : 0 ≤ i
        · rw [if_pos c0] at hh
          obtain ⟨a, x, ea, fa⟩ := A.get qf
          have ia : dIx (.lst (as.map D.raw)) (.int i) = some (.raw a) := by
            show atI (as.map D.raw) i = _
            obtain ⟨m, rfl⟩ := Int.eq_ofNat_of_zero_le c0
            have lt : m < as.length := (List.getElem?_eq_some_iff.mp ea).1
            unfold atI ixN
            rw [if_pos c0]
            have ea : as[m]? = some a := ea
            obtain ⟨lt, e2⟩ := List.getElem?_eq_some_iff.mp ea
            simp [lt, e2]
          rw [ia]
          refine fun H1 F1 k1 ex pr ok1 v rv => ?_
          cases rv
          refine ⟨a, nf.1, nf.2, x, rfl, fa, Hb, Fb, kb, k1, F1, s1, ok1, ?_⟩
          have hz : Fin (sbOf X) Hb Fb kb k F σ W (mbind ma (fun ds => runF nf.1 nf.2 ds) s1) (fun d _ F' k' H' => ∀ v, Rep (sbOf X) F' k' v d → Q v H') := hh
          have h2 := (finW hz ex pr).bind
          refine h2.imp fun ds s2 F2 k2 H2 e2 p2 ok2 h3 vs rvs => ?_
          show spF (sbOf X) nf.1 nf.2 vs H2 Q (WE W σ)
          have h3 : Fin (sbOf X) Hb Fb kb k2 F2 σ W (if ds.length = nf.1 then (match nf.2 ds s2.g with | .ok d g' => .ok d ⟨s2.e, g'⟩ | .ex c g' => .ex c ⟨s2.e, g'⟩ | .no => .no) else .no) (fun d _ F' k' H' => ∀ v, Rep (sbOf X) F' k' v d → Q v H') := h3
          by_cases hl : ds.length = nf.1
          · rw [if_pos hl] at h3
            refine ⟨k2, F2, s2.g, ds, ok2.bs.start, rvs, hl, ?_⟩
            cases qq : nf.2 ds s2.g with
            | ok d g' =>
              rw [qq] at h3
              exact fun v H' F' k' b r => h3 H' F' k' b.fb b.pre (ok2.evo b) v r
            | ex c g' =>
              rw [qq] at h3
              exact fun C H' F' k' m b => h3 C H' F' k' m (ok2.evo b)
            | no => rw [qq] at h3; exact h3.elim
          · rw [if_neg hl] at h3; exact h3.elim
        · rw [if_neg c0] at hh; exact hh.elim
end
end FX

/-! FX: dict values: len, in, not in, dict(d) -/
namespace FX
open PySem PySem.Spec PyProof.Rows L2
def dLenD : List D → Option D
  | [.dic l] => some (.int l.length)
  | _ => none
theorem call_lenR {X : Cx} : CallR X (.builtin "len") (fun xs H Q => ∃ a kvs, xs = [V.ref a] ∧ Rd H a (.dK kvs) ∧ Q (.int kvs.length) H) := by
  intro pins s σ H xs us Q I r h
  obtain ⟨a, kvs, rfl, locked, last⟩ := h
  obtain ⟨u, rfl, ru⟩ := vals1 r
  cases ru
  exact d_len I locked fun t s' J => ⟨.int kvs.length, H, J, ⟨t, rfl⟩, last⟩
theorem cd_lenD {B : Sb} : CallD B (fun xs H Q => ∃ a kvs, xs = [V.ref a] ∧ Rd H a (.dK kvs) ∧ Q (.int kvs.length) H) dLenD := fun F k H xs ds z Q sub rx e q => by
  cases rx with
  | nil => cases e
  | cons h r =>
    cases r with
    | cons _ _ => cases h <;> cases e
    | nil =>
      cases h <;> try (cases e; done)
      case dic a ob xs ds ha rk =>
        cases e
        refine ⟨a, xs, rfl, .inr ⟨_, sub _ _ ha⟩, ?_⟩
        rw [rk.length]
        exact q _ F H (Grow.refl sub) (.int _)
def mDictD (m : M (List D)) : M Ob := mbind m fun ds => match ds with
  | [.dic l] => mpure (.dic l)
  | _ => mno
theorem sn_dictD {X : Cx} {W : WX} {e : Expr} {p pos : Pos} {ma : M (List D)} (ha : SA X W [e] ma) (hm : X.mg "dict" = none) (hg : Gl X "dict" := by rfl)
    (he : starEach [e] X.env = (false, eval e X.env) :: starEach [] X.env := by rfl) : SN X W (.Call (.Name "dict" p) [e] [] pos) (mDictD ma) :=
  PE_imp (pe_callTy call_dictD hg hm (by decide +kernel) ha (by decide) (by decide) he rfl) fun σ H Q ⟨Hb, Fb, kb, k, F, s, ok, h⟩ =>
  ⟨Hb, Fb, kb, k, F, s, ok, h.bind.imp fun ds s1 F1 k1 H1 e1 p1 ok1 h1 vs rv => by
    cases rv with
    | nil => exact h1.elim
    | cons ra rr =>
      cases rr with
      | cons _ _ => cases ra <;> exact h1.elim
      | nil =>
        cases ra <;> try (exact h1.elim)
        case dic a ob xs ds h r =>
          exact ⟨a, xs, rfl, .inr ⟨_, ok1.bs.sub _ _ h⟩, fun p hp => h1 _ F1 k1 (Evl.Ex.refl _) (List.prefix_refl _) (ok1.grow (Grow.junk ok1.bs.sub hp)) p (ok1.free hp) ⟨_, upd_same, r⟩⟩⟩
def rInK (b : Bool) : R2 := fun x y H Q => ∃ a o, y = V.ref a ∧ DGet H a x o ∧ Q (.bl (if b = true then !o.isSome else o.isSome)) H
theorem op_inK {X : Cx} (hu : X.A.units + 1 < cLine) : OpR X (compareOp .In) (rInK false) := by
  intro pins s σ H x y v u Q I rx ry h
  obtain ⟨a, o, rfl, g, q⟩ := h
  cases ry
  exact d_in hu I g rx fun s' I' => ⟨.bl _, H, I', rfl, q⟩
theorem op_notInK {X : Cx} (hu : X.A.units + 1 < cLine) : OpR X (compareOp .NotIn) (rInK true) := by
  intro pins s σ H x y v u Q I rx ry h
  obtain ⟨a, o, rfl, g, q⟩ := h
  cases ry
  exact d_notIn hu I g rx fun s' I' => ⟨.bl _, H, I', rfl, q⟩
def dInK : D → D → Option D
  | .str x, .dic l => some (.bl (hasD (.inr x) l))
  | _, _ => none
def dNotInK : D → D → Option D
  | .str x, .dic l => some (.bl (!hasD (.inr x) l))
  | _, _ => none
theorem od_inK {B : Sb} : OpD B (rInK false) dInK := fun F k H x y dx dy z Q sub rx ry e q => by
  cases rx <;> try (cases e; done)
  case str s =>
    cases ry <;> try (cases e; done)
    case dic a ob xs ds ha rk =>
      cases e
      refine ⟨a, valV xs (.inr s), rfl, .inl ⟨xs, .inr s, .inr ⟨_, sub _ _ ha⟩, rfl, rfl⟩, ?_⟩
      rw [← valV_any, rk.has]
      exact q _ F H (Grow.refl sub) (.bl _)
theorem od_notInK {B : Sb} : OpD B (rInK true) dNotInK := fun F k H x y dx dy z Q sub rx ry e q => by
  cases rx <;> try (cases e; done)
  case str s =>
    cases ry <;> try (cases e; done)
    case dic a ob xs ds ha rk =>
      cases e
      refine ⟨a, valV xs (.inr s), rfl, .inl ⟨xs, .inr s, .inr ⟨_, sub _ _ ha⟩, rfl, rfl⟩, ?_⟩
      rw [← valV_any, rk.has]
      exact q _ F H (Grow.refl sub) (.bl _)
end FX

/-! FX: things made by a class whose making may raise -/
namespace FX
open PySem PySem.Spec PyProof.Rows L2
section
variable {X : Cx} {CX : CXT} {k : Nat} {f C : Addr} {fd : FuncData} {ps : List Str} {sp : Sp} {E : L2.St → XK}
theorem run_mkS {pins : List (Addr × Obj)} {σ : L2.St} {H : Hp} {s : Shared} {Q : VK} {us : List Value} {vs : List V} (mk : Mk X.K C f) (fo : FnOk X.prog X.w X.K X.mg X.base CX k f fd ps sp) (rm : Room (k + 1) X.A) (bi : Binds X.K fd ps []) (pass : PassesAt CX X σ (E σ)) (inv : Inv X pins σ H s) (rel : Vals vs us)
    (all : ∀ x dx, H x = none → H dx = none → dx ≠ x → sp (.ref x :: vs) (upd (upd H dx (.own x)) x (.ins C dx [])) (fun v H2 => v = .non ∧ Q (.ref x) H2) (E σ)) : wpAny (model X.prog X.w) X.A (call (.ref C) us) (EP X pins σ Q) X.xe s := by
  generalize hn : s.heap.objs.size = n
  have now := all (n + 1) n (inv.hok.fresh (hn ▸ Nat.le_succ _)) (inv.hok.fresh (hn ▸ Nat.le_refl _)) (Nat.ne_of_lt (Nat.lt_succ_self _))
  have made := Inv.made (C := C) inv
  rw [hn] at made
  have both : Vals (V.ref (n + 1) :: vs) (Value.ref (n + 1) :: us) := .cons rfl rel
  have many : (Value.ref (n + 1) :: us).length = ps.length := both.length.symm.trans (fo.len _ _ _ _ now)
  have bound := bi _ (Value.ref (n + 1) :: us) made.kIn (by rw [List.append_nil]; exact many)
  rw [List.append_nil] at bound
  have go := fo.run _ X.stack _ _ ⟨Value.ref (n + 1) :: us, []⟩ (Value.ref (n + 1) :: us) _ _ (E σ) (rm.make C us []) (made.env0.make C us []) bound both now
  refine wpAny_call (make_map (f := f) inv.kIn mk.makes mk.init (beq_iff_eq.mp mk.fn) ?_)
  rw [hn]
  refine codeAny_mono go fun res s' done => ?_
  cases res with
  | error e => exact pass pins _ _ e s' made done
  | ok fl =>
    cases fl with
    | ret u =>
      obtain ⟨v, H', inv3, rv, ev, q3⟩ := made.after done
      subst ev
      exact ⟨rv, ⟨V.ref (n + 1), H', inv3, rfl, q3⟩⟩
    | next => exact False.elim done
    | brk => exact False.elim done
    | cont => exact False.elim done
def tMkS (C : Addr) (sp : Sp) (E : L2.St → XK) (t : TA) : TE := fun σ H Q => t σ H fun vs H1 => ∀ x dx, H1 x = none → H1 dx = none → dx ≠ x → sp (.ref x :: vs) (upd (upd H1 dx (.own x)) x (.ins C dx [])) (fun v H2 => v = .non ∧ Q (.ref x) H2) (E σ)
theorem pe_mkS {x : Str} {e : Expr} {es : List Expr} {t : TA} {p pos : Pos} (mk : Mk X.K C f) (fo : FnOk X.prog X.w X.K X.mg X.base CX k f fd ps sp) (rm : Room (k + 1) X.A) (hg : Gl X x) (hm : X.mg x = some (.ref C)) (bi : Binds X.K fd ps []) (pass : ∀ σ, PassesAt CX X σ (E σ)) (ha : PA X (e :: es) t)
    (hdb : (x == ("__debug__" : Str)) = false := by decide) (he : starEach (e :: es) X.env = (false, eval e X.env) :: starEach es X.env := by rfl) (hpl : (backTo pos (starEach es X.env)).any (·.1) = false := by rfl) : PE X (.Call (.Name x p) (e :: es) [] pos) (tMkS C sp E t) :=
  ⟨fun pins s σ H Q I h => wpAny_Call_Name_kw (ld_glob I hg hm (PySem.W.callWith_K (h₀ := X.base) I.ok.mod.kin mk.kp (thn (ha.run pos pins s σ H _ I h) fun us s1 hh => by
    obtain ⟨vs, H1, I1, r, q⟩ := hh
    exact ⟨I1.kIn, run_mkS mk fo rm bi (pass σ) I1 r q⟩) he hpl) hdb)⟩
end
def mMakeE (cn : Str) (n : Nat) (f : Fn) (ma : M (List D)) : M D := mbind ma fun ds s => if ds.length + 1 = n then (match f (.cell s.g.length :: ds) (s.g ++ [.ins cn []]) with
  | .ok .non g' => .ok (.cell s.g.length) ⟨s.e, g'⟩
  | .ex c g' => .ex c ⟨s.e, g'⟩
  | _ => .no) else .no
section
variable {X : Cx} {W : WX} {pos p : Pos} {e : Expr} {es : List Expr} {ma : M (List D)} {cn : Str} {j n : Nat} {f : Fn}
theorem se_makeE (cal : CalK X.prog X.w X.K X.mg X.base cn j n f) (hr : Room (j + 1) X.A) (tk : L2N.Takes X W) (ha : SA X W (e :: es) ma) (hg : Gl X cn := by rfl) (hdb : (cn == ("__debug__" : Str)) = false := by decide)
    (he : starEach (e :: es) X.env = (false, eval e X.env) :: starEach es X.env := by rfl) (hpl : (backTo pos (starEach es X.env)).any (·.1) = false := by rfl) : SE X W (.Call (.Name cn p) (e :: es) [] pos) (mMakeE cn n f ma) := by
  obtain ⟨C, a, fd, ps, F, hm, mk, hb⟩ := cal.ex
  refine PE_imp (pe_mkS mk F hr hg hm hb (fun σ => L2N.passAt tk σ) ha hdb he hpl) fun σ H Q ⟨Hb, Fb, kb, k, F, s, ok, h⟩ => ?_
  refine ⟨Hb, Fb, kb, k, F, s, ok, h.bind.imp fun ds s1 F1 k1 H1 e1 p1 ok1 h1 vs rv x dx hx hdx ne => ?_⟩
  show spF (sbOf X) n f (.ref x :: vs) _ _ (WE W σ)
  have h1 : Fin (sbOf X) Hb Fb kb k1 F1 σ W (if ds.length + 1 = n then (match f (.cell s1.g.length :: ds) (s1.g ++ [.ins cn []]) with | .ok .non g' => .ok (.cell s1.g.length) ⟨s1.e, g'⟩ | .ex c g' => .ex c ⟨s1.e, g'⟩ | _ => .no) else .no) (fun d _ F' k' H' => ∀ v, Rep (sbOf X) F' k' v d → Q v H') := h1
  by_cases hl : ds.length + 1 = n
  · rw [if_pos hl] at h1
    have okA := ok1.grow (Grow.junk (o := .own x) ok1.bs.sub hdx)
    have nx : (upd H1 dx (.own x)) x = none := by rw [upd_ne (fun z => ne z.symm)]; exact hx
    have fr := okA.free nx
    have okB := okA.grow (Grow.junk (o := .ins C dx []) okA.bs.sub nx)
    have okC := okB.newC (o := .ins cn []) fr ⟨C, dx, [], hm, upd_same, .nil⟩
    have pk : Pre k1 (k1 ++ [x]) := List.prefix_append _ _
    have cx : (k1 ++ [x])[s1.g.length]? = some x := by rw [← ok1.bs.len, List.getElem?_append_right (Nat.le_refl _), Nat.sub_self]; rfl
    refine ⟨k1 ++ [x], F1, s1.g ++ [.ins cn []], .cell s1.g.length :: ds, okC.bs.start, .cons (.cell cx) (rv.mono (Evl.Ex.refl _) pk), hl, ?_⟩
    cases z : f (.cell s1.g.length :: ds) (s1.g ++ [.ins cn []]) with
    | ok d g' =>
      rw [z] at h1
      cases d <;> try (exact h1.elim)
      intro v H' F' k' b r
      cases r
      exact ⟨rfl, h1 H' F' k' b.fb (pk.trans b.pre) (okC.evo b) _ (.cell (b.pre.get cx))⟩
    | ex c g' =>
      rw [z] at h1
      exact fun C H' F' k' m b => h1 C H' F' k' m (okC.evo b)
    | no => rw [z] at h1; exact h1.elim
  · rw [if_neg hl] at h1; exact h1.elim
/-- a def without parameters, that lets no error out -/
theorem se_callN {x : Str} {f : Fn} {j : Nat} {pos p : Pos} (C : Cal X.prog X.w X.K X.mg X.base x j 0 f) (hr : Room j X.A) (hg : Gl X x := by rfl) (hdb : (x == ("__debug__" : Str)) = false := by decide) : SE X W (.Call (.Name x p) [] [] pos) (mFn0 0 f mNil) := by
  obtain ⟨a, fd, ps, F, hm, hk, hb⟩ := C.ex
  refine PE_imp (pe_call0 F hr hg hm hk hb .nil passN hdb) fun σ H Q ⟨Hb, Fb, kb, k, F, s, ok, h⟩ => ?_
  show spF (sbOf X) 0 f [] H Q E0
  have h1 : Fin (sbOf X) Hb Fb kb k F σ W (match f [] s.g with | .ok d g' => .ok d ⟨s.e, g'⟩ | _ => .no) (fun d _ F' k' H' => ∀ v, Rep (sbOf X) F' k' v d → Q v H') := h
  refine ⟨k, F, s.g, [], ok.bs.start, .nil, rfl, ?_⟩
  cases q : f [] s.g with
  | ok d g' =>
    rw [q] at h1
    exact fun v H' F' k' b r => h1 H' F' k' b.fb b.pre (ok.evo b) v r
  | ex c g' => rw [q] at h1; exact h1.elim
  | no => rw [q] at h1; exact h1.elim
end
end FX

/-! FX: try with two clauses that return -/
namespace FX
open PySem L2
theorem op_eqU {X : Cx} (hu : X.A.units + 65 < cLine) : OpR X (compareOp .Eq) (rEqA X.K) := OpR_or (op_eqD (by omega)) (op_eqDic (by omega) hu)
def mTry2 (n1 n2 : Str) (mb h1 h2 : M Out) : M Out := fun s => match mb ⟨hideE s.e, s.g⟩ with
  | .ex c s' => (match (if c = n1 then h1 s' else if c = n2 then h2 s' else .no) with
    | .ok (.rt d) s2 => .ok (.rt d) ⟨s.e, s2.g⟩
    | _ => .no)
  | _ => .no
/-- two classes of errors, the second none of the first -/
structure Two (K : PySem.W.Frag) (mg : Str → Option Value) (n1 n2 : Str) : Prop where
  ex : ∃ C1 C2 : Addr, mg n1 = some (.ref C1) ∧ mg n2 = some (.ref C2) ∧ PySem.W.exmOne K (.ref C1) (.ref C1) = some true ∧ PySem.W.exmOne K (.ref C2) (.ref C1) = some false ∧ PySem.W.exmOne K (.ref C2) (.ref C2) = some true
section
variable {X : Cx} {W : WX} {body : List Stmt} {mb h1 h2 : M Out} {n1 n2 : Str} {np1 np2 pos pos1 pos2 : Pos} {b1 b2 : Stmt} {su1 su2 : List Stmt}
theorem ss_try2 (T2 : Two X.K X.mg n1 n2) (tk : L2N.Takes X W)
    (hb : ∀ (W : WX) (pn : List (Addr × Obj)) (xe : Value → Shared → Prop), L2N.Takes (X.tr pn xe) W → PassesOwn (model X.prog X.w) X.A X.env xe → SSs (X.tr pn xe) W body mb)
    (hh1 : ∀ a pn, SSs (X.suite a pn) (fun _ _ _ _ => False) (b1 :: su1) h1) (hh2 : ∀ a pn, SSs (X.suite a pn) (fun _ _ _ _ => False) (b2 :: su2) h2)
    (hg1 : Gl X n1 := by rfl) (hdb1 : (n1 == ("__debug__" : Str)) = false := by decide) (hg2 : Gl X n2 := by rfl) (hdb2 : (n2 == ("__debug__" : Str)) = false := by decide)
    (hs : X.stack = X.env :: X.outer := by rfl) (hf : X.env.frame = some X.env.locals := by rfl) :
    SS X W (.Try body [.ExceptHandler (some (.Name n1 np1)) none (b1 :: su1) pos1, .ExceptHandler (some (.Name n2 np2)) none (b2 :: su2) pos2] [] [] pos) (mTry2 n1 n2 mb h1 h2) := by
  obtain ⟨C1, C2, m1, m2, e11, e21, e22⟩ := T2.ex
  let t1 : Addr → Value → Option Addr → TS := fun _ _ _ => tS (sbOf X) (fun _ _ _ _ => False) h1
  let t2 : Addr → Value → Option Addr → TS := fun _ _ _ => tS (sbOf X) (fun _ _ _ _ => False) h2
  refine PS_imp (L2N.ps_try_many (tb := fun W => tS (sbOf X) W mb) (l := [(.ref C1, t1), (.ref C2, t2)]) hs hf tk (fun W pn xe t p => hb W pn xe t p) (.cons ⟨hg1, hdb1, .inl m1⟩ (fun a oe cls d pn _ _ => hh1 a ((a, oe) :: pn)) (.cons ⟨hg2, hdb2, .inl m2⟩ (fun a oe cls d pn _ _ => hh2 a ((a, oe) :: pn)) .nil))) fun E σ H ⟨Hb, Fb, kb, k, F0, s, ok, h⟩ => ?_
  have ok0 : Ok (sbOf X) H F0 k k F0 ⟨hideE s.e, s.g⟩ σ H := ok.inner []
  refine ⟨H, F0, k, k, F0, ⟨hideE s.e, s.g⟩, ok0, ?_⟩
  unfold mTry2 at h
  cases c : mb ⟨hideE s.e, s.g⟩ with
  | no => rw [c] at h; exact h.elim
  | ok o s' => rw [c] at h; exact h.elim
  | ex c' s' =>
    rw [c] at h
    have suit : ∀ (hm : M Out) (F' : Hp) (k' : List Addr) (σ' : St) (H' : Hp), Ok (sbOf X) H F0 k k' F' s' σ' H' → FinS (sbOf X) Hb Fb kb k F0 W (match hm s' with | .ok (.rt d) s2 => .ok (.rt d) ⟨s.e, s2.g⟩ | _ => .no) E → tS (sbOf X) (fun _ _ _ _ => False) hm E σ' H' := by
      intro hm F' k' σ' H' ok' h
      refine ⟨H, F0, k, k', F', s', ok', ?_⟩
      cases q : hm s' with
      | no => rw [q] at h; exact h.elim
      | ex c2 s2 => rw [q] at h; exact h.elim
      | ok o s2 =>
        rw [q] at h
        cases o with
        | rt d => exact fun v H2 F2 k2 x1 p1 b r => h v H2 F2 k2 b.fb b.pre (ok.evo b).bs r
        | nx => exact h.elim
        | bk => exact h.elim
        | ct => exact h.elim
    intro C σ' H' F' k' mC ok'
    have mC : X.mg c' = some C := mC
    by_cases z1 : c' = n1
    · subst z1
      have eC : C = .ref C1 := by rw [m1] at mC; exact (Option.some.inj mC).symm
      subst eC
      refine ⟨true, e11, fun _ a na => ?_, fun z => by cases z⟩
      exact suit h1 F' k' σ' H' ok' (by simpa only [if_pos] using h)
    · by_cases z2 : c' = n2
      · subst z2
        have eC : C = .ref C2 := by rw [m2] at mC; exact (Option.some.inj mC).symm
        subst eC
        refine ⟨false, e21, (fun z => by cases z), fun _ => ⟨true, e22, fun _ a na => ?_, fun z => by cases z⟩⟩
        exact suit h2 F' k' σ' H' ok' (by simpa only [if_neg z1, if_pos] using h)
      · exfalso
        simp only [if_neg z1, if_neg z2] at h
        exact h
end
end FX

/-! FX: a display whose keys are None, numbers, texts -/
namespace FX
open PySem PySem.Spec PyProof.Rows L2
def mergeV (kvs more : List (Leaf × V)) : List (Leaf × V) := more.foldl (fun acc kv => putK acc kv.1 kv.2) kvs
def mergeLd (l : List (D × D)) (more : List (Leaf × D)) : List (D × D) := more.foldl (fun acc kv => putL acc kv.1 kv.2) l
theorem KVmergeL {more : List (Leaf × V)} {rs : List (Leaf × Value)} (r : KV more rs) : ∀ {xs : List (Leaf × V)} {ys : List (Leaf × Value)}, KV xs ys → KV (mergeV xs more) (merged ys rs) := by
  unfold KV at r
  induction r with
  | nil => exact fun z => z
  | @cons a b _ _ same _ go =>
    intro xs ys z
    refine go (xs := putK xs a.1 a.2) (ys := stored ys b.1 b.2) ?_
    have step := z.put a.1 same.2
    rw [same.1] at step ⊢
    exact step
theorem carries_ofL {P : Program} {w : World} : ∀ {kvs : List (Leaf × V)} {ws : List (Value × Value)}, VV (kvs.map fun kv => (lfV kv.1, kv.2)) ws → ∃ rs, Carries (leafKind P w) ws rs ∧ KV kvs rs
  | [], _, z => by
    cases (show VV [] _ from z)
    exact ⟨[], trivial, .nil⟩
  | kv :: kvs, _, z => by
    cases (show VV ((lfV kv.1, kv.2) :: kvs.map fun kv => (lfV kv.1, kv.2)) _ from z) with
    | @cons _ b _ _ hd tl =>
      obtain ⟨rs, c, q⟩ := carries_ofL (P := P) (w := w) tl
      exact ⟨(kv.1, b.2) :: rs, ⟨lfV_is hd.1, rfl, c⟩, .cons ⟨rfl, hd.2⟩ q⟩
def tDispL (X : Cx) (trs : List (TE × TE)) : TE := fun σ H Q => ∀ p, H p = none → tPairs trs σ (upd H p (LO X p [])) fun ps H2 => H2 p = some (LO X p []) ∧ ∃ kvs : List (Leaf × V), ps = kvs.map (fun kv => (lfV kv.1, kv.2)) ∧ kvs.length ≤ 15 ∧ Q (.ref p) (upd H2 p (LO X p (mergeV [] kvs)))
theorem pe_dispL {X : Cx} {pos : Pos} {keys : List (Option Expr)} {values : List Expr} {trs : List (TE × TE)} (h : PPs X pos keys values trs) (hall : keys.all (·.isSome) = true) (hl : keys.length = values.length) (h0 : keys ≠ [])
    (h15 : keys.length ≤ 15) : PE X (.Dict keys values pos) (tDispL X trs) := ⟨fun pins s σ H Q I want => by
  let at0 : Addr := s.heap.objs.size
  have empty := I.laid (a := at0) (o := LO X at0 []) (h' := s.heap.push { cls := .type "dict", data := .dict #[] }) (t' := s.toks) (fun _ _ z => Heap.get?_push_of_some _ z) (Nat.le_refl _) (ld_new (beq_eq_false_iff_ne.mpr (Ne.symm (Nat.ne_of_lt I.big))) .nil (Heap.DictOf.new s.heap))
  refine wpAny_Dict_walk (knd := leafKind X.prog X.w) hall hl h0 h15 (thn (h.run pins _ σ _ _ empty (want at0 (I.hok.fresh (Nat.le_refl _)))) fun ws s2 ⟨ps, H2, I2, rel, here, kvs, same, few, last⟩ => ?_)
  subst same
  obtain ⟨rs, car, rk⟩ := carries_ofL (P := X.prog) (w := X.w) rel
  obtain ⟨nosys, ys, none0, dd⟩ := ld_rd I2 (.inl here)
  cases none0
  refine ⟨rs, car, dd, fun h2 d2 sb => ⟨.ref at0, _, d_write I2 (by rw [here]; trivial) sb ?_ (ld_new nosys (KVmergeL rk .nil) d2), rfl, last⟩⟩
  obtain ⟨ob, _, _, found, _⟩ := d2
  exact ⟨ob, found⟩⟩
def lfsOf : List (D × D) → Option (List (Leaf × D))
  | [] => some []
  | (d, e) :: r => match lfOf d, lfsOf r with
    | some q, some l => some ((q, e) :: l)
    | _, _ => none
def mDispL (ms : List (M D × M D)) : M Ob := mbind (mPairs ms) fun l => match lfsOf l with
  | some kv => if kv.length ≤ 15 then mpure (.ld (mergeLd [] kv)) else mno
  | none => mno
theorem RepP.lfs {B : Sb} {F : Hp} {k : List Addr} : ∀ {vs : List (V × V)} {ds : List (D × D)} {kv : List (Leaf × D)}, RepP B F k vs ds → lfsOf ds = some kv → ∃ kvs : List (Leaf × V), vs = kvs.map (fun p => (lfV p.1, p.2)) ∧ kvs.length = kv.length ∧
    ∀ {xs : List (Leaf × V)} {l : List (D × D)}, RepE B F k xs l → RepE B F k (mergeV xs kvs) (mergeLd l kv)
  | _, _, kv, .nil, e => by cases e; exact ⟨[], rfl, rfl, fun r => r⟩
  | _, _, kv, .cons (d := d) (u := u) (e := e') (ds := ds) h g r, e => by
    unfold lfsOf at e
    cases q : lfOf d with
    | none => simp only [q] at e; cases e
    | some q0 =>
      cases q1 : lfsOf ds with
      | none => simp only [q, q1] at e; cases e
      | some l =>
        simp only [q, q1] at e
        cases e
        obtain ⟨kvs, e1, e2, e3⟩ := RepP.lfs r q1
        refine ⟨(q0, u) :: kvs, by rw [List.map_cons, ← e1, h.lf q], by rw [List.length_cons, List.length_cons, e2], fun rk => ?_⟩
        exact e3 (rk.put (q := q0) g)
section
variable {X : Cx} {W : WX} {pos : Pos}
theorem sn_dispL {keys : List (Option Expr)} {values : List Expr} {ms : List (M D × M D)} (h : SPs X W pos keys values ms) (hall : keys.all (·.isSome) = true := by rfl) (hl : keys.length = values.length := by rfl) (h0 : keys ≠ [] := by exact fun z => by cases z) (h15 : keys.length ≤ 15 := by decide) :
    SN X W (.Dict keys values pos) (mDispL ms) := by
  obtain ⟨trs, h1, h2⟩ := h.ok
  refine PE_imp (pe_dispL h1 hall hl h0 h15) fun σ H Q ⟨Hb, Fb, kb, k, F, s, ok, h⟩ p hp => ?_
  have okj := ok.grow (Grow.junk (o := LO X p []) ok.bs.sub hp)
  have fr := ok.free hp
  have nf : Fb p = none := by
    cases q : Fb p with
    | none => rfl
    | some o => have z := ok.bs.fb p o q; rw [fr.1] at z; cases z
  have nk : p ∉ kb := fun z => fr.2.1 (ok.bs.pre.subset z)
  have okb := okj.rebase fr upd_same
  have hb := h.bind
  refine h2 σ (upd H p (LO X p [])) _ (upd Hb p (LO X p [])) Fb kb k F s okb ?_
  cases q : mPairs ms s with
  | no => rw [q] at hb; exact hb
  | ex c s1 =>
    rw [q] at hb
    exact fun C H' F' k' m ok' => hb C H' F' k' m (ok'.unbase fr.2.2.1 nf nk).1
  | ok ds s1 =>
    rw [q] at hb
    intro H1 F1 k1 e1 p1 ok1 vs rvs
    obtain ⟨okn, frn, hp1⟩ := ok1.unbase fr.2.2.1 nf nk
    have h3 := hb H1 F1 k1 e1 p1 okn
    cases q1 : lfsOf ds with
    | none => exact (h3.no (by (try dsimp only); rw [q1])).elim
    | some kv =>
      obtain ⟨kvs, ev, el, em⟩ := rvs.lfs q1
      by_cases h15 : kv.length ≤ 15
      · have h3 := h3.cast (.ok (.ld (mergeLd [] kv)) s1) (by (try dsimp only); rw [q1]; (try dsimp only); rw [if_pos h15])
        refine ⟨hp1, kvs, ev, by rw [el]; exact h15, ?_⟩
        exact h3 _ F1 k1 (Evl.Ex.refl _) (List.prefix_refl _) (okn.free_upd frn) p frn ⟨_, upd_same, em .nil⟩
      · exact (h3.no (by (try dsimp only); rw [q1]; (try dsimp only); rw [if_neg h15])).elim
end
end FX

/-! FX: the values of a dict, walked -/
namespace FX
open PySem PySem.Spec PyProof.Rows L2
def mItemsV (m : M D) : M (List D) := mbind m fun d => match d with
  | .dic l => mpure (l.map (·.2))
  | _ => mno
theorem RepK.getV {B : Sb} {F : Hp} {k : List Addr} : ∀ {xs : List (Key × V)} {ds : List (D × D)} {i : Nat} {q : Key} {x : V}, RepK B F k xs ds → xs[i]? = some (q, x) → ∃ y, (ds.map (·.2))[i]? = some y ∧ Rep B F k x y
  | _, _, _, _, _, .nil, e => by simp at e
  | _, _, 0, _, _, .cons h _, e => by
    simp at e
    obtain ⟨rfl, rfl⟩ := e
    exact ⟨_, rfl, h⟩
  | _, _, i + 1, _, _, .cons _ r, e => by
    obtain ⟨y, h1, h2⟩ := r.getV (i := i) (by simpa using e)
    exact ⟨y, by simpa using h1, h2⟩
theorem walk_v {B : Sb} {F : Hp} {k : List Addr} {d : Addr} {o : Obj} {xs : List (Key × V)} {ds : List (D × D)} (e : F d = some (.frz o (.dK xs))) (r : RepK B F k xs ds) : WalkD B F k (Itd d o xs) (ds.map (·.2)) := fun F' H' k' ex pr sub => by
  have eH : H' d = some (.frz o (.dK xs)) := sub d _ (ex d _ e)
  have hl : xs.length = (ds.map (·.2)).length := by rw [List.length_map, r.length]
  refine ⟨fun i hi => ⟨eH, by rw [hl]; exact hi⟩, ⟨eH, by rw [hl]; exact Nat.le_refl _⟩, fun i x H2 hi y => ?_⟩
  obtain ⟨rfl, q, y⟩ := y
  obtain ⟨d', e1, e2⟩ := r.getV y
  exact ⟨F', d', Grow.refl sub, e1, e2.mono ex pr⟩
theorem si_values {X : Cx} {W : WX} {tg e : Expr} {m : M D} {apos cpos : Pos} (h : SE X W e m) (hbase : attributeBase e "values" X.env (eval e X.env) = eval e X.env := by rfl) (hline : (apos.endLine == cpos.line) = true := by rfl) :
    SI X W tg (.Call (.Attribute e "values" apos) [] [] cpos) (mItemsV m) := PI_imp (pi_values h hbase hline) fun σ H Q ⟨Hb, Fb, kb, k, F, s, ok, h⟩ =>
  ⟨Hb, Fb, kb, k, F, s, ok, h.bind.imp fun d s1 F1 k1 H1 e1 p1 ok1 h1 v rv => by
    cases rv with
    | @dic a ob xs ds hF rk => exact ⟨a, ob, xs, rfl, ok1.bs.sub _ _ hF, h1 H1 F1 k1 (Evl.Ex.refl _) (List.prefix_refl _) ok1 _ (walk_v hF rk)⟩
    | _ => exact h1.elim⟩
/-- slot[key], the dict a def's own -/
def mDGetO (i : Nat) (mk : M D) : M D := fun s => match ownD s i with
  | none => .no
  | some _ => mbind mk (fun y s' => match ownD s' i, keyOf y with
    | some l, some q => (match lkD q l with
      | some z => .ok z s'
      | none => .no)
    | _, _ => .no) s
theorem se_dgetO {X : Cx} {W : WX} {pos p : Pos} {x : Str} {i : Nat} {idx : Expr} {mk : M D} (hu : X.A.units + 1 < cLine) (hi : SE X W idx mk) (hs : NoSl idx) (hN : X.N[i]? = some x := by rfl) (hv : Vis X.env.scope x := by first | exact Or.inl rfl | exact Or.inr (Or.inl rfl) | exact Or.inr (Or.inr rfl)) (hd : (x == ("__debug__" : Str)) = false := by decide)
    (hcd : (x == ("__classdict__" : Str)) = false := by decide) : SE X W (.Subscript (.Name x p) idx pos) (mDGetO i mk) :=
  PE_imp (pe_dget hu (pe_var hN hv hd hcd) hi hs) fun σ H Q ⟨Hb, Fb, kb, k, F, s, ok, h⟩ => by
    unfold mDGetO at h
    cases q0 : ownD s i with
    | none => rw [q0] at h; exact h.elim
    | some l0 =>
      rw [q0] at h
      obtain ⟨a, ea, _⟩ := ok.own i _ (ownD_some q0)
      refine ⟨.ref a, ea, Hb, Fb, kb, k, F, s, ok, (Fin.bind h).imp fun y s1 F1 k1 H1 e1 p1 ok1 h1 v rv => ?_⟩
      cases q1 : ownD s1 i with
      | none => exact (h1.no (by (try dsimp only); rw [q1])).elim
      | some l =>
        cases q2 : keyOf y with
        | none => exact (h1.no (by (try dsimp only); rw [q1, q2])).elim
        | some q =>
          cases q3 : lkD q l with
          | none => exact (h1.no (by (try dsimp only); rw [q1, q2]; (try dsimp only); rw [q3])).elim
          | some z =>
            have h2 := h1.cast (.ok z s1) (by (try dsimp only); rw [q1, q2]; (try dsimp only); rw [q3])
            obtain ⟨b, eb, _, _, _, ys, hys, ry⟩ := ok1.own i _ (ownD_some q1)
            rw [ea] at eb
            cases eb
            obtain ⟨u, eu, ru⟩ := (ry.lk q).2 z q3
            exact ⟨a, u, rfl, .inl ⟨ys, q, .inl hys, rv.key q2, eu.symm⟩, h2 H1 F1 k1 (Evl.Ex.refl _) (List.prefix_refl _) ok1 _ ru⟩
end FX

/-! FX: a law's end -/
namespace FX
open PySem L2
/-- what the law's end asks -/
def spEnd (K : PySem.W.Frag) : Sp := fun vs H Q _ => ∃ (a : Addr) (ns : List Int), vs = [.ref a] ∧ SqL K H a (ns.map V.int) ∧ ns.length ≤ 63 ∧ ∀ H', Q (.bl true) H'
theorem end_ok {P : Program} {w : World} {K : PySem.W.Frag} {mg : Str → Option Value} {base : Heap} {j : Nat} {f : Addr} {fd : FuncData} {ps : List Str} {F : Fn} (h : FnOk P w K mg base (L2N.CX P w) j f fd ps (spF ⟨K, mg, P, w⟩ 1 F)) (hF : ∀ ns : List Int, ns.length ≤ 63 → ∃ g, F [.scr ns] [] = .ok (.bl true) g) :
    FnOk P w K mg base (L2N.CX P w) j f fd ps (spEnd K) := h.imp fun vs H Q E ⟨a, ns, e, hs, hl, q⟩ => by
  subst e
  obtain ⟨g, hg⟩ := hF ns hl
  refine ⟨[], H, [], [.scr ns], ⟨Evl.Ex.refl _, fun _ _ e _ => e, fun _ _ e => .inl e, Evl.Ex.refl _, List.prefix_refl _, List.nodup_nil, fun _ z => by simp at z, fun _ z => by simp at z, rfl, fun n a o e _ => by simp at e⟩, .cons (.scr hs) .nil, rfl, ?_⟩
  rw [hg]
  intro v H' F' k' _ r
  cases r
  exact q H'
theorem cx_end {P : Program} {w : World} {H : Hp} {s : Shared} {e : Value} {s' : Shared} (h : L2N.CX P w [] H s (fun _ _ _ => False) e s') : False := by
  obtain ⟨_, _, _, _, _, _, _, _, _, _, _, _, z⟩ := h
  exact z.elim
/-- a tuple of texts of the module -/
theorem GlD.tup {B : Sb} {x : Str} {a : Addr} {its : Array Value} {n : Nat} {dd : Option Addr} {sl : Array (Option Value)} {zs : List Str} (h : B.mg x = some (.ref a)) (l : B.K.lookup a = some ⟨.type "tuple", dd, .seq its n, sl⟩) (hz : its.size ≤ sizeLine) (hv : Vals (zs.map V.str) its.toList) : GlD B x (.tup (zs.map D.str)) := by
  refine ⟨.ref a, _, h, rfl, fun F k => .tup (.inr ⟨_, its, n, l, rfl, rfl, hz, hv⟩) ?_⟩
  clear l hv h
  induction zs with
  | nil => exact .nil
  | cons z r ih => exact .cons (.str z) ih
theorem vals_strs : ∀ (zs : List Str) (ts : List Tok), zs.length = ts.length → Vals (zs.map V.str) (List.zipWith (fun z t => Value.str z t) zs ts)
  | [], [], _ => .nil
  | z :: zs, t :: ts, h => .cons ⟨t, rfl⟩ (vals_strs zs ts (by simpa using h))
end FX

/-! PEv: how runs evaluate, step by step -/
namespace FX
open PySem L2
theorem bls_map {α : Type} (p : α → Bool) : ∀ l : List α, bls (l.map fun x => D.bl (p x)) = some (l.map p)
  | [] => rfl
  | x :: l => by simp only [List.map_cons, bls, bls_map p l, Option.map_some]
theorem dall0 {α : Type} (p : α → Bool) (l : List α) : ((bls (l.map fun x => D.bl (p x))).map fun bs => D.bl (bs.all id)) = some (.bl (l.all p)) := by
  simp only [bls_map, Option.map_some, List.all_map]; rfl
theorem dany0 {α : Type} (p : α → Bool) (l : List α) : ((bls (l.map fun x => D.bl (p x))).map fun bs => D.bl (bs.any id)) = some (.bl (l.any p)) := by
  simp only [bls_map, Option.map_some, List.any_map]; rfl
theorem dAll_map {α : Type} (p : α → Bool) (l : List α) : dAll [.lst (l.map fun x => D.bl (p x))] = some (.bl (l.all p)) := by
  simp only [dAll, bls_map, Option.map_some, List.all_map]; rfl
theorem dAny_map {α : Type} (p : α → Bool) (l : List α) : dAny [.lst (l.map fun x => D.bl (p x))] = some (.bl (l.any p)) := by
  simp only [dAny, bls_map, Option.map_some, List.any_map]; rfl
section
variable {s s1 s2 : S} {g g' : List Ob} {d x y z : D} {ds : List D}
theorem ev_bind {α β : Type} {m : M α} {f : α → M β} {a : α} {r : R β} (h : m s = .ok a s1) (k : f a s1 = r) : mbind m f s = r := by unfold mbind; rw [h]; exact k
theorem ev_seq {a b : M Out} {r : R Out} (h : a s = .ok .nx s1) (k : b s1 = r) : mSeq a b s = r := by unfold mSeq; rw [h]; exact k
theorem ev_seqR {a b : M Out} (h : a s = .ok (.rt d) s1) : mSeq a b s = .ok (.rt d) s1 := by unfold mSeq; rw [h]
theorem ev_ifT {c : M Bool} {a b : M Out} {r : R Out} (h : c s = .ok true s1) (k : a s1 = r) : mIf c a b s = r := by unfold mIf; rw [h]; exact k
theorem ev_ifF {c : M Bool} {a b : M Out} {r : R Out} (h : c s = .ok false s1) (k : b s1 = r) : mIf c a b s = r := by unfold mIf; rw [h]; exact k
theorem ev_if {c : M Bool} {a b : M Out} {t : Bool} {r : R Out} (h : c s = .ok t s1) (k : (if t = true then a s1 else b s1) = r) : mIf c a b s = r := by unfold mIf; rw [h]; cases t <;> exact k
theorem ev_ret {m : M D} (h : m s = .ok d s1) : mRet m s = .ok (.rt d) s1 := by unfold mRet mbind; rw [h]
theorem ev_drop {m : M D} (h : m s = .ok d s1) : mDrop m s = .ok .nx s1 := by unfold mDrop mbind; rw [h]
theorem ev_set {i : Nat} {m : M D} (h : m s = .ok d s1) : mSet i m s = .ok .nx (setV i d s1) := by unfold mSet mbind; rw [h]
theorem ev_fn {n : Nat} {f : Fn} {ma : M (List D)} (h : ma s = .ok ds s1) (hl : ds.length = n) (hf : f ds s1.g = .ok d g') : mFn n f ma s = .ok d ⟨s1.e, g'⟩ := by unfold mFn mbind; rw [h]; unfold runF; simp only; rw [if_pos hl, hf]
theorem ev_fn0 {n : Nat} {f : Fn} {ma : M (List D)} (h : ma s = .ok ds s1) (hl : ds.length = n) (hf : f ds s1.g = .ok d g') : mFn0 n f ma s = .ok d ⟨s1.e, g'⟩ := by unfold mFn0 mbind; rw [h]; unfold runF0; simp only; rw [if_pos hl, hf]
theorem ev_m2 {f : D → D → Option D} {ma mb : M D} (h : ma s = .ok x s1) (k : mb s1 = .ok y s2) (e : f x y = some z) : m2 f ma mb s = .ok z s2 := by unfold m2 mbind; rw [h]; simp only; rw [k]; simp only [e, mopt]
theorem ev_m1 {f : D → Option D} {ma : M D} (h : ma s = .ok x s1) (e : f x = some z) : m1 f ma s = .ok z s1 := by unfold m1 mbind; rw [h]; simp only [e, mopt]
theorem ev_call {f : List D → Option D} {ma : M (List D)} (h : ma s = .ok ds s1) (e : f ds = some z) : mCall f ma s = .ok z s1 := by unfold mCall mbind; rw [h]; simp only [e, mopt]
theorem ev_nil : mNil s = .ok [] s := rfl
theorem ev_cons {m : M D} {r : M (List D)} (h : m s = .ok d s1) (k : r s1 = .ok ds s2) : mCons m r s = .ok (d :: ds) s2 := by unfold mCons mbind; rw [h]; simp only; rw [k]
theorem ev_B {m : M D} {b : Bool} (h : m s = .ok (.bl b) s1) : mB m s = .ok b s1 := by unfold mB mbind; rw [h]
theorem ev_not {m : M Bool} {b : Bool} (h : m s = .ok b s1) : mNot m s = .ok (!b) s1 := by unfold mNot mbind; rw [h]
theorem ev_andT {a b : M Bool} {c : Bool} (h : a s = .ok true s1) (k : b s1 = .ok c s2) : mAnd a b s = .ok c s2 := by unfold mAnd mbind; rw [h]; simp only [if_true]; exact k
theorem ev_andF {a b : M Bool} (h : a s = .ok false s1) : mAnd a b s = .ok false s1 := by unfold mAnd mbind; rw [h]; rfl
theorem ev_orF {a b : M Bool} {c : Bool} (h : a s = .ok false s1) (k : b s1 = .ok c s2) : mOr a b s = .ok c s2 := by unfold mOr mbind; rw [h]; exact k
theorem ev_orT {a b : M Bool} (h : a s = .ok true s1) : mOr a b s = .ok true s1 := by unfold mOr mbind; rw [h]; rfl
theorem ev_andVT {a b : M D} {r : R D} (h : a s = .ok (.bl true) s1) (k : b s1 = r) : mAndV a b s = r := by unfold mAndV mbind; rw [h]; exact k
theorem ev_andVF {a b : M D} (h : a s = .ok (.bl false) s1) : mAndV a b s = .ok (.bl false) s1 := by unfold mAndV mbind; rw [h]
theorem ev_notV {m : M D} {b : Bool} (h : m s = .ok (.bl b) s1) : mNotV m s = .ok (.bl (!b)) s1 := by unfold mNotV mbind; rw [h]
theorem ev_ifE {c : M Bool} {a b : M D} {t : Bool} {r : R D} (h : c s = .ok t s1) (k : (if t = true then a s1 else b s1) = r) : mIfE c a b s = r := by unfold mIfE mbind; rw [h]; cases t <;> exact k
theorem ev_chainT {f1 f2 : D → D → Option D} {ma mb mc : M D} {w : D} {s3 : S} (h : ma s = .ok x s1) (k : mb s1 = .ok y s2) (e : f1 x y = some (.bl true)) (l : mc s2 = .ok w s3) (e2 : f2 y w = some z) : mChain f1 f2 ma mb mc s = .ok z s3 := by
  unfold mChain
  refine ev_bind h (ev_bind k (ev_bind (a := .bl true) (s1 := s2) (by rw [e]; rfl) ?_))
  exact ev_bind l (by rw [e2]; rfl)
theorem ev_chainF {f1 f2 : D → D → Option D} {ma mb mc : M D} (h : ma s = .ok x s1) (k : mb s1 = .ok y s2) (e : f1 x y = some (.bl false)) : mChain f1 f2 ma mb mc s = .ok (.bl false) s2 := by
  unfold mChain
  exact ev_bind h (ev_bind k (ev_bind (a := .bl false) (s1 := s2) (by rw [e]; rfl) rfl))
theorem ev_fz {m : M Ob} {o : Ob} (h : m s = .ok o s1) : mFz m s = .ok (obD o) s1 := by unfold mFz mbind; rw [h]
theorem ev_lst {m : M (List D)} (h : m s = .ok ds s1) (hl : ds.length ≤ 100000) : mLst m s = .ok (.lst ds) s1 := by unfold mLst mbind; rw [h]; simp only; rw [if_pos hl]
theorem ev_tup {m : M (List D)} (h : m s = .ok ds s1) (hl : ds.length ≤ 100000) : mTup m s = .ok (.tup ds) s1 := by unfold mTup mbind; rw [h]; simp only; rw [if_pos hl]
theorem ev_items {m : M D} (h : m s = .ok d s1) (e : itemsD d = some ds) : mItems m s = .ok ds s1 := by unfold mItems mbind; rw [h]; simp only [e, mopt]
theorem ev_range {m : M D} {n : Int} (h : m s = .ok (.int n) s1) (hn : -(2 ^ 62) ≤ n ∧ n < 2 ^ 62) : mRange m s = .ok ((List.range n.toNat).map fun i => .int (i : Nat)) s1 := by unfold mRange mbind; rw [h]; simp only; rw [if_pos hn]
theorem ev_sub {mo mi : M D} {r : R D} (h : mo s = .ok x s1) (k : mi s1 = .ok y s2) (e : mSub (mC x) (mC y) s2 = r) : mSub mo mi s = r := by
  rw [← e]; unfold mSub mbind mC; rw [h]; simp only; rw [k]
theorem ev_for {mi : M (List D)} {gg : D → M Unit} {body : M Out} {r : R Out} (h : mi s = .ok ds s1) (k : forR gg body ds s1 = r) : mFor mi gg body s = r := by unfold mFor mbind; rw [h]; exact k
/-- a comprehension whose turns leave the cells as they are -/
theorem compR_fm {α : Type} {e0 : List (Option Sl)} {body : D → M (Option D)} {f : α → D} {h : α → Option D} : ∀ {l : List α}, (∀ x ∈ l, ∃ s', body (f x) ⟨e0, g⟩ = .ok (h x) s' ∧ s'.g = g) → compR e0 body (l.map f) g = some (l.filterMap h, g)
  | [], _ => rfl
  | x :: l, k => by
    obtain ⟨s', e, eg⟩ := k x List.mem_cons_self
    have ih := compR_fm (l := l) fun y hy => k y (List.mem_cons_of_mem _ hy)
    simp only [List.map_cons, compR]
    cases hx : h x with
    | none => rw [hx] at e; rw [e]; simp only [eg, ih, List.filterMap_cons, hx]
    | some y => rw [hx] at e; rw [e]; simp only [eg, ih, List.filterMap_cons, hx]
theorem ev_comp {α : Type} {mi : M (List D)} {vs : List Nat} {gg : D → M Unit} {t : M Bool} {e : M D} {f : α → D} {h : α → Option D} {l : List α} (hi : mi s = .ok (l.map f) s1) (k : ∀ x ∈ l, ∃ s', cbody gg t e (f x) ⟨hideE (wipeE s1.e vs), s1.g⟩ = .ok (h x) s' ∧ s'.g = s1.g) (hl : l.length ≤ 100000) :
    mComp mi vs gg t e s = .ok (.lst (l.filterMap h)) s1 := by
  unfold mComp mbind; rw [hi]; simp only; rw [compR_fm k]
  simp only
  rw [if_pos (Nat.le_trans (List.length_filterMap_le _ _) hl)]
theorem filterMap_some {α β : Type} (f : α → β) : ∀ l : List α, (l.filterMap fun x => some (f x)) = l.map f
  | [] => rfl
  | x :: l => by simp only [List.filterMap_cons, List.map_cons, filterMap_some f l]
theorem filterMap_if {α β : Type} (p : α → Bool) (f : α → β) : ∀ l : List α, (l.filterMap fun x => if p x = true then some (f x) else none) = (l.filter p).map f
  | [] => rfl
  | x :: l => by
    cases h : p x with
    | true => simp [List.filterMap_cons, List.filter_cons, h, filterMap_if p f l]
    | false => simp [List.filterMap_cons, List.filter_cons, h, filterMap_if p f l]
/-- a comprehension without an if -/
theorem ev_compM {α : Type} {mi : M (List D)} {vs : List Nat} {gg : D → M Unit} {e : M D} {f h : α → D} {l : List α} (hi : mi s = .ok (l.map f) s1) (k : ∀ x ∈ l, ∃ s' s2, gg (f x) ⟨hideE (wipeE s1.e vs), s1.g⟩ = .ok () s' ∧ e s' = .ok (h x) s2 ∧ s2.g = s1.g) (hl : l.length ≤ 100000) :
    mComp mi vs gg (mpure true) e s = .ok (.lst (l.map h)) s1 := by
  rw [← filterMap_some h]
  refine ev_comp hi (fun x hx => ?_) hl
  obtain ⟨s', s2, e1, e2, e3⟩ := k x hx
  exact ⟨s2, ev_bind e1 (ev_bind (a := true) rfl (ev_bind e2 rfl)), e3⟩
/-- with an if -/
theorem ev_compI {α : Type} {mi : M (List D)} {vs : List Nat} {gg : D → M Unit} {t : M Bool} {e : M D} {f h : α → D} {p : α → Bool} {l : List α} (hi : mi s = .ok (l.map f) s1) (k : ∀ x ∈ l, ∃ s' s2, gg (f x) ⟨hideE (wipeE s1.e vs), s1.g⟩ = .ok () s' ∧ t s' = .ok (p x) s2 ∧ s2.g = s1.g ∧ (p x = true → ∃ s3, e s2 = .ok (h x) s3 ∧ s3.g = s1.g)) (hl : l.length ≤ 100000) :
    mComp mi vs gg t e s = .ok (.lst ((l.filter p).map h)) s1 := by
  rw [← filterMap_if p h]
  refine ev_comp hi (fun x hx => ?_) hl
  obtain ⟨s', s2, e1, e2, e3, e4⟩ := k x hx
  cases hp : p x with
  | true =>
    obtain ⟨s3, e5, e6⟩ := e4 hp
    rw [hp] at e2
    refine ⟨s3, ev_bind e1 (ev_bind e2 ?_), e6⟩
    show mbind e (fun y => mpure (some y)) s2 = _
    exact ev_bind e5 rfl
  | false =>
    rw [hp] at e2
    exact ⟨s2, ev_bind e1 (ev_bind e2 rfl), e3⟩
/-- .. where the items leave the state as it is -/
theorem ev_cM {α : Type} {mi : M (List D)} {vs : List Nat} {gg : D → M Unit} {e : M D} (f h : α → D) (l : List α) (hl : l.length ≤ 100000) (hi : mi s = .ok (l.map f) s) (k : ∀ x ∈ l, ∃ s' s2, gg (f x) ⟨hideE (wipeE s.e vs), s.g⟩ = .ok () s' ∧ e s' = .ok (h x) s2 ∧ s2.g = s.g) :
    mFz (mComp mi vs gg (mpure true) e) s = .ok (.lst (l.map h)) s := ev_fz (ev_compM hi k hl)
theorem ev_cI {α : Type} {mi : M (List D)} {vs : List Nat} {gg : D → M Unit} {t : M Bool} {e : M D} (f h : α → D) (p : α → Bool) (l : List α) (hl : l.length ≤ 100000) (hi : mi s = .ok (l.map f) s) (k : ∀ x ∈ l, ∃ s' s2, gg (f x) ⟨hideE (wipeE s.e vs), s.g⟩ = .ok () s' ∧ t s' = .ok (p x) s2 ∧ s2.g = s.g ∧ (p x = true → ∃ s3, e s2 = .ok (h x) s3 ∧ s3.g = s.g)) :
    mFz (mComp mi vs gg t e) s = .ok (.lst ((l.filter p).map h)) s := ev_fz (ev_compI hi k hl)
/-- all([..]), any([..]) -/
theorem ev_all {α : Type} {mi : M (List D)} {vs : List Nat} {gg : D → M Unit} {e : M D} (f : α → D) (p : α → Bool) (l : List α) (hl : l.length ≤ 100000) (hi : mi s = .ok (l.map f) s) (k : ∀ x ∈ l, ∃ s' s2, gg (f x) ⟨hideE (wipeE s.e vs), s.g⟩ = .ok () s' ∧ e s' = .ok (.bl (p x)) s2 ∧ s2.g = s.g) :
    mCall dAll (mCons (mFz (mComp mi vs gg (mpure true) e)) mNil) s = .ok (.bl (l.all p)) s := ev_call (ev_cons (ev_cM f (fun x => .bl (p x)) l hl hi k) rfl) (by simp only [dAll, dall0 p l])
theorem ev_any {α : Type} {mi : M (List D)} {vs : List Nat} {gg : D → M Unit} {e : M D} (f : α → D) (p : α → Bool) (l : List α) (hl : l.length ≤ 100000) (hi : mi s = .ok (l.map f) s) (k : ∀ x ∈ l, ∃ s' s2, gg (f x) ⟨hideE (wipeE s.e vs), s.g⟩ = .ok () s' ∧ e s' = .ok (.bl (p x)) s2 ∧ s2.g = s.g) :
    mCall dAny (mCons (mFz (mComp mi vs gg (mpure true) e)) mNil) s = .ok (.bl (l.any p)) s := ev_call (ev_cons (ev_cM f (fun x => .bl (p x)) l hl hi k) rfl) (by simp only [dAny, dany0 p l])
theorem ev_allT {α : Type} {mi : M (List D)} {vs : List Nat} {gg : D → M Unit} {e : M D} (f : α → D) (l : List α) (hl : l.length ≤ 100000) (hi : mi s = .ok (l.map f) s) (k : ∀ x ∈ l, ∃ s' s2, gg (f x) ⟨hideE (wipeE s.e vs), s.g⟩ = .ok () s' ∧ e s' = .ok (.bl true) s2 ∧ s2.g = s.g) :
    mCall dAll (mCons (mFz (mComp mi vs gg (mpure true) e)) mNil) s = .ok (.bl true) s := by
  rw [ev_all f (fun _ => true) l hl hi k]; simp
theorem ev_anyF {α : Type} {mi : M (List D)} {vs : List Nat} {gg : D → M Unit} {e : M D} (f : α → D) (l : List α) (hl : l.length ≤ 100000) (hi : mi s = .ok (l.map f) s) (k : ∀ x ∈ l, ∃ s' s2, gg (f x) ⟨hideE (wipeE s.e vs), s.g⟩ = .ok () s' ∧ e s' = .ok (.bl false) s2 ∧ s2.g = s.g) :
    mCall dAny (mCons (mFz (mComp mi vs gg (mpure true) e)) mNil) s = .ok (.bl false) s := by
  rw [ev_any f (fun _ => false) l hl hi k]; simp
theorem fr_rt {n : Nat} {b : M Out} (h : b ⟨initE n ds, g⟩ = .ok (.rt d) s1) : mkF n b ds g = .ok d s1.g := by unfold mkF; rw [h]; rfl
theorem fr_nx {n : Nat} {b : M Out} (h : b ⟨initE n ds, g⟩ = .ok .nx s1) : mkF n b ds g = .ok .non s1.g := by unfold mkF; rw [h]; rfl
end
theorem strsOf_map : ∀ l : List Str, strsOf (l.map D.str) = some l
  | [] => rfl
  | x :: l => by simp only [List.map_cons, strsOf, strsOf_map l, Option.map_some]
theorem addNew_nodup : ∀ (xs l : List Str), xs.Nodup → (∀ x ∈ xs, x ∉ l) → (xs.foldl addNew l).length = l.length + xs.length
  | [], l, _, _ => rfl
  | x :: xs, l, h, k => by
    obtain ⟨h1, h2⟩ := List.nodup_cons.mp h
    have e : addNew l x = x :: l := by unfold addNew; rw [if_neg (k x List.mem_cons_self)]
    rw [List.foldl_cons, e, addNew_nodup xs (x :: l) h2 fun y hy z => ?_]
    · simp only [List.length_cons]; omega
    · rcases List.mem_cons.mp z with z | z
      · exact h1 (z ▸ hy)
      · exact k y (List.mem_cons_of_mem _ hy) z
theorem dLenSet_nodup {xs : List Str} (h : xs.Nodup) (hl : xs.length ≤ 1000) : dLenSet (.lst (xs.map D.str)) = some (.int xs.length) := by
  simp only [dLenSet, strsOf_map, Option.bind_some]
  rw [if_pos hl, addNew_nodup xs [] h (fun _ _ z => by cases z)]
  simp
end FX

/-! PTyp: typed routes, and facts on data that need no program -/
namespace FX
open PySem L2
inductive Pt where
  | w (x : Str)
  | k (kd nm : Str)
def Pt.d : Pt → D
  | .w x => .str x
  | .k a b => .tup [.str a, .str b]
def Pt.nm : Pt → Option Str
  | .w _ => none
  | .k _ b => some b
def names (ps : List Pt) : List Str := ps.filterMap Pt.nm
def isTl : Pt → Bool
  | .w _ => false
  | .k a _ => a == "tail"
def isK : Pt → Bool
  | .w _ => false
  | .k _ _ => true
def psD (ps : List Pt) : D := .tup (ps.map Pt.d)
def pathD (ws : List Str) : D := .tup (ws.map D.str)
abbrev Rt := Str × List Pt
def rtD (r : Rt) : D := .tup [.str r.1, psD r.2]
abbrev Tb := Str × List Rt
def tbD (t : Tb) : D := .tup [.str t.1, .tup (t.2.map rtD)]
/-- a text of few, true signs -/
def Wd (x : Str) : Prop := plain (.str x) = true ∧ x.cps.toList.length ≤ 1000
theorem names_cons (p : Pt) (ps : List Pt) : names (p :: ps) = (match p.nm with | some n => n :: names ps | none => names ps) := by
  unfold names; rw [List.filterMap_cons]; cases p.nm <;> rfl
theorem dEq_ok {d e : D} (h : okEq d e = true) : dEq d e = some (.bl (eqD d e)) := by unfold dEq; rw [if_pos h]
theorem dNe_ok {d e : D} (h : okEq d e = true) : dNe d e = some (.bl (!eqD d e)) := by unfold dNe; rw [if_pos h]
theorem dEqA_of {d e : D} (h : okEq d e = true) : dEqA d e = some (.bl (eqD d e)) := by
  cases d <;> first | exact dEq_ok h | skip
  simp only [okEq, plain, Bool.false_and] at h; cases h
theorem dNeA_of {d e : D} (h : okEq d e = true) : dNeA d e = some (.bl (!eqD d e)) := by
  cases d <;> first | exact dNe_ok h | skip
  simp only [okEq, plain, Bool.false_and] at h; cases h
theorem okEq_of {d e : D} (h1 : plain d = true) (h2 : plain e = true) (h3 : dep d ≤ 64) (h4 : dep e ≤ 64) : okEq d e = true := by
  unfold okEq; rw [h1, h2, decide_eq_true h3, decide_eq_true h4]; rfl
theorem eqD_str (x y : Str) : eqD (.str x) (.str y) = (x == y) := rfl
theorem str_eq {x y : Str} (h : Wd x) (h' : Wd y) : dEqA (.str x) (.str y) = some (.bl (x == y)) := by
  rw [dEqA_of (okEq_of h.1 h'.1 (by simp [dep]) (by simp [dep]))]; rfl
theorem int_eq (i j : Int) : dEqA (.int i) (.int j) = some (.bl (i == j)) := rfl
theorem eqDs_len : ∀ {a b : List D}, eqDs a b = true → a.length = b.length
  | [], [], _ => rfl
  | [], _ :: _, h => by simp [eqDs] at h
  | _ :: _, [], h => by simp [eqDs] at h
  | x :: a, y :: b, h => by
    simp only [eqDs, Bool.and_eq_true] at h
    simp [eqDs_len h.2]
theorem eqDs_map {α : Type} {f : α → D} (h : ∀ x y, eqD (f x) (f y) = true ↔ x = y) : ∀ a b : List α, eqDs (a.map f) (b.map f) = true ↔ a = b
  | [], [] => by simp [eqDs]
  | [], _ :: _ => by simp [eqDs]
  | _ :: _, [] => by simp [eqDs]
  | x :: a, y :: b => by simp [eqDs, h, eqDs_map h a b]
theorem eqD_strs (a b : List Str) : eqDs (a.map D.str) (b.map D.str) = true ↔ a = b := eqDs_map (fun x y => by rw [eqD_str]; exact beq_iff_eq) a b
theorem plains_strs : ∀ {l : List Str}, (∀ x ∈ l, Wd x) → plains (l.map D.str) = true
  | [], _ => rfl
  | x :: l, h => by simp only [List.map_cons, plains, (h x List.mem_cons_self).1, plains_strs fun y hy => h y (List.mem_cons_of_mem _ hy), Bool.and_self]
theorem deps_strs : ∀ l : List Str, deps (l.map D.str) = 0
  | [] => by simp [deps]
  | x :: l => by simp [deps, dep, deps_strs l]
theorem path_eq {a b : List Str} (h : ∀ x ∈ a, Wd x) (h' : ∀ x ∈ b, Wd x) : okEq (pathD a) (pathD b) = true :=
  okEq_of (by unfold pathD; simpa [plain] using plains_strs h) (by unfold pathD; simpa [plain] using plains_strs h') (by unfold pathD; simp [dep, deps_strs]) (by unfold pathD; simp [dep, deps_strs])
theorem list_eq {a b : List Str} (h : ∀ x ∈ a, Wd x) (h' : ∀ x ∈ b, Wd x) : okEq (.lst (a.map D.str)) (.lst (b.map D.str)) = true :=
  okEq_of (by simpa [plain] using plains_strs h) (by simpa [plain] using plains_strs h') (by simp [dep, deps_strs]) (by simp [dep, deps_strs])
/-- the parts' texts are plain -/
def PtW : Pt → Prop
  | .w x => Wd x
  | .k a b => Wd a ∧ Wd b
theorem plain_pt {p : Pt} (h : PtW p) : plain p.d = true := by
  cases p with
  | w x => exact h.1
  | k a b =>
    show (plain (.str a) && (plain (.str b) && true)) = true
    rw [h.1.1, h.2.1]; rfl
theorem dep_pt (p : Pt) : dep p.d ≤ 1 := by cases p <;> simp [Pt.d, dep, deps]
theorem plains_ps : ∀ {ps : List Pt}, (∀ p ∈ ps, PtW p) → plains (ps.map Pt.d) = true
  | [], _ => rfl
  | p :: ps, h => by simp only [List.map_cons, plains, plain_pt (h p List.mem_cons_self), plains_ps fun y hy => h y (List.mem_cons_of_mem _ hy), Bool.and_self]
theorem deps_ps : ∀ ps : List Pt, deps (ps.map Pt.d) ≤ 1
  | [] => by simp [deps]
  | p :: ps => by have a := dep_pt p; have b := deps_ps ps; simp only [List.map_cons, deps]; omega
theorem ps_eq {a b : List Pt} (h : ∀ p ∈ a, PtW p) (h' : ∀ p ∈ b, PtW p) : okEq (psD a) (psD b) = true := by
  have d1 := deps_ps a
  have d2 := deps_ps b
  exact okEq_of (by unfold psD; simpa [plain] using plains_ps h) (by unfold psD; simpa [plain] using plains_ps h') (by unfold psD; simp only [dep]; omega) (by unfold psD; simp only [dep]; omega)
theorem eqD_pt (p q : Pt) : eqD p.d q.d = true ↔ p = q := by
  cases p <;> cases q <;> simp [Pt.d, eqD, eqDs]
theorem eqD_ps (a b : List Pt) : eqD (psD a) (psD b) = true ↔ a = b := eqDs_map eqD_pt a b
theorem eqD_psF {a b : List Pt} (h : a ≠ b) : eqD (psD a) (psD b) = false := by
  cases q : eqD (psD a) (psD b) with
  | false => rfl
  | true => exact absurd ((eqD_ps a b).mp q) h
/-! slices -/
theorem cut_last {l : List D} : cutD l none (some (-1)) = l.dropLast := by
  unfold cutD HT.sIx
  cases l with
  | nil => simp
  | cons x l =>
    simp only [List.length_cons, List.dropLast_eq_take]
    simp
    omega
theorem cut_from {l : List D} {n : Nat} (h : n ≤ l.length) : cutD l (some (n : Int)) none = l.drop n := by
  unfold cutD
  rw [HT.sIx_nat, HT.sIx_none, Nat.min_eq_left h]
  exact List.take_of_length_le (by rw [List.length_drop]; exact Nat.le_refl _)
/-! dicts -/
theorem kEq_str (x y : Str) : kEq (.inr x) (.str y) = decide (x = y) := by
  show decide (Sum.inr x = (Sum.inr y : Key)) = _
  simp
def keyS (l : List (Str × D)) : List (D × D) := l.map fun p => (D.str p.1, p.2)
theorem hasD_S (x : Str) : ∀ l : List (Str × D), hasD (.inr x) (keyS l) = decide (x ∈ l.map (·.1))
  | [] => rfl
  | (y, d) :: l => by
    show (kEq (.inr x) (.str y) || hasD (.inr x) (keyS l)) = _
    rw [kEq_str, hasD_S x l, List.map_cons]
    by_cases h1 : x = y <;> by_cases h2 : x ∈ l.map (·.1) <;> simp only [h1, h2, List.mem_cons, decide_true, decide_false, Bool.or_true, Bool.true_or, Bool.or_false, true_or, or_true, or_false, or_self]
theorem putD_new {l : List (Str × D)} {x : Str} {d : D} (h : x ∉ l.map (·.1)) : putD (keyS l) (.inr x) d = keyS (l ++ [(x, d)]) := by
  unfold putD
  rw [hasD_S, decide_eq_false h]
  simp [keyS, kD]
theorem lkD_S {x : Str} {d : D} : ∀ {l : List (Str × D)}, (l.map (·.1)).Nodup → (x, d) ∈ l → lkD (.inr x) (keyS l) = some d
  | [], _, h => by simp at h
  | (y, e) :: l, nd, h => by
    show (if kEq (.inr x) (.str y) = true then some e else lkD (.inr x) (keyS l)) = _
    rw [kEq_str]
    simp only [List.map_cons, List.nodup_cons] at nd
    rcases List.mem_cons.mp h with z | z
    · cases z; simp
    · have : x ≠ y := fun q => nd.1 (by rw [← q]; exact List.mem_map.mpr ⟨(x, d), z, rfl⟩)
      simp [this, lkD_S nd.2 z]
theorem eqKV_S {b : List (Str × D)} (nd : (b.map (·.1)).Nodup) : ∀ {a : List (Str × D)}, (∀ p ∈ a, p ∈ b ∧ okEq p.2 p.2 = true ∧ eqD p.2 p.2 = true) → eqKV (keyS b) (keyS a) = true
  | [], _ => rfl
  | (x, d) :: a, h => by
    obtain ⟨h1, h2, h3⟩ := h _ List.mem_cons_self
    show ((match keyOf (D.str x) with | some q => (match lkD q (keyS b) with | some u => okEq d u && eqD d u | none => false) | none => false) && eqKV (keyS b) (keyS a)) = true
    have e : keyOf (D.str x) = some (Sum.inr x) := rfl
    simp only [e, lkD_S nd h1, h2, h3, Bool.and_self, eqKV_S nd fun p hp => h p (List.mem_cons_of_mem _ hp)]
theorem eqDic_perm {a b : List (Str × D)} (p : a.Perm b) (nd : (b.map (·.1)).Nodup) (h : ∀ q ∈ a, okEq q.2 q.2 = true ∧ eqD q.2 q.2 = true) : eqDic (keyS a) (keyS b) = true := by
  unfold eqDic
  have e : (keyS a).length = (keyS b).length := by unfold keyS; rw [List.length_map, List.length_map, p.length_eq]
  rw [decide_eq_true e, eqKV_S nd fun q hq => ⟨p.mem_iff.mp hq, h q hq⟩]
  rfl
theorem dNeA_dic {a b : List (D × D)} (h : eqDic a b = true) : dNeA (.dic a) (.dic b) = some (.bl false) := by show (if eqDic a b = true then _ else _) = _; rw [if_pos h]
/-! sorting -/
theorem filter_sort {α : Type} (k : α → List Int) (c : List Int) (l : List α) : (l.mergeSort fun p q => decide (k p ≤ k q)).filter (fun x => decide (k x = c)) = l.filter fun x => decide (k x = c) := by
  have tr : ∀ a b d : α, decide (k a ≤ k b) = true → decide (k b ≤ k d) = true → decide (k a ≤ k d) = true := fun a b d h1 h2 => by
    simp only [decide_eq_true_eq] at h1 h2 ⊢
    exact List.le_trans h1 h2
  have to : ∀ a b : α, (decide (k a ≤ k b) || decide (k b ≤ k a)) = true := fun a b => by
    rcases List.le_total (k a) (k b) with h | h <;> simp [h]
  have pw : (l.filter fun x => decide (k x = c)).Pairwise fun p q => decide (k p ≤ k q) = true := by
    rw [List.pairwise_iff_forall_sublist]
    intro a b hs
    have ha := hs.subset (List.mem_cons_self)
    have hb := hs.subset (List.mem_cons_of_mem _ (List.mem_cons_self))
    simp only [List.mem_filter, decide_eq_true_eq] at ha hb
    simp only [decide_eq_true_eq, ha.2, hb.2]
    exact List.le_refl _
  have sub := List.sublist_mergeSort tr to pw (List.filter_sublist (l := l))
  have sub2 := sub.filter (fun x => decide (k x = c))
  rw [List.filter_filter] at sub2
  have e0 : (l.filter fun a => decide (k a = c) && decide (k a = c)) = l.filter fun x => decide (k x = c) := by congr 1; funext a; simp
  rw [e0] at sub2
  refine (sub2.eq_of_length ?_).symm
  exact ((List.mergeSort_perm l _).filter _).length_eq.symm
/-- the first that passes, in the sorted list -/
theorem find_sort {α : Type} (k : α → List Int) (p : α → Bool) (l : List α) (c : List Int) (h1 : ∃ x ∈ l, p x = true ∧ k x = c) (h2 : ∀ x ∈ l, p x = true → c ≤ k x) :
    (l.mergeSort fun p q => decide (k p ≤ k q)).find? p = ((l.filter p).filter fun x => decide (k x = c)).head? := by
  have tr : ∀ a b d : α, decide (k a ≤ k b) = true → decide (k b ≤ k d) = true → decide (k a ≤ k d) = true := fun a b d h1 h2 => by
    simp only [decide_eq_true_eq] at h1 h2 ⊢
    exact List.le_trans h1 h2
  have to : ∀ a b : α, (decide (k a ≤ k b) || decide (k b ≤ k a)) = true := fun a b => by
    rcases List.le_total (k a) (k b) with h | h <;> simp [h]
  have so := List.pairwise_mergeSort (le := fun p q => decide (k p ≤ k q)) tr to l
  have me : ∀ x, x ∈ (l.mergeSort fun p q => decide (k p ≤ k q)) ↔ x ∈ l := fun x => List.mem_mergeSort
  rw [List.filter_filter]
  have e1 : (l.filter fun a => p a && decide (k a = c)) = ((l.mergeSort fun p q => decide (k p ≤ k q)).filter fun x => decide (k x = c)).filter p := by
    rw [filter_sort, List.filter_filter]
  have e2 : (l.filter fun a => decide (k a = c) && p a) = (l.filter fun a => p a && decide (k a = c)) := by congr 1; funext a; rw [Bool.and_comm]
  rw [show (l.filter fun a => decide (k a = c) && p a) = _ from e2.trans e1]
  generalize (l.mergeSort fun p q => decide (k p ≤ k q)) = S at so me
  have h1' : ∃ x ∈ S, p x = true ∧ k x = c := by obtain ⟨x, hx, h⟩ := h1; exact ⟨x, (me x).mpr hx, h⟩
  have h2' : ∀ x ∈ S, p x = true → c ≤ k x := fun x hx => h2 x ((me x).mp hx)
  clear me e1 e2 h1 h2
  induction S with
  | nil => obtain ⟨x, hx, _⟩ := h1'; simp at hx
  | cons y S ih =>
    obtain ⟨s1, s2⟩ := List.pairwise_cons.mp so
    by_cases hy : p y = true
    · have ky : k y = c := by
        obtain ⟨x, hx, px, kx⟩ := h1'
        have le1 := h2' y List.mem_cons_self hy
        rcases List.mem_cons.mp hx with z | z
        · rw [← z]; exact kx
        · have := s1 x z
          simp only [decide_eq_true_eq] at this
          rw [kx] at this
          exact List.le_antisymm this le1
      simp [List.find?_cons, hy, ky]
    · have hy' : p y = false := by simpa using hy
      rw [List.find?_cons, hy']
      have : ((y :: S).filter fun x => decide (k x = c)).filter p = (S.filter fun x => decide (k x = c)).filter p := by
        by_cases q : k y = c <;> simp [List.filter_cons, q, hy']
      rw [this]
      refine ih s2 ?_ fun x hx => h2' x (List.mem_cons_of_mem _ hx)
      obtain ⟨x, hx, px, kx⟩ := h1'
      rcases List.mem_cons.mp hx with z | z
      · rw [z] at px; exact absurd px hy
      · exact ⟨x, z, px, kx⟩
end FX

/-! PBfs: a search level by level, in plain Lean -/
namespace Bfs
open PySem
section
variable {σ : Type} [DecidableEq σ] (step : σ → Str → σ) (segs : List Str) (wanted : σ → Bool) (st0 : σ)
def ins (st : σ) (p : List Str) : List Str → List σ → List (σ × List Str) → List σ × List (σ × List Str)
  | [], S, L => (S, L)
  | x :: xs, S, L => if step st x ∈ S then ins st p xs S L else ins st p xs (S ++ [step st x]) (L ++ [(step st x, p ++ [x])])
def lev : List (σ × List Str) → List σ → List (σ × List Str) → Option (List Str) × List σ × List (σ × List Str)
  | [], S, L => (none, S, L)
  | (s, p) :: r, S, L => if wanted s = true then (some p, S, L) else lev r (ins step s p segs S L).1 (ins step s p segs S L).2
def run (p : List Str) : σ := p.foldl step st0
def Ov (p : List Str) : Prop := ∀ x ∈ p, x ∈ segs
theorem run_snoc (p : List Str) (x : Str) : run step st0 (p ++ [x]) = step (run step st0 p) x := by simp [run]
theorem Ov.snoc {segs : List Str} {p : List Str} {x : Str} (h : Ov segs p) (hx : x ∈ segs) : Ov segs (p ++ [x]) := fun y hy => by
  rcases List.mem_append.mp hy with z | z
  · exact h y z
  · rw [List.mem_singleton.mp z]; exact hx
theorem ins_spec (st : σ) (p : List Str) : ∀ (xs : List Str) (S : List σ) (L : List (σ × List Str)), ∃ N, (ins step st p xs S L) = (S ++ N.map (·.1), L ++ N) ∧ (∀ e ∈ N, ∃ x ∈ xs, e = (step st x, p ++ [x]) ∧ step st x ∉ S) ∧ (∀ x ∈ xs, step st x ∈ S ++ N.map (·.1)) ∧ N.length ≤ xs.length
  | [], S, L => ⟨[], by simp [ins], by simp, by simp, by simp⟩
  | x :: xs, S, L => by
    unfold ins
    by_cases h : step st x ∈ S
    · rw [if_pos h]
      obtain ⟨N, e, h1, h2, h3⟩ := ins_spec st p xs S L
      refine ⟨N, e, fun y hy => ?_, fun y hy => ?_, by simp only [List.length_cons]; omega⟩
      · obtain ⟨z, hz, q⟩ := h1 y hy
        exact ⟨z, List.mem_cons_of_mem _ hz, q⟩
      · rcases List.mem_cons.mp hy with z | z
        · rw [z]; exact List.mem_append_left _ h
        · exact h2 y z
    · rw [if_neg h]
      obtain ⟨N, e, h1, h2, h3⟩ := ins_spec st p xs (S ++ [step st x]) (L ++ [(step st x, p ++ [x])])
      refine ⟨(step st x, p ++ [x]) :: N, ?_, fun y hy => ?_, fun y hy => ?_, by simp only [List.length_cons]; omega⟩
      · rw [e]; simp
      · rcases List.mem_cons.mp hy with z | z
        · exact ⟨x, List.mem_cons_self, z, h⟩
        · obtain ⟨w, hw, q1, q2⟩ := h1 y z
          exact ⟨w, List.mem_cons_of_mem _ hw, q1, fun c => q2 (List.mem_append_left _ c)⟩
      · rcases List.mem_cons.mp hy with z | z
        · rw [z]; simp
        · have := h2 y z
          simpa using this
theorem lev_some {L0 : List (σ × List Str)} : ∀ {S : List σ} {L : List (σ × List Str)} {p : List Str}, (lev step segs wanted L0 S L).1 = some p → ∃ s, (s, p) ∈ L0 ∧ wanted s = true := by
  induction L0 with
  | nil => intro S L p h; simp [lev] at h
  | cons a r ih =>
    obtain ⟨s, q⟩ := a
    intro S L p h
    unfold lev at h
    by_cases c : wanted s = true
    · rw [if_pos c] at h
      cases h
      exact ⟨s, List.mem_cons_self, c⟩
    · rw [if_neg c] at h
      obtain ⟨t, ht, w⟩ := ih h
      exact ⟨t, List.mem_cons_of_mem _ ht, w⟩
theorem lev_len {L0 : List (σ × List Str)} : ∀ {S : List σ} {L : List (σ × List Str)}, ∃ N : List (σ × List Str), (lev step segs wanted L0 S L).2 = (S ++ N.map (·.1), L ++ N) ∧ N.length ≤ L0.length * segs.length ∧ (∀ e ∈ N, ∃ s p x, (s, p) ∈ L0 ∧ x ∈ segs ∧ e = (step s x, p ++ [x]) ∧ step s x ∉ S) := by
  induction L0 with
  | nil => intro S L; exact ⟨[], by simp [lev], by simp, by simp⟩
  | cons a r ih =>
    obtain ⟨s, q⟩ := a
    intro S L
    unfold lev
    by_cases c : wanted s = true
    · rw [if_pos c]
      exact ⟨[], by simp, by simp, by simp⟩
    · rw [if_neg c]
      obtain ⟨N1, e1, a1, a2, a3⟩ := ins_spec step s q segs S L
      rw [e1]
      obtain ⟨N2, e2, b1, b2⟩ := ih (S := S ++ N1.map (·.1)) (L := L ++ N1)
      refine ⟨N1 ++ N2, by rw [e2]; simp, ?_, fun e he => ?_⟩
      · rw [List.length_append, List.length_cons, Nat.add_mul]; omega
      · rcases List.mem_append.mp he with z | z
        · obtain ⟨x, hx, q1, q2⟩ := a1 e z
          exact ⟨s, q, x, List.mem_cons_self, hx, q1, q2⟩
        · obtain ⟨t, p, x, h1, h2, h3, h4⟩ := b2 e z
          exact ⟨t, p, x, List.mem_cons_of_mem _ h1, h2, h3, fun c => h4 (List.mem_append_left _ c)⟩
theorem lev_none {L0 : List (σ × List Str)} : ∀ {S : List σ} {L : List (σ × List Str)}, (lev step segs wanted L0 S L).1 = none → (∀ e ∈ L0, wanted e.1 = false) ∧ ∀ e ∈ L0, ∀ x ∈ segs, step e.1 x ∈ (lev step segs wanted L0 S L).2.1 := by
  induction L0 with
  | nil => intro S L h; exact ⟨by simp, by simp⟩
  | cons a r ih =>
    obtain ⟨s, q⟩ := a
    intro S L h
    unfold lev at h ⊢
    by_cases c : wanted s = true
    · rw [if_pos c] at h; cases h
    · rw [if_neg c] at h ⊢
      obtain ⟨i1, i2⟩ := ih h
      refine ⟨fun e he => ?_, fun e he x hx => ?_⟩
      · rcases List.mem_cons.mp he with z | z
        · rw [z]; simpa using c
        · exact i1 e z
      · rcases List.mem_cons.mp he with z | z
        · rw [z]
          obtain ⟨N1, e1, a1, a2, a3⟩ := ins_spec step s q segs S L
          obtain ⟨N2, e2, _⟩ := lev_len step segs wanted (L0 := r) (S := (ins step s q segs S L).1) (L := (ins step s q segs S L).2)
          rw [e2, e1]
          exact List.mem_append_left _ (a2 x hx)
        · exact i2 e z x hx
theorem ins_nd (st : σ) (p : List Str) : ∀ (xs : List Str) {S : List σ} {L : List (σ × List Str)}, S.Nodup → (ins step st p xs S L).1.Nodup
  | [], S, L, h => h
  | x :: xs, S, L, h => by
    unfold ins
    by_cases c : step st x ∈ S
    · rw [if_pos c]; exact ins_nd st p xs h
    · rw [if_neg c]
      refine ins_nd st p xs ?_
      rw [List.nodup_append]
      exact ⟨h, by simp, fun a ha b hb => by rw [List.mem_singleton.mp hb]; exact fun e => c (e ▸ ha)⟩
theorem lev_nd : ∀ (L0 : List (σ × List Str)) {S : List σ} {L : List (σ × List Str)}, S.Nodup → (lev step segs wanted L0 S L).2.1.Nodup
  | [], S, L, h => h
  | (s, p) :: r, S, L, h => by
    unfold lev
    by_cases c : wanted s = true
    · rw [if_pos c]; exact h
    · rw [if_neg c]; exact lev_nd r (ins_nd step s p segs h)
theorem len_subset : ∀ {l m : List σ}, l.Nodup → (∀ x ∈ l, x ∈ m) → l.length ≤ m.length
  | [], m, _, _ => Nat.zero_le _
  | x :: l, m, nd, sub => by
    obtain ⟨n1, n2⟩ := List.nodup_cons.mp nd
    have hx := sub x List.mem_cons_self
    have ih := len_subset (m := m.erase x) n2 (fun y hy => (List.mem_erase_of_ne (fun (e : y = x) => n1 (e ▸ hy))).mpr (sub y (List.mem_cons_of_mem _ hy)))
    rw [List.length_erase_of_mem hx] at ih
    have : 0 < m.length := List.length_pos_of_mem hx
    simp only [List.length_cons]
    omega
def gs (k : Nat) : Nat → Nat
  | 0 => 1
  | n + 1 => gs k n + k ^ (n + 1)
structure Inv (n : Nat) (S : List σ) (L : List (σ × List Str)) : Prop where
  a : ∀ e ∈ L, Ov segs e.2 ∧ e.2.length = n ∧ run step st0 e.2 = e.1
  b : ∀ s ∈ S, ∃ q, Ov segs q ∧ q.length ≤ n ∧ run step st0 q = s
  c : ∀ q, Ov segs q → q.length ≤ n → run step st0 q ∈ S
  d : ∀ q, Ov segs q → q.length ≤ n → (∃ q', Ov segs q' ∧ q'.length < n ∧ run step st0 q' = run step st0 q) ∨ ∃ p, (run step st0 q, p) ∈ L
  e : ∀ q, Ov segs q → q.length < n → wanted (run step st0 q) = false
  f : ∀ e ∈ L, ∀ q, Ov segs q → q.length < n → run step st0 q ≠ e.1
  z : L.length ≤ segs.length ^ n ∧ S.length ≤ gs segs.length n
/-- long paths have short fellows -/
def Short (M : Nat) : Prop := ∀ q, Ov segs q → M < q.length → ∃ q', Ov segs q' ∧ q'.length < q.length ∧ run step st0 q' = run step st0 q
variable {step segs wanted st0}
theorem Inv.start : Inv step segs wanted st0 0 [st0] [(st0, [])] where
  a := fun e he => by rw [List.mem_singleton.mp he]; exact ⟨fun _ h => (by cases h), rfl, rfl⟩
  b := fun s hs => ⟨[], fun _ h => (by cases h), Nat.le_refl _, (List.mem_singleton.mp hs).symm⟩
  c := fun q _ h => by
    have : q = [] := List.eq_nil_of_length_eq_zero (by omega)
    rw [this]; exact List.mem_singleton.mpr rfl
  d := fun q _ h => by
    have : q = [] := List.eq_nil_of_length_eq_zero (by omega)
    rw [this]; exact .inr ⟨[], List.mem_singleton.mpr rfl⟩
  e := fun q _ h => by omega
  f := fun e _ q _ h => by omega
  z := ⟨by simp, by simp [gs]⟩
theorem snoc_of {q : List Str} (h : q ≠ []) : ∃ p x, q = p ++ [x] := ⟨q.dropLast, q.getLast h, (List.dropLast_concat_getLast h).symm⟩
theorem Ov.init {p : List Str} {x : Str} (h : Ov segs (p ++ [x])) : Ov segs p ∧ x ∈ segs := ⟨fun y hy => h y (List.mem_append_left _ hy), h x (by simp)⟩
theorem Inv.next {n : Nat} {S S' : List σ} {L L' : List (σ × List Str)} (I : Inv step segs wanted st0 n S L) (h : lev step segs wanted L S [] = (none, S', L')) : Inv step segs wanted st0 (n + 1) S' L' := by
  obtain ⟨h1, h2⟩ := lev_none step segs wanted (L0 := L) (S := S) (L := []) (by rw [h])
  obtain ⟨N, e, l, hN⟩ := lev_len step segs wanted (L0 := L) (S := S) (L := [])
  rw [h] at e h2
  have e1 : S' = S ++ N.map (·.1) := congrArg Prod.fst e
  have e2 : L' = N := by have := congrArg Prod.snd e; simpa using this
  subst e2
  have sh : ∀ q, Ov segs q → q.length ≤ n → wanted (run step st0 q) = false := fun q hq hl => by
    rcases I.d q hq hl with ⟨q', a1, a2, a3⟩ | ⟨p, hp⟩
    · rw [← a3]; exact I.e q' a1 a2
    · exact h1 _ hp
  -- one more segment
  have lng : ∀ q, Ov segs q → q.length = n + 1 → run step st0 q ∈ S ∨ ∃ s p x, (s, p) ∈ L ∧ x ∈ segs ∧ run step st0 q = step s x := fun q hq hl => by
    obtain ⟨q0, x, rfl⟩ := snoc_of (q := q) (fun z => by rw [z] at hl; simp at hl)
    obtain ⟨o1, o2⟩ := Ov.init hq
    have l0 : q0.length = n := by simpa using hl
    rw [run_snoc]
    rcases I.d q0 o1 (by omega) with ⟨q', a1, a2, a3⟩ | ⟨p, hp⟩
    · left
      rw [← a3, ← run_snoc step st0]
      exact I.c _ (a1.snoc o2) (by simp; omega)
    · exact .inr ⟨_, p, x, hp, o2, rfl⟩
  refine ⟨fun y hy => ?_, fun s hs => ?_, fun q hq hl => ?_, fun q hq hl => ?_, fun q hq hl => sh q hq (by omega), fun y hy q hq hl => ?_, ?_, ?_⟩
  · obtain ⟨s, p, x, g1, g2, g3, _⟩ := hN y hy
    obtain ⟨b1, b2, b3⟩ := I.a _ g1
    subst g3
    exact ⟨b1.snoc g2, by simp [b2], by rw [run_snoc, b3]⟩
  · rw [e1] at hs
    rcases List.mem_append.mp hs with z | z
    · obtain ⟨q, q1, q2, q3⟩ := I.b s z
      exact ⟨q, q1, by omega, q3⟩
    · obtain ⟨y, hy, rfl⟩ := List.mem_map.mp z
      obtain ⟨s, p, x, g1, g2, g3, _⟩ := hN y hy
      obtain ⟨b1, b2, b3⟩ := I.a _ g1
      subst g3
      exact ⟨p ++ [x], b1.snoc g2, by simp [b2], by rw [run_snoc, b3]⟩
  · by_cases hl' : q.length ≤ n
    · rw [e1]; exact List.mem_append_left _ (I.c q hq hl')
    · rcases lng q hq (by omega) with z | ⟨s, p, x, g1, g2, g3⟩
      · rw [e1]; exact List.mem_append_left _ z
      · rw [g3]; exact h2 _ g1 x g2
  · by_cases hl' : q.length ≤ n
    · exact .inl ⟨q, hq, by omega, rfl⟩
    · rcases lng q hq (by omega) with z | ⟨s, p, x, g1, g2, g3⟩
      · obtain ⟨q', q1, q2, q3⟩ := I.b _ z
        exact .inl ⟨q', q1, by omega, q3⟩
      · have := h2 _ g1 x g2
        rw [show ((none : Option (List Str)), S', L').2.1 = S' from rfl, e1] at this
        rcases List.mem_append.mp this with z | z
        · rw [← g3] at z
          obtain ⟨q', q1, q2, q3⟩ := I.b _ z
          exact .inl ⟨q', q1, by omega, q3⟩
        · obtain ⟨y, hy, hy2⟩ := List.mem_map.mp z
          refine .inr ⟨y.2, ?_⟩
          rw [g3]
          have hy2 : y.1 = step s x := hy2
          rw [← hy2]
          exact hy
  · obtain ⟨s, p, x, g1, g2, g3, g4⟩ := hN y hy
    intro z
    subst g3
    exact g4 (by rw [← show run step st0 q = step s x from z]; exact I.c q hq (by omega))
  · refine Nat.le_trans l ?_
    rw [Nat.pow_succ]
    exact Nat.mul_le_mul_right _ I.z.1
  · rw [e1, List.length_append, List.length_map]
    have := I.z.2
    have m : L.length * segs.length ≤ segs.length ^ (n + 1) := by rw [Nat.pow_succ]; exact Nat.mul_le_mul_right _ I.z.1
    show S.length + L'.length ≤ gs segs.length n + segs.length ^ (n + 1)
    omega
theorem Inv.found {n : Nat} {S : List σ} {L : List (σ × List Str)} {p : List Str} (I : Inv step segs wanted st0 n S L) (h : (lev step segs wanted L S []).1 = some p) : Ov segs p ∧ wanted (run step st0 p) = true ∧ ∀ q, Ov segs q → wanted (run step st0 q) = true → p.length ≤ q.length := by
  obtain ⟨s, hs, w⟩ := lev_some step segs wanted h
  obtain ⟨a1, a2, a3⟩ := I.a _ hs
  refine ⟨a1, by rw [a3]; exact w, fun q hq hw => ?_⟩
  by_cases c : q.length < n
  · have := I.e q hq c; rw [this] at hw; cases hw
  · have a2 : p.length = n := a2
    omega
theorem Inv.done {n : Nat} {S : List σ} (I : Inv step segs wanted st0 n S []) : ∀ q, Ov segs q → wanted (run step st0 q) = false := by
  have key : ∀ (m : Nat) (q : List Str), q.length = m → Ov segs q → ∃ q', Ov segs q' ∧ q'.length < n ∧ run step st0 q' = run step st0 q := by
    intro m
    induction m with
    | zero =>
      intro q hl hq
      rcases I.d q hq (by omega) with z | ⟨p, hp⟩
      · exact z
      · cases hp
    | succ m ih =>
      intro q hl hq
      obtain ⟨q0, x, rfl⟩ := snoc_of (q := q) (fun z => by rw [z] at hl; simp at hl)
      obtain ⟨o1, o2⟩ := Ov.init hq
      obtain ⟨q', a1, a2, a3⟩ := ih q0 (by simpa using hl) o1
      rcases I.d (q' ++ [x]) (a1.snoc o2) (by simp; omega) with ⟨r, r1, r2, r3⟩ | ⟨p, hp⟩
      · exact ⟨r, r1, r2, by rw [r3, run_snoc, run_snoc, a3]⟩
      · cases hp
  intro q hq
  obtain ⟨q', a1, a2, a3⟩ := key q.length q rfl hq
  rw [← a3]
  exact I.e q' a1 a2
theorem Short.le {M : Nat} (T : Short step segs st0 M) : ∀ (m : Nat) (q : List Str), q.length = m → Ov segs q → ∃ q', Ov segs q' ∧ q'.length ≤ M ∧ run step st0 q' = run step st0 q := by
  intro m
  induction m using Nat.strongRecOn with
  | ind m ih =>
    intro q hl hq
    by_cases c : M < q.length
    · obtain ⟨q', a1, a2, a3⟩ := T q hq c
      obtain ⟨r, r1, r2, r3⟩ := ih q'.length (by omega) q' rfl a1
      exact ⟨r, r1, r2, r3.trans a3⟩
    · exact ⟨q, hq, by omega, rfl⟩
theorem Inv.stop {n M : Nat} {S : List σ} {L : List (σ × List Str)} (I : Inv step segs wanted st0 n S L) (T : Short step segs st0 M) (h : M < n) : L = [] := by
  cases L with
  | nil => rfl
  | cons y L =>
    obtain ⟨a1, a2, a3⟩ := I.a y List.mem_cons_self
    obtain ⟨q', q1, q2, q3⟩ := T y.2 a1 (by omega)
    exact absurd (q3.trans a3) (I.f y List.mem_cons_self q' q1 (by omega))
theorem gs_mono (k : Nat) : ∀ {n m : Nat}, n ≤ m → gs k n ≤ gs k m
  | n, 0, h => by have : n = 0 := by omega
                  rw [this]; exact Nat.le_refl _
  | n, m + 1, h => by
    by_cases c : n = m + 1
    · rw [c]; exact Nat.le_refl _
    · exact Nat.le_trans (gs_mono k (n := n) (m := m) (by omega)) (Nat.le_add_right _ _)
theorem Inv.reach {n : Nat} {S : List σ} {L : List (σ × List Str)} (I : Inv step segs wanted st0 n S L) : ∀ s ∈ (lev step segs wanted L S []).2.1, ∃ q, Ov segs q ∧ q.length ≤ n + 1 ∧ run step st0 q = s := by
  obtain ⟨N, e, l, hN⟩ := lev_len step segs wanted (L0 := L) (S := S) (L := [])
  rw [e]
  intro s hs
  rcases List.mem_append.mp hs with z | z
  · obtain ⟨q, a, b, c⟩ := I.b s z
    exact ⟨q, a, by omega, c⟩
  · obtain ⟨y, hy, rfl⟩ := List.mem_map.mp z
    obtain ⟨t, p, x, g1, g2, g3, g4⟩ := hN y hy
    obtain ⟨a1, a2, a3⟩ := I.a _ g1
    refine ⟨p ++ [x], a1.snoc g2, ?_, ?_⟩
    · have a2 : p.length = n := a2
      simp [a2]
    · rw [run_snoc, a3, g3]
/-- what has been seen stays few -/
theorem Inv.few {n M : Nat} {S : List σ} {L : List (σ × List Str)} (I : Inv step segs wanted st0 n S L) (T : Short step segs st0 M) (hn : n ≤ M) : (lev step segs wanted L S []).2.1.length ≤ gs segs.length M := by
  obtain ⟨N, e, l, hN⟩ := lev_len step segs wanted (L0 := L) (S := S) (L := [])
  rw [e]
  show (S ++ N.map (·.1)).length ≤ _
  rw [List.length_append, List.length_map]
  by_cases c : n < M
  · have := I.z.2
    have m : L.length * segs.length ≤ segs.length ^ (n + 1) := by rw [Nat.pow_succ]; exact Nat.mul_le_mul_right _ I.z.1
    have g : gs segs.length (n + 1) = gs segs.length n + segs.length ^ (n + 1) := rfl
    have := gs_mono segs.length (n := n + 1) (m := M) (by omega)
    omega
  · have hN0 : N = [] := by
      cases N with
      | nil => rfl
      | cons y N =>
        obtain ⟨s, p, x, g1, g2, g3, g4⟩ := hN y List.mem_cons_self
        obtain ⟨a1, a2, a3⟩ := I.a _ g1
        obtain ⟨q', q1, q2, q3⟩ := T (p ++ [x]) (a1.snoc g2) (by have a2 : p.length = n := a2; simp; omega)
        refine absurd (I.c q' q1 (by have a2 : p.length = n := a2; simp at q2; omega)) ?_
        rw [q3, run_snoc, a3]
        exact g4
    subst hN0
    have c2 : n = M := by omega
    rw [← c2]; have := I.z.2; simpa using this
end
end Bfs

namespace Law
open PySem L2 FX
set_option maxHeartbeats 4000000
def errN : List Str := ["InvalidTable", "InvalidPath", "UnknownRoute", "InvalidValues", "InvalidWords", "InvalidSize", "InvalidPlace", "InvalidRoute", "LastRoute", "NothingToUndo", "InvalidFormat"]
def tabW (i : Nat) : D := .tup [.str "raised", .int (i : Nat)]
def asgComp : Stmt → Scope
  | .Assign _ (.ListComp _ _ sc _) _ => sc
  | _ => defScope (.Pass ⟨0, 0, 0, 0⟩)
def relS (sc o : Scope) : Scope := relabel sc { scope := o, locals := 0, globals := 0, cells := [], qual := "", func := none, code := .none, frame := none, builtins := 0 }
def topS (i : Nat) : Stmt := PySem.Challenge.pw_pathroutes_k03_whole_path_of.main.body.getD i (.Pass ⟨0, 0, 0, 0⟩)
def gc_LETTERS : D := D.str "abcdefghijklmnopqrstuvwxyz"
def gc_DIGITS : D := D.str "0123456789"
def gc_KINDS : D := D.tup [.str "any", .str "letters", .str "number", .str "tail"]
def gc_PATH : D := D.int 8
def gc_PARTS : D := D.int 5
def gc_ROUTES : D := D.int 6
/-! _law_draw -/
theorem sc__law_draw : FnScope ["script", "town", "many", "at", "mixed", "one"] ["script", "town", "many"] (defScope (topS 39)) := ⟨rfl, rfl, rfl, by decide +kernel, rfl, by decide +kernel, by decide +kernel⟩
def b__law_draw : M Out :=
  (mSeq (mIf (mB (m2 dGt (mSub (mVar 1) (mC (.int 1))) (mC (.int 0)))) (mSeq (mSet 5 (m2 dMod (mSub (mVar 1) (mC (.int 1))) (mVar 2)))
  (mSeq (mSetC (mVar 1) (mC (.int 1)) (m2 dFdiv (mSub (mVar 1) (mC (.int 1))) (mVar 2)))
  (mRet (mVar 5)))) (mpure .nx))
  (mSeq (mSet 3 (mSub (mVar 1) (mC (.int 0))))
  (mSeq (mAugC (mVar 1) (mC (.int 0)) (mC (.int 1)))
  (mSeq (mIf (mB (m2 dEqA (mVar 0) (mFz (mLst mNil)))) (mRet (m2 dMod (mVar 3) (mVar 2))) (mpure .nx))
  (mSeq (mIf (mAnd (mB (m2 dLt (mVar 3) (mCall dLen (mCons (mVar 0) mNil)))) (mB (m2 dGe (mSub (mVar 0) (mVar 3)) (m2 dPow (mC (.int 10)) (mC (.int 18)))))) (mSeq (mSetC (mVar 1) (mC (.int 1)) (m2 dMod (m2 dFdiv (mSub (mVar 0) (mVar 3)) (mVar 2)) (m2 dMulW (m2 dPow (mC (.int 10)) (mC (.int 60))) (m2 dPow (mC (.int 10)) (mC (.int 60))))))
  (mRet (m2 dMod (mSub (mVar 0) (mVar 3)) (mVar 2)))) (mpure .nx))
  (mSeq (mSet 4 (m2 dMod (m2 dPlus (m2 dPlus (m2 dMul (mSub (mVar 0) (m2 dMod (mVar 3) (mCall dLen (mCons (mVar 0) mNil)))) (mC (.int 1103515245))) (m2 dMul (mC (.int 7919)) (mVar 3))) (mC (.int 12345))) (mC (.int 2147483647))))
  (mRet (m2 dMod (m2 dMod (m2 dMod (m2 dPow (mVar 4) (mC (.int 5))) (mC (.int 2147483647))) (mC (.int 999983))) (mVar 2)))))))))
def F__law_draw : Fn := mkF 6 b__law_draw
theorem ok__law_draw {P : Program} {w : World} {K : PySem.W.Frag} {mg : Str → Option Value} {base : Heap} {f : Addr} {fd : FuncData} (F : Fun K "_law_draw" "_law_draw" (topS 39) f fd) (m_len : mg "len" = none) :
    FnOk P w K mg base (L2N.CX P w) 1 f fd ["script", "town", "many"] (spF ⟨K, mg, P, w⟩ 3 F__law_draw) :=
  fn_ok (j := 0) F sc__law_draw fun cdv A outer s H E hr tk hp =>
    (sss_cons (ss_if (st_cmp op_gt od_gt (se_sub (hu_of hr) (se_var (i := 1)) se_int (fun _ _ => rfl)) se_int (nomark _)) (sss_cons (ss_set (i := 5) sc__law_draw.nd (se_op op_mod od_mod (se_sub (hu_of hr) (se_var (i := 1)) se_int (fun _ _ => rfl)) (se_var (i := 2))))
    (sss_cons (ss_setC (se_var (i := 1)) se_int (se_op op_fdiv od_fdiv (se_sub (hu_of hr) (se_var (i := 1)) se_int (fun _ _ => rfl)) (se_var (i := 2))))
    (sss_one (ss_ret (se_var (i := 5)))))) sss_nil)
    (sss_cons (ss_set (i := 3) sc__law_draw.nd (se_sub (hu_of hr) (se_var (i := 1)) se_int (fun _ _ => rfl)))
    (sss_cons (ss_augC (se_var (i := 1)) se_int se_int)
    (sss_cons (ss_if (st_cmp (op_eqA hr) od_eqA (se_var (i := 0)) (se_ofN (sn_list sa_nil)) (nomark _)) (sss_one (ss_ret (se_op op_mod od_mod (se_var (i := 3)) (se_var (i := 2))))) sss_nil)
    (sss_cons (ss_if (st_w (sw_and (st_cmp op_lt od_lt (se_var (i := 3)) (se_callB call_len cd_len m_len (by decide +kernel) (sa_cons (se_var (i := 0)) sa_nil)) (nomark _)) (sw_and1 (st_cmp op_ge od_ge (se_sub (hu_of hr) (se_var (i := 0)) (se_var (i := 3)) (fun _ _ => rfl)) (se_op op_pow od_pow se_int se_int) (nomark _))))) (sss_cons (ss_setC (se_var (i := 1)) se_int (se_op op_mod od_mod (se_op op_fdiv od_fdiv (se_sub (hu_of hr) (se_var (i := 0)) (se_var (i := 3)) (fun _ _ => rfl)) (se_var (i := 2))) (se_op op_mulW od_mulW (se_op op_pow od_pow se_int se_int) (se_op op_pow od_pow se_int se_int))))
    (sss_one (ss_ret (se_op op_mod od_mod (se_sub (hu_of hr) (se_var (i := 0)) (se_var (i := 3)) (fun _ _ => rfl)) (se_var (i := 2)))))) sss_nil)
    (sss_cons (ss_set (i := 4) sc__law_draw.nd (se_op op_mod od_mod (se_plus (se_plus (se_op op_mul od_mul (se_sub (hu_of hr) (se_var (i := 0)) (se_op op_mod od_mod (se_var (i := 3)) (se_callB call_len cd_len m_len (by decide +kernel) (sa_cons (se_var (i := 0)) sa_nil))) (fun _ _ => rfl)) se_int) (se_op op_mul od_mul se_int (se_var (i := 3)))) se_int) se_int))
    (sss_one (ss_ret (se_op op_mod od_mod (se_op op_mod od_mod (se_op op_mod od_mod (se_op op_pow od_pow (se_var (i := 4)) se_int) se_int) se_int) (se_var (i := 2)))))))))))
/-! _law_pick -/
theorem sc__law_pick : FnScope ["script", "town", "some"] ["script", "town", "some"] (defScope (topS 40)) := ⟨rfl, rfl, rfl, by decide +kernel, rfl, by decide +kernel, by decide +kernel⟩
def b__law_pick : M Out :=
  (mRet (mSub (mVar 2) (mFn 3 F__law_draw (mCons (mVar 0) (mCons (mVar 1) (mCons (mCall dLen (mCons (mVar 2) mNil)) mNil))))))
def F__law_pick : Fn := mkF 3 b__law_pick
theorem ok__law_pick {P : Program} {w : World} {K : PySem.W.Frag} {mg : Str → Option Value} {base : Heap} {f : Addr} {fd : FuncData} (F : Fun K "_law_pick" "_law_pick" (topS 40) f fd) (m_len : mg "len" = none) (c__law_draw : Cal P w K mg base "_law_draw" 1 3 F__law_draw) :
    FnOk P w K mg base (L2N.CX P w) 2 f fd ["script", "town", "some"] (spF ⟨K, mg, P, w⟩ 3 F__law_pick) :=
  fn_ok (j := 1) F sc__law_pick fun cdv A outer s H E hr tk hp =>
    (sss_one (ss_ret (se_sub (hu_of hr) (se_var (i := 2)) (se_call c__law_draw (hr.mono (by decide)) tk (sa_cons (se_var (i := 0)) (sa_cons (se_var (i := 1)) (sa_cons (se_callB call_len cd_len m_len (by decide +kernel) (sa_cons (se_var (i := 2)) sa_nil)) sa_nil)))) (fun _ _ => rfl))))
/-! _law_parts -/
theorem sc__law_parts : FnScope ["script", "town", "k", "parts", "names"] ["script", "town"] (defScope (topS 41)) := ⟨rfl, rfl, rfl, by decide +kernel, rfl, by decide +kernel, by decide +kernel⟩
def b__law_parts : M Out :=
  (mSeq (mParNN 3 4 (mLst mNil) (mLst (mCons (mC (.str "u")) (mCons (mC (.str "vw")) (mCons (mC (.str "x")) (mCons (mC (.str "yz")) mNil))))))
  (mSeq (mFor (mRange (mFn 3 F__law_draw (mCons (mVar 0) (mCons (mVar 1) (mCons (mC (.int 4)) mNil))))) (gV 2) (mIf (mB (m2 dEqA (mFn 3 F__law_draw (mCons (mVar 0) (mCons (mVar 1) (mCons (mC (.int 2)) mNil)))) (mC (.int 0)))) (mDrop (mApp 3 (mFn 3 F__law_pick (mCons (mVar 0) (mCons (mVar 1) (mCons (mFz (mLst (mCons (mC (.str "a")) (mCons (mC (.str "b")) (mCons (mC (.str "1")) (mCons (mC (.str "a1")) mNil)))))) mNil)))))) (mDrop (mApp 3 (mTup (mCons (mFn 3 F__law_pick (mCons (mVar 0) (mCons (mVar 1) (mCons (mFz (mLst (mCons (mC (.str "any")) (mCons (mC (.str "any")) (mCons (mC (.str "letters")) (mCons (mC (.str "number")) mNil)))))) mNil)))) (mCons (mPop 4) mNil)))))))
  (mSeq (mIf (mB (m2 dEqA (mFn 3 F__law_draw (mCons (mVar 0) (mCons (mVar 1) (mCons (mC (.int 4)) mNil)))) (mC (.int 0)))) (mDrop (mApp 3 (mTup (mCons (mC (.str "tail")) (mCons (mPop 4) mNil))))) (mpure .nx))
  (mRet (mCall dTuple (mCons (mTake 3) mNil))))))
def F__law_parts : Fn := mkF 5 b__law_parts
theorem ok__law_parts {P : Program} {w : World} {K : PySem.W.Frag} {mg : Str → Option Value} {base : Heap} {f : Addr} {fd : FuncData} (F : Fun K "_law_parts" "_law_parts" (topS 41) f fd) (m_range : mg "range" = none) (m_tuple : mg "tuple" = none) (c__law_draw : Cal P w K mg base "_law_draw" 1 3 F__law_draw) (c__law_pick : Cal P w K mg base "_law_pick" 2 3 F__law_pick) :
    FnOk P w K mg base (L2N.CX P w) 3 f fd ["script", "town"] (spF ⟨K, mg, P, w⟩ 2 F__law_parts) :=
  fn_ok (j := 2) F sc__law_parts fun cdv A outer s H E hr tk hp =>
    (sss_cons (ss_parNN (i := 3) (j := 4) sc__law_parts.nd (sn_list sa_nil) (sn_list (sa_cons se_str (sa_cons se_str (sa_cons se_str (sa_cons se_str sa_nil))))))
    (sss_cons (ss_for hp (si_range (se_call c__law_draw (hr.mono (by decide)) tk (sa_cons (se_var (i := 0)) (sa_cons (se_var (i := 1)) (sa_cons se_int sa_nil)))) m_range) (sg_name (i := 2) sc__law_parts.nd) (sss_one (ss_if (st_cmp (op_eqA hr) od_eqA (se_call c__law_draw (hr.mono (by decide)) tk (sa_cons (se_var (i := 0)) (sa_cons (se_var (i := 1)) (sa_cons se_int sa_nil)))) se_int (nomark _)) (sss_one (ss_expr (se_append (i := 3) (se_call c__law_pick (hr.mono (by decide)) tk (sa_cons (se_var (i := 0)) (sa_cons (se_var (i := 1)) (sa_cons (se_ofN (sn_list (sa_cons se_str (sa_cons se_str (sa_cons se_str (sa_cons se_str sa_nil)))))) sa_nil))))))) (sss_one (ss_expr (se_append (i := 3) (se_tup (sa_cons (se_call c__law_pick (hr.mono (by decide)) tk (sa_cons (se_var (i := 0)) (sa_cons (se_var (i := 1)) (sa_cons (se_ofN (sn_list (sa_cons se_str (sa_cons se_str (sa_cons se_str (sa_cons se_str sa_nil)))))) sa_nil)))) (sa_cons (se_pop (i := 4)) sa_nil)))))))))
    (sss_cons (ss_if (st_cmp (op_eqA hr) od_eqA (se_call c__law_draw (hr.mono (by decide)) tk (sa_cons (se_var (i := 0)) (sa_cons (se_var (i := 1)) (sa_cons se_int sa_nil)))) se_int (nomark _)) (sss_one (ss_expr (se_append (i := 3) (se_tup (sa_cons se_str (sa_cons (se_pop (i := 4)) sa_nil)))))) sss_nil)
    (sss_one (ss_ret (se_callTy call_tuple_of cd_tuple m_tuple (by decide +kernel) (sa_cons (se_take (i := 3)) sa_nil)))))))
/-! _law_table -/
theorem sc__law_table : FnScope ["script", "town", "most", "routes", "title"] ["script", "town", "most"] (defScope (topS 42)) := ⟨rfl, rfl, rfl, by decide +kernel, rfl, by decide +kernel, by decide +kernel⟩
def b__law_table : M Out :=
  (mSeq (mSetN 3 (mLst mNil))
  (mSeq (mFor (mItems (mSl (mFz (mLst (mCons (mC (.str "p")) (mCons (mC (.str "qr")) (mCons (mC (.str "s")) (mCons (mC (.str "t")) (mCons (mC (.str "last")) mNil))))))) mNoPart (mPart (m2 dPlus (mC (.int 1)) (mFn 3 F__law_draw (mCons (mVar 0) (mCons (mVar 1) (mCons (mVar 2) mNil)))))))) (gV 4) (mDrop (mApp 3 (mTup (mCons (mVar 4) (mCons (mFn 2 F__law_parts (mCons (mVar 0) (mCons (mVar 1) mNil))) mNil))))))
  (mRet (mTup (mCons (mFn 3 F__law_pick (mCons (mVar 0) (mCons (mVar 1) (mCons (mFz (mLst (mCons (mC (.str "order")) (mCons (mC (.str "nearest")) mNil)))) mNil)))) (mCons (mCall dTuple (mCons (mTake 3) mNil)) mNil))))))
def F__law_table : Fn := mkF 5 b__law_table
theorem ok__law_table {P : Program} {w : World} {K : PySem.W.Frag} {mg : Str → Option Value} {base : Heap} {f : Addr} {fd : FuncData} (F : Fun K "_law_table" "_law_table" (topS 42) f fd) (m_tuple : mg "tuple" = none) (c__law_draw : Cal P w K mg base "_law_draw" 1 3 F__law_draw) (c__law_parts : Cal P w K mg base "_law_parts" 3 2 F__law_parts) (c__law_pick : Cal P w K mg base "_law_pick" 2 3 F__law_pick) :
    FnOk P w K mg base (L2N.CX P w) 4 f fd ["script", "town", "most"] (spF ⟨K, mg, P, w⟩ 3 F__law_table) :=
  fn_ok (j := 3) F sc__law_table fun cdv A outer s H E hr tk hp =>
    (sss_cons (ss_setN (i := 3) sc__law_table.nd (sn_list sa_nil))
    (sss_cons (ss_for hp (si_any (se_slice (se_ofN (sn_list (sa_cons se_str (sa_cons se_str (sa_cons se_str (sa_cons se_str (sa_cons se_str sa_nil))))))) so_none (so_some (se_plus se_int (se_call c__law_draw (hr.mono (by decide)) tk (sa_cons (se_var (i := 0)) (sa_cons (se_var (i := 1)) (sa_cons (se_var (i := 2)) sa_nil)))))))) (sg_name (i := 4) sc__law_table.nd) (sss_one (ss_expr (se_append (i := 3) (se_tup (sa_cons (se_var (i := 4)) (sa_cons (se_call c__law_parts (hr.mono (by decide)) tk (sa_cons (se_var (i := 0)) (sa_cons (se_var (i := 1)) sa_nil))) sa_nil)))))))
    (sss_one (ss_ret (se_tup (sa_cons (se_call c__law_pick (hr.mono (by decide)) tk (sa_cons (se_var (i := 0)) (sa_cons (se_var (i := 1)) (sa_cons (se_ofN (sn_list (sa_cons se_str (sa_cons se_str sa_nil)))) sa_nil)))) (sa_cons (se_callTy call_tuple_of cd_tuple m_tuple (by decide +kernel) (sa_cons (se_take (i := 3)) sa_nil)) sa_nil)))))))
/-! _law_given -/
theorem sc__law_given : FnScope ["script", "town", "parts", "part", "found", "path", "many", "words", "k"] ["script", "town", "parts"] (defScope (topS 48)) := ⟨rfl, rfl, rfl, by decide +kernel, rfl, by decide +kernel, by decide +kernel⟩
def b__law_given : M Out :=
  (mSeq (mParNV 4 5 mDic0 (mTup mNil))
  (mSeq (mFor (mItems (mVar 2)) (gV 3) (mIf (mB (m1 (dIsi (fun t => t == "str")) (mVar 3))) (mSet 5 (m2 dPlus (mVar 5) (mTup (mCons (mVar 3) mNil)))) (mIf (mB (m2 dEqA (mSub (mVar 3) (mC (.int 0))) (mC (.str "tail")))) (mSeq (mSet 6 (mFn 3 F__law_draw (mCons (mVar 0) (mCons (mVar 1) (mCons (mC (.int 5)) mNil)))))
  (mSeq (mDPut 4 (mSub (mVar 3) (mC (.int 1))) (mCall dTuple (mCons (mFz (mComp (mRange (mVar 6)) [8] (gV 8) (mpure true) (mFn0 3 F__law_pick (mCons (mVar 0) (mCons (mVar 1) (mCons (mFz (mLst (mCons (mC (.str "a")) (mCons (mC (.str "1")) (mCons (mC (.str "q9")) mNil))))) mNil)))))) mNil)))
  (mSet 5 (m2 dPlus (mVar 5) (mDGetO 4 (mSub (mVar 3) (mC (.int 1)))))))) (mSeq (mSet 7 (mSub (mFz (mDisp (((mC (.str "letters")), (mFz (mLst (mCons (mC (.str "a")) (mCons (mC (.str "b")) (mCons (mC (.str "zz")) mNil)))))) :: (((mC (.str "number")), (mFz (mLst (mCons (mC (.str "1")) (mCons (mC (.str "07")) mNil))))) :: (((mC (.str "any")), (mFz (mLst (mCons (mC (.str "a")) (mCons (mC (.str "1")) (mCons (mC (.str "a1")) (mCons (mC (.str "zz")) (mCons (mC (.str "q9")) mNil)))))))) :: []))))) (mSub (mVar 3) (mC (.int 0)))))
  (mSeq (mDPut 4 (mSub (mVar 3) (mC (.int 1))) (mFn 3 F__law_pick (mCons (mVar 0) (mCons (mVar 1) (mCons (mVar 7) mNil)))))
  (mSet 5 (m2 dPlus (mVar 5) (mTup (mCons (mDGetO 4 (mSub (mVar 3) (mC (.int 1)))) mNil)))))))))
  (mRet (mTup (mCons (mTake 4) (mCons (mVar 5) mNil))))))
def F__law_given : Fn := mkF 9 b__law_given
theorem ok__law_given {P : Program} {w : World} {K : PySem.W.Frag} {mg : Str → Option Value} {base : Heap} {f : Addr} {fd : FuncData} (F : Fun K "_law_given" "_law_given" (topS 48) f fd) (m_isinstance : mg "isinstance" = none) (m_str : mg "str" = none) (m_range : mg "range" = none) (m_tuple : mg "tuple" = none) (c__law_draw : Cal P w K mg base "_law_draw" 1 3 F__law_draw) (c__law_pick : Cal P w K mg base "_law_pick" 2 3 F__law_pick) :
    FnOk P w K mg base (L2N.CX P w) 3 f fd ["script", "town", "parts"] (spF ⟨K, mg, P, w⟩ 3 F__law_given) :=
  fn_ok (j := 2) F sc__law_given fun cdv A outer s H E hr tk hp =>
    (sss_cons (ss_parNV (i := 4) (j := 5) sc__law_given.nd sn_dic0 (se_tup sa_nil))
    (sss_cons (ss_for hp (si_any (se_var (i := 2))) (sg_name (i := 3) sc__law_given.nd) (sss_one (ss_if (st_val (se_isi isi_str (se_var (i := 3)) m_isinstance m_str (by decide +kernel))) (sss_one (ss_set (i := 5) sc__law_given.nd (se_plus (se_var (i := 5)) (se_tup (sa_cons (se_var (i := 3)) sa_nil))))) (sss_one (ss_if (st_cmp (op_eqA hr) od_eqA (se_sub (hu_of hr) (se_var (i := 3)) se_int (fun _ _ => rfl)) se_str (nomark _)) (sss_cons (ss_set (i := 6) sc__law_given.nd (se_call c__law_draw (hr.mono (by decide)) tk (sa_cons (se_var (i := 0)) (sa_cons (se_var (i := 1)) (sa_cons se_int sa_nil)))))
    (sss_cons (ss_dput (i := 4) (hu_of hr) (se_sub (hu_of hr) (se_var (i := 3)) se_int (fun _ _ => rfl)) (se_callTy call_tuple_of cd_tuple m_tuple (by decide +kernel) (sa_cons (se_ofN (sn_lc (own := [("k", 8)]) sc__law_given.nd (si_range (se_var (i := 6)) m_range) (blkOk_by (N := ["script", "town", "parts", "part", "found", "path", "many", "words", "k"]) (sc := defScope (topS 48)) (by decide +kernel)) (fun _ _ _ _ _ => (sg_name (i := 8) sc__law_given.nd)) (fun _ _ _ _ _ => sts_nil) (fun _ _ _ _ _ => (se_call0 c__law_pick (hr.mono (by decide)) (sa_cons (se_var (i := 0)) (sa_cons (se_var (i := 1)) (sa_cons (se_ofN (sn_list (sa_cons se_str (sa_cons se_str (sa_cons se_str sa_nil))))) sa_nil))))) (by decide))) sa_nil)))
    (sss_one (ss_set (i := 5) sc__law_given.nd (se_plus (se_var (i := 5)) (se_dgetO (i := 4) (hu_of hr) (se_sub (hu_of hr) (se_var (i := 3)) se_int (fun _ _ => rfl)) (fun _ _ => rfl))))))) (sss_cons (ss_set (i := 7) sc__law_given.nd (se_sub (hu_of hr) (se_ofN (sn_disp (sps_cons se_str (se_ofN (sn_list (sa_cons se_str (sa_cons se_str (sa_cons se_str sa_nil))))) (sps_cons se_str (se_ofN (sn_list (sa_cons se_str (sa_cons se_str sa_nil)))) (sps_cons se_str (se_ofN (sn_list (sa_cons se_str (sa_cons se_str (sa_cons se_str (sa_cons se_str (sa_cons se_str sa_nil))))))) sps_nil))))) (se_sub (hu_of hr) (se_var (i := 3)) se_int (fun _ _ => rfl)) (fun _ _ => rfl)))
    (sss_cons (ss_dput (i := 4) (hu_of hr) (se_sub (hu_of hr) (se_var (i := 3)) se_int (fun _ _ => rfl)) (se_call c__law_pick (hr.mono (by decide)) tk (sa_cons (se_var (i := 0)) (sa_cons (se_var (i := 1)) (sa_cons (se_var (i := 7)) sa_nil)))))
    (sss_one (ss_set (i := 5) sc__law_given.nd (se_plus (se_var (i := 5)) (se_tup (sa_cons (se_dgetO (i := 4) (hu_of hr) (se_sub (hu_of hr) (se_var (i := 3)) se_int (fun _ _ => rfl)) (fun _ _ => rfl)) sa_nil))))))))))))
    (sss_one (ss_ret (se_tup (sa_cons (se_take (i := 4)) (sa_cons (se_var (i := 5)) sa_nil)))))))
/-! is_over -/
theorem sc_is_over : FnScope ["value", "signs", "most", "sign"] ["value", "signs", "most"] (defScope (topS 13)) := ⟨rfl, rfl, rfl, by decide +kernel, rfl, by decide +kernel, by decide +kernel⟩
def b_is_over : M Out :=
  (mRet (mAndV (m1 (dIsi (fun t => t == "str")) (mVar 0)) (mAndV (mChain dLe dLe (mC (.int 1)) (mCall dLen (mCons (mVar 0) mNil)) (mVar 2)) (mCall dAll (mCons (mFz (mComp (mItems (mVar 0)) [3] (gV 3) (mpure true) (m2 dInA (mVar 3) (mVar 1)))) mNil)))))
def F_is_over : Fn := mkF 4 b_is_over
theorem ok_is_over {P : Program} {w : World} {K : PySem.W.Frag} {mg : Str → Option Value} {base : Heap} {f : Addr} {fd : FuncData} (F : Fun K "is_over" "is_over" (topS 13) f fd) (m_isinstance : mg "isinstance" = none) (m_str : mg "str" = none) (m_len : mg "len" = none) (m_all : mg "all" = none) :
    FnOk P w K mg base (L2N.CX P w) 1 f fd ["value", "signs", "most"] (spF ⟨K, mg, P, w⟩ 3 F_is_over) :=
  fn_ok (j := 0) F sc_is_over fun cdv A outer s H E hr tk hp =>
    (sss_one (ss_ret (se_and (se_isi isi_str (se_var (i := 0)) m_isinstance m_str (by decide +kernel)) (se_and (se_chain op_le od_le op_le od_le se_int (se_callB call_len cd_len m_len (by decide +kernel) (sa_cons (se_var (i := 0)) sa_nil)) (se_var (i := 2))) (se_one (se_callB (cr_all rfl) cd_all m_all (by decide +kernel) (sa_cons (se_ofN (sn_lc (own := [("sign", 3)]) sc_is_over.nd (si_any (se_var (i := 0))) (blkOk_by (N := ["value", "signs", "most", "sign"]) (sc := defScope (topS 13)) (by decide +kernel)) (fun _ _ _ _ _ => (sg_name (i := 3) sc_is_over.nd)) (fun _ _ _ _ _ => sts_nil) (fun _ _ _ _ _ => (se_in (se_var (i := 3)) (se_var (i := 1)))) (by decide))) sa_nil)))))))
/-! names_of -/
theorem sc_names_of : FnScope ["parts", "part"] ["parts"] (defScope (topS 19)) := ⟨rfl, rfl, rfl, by decide +kernel, rfl, by decide +kernel, by decide +kernel⟩
def b_names_of : M Out :=
  (mRet (mFz (mComp (mItems (mVar 0)) [1] (gV 1) (mB (m1 (dIsi (fun t => t == "tuple")) (mVar 1))) (mSub (mVar 1) (mC (.int 1))))))
def F_names_of : Fn := mkF 2 b_names_of
theorem ok_names_of {P : Program} {w : World} {K : PySem.W.Frag} {mg : Str → Option Value} {base : Heap} {f : Addr} {fd : FuncData} (F : Fun K "names_of" "names_of" (topS 19) f fd) (m_isinstance : mg "isinstance" = none) (m_tuple : mg "tuple" = none) :
    FnOk P w K mg base (L2N.CX P w) 1 f fd ["parts"] (spF ⟨K, mg, P, w⟩ 1 F_names_of) :=
  fn_ok (j := 0) F sc_names_of fun cdv A outer s H E hr tk hp =>
    (sss_one (ss_ret (se_ofN (sn_lc (own := [("part", 1)]) sc_names_of.nd (si_any (se_var (i := 0))) (blkOk_by (N := ["parts", "part"]) (sc := defScope (topS 19)) (by decide +kernel)) (fun _ _ _ _ _ => (sg_name (i := 1) sc_names_of.nd)) (fun _ _ _ _ _ => sts_one (st_val (se_isi isi_tuple (se_var (i := 1)) m_isinstance m_tuple (by decide +kernel)))) (fun _ _ _ _ _ => (se_sub (hu_of hr) (se_var (i := 1)) se_int (fun _ _ => rfl))) (by decide)))))
/-! is_segment -/
theorem sc_is_segment : FnScope ["value"] ["value"] (defScope (topS 14)) := ⟨rfl, rfl, rfl, by decide +kernel, rfl, by decide +kernel, by decide +kernel⟩
def b_is_segment : M Out :=
  (mRet (mFn 3 F_is_over (mCons (mVar 0) (mCons (m2 dPlus (mC gc_LETTERS) (mC gc_DIGITS)) (mCons (mC (.int 6)) mNil)))))
def F_is_segment : Fn := mkF 1 b_is_segment
theorem ok_is_segment {P : Program} {w : World} {K : PySem.W.Frag} {mg : Str → Option Value} {base : Heap} {f : Addr} {fd : FuncData} (F : Fun K "is_segment" "is_segment" (topS 14) f fd) (g_LETTERS : GlD ⟨K, mg, P, w⟩ "LETTERS" gc_LETTERS) (g_DIGITS : GlD ⟨K, mg, P, w⟩ "DIGITS" gc_DIGITS) (c_is_over : Cal P w K mg base "is_over" 1 3 F_is_over) :
    FnOk P w K mg base (L2N.CX P w) 2 f fd ["value"] (spF ⟨K, mg, P, w⟩ 1 F_is_segment) :=
  fn_ok (j := 1) F sc_is_segment fun cdv A outer s H E hr tk hp =>
    (sss_one (ss_ret (se_call c_is_over (hr.mono (by decide)) tk (sa_cons (se_var (i := 0)) (sa_cons (se_plus (se_globD g_LETTERS) (se_globD g_DIGITS)) (sa_cons se_int sa_nil))))))
/-! is_part -/
theorem sc_is_part : FnScope ["value"] ["value"] (defScope (topS 18)) := ⟨rfl, rfl, rfl, by decide +kernel, rfl, by decide +kernel, by decide +kernel⟩
def b_is_part : M Out :=
  (mSeq (mIf (mNot (mB (m1 (dIsi (fun t => t == "tuple")) (mVar 0)))) (mRet (mFn 1 F_is_segment (mCons (mVar 0) mNil))) (mpure .nx))
  (mRet (mAndV (m2 dEqA (mCall dLen (mCons (mVar 0) mNil)) (mC (.int 2))) (mAndV (m1 (dIsi (fun t => t == "str")) (mSub (mVar 0) (mC (.int 0)))) (mAndV (m2 dInA (mSub (mVar 0) (mC (.int 0))) (mC gc_KINDS)) (mFn 3 F_is_over (mCons (mSub (mVar 0) (mC (.int 1))) (mCons (mC gc_LETTERS) (mCons (mC (.int 4)) mNil)))))))))
def F_is_part : Fn := mkF 1 b_is_part
theorem ok_is_part {P : Program} {w : World} {K : PySem.W.Frag} {mg : Str → Option Value} {base : Heap} {f : Addr} {fd : FuncData} (F : Fun K "is_part" "is_part" (topS 18) f fd) (m_isinstance : mg "isinstance" = none) (m_tuple : mg "tuple" = none) (m_len : mg "len" = none) (m_str : mg "str" = none) (g_KINDS : GlD ⟨K, mg, P, w⟩ "KINDS" gc_KINDS) (g_LETTERS : GlD ⟨K, mg, P, w⟩ "LETTERS" gc_LETTERS) (c_is_segment : Cal P w K mg base "is_segment" 2 1 F_is_segment) (c_is_over : Cal P w K mg base "is_over" 1 3 F_is_over) :
    FnOk P w K mg base (L2N.CX P w) 3 f fd ["value"] (spF ⟨K, mg, P, w⟩ 1 F_is_part) :=
  fn_ok (j := 2) F sc_is_part fun cdv A outer s H E hr tk hp =>
    (sss_cons (ss_if (st_not (st_val (se_isi isi_tuple (se_var (i := 0)) m_isinstance m_tuple (by decide +kernel)))) (sss_one (ss_ret (se_call c_is_segment (hr.mono (by decide)) tk (sa_cons (se_var (i := 0)) sa_nil)))) sss_nil)
    (sss_one (ss_ret (se_and (se_cmp (op_eqA hr) od_eqA (se_callB call_len cd_len m_len (by decide +kernel) (sa_cons (se_var (i := 0)) sa_nil)) se_int (nomark _)) (se_and (se_isi isi_str (se_sub (hu_of hr) (se_var (i := 0)) se_int (fun _ _ => rfl)) m_isinstance m_str (by decide +kernel)) (se_and (se_in (se_sub (hu_of hr) (se_var (i := 0)) se_int (fun _ _ => rfl)) (se_globD g_KINDS)) (se_one (se_call c_is_over (hr.mono (by decide)) tk (sa_cons (se_sub (hu_of hr) (se_var (i := 0)) se_int (fun _ _ => rfl)) (sa_cons (se_globD g_LETTERS) (sa_cons se_int sa_nil)))))))))))
/-! is_tail -/
theorem sc_is_tail : FnScope ["part"] ["part"] (defScope (topS 21)) := ⟨rfl, rfl, rfl, by decide +kernel, rfl, by decide +kernel, by decide +kernel⟩
def b_is_tail : M Out :=
  (mRet (mAndV (m1 (dIsi (fun t => t == "tuple")) (mVar 0)) (m2 dEqA (mSub (mVar 0) (mC (.int 0))) (mC (.str "tail")))))
def F_is_tail : Fn := mkF 1 b_is_tail
theorem ok_is_tail {P : Program} {w : World} {K : PySem.W.Frag} {mg : Str → Option Value} {base : Heap} {f : Addr} {fd : FuncData} (F : Fun K "is_tail" "is_tail" (topS 21) f fd) (m_isinstance : mg "isinstance" = none) (m_tuple : mg "tuple" = none) :
    FnOk P w K mg base (L2N.CX P w) 1 f fd ["part"] (spF ⟨K, mg, P, w⟩ 1 F_is_tail) :=
  fn_ok (j := 0) F sc_is_tail fun cdv A outer s H E hr tk hp =>
    (sss_one (ss_ret (se_and (se_isi isi_tuple (se_var (i := 0)) m_isinstance m_tuple (by decide +kernel)) (se_one (se_cmp (op_eqA hr) od_eqA (se_sub (hu_of hr) (se_var (i := 0)) se_int (fun _ _ => rfl)) se_str (nomark _))))))
/-! are_parts -/
theorem sc_are_parts : FnScope ["value", "names", "part"] ["value"] (defScope (topS 20)) := ⟨rfl, rfl, rfl, by decide +kernel, rfl, by decide +kernel, by decide +kernel⟩
def b_are_parts : M Out :=
  (mSeq (mIf (mOr (mNot (mB (m1 (dIsi (fun t => t == "tuple")) (mVar 0)))) (mOr (mB (m2 dGt (mCall dLen (mCons (mVar 0) mNil)) (mC gc_PARTS))) (mNot (mB (mCall dAll (mCons (mFz (mComp (mItems (mVar 0)) [2] (gV 2) (mpure true) (mFn0 1 F_is_part (mCons (mVar 2) mNil)))) mNil)))))) (mRet (mC (.bl false))) (mpure .nx))
  (mSeq (mSet 1 (mFn 1 F_names_of (mCons (mVar 0) mNil)))
  (mRet (mAndV (m2 dEqA (mCall dLen (mCons (mVar 1) mNil)) (m1 dLenSet (mVar 1))) (mNotV (mCall dAny (mCons (mFz (mComp (mItems (mSl (mVar 0) mNoPart (mPart (m1 dNeg (mC (.int 1)))))) [2] (gV 2) (mpure true) (mFn0 1 F_is_tail (mCons (mVar 2) mNil)))) mNil)))))))
def F_are_parts : Fn := mkF 3 b_are_parts
theorem ok_are_parts {P : Program} {w : World} {K : PySem.W.Frag} {mg : Str → Option Value} {base : Heap} {f : Addr} {fd : FuncData} (F : Fun K "are_parts" "are_parts" (topS 20) f fd) (m_isinstance : mg "isinstance" = none) (m_tuple : mg "tuple" = none) (m_len : mg "len" = none) (m_all : mg "all" = none) (m_set : mg "set" = none) (m_any : mg "any" = none) (g_PARTS : GlD ⟨K, mg, P, w⟩ "PARTS" gc_PARTS) (c_is_part : Cal P w K mg base "is_part" 3 1 F_is_part) (c_names_of : Cal P w K mg base "names_of" 1 1 F_names_of) (c_is_tail : Cal P w K mg base "is_tail" 1 1 F_is_tail) :
    FnOk P w K mg base (L2N.CX P w) 4 f fd ["value"] (spF ⟨K, mg, P, w⟩ 1 F_are_parts) :=
  fn_ok (j := 3) F sc_are_parts fun cdv A outer s H E hr tk hp =>
    (sss_cons (ss_if (st_w (sw_or (st_not (st_val (se_isi isi_tuple (se_var (i := 0)) m_isinstance m_tuple (by decide +kernel)))) (sw_or (st_cmp op_gt od_gt (se_callB call_len cd_len m_len (by decide +kernel) (sa_cons (se_var (i := 0)) sa_nil)) (se_globD g_PARTS) (nomark _)) (sw_or1 (st_not (st_val (se_callB (cr_all rfl) cd_all m_all (by decide +kernel) (sa_cons (se_ofN (sn_lc (own := [("part", 2)]) sc_are_parts.nd (si_any (se_var (i := 0))) (blkOk_by (N := ["value", "names", "part"]) (sc := defScope (topS 20)) (by decide +kernel)) (fun _ _ _ _ _ => (sg_name (i := 2) sc_are_parts.nd)) (fun _ _ _ _ _ => sts_nil) (fun _ _ _ _ _ => (se_call0 c_is_part (hr.mono (by decide)) (sa_cons (se_var (i := 2)) sa_nil))) (by decide))) sa_nil)))))))) (sss_one (ss_ret se_bl)) sss_nil)
    (sss_cons (ss_set (i := 1) sc_are_parts.nd (se_call c_names_of (hr.mono (by decide)) tk (sa_cons (se_var (i := 0)) sa_nil)))
    (sss_one (ss_ret (se_and (se_cmp (op_eqA hr) od_eqA (se_callB call_len cd_len m_len (by decide +kernel) (sa_cons (se_var (i := 1)) sa_nil)) (se_lenSet (se_var (i := 1)) m_len m_set) (nomark _)) (se_one (se_not (se_callB (cr_any rfl) cd_any m_any (by decide +kernel) (sa_cons (se_ofN (sn_lc (own := [("part", 2)]) sc_are_parts.nd (si_any (se_slice (se_var (i := 0)) so_none (so_some (se_un un_neg ud_neg se_int)))) (blkOk_by (N := ["value", "names", "part"]) (sc := defScope (topS 20)) (by decide +kernel)) (fun _ _ _ _ _ => (sg_name (i := 2) sc_are_parts.nd)) (fun _ _ _ _ _ => sts_nil) (fun _ _ _ _ _ => (se_call0 c_is_tail (hr.mono (by decide)) (sa_cons (se_var (i := 2)) sa_nil))) (by decide))) sa_nil)))))))))
/-! is_route -/
theorem sc_is_route : FnScope ["value"] ["value"] (defScope (topS 22)) := ⟨rfl, rfl, rfl, by decide +kernel, rfl, by decide +kernel, by decide +kernel⟩
def b_is_route : M Out :=
  (mRet (mAndV (m1 (dIsi (fun t => t == "tuple")) (mVar 0)) (mAndV (m2 dEqA (mCall dLen (mCons (mVar 0) mNil)) (mC (.int 2))) (mAndV (mFn 3 F_is_over (mCons (mSub (mVar 0) (mC (.int 0))) (mCons (mC gc_LETTERS) (mCons (mC (.int 6)) mNil)))) (mFn 1 F_are_parts (mCons (mSub (mVar 0) (mC (.int 1))) mNil))))))
def F_is_route : Fn := mkF 1 b_is_route
theorem ok_is_route {P : Program} {w : World} {K : PySem.W.Frag} {mg : Str → Option Value} {base : Heap} {f : Addr} {fd : FuncData} (F : Fun K "is_route" "is_route" (topS 22) f fd) (m_isinstance : mg "isinstance" = none) (m_tuple : mg "tuple" = none) (m_len : mg "len" = none) (g_LETTERS : GlD ⟨K, mg, P, w⟩ "LETTERS" gc_LETTERS) (c_is_over : Cal P w K mg base "is_over" 1 3 F_is_over) (c_are_parts : Cal P w K mg base "are_parts" 4 1 F_are_parts) :
    FnOk P w K mg base (L2N.CX P w) 5 f fd ["value"] (spF ⟨K, mg, P, w⟩ 1 F_is_route) :=
  fn_ok (j := 4) F sc_is_route fun cdv A outer s H E hr tk hp =>
    (sss_one (ss_ret (se_and (se_isi isi_tuple (se_var (i := 0)) m_isinstance m_tuple (by decide +kernel)) (se_and (se_cmp (op_eqA hr) od_eqA (se_callB call_len cd_len m_len (by decide +kernel) (sa_cons (se_var (i := 0)) sa_nil)) se_int (nomark _)) (se_and (se_call c_is_over (hr.mono (by decide)) tk (sa_cons (se_sub (hu_of hr) (se_var (i := 0)) se_int (fun _ _ => rfl)) (sa_cons (se_globD g_LETTERS) (sa_cons se_int sa_nil)))) (se_one (se_call c_are_parts (hr.mono (by decide)) tk (sa_cons (se_sub (hu_of hr) (se_var (i := 0)) se_int (fun _ _ => rfl)) sa_nil))))))))
/-! is_table -/
theorem sc_is_table : FnScope ["value", "routes", "route"] ["value"] (defScope (topS 23)) := ⟨rfl, rfl, rfl, by decide +kernel, rfl, by decide +kernel, by decide +kernel⟩
def b_is_table : M Out :=
  (mSeq (mIf (mOr (mNot (mB (m1 (dIsi (fun t => t == "tuple")) (mVar 0)))) (mOr (mB (m2 dNeA (mCall dLen (mCons (mVar 0) mNil)) (mC (.int 2)))) (mNot (mB (m1 (dIsi (fun t => t == "str")) (mSub (mVar 0) (mC (.int 0)))))))) (mRet (mC (.bl false))) (mpure .nx))
  (mSeq (mSet 1 (mSub (mVar 0) (mC (.int 1))))
  (mSeq (mIf (mOr (mB (m2 dNotIn (mSub (mVar 0) (mC (.int 0))) (mTup (mCons (mC (.str "order")) (mCons (mC (.str "nearest")) mNil))))) (mOr (mNot (mB (m1 (dIsi (fun t => t == "tuple")) (mVar 1)))) (mNot (mB (mChain dLe dLe (mC (.int 1)) (mCall dLen (mCons (mVar 1) mNil)) (mC gc_ROUTES)))))) (mRet (mC (.bl false))) (mpure .nx))
  (mSeq (mIf (mNot (mB (mCall dAll (mCons (mFz (mComp (mItems (mVar 1)) [2] (gV 2) (mpure true) (mFn0 1 F_is_route (mCons (mVar 2) mNil)))) mNil)))) (mRet (mC (.bl false))) (mpure .nx))
  (mRet (m2 dEqA (m1 dLenSet (mFz (mComp (mItems (mVar 1)) [2] (gV 2) (mpure true) (mSub (mVar 2) (mC (.int 0)))))) (mCall dLen (mCons (mVar 1) mNil))))))))
def F_is_table : Fn := mkF 3 b_is_table
theorem ok_is_table {P : Program} {w : World} {K : PySem.W.Frag} {mg : Str → Option Value} {base : Heap} {f : Addr} {fd : FuncData} (F : Fun K "is_table" "is_table" (topS 23) f fd) (m_isinstance : mg "isinstance" = none) (m_tuple : mg "tuple" = none) (m_len : mg "len" = none) (m_str : mg "str" = none) (m_all : mg "all" = none) (m_set : mg "set" = none) (g_ROUTES : GlD ⟨K, mg, P, w⟩ "ROUTES" gc_ROUTES) (c_is_route : Cal P w K mg base "is_route" 5 1 F_is_route) :
    FnOk P w K mg base (L2N.CX P w) 6 f fd ["value"] (spF ⟨K, mg, P, w⟩ 1 F_is_table) :=
  fn_ok (j := 5) F sc_is_table fun cdv A outer s H E hr tk hp =>
    (sss_cons (ss_if (st_w (sw_or (st_not (st_val (se_isi isi_tuple (se_var (i := 0)) m_isinstance m_tuple (by decide +kernel)))) (sw_or (st_cmp (op_neA hr) od_neA (se_callB call_len cd_len m_len (by decide +kernel) (sa_cons (se_var (i := 0)) sa_nil)) se_int (nomark _)) (sw_or1 (st_not (st_val (se_isi isi_str (se_sub (hu_of hr) (se_var (i := 0)) se_int (fun _ _ => rfl)) m_isinstance m_str (by decide +kernel)))))))) (sss_one (ss_ret se_bl)) sss_nil)
    (sss_cons (ss_set (i := 1) sc_is_table.nd (se_sub (hu_of hr) (se_var (i := 0)) se_int (fun _ _ => rfl)))
    (sss_cons (ss_if (st_w (sw_or (st_notIn (se_sub (hu_of hr) (se_var (i := 0)) se_int (fun _ _ => rfl)) (se_tup (sa_cons se_str (sa_cons se_str sa_nil)))) (sw_or (st_not (st_val (se_isi isi_tuple (se_var (i := 1)) m_isinstance m_tuple (by decide +kernel)))) (sw_or1 (st_not (st_chain op_le od_le op_le od_le se_int (se_callB call_len cd_len m_len (by decide +kernel) (sa_cons (se_var (i := 1)) sa_nil)) (se_globD g_ROUTES))))))) (sss_one (ss_ret se_bl)) sss_nil)
    (sss_cons (ss_if (st_not (st_val (se_callB (cr_all rfl) cd_all m_all (by decide +kernel) (sa_cons (se_ofN (sn_lc (own := [("route", 2)]) sc_is_table.nd (si_any (se_var (i := 1))) (blkOk_by (N := ["value", "routes", "route"]) (sc := defScope (topS 23)) (by decide +kernel)) (fun _ _ _ _ _ => (sg_name (i := 2) sc_is_table.nd)) (fun _ _ _ _ _ => sts_nil) (fun _ _ _ _ _ => (se_call0 c_is_route (hr.mono (by decide)) (sa_cons (se_var (i := 2)) sa_nil))) (by decide))) sa_nil)))) (sss_one (ss_ret se_bl)) sss_nil)
    (sss_one (ss_ret (se_cmp (op_eqA hr) od_eqA (se_lenSet (se_ofN (sn_lc (own := [("route", 2)]) sc_is_table.nd (si_any (se_var (i := 1))) (blkOk_by (N := ["value", "routes", "route"]) (sc := defScope (topS 23)) (by decide +kernel)) (fun _ _ _ _ _ => (sg_name (i := 2) sc_is_table.nd)) (fun _ _ _ _ _ => sts_nil) (fun _ _ _ _ _ => (se_sub (hu_of hr) (se_var (i := 2)) se_int (fun _ _ => rfl))) (by decide))) m_len m_set) (se_callB call_len cd_len m_len (by decide +kernel) (sa_cons (se_var (i := 1)) sa_nil)) (nomark _))))))))
/-! need_table -/
theorem sc_need_table : FnScope ["value"] ["value"] (defScope (topS 24)) := ⟨rfl, rfl, rfl, by decide +kernel, rfl, by decide +kernel, by decide +kernel⟩
def b_need_table : M Out :=
  (mIf (mNot (mB (mFn 1 F_is_table (mCons (mVar 0) mNil)))) mno (mpure .nx))
def F_need_table : Fn := mkF 1 b_need_table
theorem ok_need_table {P : Program} {w : World} {K : PySem.W.Frag} {mg : Str → Option Value} {base : Heap} {f : Addr} {fd : FuncData} (F : Fun K "need_table" "need_table" (topS 24) f fd) (c_is_table : Cal P w K mg base "is_table" 6 1 F_is_table) :
    FnOk P w K mg base (L2N.CX P w) 7 f fd ["value"] (spF ⟨K, mg, P, w⟩ 1 F_need_table) :=
  fn_ok (j := 6) F sc_need_table fun cdv A outer s H E hr tk hp =>
    (sss_one (ss_if (st_not (st_val (se_call c_is_table (hr.mono (by decide)) tk (sa_cons (se_var (i := 0)) sa_nil)))) (sss_one ss_never) sss_nil))
/-! are_segments -/
theorem sc_are_segments : FnScope ["value", "most", "one"] ["value", "most"] (defScope (topS 15)) := ⟨rfl, rfl, rfl, by decide +kernel, rfl, by decide +kernel, by decide +kernel⟩
def b_are_segments : M Out :=
  (mRet (mAndV (m1 (dIsi (fun t => t == "tuple")) (mVar 0)) (mAndV (m2 dLe (mCall dLen (mCons (mVar 0) mNil)) (mVar 1)) (mCall dAll (mCons (mFz (mComp (mItems (mVar 0)) [2] (gV 2) (mpure true) (mFn0 1 F_is_segment (mCons (mVar 2) mNil)))) mNil)))))
def F_are_segments : Fn := mkF 3 b_are_segments
theorem ok_are_segments {P : Program} {w : World} {K : PySem.W.Frag} {mg : Str → Option Value} {base : Heap} {f : Addr} {fd : FuncData} (F : Fun K "are_segments" "are_segments" (topS 15) f fd) (m_isinstance : mg "isinstance" = none) (m_tuple : mg "tuple" = none) (m_len : mg "len" = none) (m_all : mg "all" = none) (c_is_segment : Cal P w K mg base "is_segment" 2 1 F_is_segment) :
    FnOk P w K mg base (L2N.CX P w) 3 f fd ["value", "most"] (spF ⟨K, mg, P, w⟩ 2 F_are_segments) :=
  fn_ok (j := 2) F sc_are_segments fun cdv A outer s H E hr tk hp =>
    (sss_one (ss_ret (se_and (se_isi isi_tuple (se_var (i := 0)) m_isinstance m_tuple (by decide +kernel)) (se_and (se_cmp op_le od_le (se_callB call_len cd_len m_len (by decide +kernel) (sa_cons (se_var (i := 0)) sa_nil)) (se_var (i := 1)) (nomark _)) (se_one (se_callB (cr_all rfl) cd_all m_all (by decide +kernel) (sa_cons (se_ofN (sn_lc (own := [("one", 2)]) sc_are_segments.nd (si_any (se_var (i := 0))) (blkOk_by (N := ["value", "most", "one"]) (sc := defScope (topS 15)) (by decide +kernel)) (fun _ _ _ _ _ => (sg_name (i := 2) sc_are_segments.nd)) (fun _ _ _ _ _ => sts_nil) (fun _ _ _ _ _ => (se_call0 c_is_segment (hr.mono (by decide)) (sa_cons (se_var (i := 2)) sa_nil))) (by decide))) sa_nil)))))))
/-! is_path -/
theorem sc_is_path : FnScope ["value"] ["value"] (defScope (topS 16)) := ⟨rfl, rfl, rfl, by decide +kernel, rfl, by decide +kernel, by decide +kernel⟩
def b_is_path : M Out :=
  (mRet (mFn 2 F_are_segments (mCons (mVar 0) (mCons (mC gc_PATH) mNil))))
def F_is_path : Fn := mkF 1 b_is_path
theorem ok_is_path {P : Program} {w : World} {K : PySem.W.Frag} {mg : Str → Option Value} {base : Heap} {f : Addr} {fd : FuncData} (F : Fun K "is_path" "is_path" (topS 16) f fd) (g_PATH : GlD ⟨K, mg, P, w⟩ "PATH" gc_PATH) (c_are_segments : Cal P w K mg base "are_segments" 3 2 F_are_segments) :
    FnOk P w K mg base (L2N.CX P w) 4 f fd ["value"] (spF ⟨K, mg, P, w⟩ 1 F_is_path) :=
  fn_ok (j := 3) F sc_is_path fun cdv A outer s H E hr tk hp =>
    (sss_one (ss_ret (se_call c_are_segments (hr.mono (by decide)) tk (sa_cons (se_var (i := 0)) (sa_cons (se_globD g_PATH) sa_nil)))))
/-! need_path -/
theorem sc_need_path : FnScope ["value"] ["value"] (defScope (topS 17)) := ⟨rfl, rfl, rfl, by decide +kernel, rfl, by decide +kernel, by decide +kernel⟩
def b_need_path : M Out :=
  (mIf (mNot (mB (mFn 1 F_is_path (mCons (mVar 0) mNil)))) mno (mpure .nx))
def F_need_path : Fn := mkF 1 b_need_path
theorem ok_need_path {P : Program} {w : World} {K : PySem.W.Frag} {mg : Str → Option Value} {base : Heap} {f : Addr} {fd : FuncData} (F : Fun K "need_path" "need_path" (topS 17) f fd) (c_is_path : Cal P w K mg base "is_path" 4 1 F_is_path) :
    FnOk P w K mg base (L2N.CX P w) 5 f fd ["value"] (spF ⟨K, mg, P, w⟩ 1 F_need_path) :=
  fn_ok (j := 4) F sc_need_path fun cdv A outer s H E hr tk hp =>
    (sss_one (ss_if (st_not (st_val (se_call c_is_path (hr.mono (by decide)) tk (sa_cons (se_var (i := 0)) sa_nil)))) (sss_one ss_never) sss_nil))
/-! rank -/
theorem sc_rank : FnScope ["part"] ["part"] (defScope (topS 28)) := ⟨rfl, rfl, rfl, by decide +kernel, rfl, by decide +kernel, by decide +kernel⟩
def b_rank : M Out :=
  (mSeq (mIf (mNot (mB (m1 (dIsi (fun t => t == "tuple")) (mVar 0)))) (mRet (mC (.int 1))) (mpure .nx))
  (mRet (mSub (mFz (mDisp (((mC (.str "letters")), (mC (.int 2))) :: (((mC (.str "number")), (mC (.int 2))) :: (((mC (.str "any")), (mC (.int 3))) :: (((mC (.str "tail")), (mC (.int 4))) :: [])))))) (mSub (mVar 0) (mC (.int 0))))))
def F_rank : Fn := mkF 1 b_rank
theorem ok_rank {P : Program} {w : World} {K : PySem.W.Frag} {mg : Str → Option Value} {base : Heap} {f : Addr} {fd : FuncData} (F : Fun K "rank" "rank" (topS 28) f fd) (m_isinstance : mg "isinstance" = none) (m_tuple : mg "tuple" = none) :
    FnOk P w K mg base (L2N.CX P w) 1 f fd ["part"] (spF ⟨K, mg, P, w⟩ 1 F_rank) :=
  fn_ok (j := 0) F sc_rank fun cdv A outer s H E hr tk hp =>
    (sss_cons (ss_if (st_not (st_val (se_isi isi_tuple (se_var (i := 0)) m_isinstance m_tuple (by decide +kernel)))) (sss_one (ss_ret se_int)) sss_nil)
    (sss_one (ss_ret (se_sub (hu_of hr) (se_ofN (sn_disp (sps_cons se_str se_int (sps_cons se_str se_int (sps_cons se_str se_int (sps_cons se_str se_int sps_nil)))))) (se_sub (hu_of hr) (se_var (i := 0)) se_int (fun _ _ => rfl)) (fun _ _ => rfl)))))
/-! ranks -/
theorem sc_ranks : FnScope ["route", "part"] ["route"] (defScope (topS 29)) := ⟨rfl, rfl, rfl, by decide +kernel, rfl, by decide +kernel, by decide +kernel⟩
def b_ranks : M Out :=
  (mRet (m2 dPlus (mFz (mComp (mItems (mSub (mVar 0) (mC (.int 1)))) [1] (gV 1) (mpure true) (mFn0 1 F_rank (mCons (mVar 1) mNil)))) (mFz (mLst (mCons (mC (.int 0)) mNil)))))
def F_ranks : Fn := mkF 2 b_ranks
theorem ok_ranks {P : Program} {w : World} {K : PySem.W.Frag} {mg : Str → Option Value} {base : Heap} {f : Addr} {fd : FuncData} (F : Fun K "ranks" "ranks" (topS 29) f fd) (c_rank : Cal P w K mg base "rank" 1 1 F_rank) :
    FnOk P w K mg base (L2N.CX P w) 2 f fd ["route"] (spF ⟨K, mg, P, w⟩ 1 F_ranks) :=
  fn_ok (j := 1) F sc_ranks fun cdv A outer s H E hr tk hp =>
    (sss_one (ss_ret (se_plus (se_ofN (sn_lc (own := [("part", 1)]) sc_ranks.nd (si_any (se_sub (hu_of hr) (se_var (i := 0)) se_int (fun _ _ => rfl))) (blkOk_by (N := ["route", "part"]) (sc := defScope (topS 29)) (by decide +kernel)) (fun _ _ _ _ _ => (sg_name (i := 1) sc_ranks.nd)) (fun _ _ _ _ _ => sts_nil) (fun _ _ _ _ _ => (se_call0 c_rank (hr.mono (by decide)) (sa_cons (se_var (i := 1)) sa_nil))) (by decide))) (se_ofN (sn_list (sa_cons se_int sa_nil))))))
/-! ordered -/
theorem sc_ordered : FnScope ["table"] ["table"] (defScope (topS 30)) := ⟨rfl, rfl, rfl, by decide +kernel, rfl, by decide +kernel, by decide +kernel⟩
def b_ordered : M Out :=
  (mRet (mIfE (mB (m2 dEqA (mSub (mVar 0) (mC (.int 0))) (mC (.str "order")))) (mCall dList (mCons (mSub (mVar 0) (mC (.int 1))) mNil)) (mSortKey F_ranks (mSub (mVar 0) (mC (.int 1))))))
def F_ordered : Fn := mkF 1 b_ordered
theorem ok_ordered {P : Program} {w : World} {K : PySem.W.Frag} {mg : Str → Option Value} {base : Heap} {f : Addr} {fd : FuncData} (F : Fun K "ordered" "ordered" (topS 30) f fd) (m_list : mg "list" = none) (m_sorted : mg "sorted" = none) (c_ranks : Cal P w K mg base "ranks" 2 1 F_ranks) :
    FnOk P w K mg base (L2N.CX P w) 4 f fd ["table"] (spF ⟨K, mg, P, w⟩ 1 F_ordered) :=
  fn_ok (j := 3) F sc_ordered fun cdv A outer s H E hr tk hp =>
    (sss_one (ss_ret (se_if (st_cmp (op_eqA hr) od_eqA (se_sub (hu_of hr) (se_var (i := 0)) se_int (fun _ _ => rfl)) se_str (nomark _)) (se_callTy call_list_of cd_list m_list (by decide +kernel) (sa_cons (se_sub (hu_of hr) (se_var (i := 0)) se_int (fun _ _ => rfl)) sa_nil)) (se_sortKey c_ranks (hr.mono (by decide)) (se_sub (hu_of hr) (se_var (i := 0)) se_int (fun _ _ => rfl)) m_sorted))))
/-! fits_part -/
theorem sc_fits_part : FnScope ["part", "segment", "signs", "sign"] ["part", "segment"] (defScope (topS 26)) := ⟨rfl, rfl, rfl, by decide +kernel, rfl, by decide +kernel, by decide +kernel⟩
def b_fits_part : M Out :=
  (mSeq (mIf (mNot (mB (m1 (dIsi (fun t => t == "tuple")) (mVar 0)))) (mRet (m2 dEqA (mVar 0) (mVar 1))) (mpure .nx))
  (mSeq (mSet 2 (mSub (mFz (mDisp (((mC (.str "any")), (m2 dPlus (mC gc_LETTERS) (mC gc_DIGITS))) :: (((mC (.str "letters")), (mC gc_LETTERS)) :: (((mC (.str "number")), (mC gc_DIGITS)) :: []))))) (mSub (mVar 0) (mC (.int 0)))))
  (mRet (mCall dAll (mCons (mFz (mComp (mItems (mVar 1)) [3] (gV 3) (mpure true) (m2 dInA (mVar 3) (mVar 2)))) mNil)))))
def F_fits_part : Fn := mkF 4 b_fits_part
theorem ok_fits_part {P : Program} {w : World} {K : PySem.W.Frag} {mg : Str → Option Value} {base : Heap} {f : Addr} {fd : FuncData} (F : Fun K "fits_part" "fits_part" (topS 26) f fd) (m_isinstance : mg "isinstance" = none) (m_tuple : mg "tuple" = none) (m_all : mg "all" = none) (g_DIGITS : GlD ⟨K, mg, P, w⟩ "DIGITS" gc_DIGITS) (g_LETTERS : GlD ⟨K, mg, P, w⟩ "LETTERS" gc_LETTERS) :
    FnOk P w K mg base (L2N.CX P w) 1 f fd ["part", "segment"] (spF ⟨K, mg, P, w⟩ 2 F_fits_part) :=
  fn_ok (j := 0) F sc_fits_part fun cdv A outer s H E hr tk hp =>
    (sss_cons (ss_if (st_not (st_val (se_isi isi_tuple (se_var (i := 0)) m_isinstance m_tuple (by decide +kernel)))) (sss_one (ss_ret (se_cmp (op_eqA hr) od_eqA (se_var (i := 0)) (se_var (i := 1)) (nomark _)))) sss_nil)
    (sss_cons (ss_set (i := 2) sc_fits_part.nd (se_sub (hu_of hr) (se_ofN (sn_disp (sps_cons se_str (se_plus (se_globD g_LETTERS) (se_globD g_DIGITS)) (sps_cons se_str (se_globD g_LETTERS) (sps_cons se_str (se_globD g_DIGITS) sps_nil))))) (se_sub (hu_of hr) (se_var (i := 0)) se_int (fun _ _ => rfl)) (fun _ _ => rfl)))
    (sss_one (ss_ret (se_callB (cr_all rfl) cd_all m_all (by decide +kernel) (sa_cons (se_ofN (sn_lc (own := [("sign", 3)]) sc_fits_part.nd (si_any (se_var (i := 1))) (blkOk_by (N := ["part", "segment", "signs", "sign"]) (sc := defScope (topS 26)) (by decide +kernel)) (fun _ _ _ _ _ => (sg_name (i := 3) sc_fits_part.nd)) (fun _ _ _ _ _ => sts_nil) (fun _ _ _ _ _ => (se_in (se_var (i := 3)) (se_var (i := 2)))) (by decide))) sa_nil))))))
/-! values_of -/
theorem sc_values_of : FnScope ["parts", "path", "result", "fixed", "part", "segment"] ["parts", "path"] (defScope (topS 27)) := ⟨rfl, rfl, rfl, by decide +kernel, rfl, by decide +kernel, by decide +kernel⟩
def b_values_of : M Out :=
  (mSeq (mParNV 2 3 mDic0 (mVar 0))
  (mSeq (mIf (mAnd (mB (m2 dNeA (mVar 0) (mTup mNil))) (mB (mFn 1 F_is_tail (mCons (mSub (mVar 0) (m1 dNeg (mC (.int 1)))) mNil)))) (mSeq (mSet 3 (mSl (mVar 0) mNoPart (mPart (m1 dNeg (mC (.int 1))))))
  (mDPut 2 (mSub (mSub (mVar 0) (m1 dNeg (mC (.int 1)))) (mC (.int 1))) (mSl (mVar 1) (mPart (mCall dLen (mCons (mVar 3) mNil))) mNoPart))) (mpure .nx))
  (mSeq (mIf (mOr (mB (m2 dLt (mCall dLen (mCons (mVar 1) mNil)) (mCall dLen (mCons (mVar 3) mNil)))) (mAnd (mB (m2 dGt (mCall dLen (mCons (mVar 1) mNil)) (mCall dLen (mCons (mVar 3) mNil)))) (mB (m2 dEqA (mVar 3) (mVar 0))))) (mRet (mC .non)) (mpure .nx))
  (mSeq (mFor (mZipT (mCons (mVar 3) (mCons (mVar 1) mNil))) (gT 2 (gsCons (gV 4) (gsCons (gV 5) gsNil))) (mSeq (mIf (mNot (mB (mFn 2 F_fits_part (mCons (mVar 4) (mCons (mVar 5) mNil))))) (mRet (mC .non)) (mpure .nx))
  (mIf (mB (m1 (dIsi (fun t => t == "tuple")) (mVar 4))) (mDPut 2 (mSub (mVar 4) (mC (.int 1))) (mVar 5)) (mpure .nx))))
  (mRet (mTake 2))))))
def F_values_of : Fn := mkF 6 b_values_of
theorem ok_values_of {P : Program} {w : World} {K : PySem.W.Frag} {mg : Str → Option Value} {base : Heap} {f : Addr} {fd : FuncData} (F : Fun K "values_of" "values_of" (topS 27) f fd) (m_len : mg "len" = none) (m_zip : mg "zip" = none) (m_isinstance : mg "isinstance" = none) (m_tuple : mg "tuple" = none) (c_is_tail : Cal P w K mg base "is_tail" 1 1 F_is_tail) (c_fits_part : Cal P w K mg base "fits_part" 1 2 F_fits_part) :
    FnOk P w K mg base (L2N.CX P w) 2 f fd ["parts", "path"] (spF ⟨K, mg, P, w⟩ 2 F_values_of) :=
  fn_ok (j := 1) F sc_values_of fun cdv A outer s H E hr tk hp =>
    (sss_cons (ss_parNV (i := 2) (j := 3) sc_values_of.nd sn_dic0 (se_var (i := 0)))
    (sss_cons (ss_if (st_w (sw_and (st_cmp (op_neA hr) od_neA (se_var (i := 0)) (se_tup sa_nil) (nomark _)) (sw_and1 (st_val (se_call c_is_tail (hr.mono (by decide)) tk (sa_cons (se_sub (hu_of hr) (se_var (i := 0)) (se_un un_neg ud_neg se_int) (fun _ _ => rfl)) sa_nil)))))) (sss_cons (ss_set (i := 3) sc_values_of.nd (se_slice (se_var (i := 0)) so_none (so_some (se_un un_neg ud_neg se_int))))
    (sss_one (ss_dput (i := 2) (hu_of hr) (se_sub (hu_of hr) (se_sub (hu_of hr) (se_var (i := 0)) (se_un un_neg ud_neg se_int) (fun _ _ => rfl)) se_int (fun _ _ => rfl)) (se_slice (se_var (i := 1)) (so_some (se_callB call_len cd_len m_len (by decide +kernel) (sa_cons (se_var (i := 3)) sa_nil))) so_none)))) sss_nil)
    (sss_cons (ss_if (st_w (sw_or (st_cmp op_lt od_lt (se_callB call_len cd_len m_len (by decide +kernel) (sa_cons (se_var (i := 1)) sa_nil)) (se_callB call_len cd_len m_len (by decide +kernel) (sa_cons (se_var (i := 3)) sa_nil)) (nomark _)) (sw_or1 (st_w (sw_and (st_cmp op_gt od_gt (se_callB call_len cd_len m_len (by decide +kernel) (sa_cons (se_var (i := 1)) sa_nil)) (se_callB call_len cd_len m_len (by decide +kernel) (sa_cons (se_var (i := 3)) sa_nil)) (nomark _)) (sw_and1 (st_cmp (op_eqA hr) od_eqA (se_var (i := 3)) (se_var (i := 0)) (nomark _)))))))) (sss_one (ss_ret se_non)) sss_nil)
    (sss_cons (ss_for hp (si_zipT (sa_cons (se_var (i := 3)) (sa_cons (se_var (i := 1)) sa_nil)) m_zip) (sg_tup (sgs_cons (sg_name (i := 4) sc_values_of.nd) (sgs_cons (sg_name (i := 5) sc_values_of.nd) sgs_nil))) (sss_cons (ss_if (st_not (st_val (se_call c_fits_part (hr.mono (by decide)) tk (sa_cons (se_var (i := 4)) (sa_cons (se_var (i := 5)) sa_nil))))) (sss_one (ss_ret se_non)) sss_nil)
    (sss_one (ss_if (st_val (se_isi isi_tuple (se_var (i := 4)) m_isinstance m_tuple (by decide +kernel))) (sss_one (ss_dput (i := 2) (hu_of hr) (se_sub (hu_of hr) (se_var (i := 4)) se_int (fun _ _ => rfl)) (se_var (i := 5)))) sss_nil))))
    (sss_one (ss_ret (se_take (i := 2))))))))
/-! route_for -/
theorem sc_route_for : FnScope ["table", "path", "route"] ["table", "path"] (defScope (topS 31)) := ⟨rfl, rfl, rfl, by decide +kernel, rfl, by decide +kernel, by decide +kernel⟩
def b_route_for : M Out :=
  (mSeq (mFor (mItems (mFn 1 F_ordered (mCons (mVar 0) mNil))) (gV 2) (mIf (mB (m2 dNot (mFn 2 F_values_of (mCons (mSub (mVar 2) (mC (.int 1))) (mCons (mVar 1) mNil))) (mC .non))) (mRet (mVar 2)) (mpure .nx)))
  (mRet (mC .non)))
def F_route_for : Fn := mkF 3 b_route_for
theorem ok_route_for {P : Program} {w : World} {K : PySem.W.Frag} {mg : Str → Option Value} {base : Heap} {f : Addr} {fd : FuncData} (F : Fun K "route_for" "route_for" (topS 31) f fd) (c_ordered : Cal P w K mg base "ordered" 4 1 F_ordered) (c_values_of : Cal P w K mg base "values_of" 2 2 F_values_of) :
    FnOk P w K mg base (L2N.CX P w) 5 f fd ["table", "path"] (spF ⟨K, mg, P, w⟩ 2 F_route_for) :=
  fn_ok (j := 4) F sc_route_for fun cdv A outer s H E hr tk hp =>
    (sss_cons (ss_for hp (si_any (se_call c_ordered (hr.mono (by decide)) tk (sa_cons (se_var (i := 0)) sa_nil))) (sg_name (i := 2) sc_route_for.nd) (sss_one (ss_if (st_cmp op_notA od_not (se_call c_values_of (hr.mono (by decide)) tk (sa_cons (se_sub (hu_of hr) (se_var (i := 2)) se_int (fun _ _ => rfl)) (sa_cons (se_var (i := 1)) sa_nil))) se_non (nomark _)) (sss_one (ss_ret (se_var (i := 2)))) sss_nil)))
    (sss_one (ss_ret se_non)))
/-! taken -/
theorem sc_taken : FnScope ["table", "path", "route"] ["table", "path"] (defScope (topS 32)) := ⟨rfl, rfl, rfl, by decide +kernel, rfl, by decide +kernel, by decide +kernel⟩
def b_taken : M Out :=
  (mSeq (mDrop (mFn 1 F_need_table (mCons (mVar 0) mNil)))
  (mSeq (mDrop (mFn 1 F_need_path (mCons (mVar 1) mNil)))
  (mSeq (mSet 2 (mFn 2 F_route_for (mCons (mVar 0) (mCons (mVar 1) mNil))))
  (mRet (mIfE (mB (m2 dIs (mVar 2) (mC .non))) (mC .non) (mSub (mVar 2) (mC (.int 0))))))))
def F_taken : Fn := mkF 3 b_taken
theorem ok_taken {P : Program} {w : World} {K : PySem.W.Frag} {mg : Str → Option Value} {base : Heap} {f : Addr} {fd : FuncData} (F : Fun K "taken" "taken" (topS 32) f fd) (c_need_table : Cal P w K mg base "need_table" 7 1 F_need_table) (c_need_path : Cal P w K mg base "need_path" 5 1 F_need_path) (c_route_for : Cal P w K mg base "route_for" 5 2 F_route_for) :
    FnOk P w K mg base (L2N.CX P w) 8 f fd ["table", "path"] (spF ⟨K, mg, P, w⟩ 2 F_taken) :=
  fn_ok (j := 7) F sc_taken fun cdv A outer s H E hr tk hp =>
    (sss_cons (ss_expr (se_call c_need_table (hr.mono (by decide)) tk (sa_cons (se_var (i := 0)) sa_nil)))
    (sss_cons (ss_expr (se_call c_need_path (hr.mono (by decide)) tk (sa_cons (se_var (i := 1)) sa_nil)))
    (sss_cons (ss_set (i := 2) sc_taken.nd (se_call c_route_for (hr.mono (by decide)) tk (sa_cons (se_var (i := 0)) (sa_cons (se_var (i := 1)) sa_nil))))
    (sss_one (ss_ret (se_if (st_cmp op_isA od_is (se_var (i := 2)) se_non (nomark _)) se_non (se_sub (hu_of hr) (se_var (i := 2)) se_int (fun _ _ => rfl))))))))
/-! values -/
theorem sc_values : FnScope ["table", "path", "route"] ["table", "path"] (defScope (topS 34)) := ⟨rfl, rfl, rfl, by decide +kernel, rfl, by decide +kernel, by decide +kernel⟩
def b_values : M Out :=
  (mSeq (mDrop (mFn 1 F_need_table (mCons (mVar 0) mNil)))
  (mSeq (mDrop (mFn 1 F_need_path (mCons (mVar 1) mNil)))
  (mSeq (mSet 2 (mFn 2 F_route_for (mCons (mVar 0) (mCons (mVar 1) mNil))))
  (mRet (mIfE (mB (m2 dIs (mVar 2) (mC .non))) (mC .non) (mFn 2 F_values_of (mCons (mSub (mVar 2) (mC (.int 1))) (mCons (mVar 1) mNil))))))))
def F_values : Fn := mkF 3 b_values
theorem ok_values {P : Program} {w : World} {K : PySem.W.Frag} {mg : Str → Option Value} {base : Heap} {f : Addr} {fd : FuncData} (F : Fun K "values" "values" (topS 34) f fd) (c_need_table : Cal P w K mg base "need_table" 7 1 F_need_table) (c_need_path : Cal P w K mg base "need_path" 5 1 F_need_path) (c_route_for : Cal P w K mg base "route_for" 5 2 F_route_for) (c_values_of : Cal P w K mg base "values_of" 2 2 F_values_of) :
    FnOk P w K mg base (L2N.CX P w) 8 f fd ["table", "path"] (spF ⟨K, mg, P, w⟩ 2 F_values) :=
  fn_ok (j := 7) F sc_values fun cdv A outer s H E hr tk hp =>
    (sss_cons (ss_expr (se_call c_need_table (hr.mono (by decide)) tk (sa_cons (se_var (i := 0)) sa_nil)))
    (sss_cons (ss_expr (se_call c_need_path (hr.mono (by decide)) tk (sa_cons (se_var (i := 1)) sa_nil)))
    (sss_cons (ss_set (i := 2) sc_values.nd (se_call c_route_for (hr.mono (by decide)) tk (sa_cons (se_var (i := 0)) (sa_cons (se_var (i := 1)) sa_nil))))
    (sss_one (ss_ret (se_if (st_cmp op_isA od_is (se_var (i := 2)) se_non (nomark _)) se_non (se_call c_values_of (hr.mono (by decide)) tk (sa_cons (se_sub (hu_of hr) (se_var (i := 2)) se_int (fun _ _ => rfl)) (sa_cons (se_var (i := 1)) sa_nil)))))))))
/-! parts_of -/
theorem sc_parts_of : FnScope ["table", "title", "own", "parts"] ["table", "title"] (defScope (topS 35)) := ⟨rfl, rfl, rfl, by decide +kernel, rfl, by decide +kernel, by decide +kernel⟩
def b_parts_of : M Out :=
  (mSeq (mFor (mItems (mSub (mVar 0) (mC (.int 1)))) (gT 2 (gsCons (gV 2) (gsCons (gV 3) gsNil))) (mIf (mB (m2 dEqA (mVar 2) (mVar 1))) (mRet (mVar 3)) (mpure .nx)))
  mno)
def F_parts_of : Fn := mkF 4 b_parts_of
theorem ok_parts_of {P : Program} {w : World} {K : PySem.W.Frag} {mg : Str → Option Value} {base : Heap} {f : Addr} {fd : FuncData} (F : Fun K "parts_of" "parts_of" (topS 35) f fd)  :
    FnOk P w K mg base (L2N.CX P w) 1 f fd ["table", "title"] (spF ⟨K, mg, P, w⟩ 2 F_parts_of) :=
  fn_ok (j := 0) F sc_parts_of fun cdv A outer s H E hr tk hp =>
    (sss_cons (ss_for hp (si_any (se_sub (hu_of hr) (se_var (i := 0)) se_int (fun _ _ => rfl))) (sg_tup (sgs_cons (sg_name (i := 2) sc_parts_of.nd) (sgs_cons (sg_name (i := 3) sc_parts_of.nd) sgs_nil))) (sss_one (ss_if (st_cmp (op_eqA hr) od_eqA (se_var (i := 2)) (se_var (i := 1)) (nomark _)) (sss_one (ss_ret (se_var (i := 3)))) sss_nil)))
    (sss_one ss_never))
/-! is_value -/
theorem sc_is_value : FnScope ["part", "value"] ["part", "value"] (defScope (topS 36)) := ⟨rfl, rfl, rfl, by decide +kernel, rfl, by decide +kernel, by decide +kernel⟩
def b_is_value : M Out :=
  (mSeq (mIf (mB (mFn 1 F_is_tail (mCons (mVar 0) mNil))) (mRet (mFn 2 F_are_segments (mCons (mVar 1) (mCons (mC (.int 4)) mNil)))) (mpure .nx))
  (mRet (mAndV (mFn 1 F_is_segment (mCons (mVar 1) mNil)) (mFn 2 F_fits_part (mCons (mVar 0) (mCons (mVar 1) mNil))))))
def F_is_value : Fn := mkF 2 b_is_value
theorem ok_is_value {P : Program} {w : World} {K : PySem.W.Frag} {mg : Str → Option Value} {base : Heap} {f : Addr} {fd : FuncData} (F : Fun K "is_value" "is_value" (topS 36) f fd) (c_is_tail : Cal P w K mg base "is_tail" 1 1 F_is_tail) (c_are_segments : Cal P w K mg base "are_segments" 3 2 F_are_segments) (c_is_segment : Cal P w K mg base "is_segment" 2 1 F_is_segment) (c_fits_part : Cal P w K mg base "fits_part" 1 2 F_fits_part) :
    FnOk P w K mg base (L2N.CX P w) 4 f fd ["part", "value"] (spF ⟨K, mg, P, w⟩ 2 F_is_value) :=
  fn_ok (j := 3) F sc_is_value fun cdv A outer s H E hr tk hp =>
    (sss_cons (ss_if (st_val (se_call c_is_tail (hr.mono (by decide)) tk (sa_cons (se_var (i := 0)) sa_nil))) (sss_one (ss_ret (se_call c_are_segments (hr.mono (by decide)) tk (sa_cons (se_var (i := 1)) (sa_cons se_int sa_nil))))) sss_nil)
    (sss_one (ss_ret (se_and (se_call c_is_segment (hr.mono (by decide)) tk (sa_cons (se_var (i := 1)) sa_nil)) (se_one (se_call c_fits_part (hr.mono (by decide)) tk (sa_cons (se_var (i := 0)) (sa_cons (se_var (i := 1)) sa_nil))))))))
/-! path_of -/
theorem sc_path_of : FnScope ["table", "title", "values", "parts", "path", "part"] ["table", "title", "values"] (defScope (topS 37)) := ⟨rfl, rfl, rfl, by decide +kernel, rfl, by decide +kernel, by decide +kernel⟩
def b_path_of : M Out :=
  (mSeq (mDrop (mFn 1 F_need_table (mCons (mVar 0) mNil)))
  (mSeq (mSet 3 (mFn 2 F_parts_of (mCons (mVar 0) (mCons (mVar 1) mNil))))
  (mSeq (mIf (mOr (mNot (mB (m1 (dIsi (fun t => t == "dict")) (mVar 2)))) (mB (m2 dNeA (mCall dLenD (mCons (mVar 2) mNil)) (mCall dLen (mCons (mFn 1 F_names_of (mCons (mVar 3) mNil)) mNil))))) mno (mpure .nx))
  (mSeq (mSet 4 (mTup mNil))
  (mSeq (mFor (mItems (mVar 3)) (gV 5) (mSeq (mIf (mNot (mB (m1 (dIsi (fun t => t == "tuple")) (mVar 5)))) (mSeq (mSet 4 (m2 dPlus (mVar 4) (mTup (mCons (mVar 5) mNil))))
  (mpure .ct)) (mpure .nx))
  (mSeq (mIf (mOr (mB (m2 dNotInK (mSub (mVar 5) (mC (.int 1))) (mVar 2))) (mNot (mB (mFn 2 F_is_value (mCons (mVar 5) (mCons (mSub (mVar 2) (mSub (mVar 5) (mC (.int 1)))) mNil)))))) mno (mpure .nx))
  (mSet 4 (m2 dPlus (mVar 4) (mIfE (mB (mFn 1 F_is_tail (mCons (mVar 5) mNil))) (mSub (mVar 2) (mSub (mVar 5) (mC (.int 1)))) (mTup (mCons (mSub (mVar 2) (mSub (mVar 5) (mC (.int 1)))) mNil))))))))
  (mRet (mVar 4)))))))
def F_path_of : Fn := mkF 6 b_path_of
theorem ok_path_of {P : Program} {w : World} {K : PySem.W.Frag} {mg : Str → Option Value} {base : Heap} {f : Addr} {fd : FuncData} (F : Fun K "path_of" "path_of" (topS 37) f fd) (m_isinstance : mg "isinstance" = none) (m_dict : mg "dict" = none) (m_len : mg "len" = none) (m_tuple : mg "tuple" = none) (c_need_table : Cal P w K mg base "need_table" 7 1 F_need_table) (c_parts_of : Cal P w K mg base "parts_of" 1 2 F_parts_of) (c_names_of : Cal P w K mg base "names_of" 1 1 F_names_of) (c_is_value : Cal P w K mg base "is_value" 4 2 F_is_value) (c_is_tail : Cal P w K mg base "is_tail" 1 1 F_is_tail) :
    FnOk P w K mg base (L2N.CX P w) 8 f fd ["table", "title", "values"] (spF ⟨K, mg, P, w⟩ 3 F_path_of) :=
  fn_ok (j := 7) F sc_path_of fun cdv A outer s H E hr tk hp =>
    (sss_cons (ss_expr (se_call c_need_table (hr.mono (by decide)) tk (sa_cons (se_var (i := 0)) sa_nil)))
    (sss_cons (ss_set (i := 3) sc_path_of.nd (se_call c_parts_of (hr.mono (by decide)) tk (sa_cons (se_var (i := 0)) (sa_cons (se_var (i := 1)) sa_nil))))
    (sss_cons (ss_if (st_w (sw_or (st_not (st_val (se_isi isi_dict (se_var (i := 2)) m_isinstance m_dict (by decide +kernel)))) (sw_or1 (st_cmp (op_neA hr) od_neA (se_callB call_lenR cd_lenD m_len (by decide +kernel) (sa_cons (se_var (i := 2)) sa_nil)) (se_callB call_len cd_len m_len (by decide +kernel) (sa_cons (se_call c_names_of (hr.mono (by decide)) tk (sa_cons (se_var (i := 3)) sa_nil)) sa_nil)) (nomark _))))) (sss_one ss_never) sss_nil)
    (sss_cons (ss_set (i := 4) sc_path_of.nd (se_tup sa_nil))
    (sss_cons (ss_for hp (si_any (se_var (i := 3))) (sg_name (i := 5) sc_path_of.nd) (sss_cons (ss_if (st_not (st_val (se_isi isi_tuple (se_var (i := 5)) m_isinstance m_tuple (by decide +kernel)))) (sss_cons (ss_set (i := 4) sc_path_of.nd (se_plus (se_var (i := 4)) (se_tup (sa_cons (se_var (i := 5)) sa_nil))))
    (sss_one ss_continue)) sss_nil)
    (sss_cons (ss_if (st_w (sw_or (st_cmp (op_notInK (hu_of hr)) od_notInK (se_sub (hu_of hr) (se_var (i := 5)) se_int (fun _ _ => rfl)) (se_var (i := 2)) rfl) (sw_or1 (st_not (st_val (se_call c_is_value (hr.mono (by decide)) tk (sa_cons (se_var (i := 5)) (sa_cons (se_sub (hu_of hr) (se_var (i := 2)) (se_sub (hu_of hr) (se_var (i := 5)) se_int (fun _ _ => rfl)) (fun _ _ => rfl)) sa_nil)))))))) (sss_one ss_never) sss_nil)
    (sss_one (ss_set (i := 4) sc_path_of.nd (se_plus (se_var (i := 4)) (se_if (st_val (se_call c_is_tail (hr.mono (by decide)) tk (sa_cons (se_var (i := 5)) sa_nil))) (se_sub (hu_of hr) (se_var (i := 2)) (se_sub (hu_of hr) (se_var (i := 5)) se_int (fun _ _ => rfl)) (fun _ _ => rfl)) (se_tup (sa_cons (se_sub (hu_of hr) (se_var (i := 2)) (se_sub (hu_of hr) (se_var (i := 5)) se_int (fun _ _ => rfl)) (fun _ _ => rfl)) sa_nil)))))))))
    (sss_one (ss_ret (se_var (i := 4)))))))))
/-! _law_values -/
theorem sc__law_values : FnScope ["parts", "path", "part", "word", "rest", "digits", "sign"] ["parts", "path"] (defScope (topS 43)) := ⟨rfl, rfl, rfl, by decide +kernel, rfl, by decide +kernel, by decide +kernel⟩
def b__law_values (F_rec : Fn) : M Out :=
  (mSeq (mIf (mB (m2 dEqA (mVar 0) (mTup mNil))) (mRet (mIfE (mB (m2 dEqA (mVar 1) (mTup mNil))) (mFz mDic0) (mC .non))) (mpure .nx))
  (mSeq (mSet 2 (mSub (mVar 0) (mC (.int 0))))
  (mSeq (mIf (mAnd (mB (m1 (dIsi (fun t => t == "tuple")) (mVar 2))) (mB (m2 dEqA (mSub (mVar 2) (mC (.int 0))) (mC (.str "tail"))))) (mRet (mFz (mDisp (((mSub (mVar 2) (mC (.int 1))), (mVar 1)) :: [])))) (mpure .nx))
  (mSeq (mIf (mB (m2 dEqA (mVar 1) (mTup mNil))) (mRet (mC .non)) (mpure .nx))
  (mSeq (mSet 3 (mSub (mVar 1) (mC (.int 0))))
  (mSeq (mIf (mAnd (mB (m1 (dIsi (fun t => t == "str")) (mVar 2))) (mB (m2 dNeA (mVar 2) (mVar 3)))) (mRet (mC .non)) (mpure .nx))
  (mSeq (mIf (mNot (mB (m1 (dIsi (fun t => t == "str")) (mVar 2)))) (mSeq (mSet 5 (mCall dLen (mCons (mFz (mComp (mItems (mVar 3)) [6] (gV 6) (mB (m2 dInA (mVar 6) (mC (.str "0123456789")))) (mVar 6))) mNil)))
  (mIf (mOr (mAnd (mB (m2 dEqA (mSub (mVar 2) (mC (.int 0))) (mC (.str "letters")))) (mB (m2 dGt (mVar 5) (mC (.int 0))))) (mAnd (mB (m2 dEqA (mSub (mVar 2) (mC (.int 0))) (mC (.str "number")))) (mB (m2 dLt (mVar 5) (mCall dLen (mCons (mVar 3) mNil)))))) (mRet (mC .non)) (mpure .nx))) (mpure .nx))
  (mSeq (mSet 4 (mFn 2 F_rec (mCons (mSl (mVar 0) (mPart (mC (.int 1))) mNoPart) (mCons (mSl (mVar 1) (mPart (mC (.int 1))) mNoPart) mNil))))
  (mSeq (mIf (mOr (mB (m2 dIs (mVar 4) (mC .non))) (mB (m1 (dIsi (fun t => t == "str")) (mVar 2)))) (mRet (mVar 4)) (mpure .nx))
  (mRet (mFz (mDictN (mCons (m2 dPlus (mFz (mLst (mCons (mTup (mCons (mSub (mVar 2) (mC (.int 1))) (mCons (mVar 3) mNil))) mNil))) (mItemsL2 (mVar 4))) mNil)))))))))))))
def F__law_values : Fn := iterF (fun r => mkF 7 (b__law_values r)) 7
theorem ok__law_values {P : Program} {w : World} {K : PySem.W.Frag} {mg : Str → Option Value} {base : Heap} {f : Addr} {fd : FuncData} {j : Nat} {F_rec : Fn} (F : Fun K "_law_values" "_law_values" (topS 43) f fd) (m_isinstance : mg "isinstance" = none) (m_tuple : mg "tuple" = none) (m_str : mg "str" = none) (m_len : mg "len" = none) (m_list : mg "list" = none) (m_dict : mg "dict" = none) (c__law_values : Cal P w K mg base "_law_values" j 2 F_rec) (hj : 0 ≤ j) :
    FnOk P w K mg base (L2N.CX P w) (j + 1) f fd ["parts", "path"] (spF ⟨K, mg, P, w⟩ 2 (mkF 7 (b__law_values F_rec))) :=
  fn_ok (j := j) F sc__law_values fun cdv A outer s H E hr tk hp =>
    (sss_cons (ss_if (st_cmp (op_eqA hr) od_eqA (se_var (i := 0)) (se_tup sa_nil) (nomark _)) (sss_one (ss_ret (se_if (st_cmp (op_eqA hr) od_eqA (se_var (i := 1)) (se_tup sa_nil) (nomark _)) (se_ofN sn_dic0) se_non))) sss_nil)
    (sss_cons (ss_set (i := 2) sc__law_values.nd (se_sub (hu_of hr) (se_var (i := 0)) se_int (fun _ _ => rfl)))
    (sss_cons (ss_if (st_w (sw_and (st_val (se_isi isi_tuple (se_var (i := 2)) m_isinstance m_tuple (by decide +kernel))) (sw_and1 (st_cmp (op_eqA hr) od_eqA (se_sub (hu_of hr) (se_var (i := 2)) se_int (fun _ _ => rfl)) se_str (nomark _))))) (sss_one (ss_ret (se_ofN (sn_disp (sps_cons (se_sub (hu_of hr) (se_var (i := 2)) se_int (fun _ _ => rfl)) (se_var (i := 1)) sps_nil))))) sss_nil)
    (sss_cons (ss_if (st_cmp (op_eqA hr) od_eqA (se_var (i := 1)) (se_tup sa_nil) (nomark _)) (sss_one (ss_ret se_non)) sss_nil)
    (sss_cons (ss_set (i := 3) sc__law_values.nd (se_sub (hu_of hr) (se_var (i := 1)) se_int (fun _ _ => rfl)))
    (sss_cons (ss_if (st_w (sw_and (st_val (se_isi isi_str (se_var (i := 2)) m_isinstance m_str (by decide +kernel))) (sw_and1 (st_cmp (op_neA hr) od_neA (se_var (i := 2)) (se_var (i := 3)) (nomark _))))) (sss_one (ss_ret se_non)) sss_nil)
    (sss_cons (ss_if (st_not (st_val (se_isi isi_str (se_var (i := 2)) m_isinstance m_str (by decide +kernel)))) (sss_cons (ss_set (i := 5) sc__law_values.nd (se_callB call_len cd_len m_len (by decide +kernel) (sa_cons (se_ofN (sn_lc (own := [("sign", 6)]) sc__law_values.nd (si_any (se_var (i := 3))) (blkOk_by (N := ["parts", "path", "part", "word", "rest", "digits", "sign"]) (sc := defScope (topS 43)) (by decide +kernel)) (fun _ _ _ _ _ => (sg_name (i := 6) sc__law_values.nd)) (fun _ _ _ _ _ => sts_one (st_in (se_var (i := 6)) se_str)) (fun _ _ _ _ _ => (se_var (i := 6))) (by decide))) sa_nil)))
    (sss_one (ss_if (st_w (sw_or (st_w (sw_and (st_cmp (op_eqA hr) od_eqA (se_sub (hu_of hr) (se_var (i := 2)) se_int (fun _ _ => rfl)) se_str (nomark _)) (sw_and1 (st_cmp op_gt od_gt (se_var (i := 5)) se_int (nomark _))))) (sw_or1 (st_w (sw_and (st_cmp (op_eqA hr) od_eqA (se_sub (hu_of hr) (se_var (i := 2)) se_int (fun _ _ => rfl)) se_str (nomark _)) (sw_and1 (st_cmp op_lt od_lt (se_var (i := 5)) (se_callB call_len cd_len m_len (by decide +kernel) (sa_cons (se_var (i := 3)) sa_nil)) (nomark _)))))))) (sss_one (ss_ret se_non)) sss_nil))) sss_nil)
    (sss_cons (ss_set (i := 4) sc__law_values.nd (se_call c__law_values (hr.mono (by omega)) tk (sa_cons (se_slice (se_var (i := 0)) (so_some se_int) so_none) (sa_cons (se_slice (se_var (i := 1)) (so_some se_int) so_none) sa_nil))))
    (sss_cons (ss_if (st_w (sw_or (st_cmp op_isA od_is (se_var (i := 4)) se_non (nomark _)) (sw_or1 (st_val (se_isi isi_str (se_var (i := 2)) m_isinstance m_str (by decide +kernel)))))) (sss_one (ss_ret (se_var (i := 4)))) sss_nil)
    (sss_one (ss_ret (se_ofN (sn_dictN (sa_cons (se_plus (se_ofN (sn_list (sa_cons (se_tup (sa_cons (se_sub (hu_of hr) (se_var (i := 2)) se_int (fun _ _ => rfl)) (sa_cons (se_var (i := 3)) sa_nil))) sa_nil))) (se_items (se_var (i := 4)) m_list)) sa_nil) m_dict)))))))))))))
/-! fitting -/
theorem sc_fitting : FnScope ["table", "path", "title", "parts"] ["table", "path"] (defScope (topS 33)) := ⟨rfl, rfl, rfl, by decide +kernel, rfl, by decide +kernel, by decide +kernel⟩
def b_fitting : M Out :=
  (mSeq (mDrop (mFn 1 F_need_table (mCons (mVar 0) mNil)))
  (mSeq (mDrop (mFn 1 F_need_path (mCons (mVar 1) mNil)))
  (mRet (mFz (mComp (mItems (mSub (mVar 0) (mC (.int 1)))) [2, 3] (gT 2 (gsCons (gV 2) (gsCons (gV 3) gsNil))) (mB (m2 dNot (mFn0 2 F_values_of (mCons (mVar 3) (mCons (mVar 1) mNil))) (mC .non))) (mVar 2))))))
def F_fitting : Fn := mkF 4 b_fitting
theorem ok_fitting {P : Program} {w : World} {K : PySem.W.Frag} {mg : Str → Option Value} {base : Heap} {f : Addr} {fd : FuncData} (F : Fun K "fitting" "fitting" (topS 33) f fd) (c_need_table : Cal P w K mg base "need_table" 7 1 F_need_table) (c_need_path : Cal P w K mg base "need_path" 5 1 F_need_path) (c_values_of : Cal P w K mg base "values_of" 2 2 F_values_of) :
    FnOk P w K mg base (L2N.CX P w) 8 f fd ["table", "path"] (spF ⟨K, mg, P, w⟩ 2 F_fitting) :=
  fn_ok (j := 7) F sc_fitting fun cdv A outer s H E hr tk hp =>
    (sss_cons (ss_expr (se_call c_need_table (hr.mono (by decide)) tk (sa_cons (se_var (i := 0)) sa_nil)))
    (sss_cons (ss_expr (se_call c_need_path (hr.mono (by decide)) tk (sa_cons (se_var (i := 1)) sa_nil)))
    (sss_one (ss_ret (se_ofN (sn_lc (own := [("title", 2), ("parts", 3)]) sc_fitting.nd (si_any (se_sub (hu_of hr) (se_var (i := 0)) se_int (fun _ _ => rfl))) (blkOk_by (N := ["table", "path", "title", "parts"]) (sc := defScope (topS 33)) (by decide +kernel)) (fun _ _ _ _ _ => (sg_tup (sgs_cons (sg_name (i := 2) sc_fitting.nd) (sgs_cons (sg_name (i := 3) sc_fitting.nd) sgs_nil)))) (fun _ _ _ _ _ => sts_one (st_cmp op_notA od_not (se_call0 c_values_of (hr.mono (by decide)) (sa_cons (se_var (i := 3)) (sa_cons (se_var (i := 1)) sa_nil))) se_non (nomark _))) (fun _ _ _ _ _ => (se_var (i := 2))) (by decide)))))))
/-! _law_ranks -/
theorem sc__law_ranks : FnScope ["parts", "part"] ["parts"] (defScope (topS 44)) := ⟨rfl, rfl, rfl, by decide +kernel, rfl, by decide +kernel, by decide +kernel⟩
def b__law_ranks : M Out :=
  (mRet (m2 dPlus (mFz (mComp (mItems (mVar 0)) [1] (gV 1) (mpure true) (mIfE (mB (m1 (dIsi (fun t => t == "str")) (mVar 1))) (mC (.int 1)) (mDGet2 (mFz (mDisp (((mC (.str "any")), (mC (.int 3))) :: (((mC (.str "tail")), (mC (.int 4))) :: [])))) (mSub (mVar 1) (mC (.int 0))) (mC (.int 2)))))) (mFz (mLst (mCons (mC (.int 0)) mNil)))))
def F__law_ranks : Fn := mkF 2 b__law_ranks
theorem ok__law_ranks {P : Program} {w : World} {K : PySem.W.Frag} {mg : Str → Option Value} {base : Heap} {f : Addr} {fd : FuncData} (F : Fun K "_law_ranks" "_law_ranks" (topS 44) f fd) (m_isinstance : mg "isinstance" = none) (m_str : mg "str" = none) :
    FnOk P w K mg base (L2N.CX P w) 1 f fd ["parts"] (spF ⟨K, mg, P, w⟩ 1 F__law_ranks) :=
  fn_ok (j := 0) F sc__law_ranks fun cdv A outer s H E hr tk hp =>
    (sss_one (ss_ret (se_plus (se_ofN (sn_lc (own := [("part", 1)]) sc__law_ranks.nd (si_any (se_var (i := 0))) (blkOk_by (N := ["parts", "part"]) (sc := defScope (topS 44)) (by decide +kernel)) (fun _ _ _ _ _ => (sg_name (i := 1) sc__law_ranks.nd)) (fun _ _ _ _ _ => sts_nil) (fun _ _ _ _ _ => (se_if (st_val (se_isi isi_str (se_var (i := 1)) m_isinstance m_str (by decide +kernel))) se_int (se_dget2 (hu_of hr) (se_ofN (sn_disp (sps_cons se_str se_int (sps_cons se_str se_int sps_nil)))) (se_sub (hu_of hr) (se_var (i := 1)) se_int (fun _ _ => rfl)) se_int))) (by decide))) (se_ofN (sn_list (sa_cons se_int sa_nil))))))
/-! _law_taken -/
theorem sc__law_taken : FnScope ["table", "path", "fits", "best", "route"] ["table", "path"] (defScope (topS 45)) := ⟨rfl, rfl, rfl, by decide +kernel, rfl, by decide +kernel, by decide +kernel⟩
def b__law_taken : M Out :=
  (mSeq (mSet 2 (mFz (mComp (mItems (mSub (mVar 0) (mC (.int 1)))) [4] (gV 4) (mB (m2 dNot (mFn0 2 F__law_values (mCons (mSub (mVar 4) (mC (.int 1))) (mCons (mVar 1) mNil))) (mC .non))) (mVar 4))))
  (mSeq (mIf (mB (m2 dEqA (mVar 2) (mFz (mLst mNil)))) (mRet (mC .non)) (mpure .nx))
  (mSeq (mIf (mB (m2 dEqA (mSub (mVar 0) (mC (.int 0))) (mC (.str "order")))) (mRet (mSub (mVar 2) (mC (.int 0)))) (mpure .nx))
  (mSeq (mSet 3 (mCall dMin (mCons (mFz (mComp (mItems (mVar 2)) [4] (gV 4) (mpure true) (mFn0 1 F__law_ranks (mCons (mSub (mVar 4) (mC (.int 1))) mNil)))) mNil)))
  (mRet (mSub (mFz (mComp (mItems (mVar 2)) [4] (gV 4) (mB (m2 dEqA (mFn0 1 F__law_ranks (mCons (mSub (mVar 4) (mC (.int 1))) mNil)) (mVar 3))) (mVar 4))) (mC (.int 0))))))))
def F__law_taken : Fn := mkF 5 b__law_taken
theorem ok__law_taken {P : Program} {w : World} {K : PySem.W.Frag} {mg : Str → Option Value} {base : Heap} {f : Addr} {fd : FuncData} (F : Fun K "_law_taken" "_law_taken" (topS 45) f fd) (m_min : mg "min" = none) (c__law_values : Cal P w K mg base "_law_values" 7 2 F__law_values) (c__law_ranks : Cal P w K mg base "_law_ranks" 1 1 F__law_ranks) :
    FnOk P w K mg base (L2N.CX P w) 8 f fd ["table", "path"] (spF ⟨K, mg, P, w⟩ 2 F__law_taken) :=
  fn_ok (j := 7) F sc__law_taken fun cdv A outer s H E hr tk hp =>
    (sss_cons (ss_setLc (i := 2) (own := [("route", 4)]) sc__law_taken.nd (si_any (se_sub (hu_of hr) (se_var (i := 0)) se_int (fun _ _ => rfl))) (blkOk_by (N := ["table", "path", "fits", "best", "route"]) (sc := defScope (topS 45)) (by decide +kernel)) (fun _ _ _ _ _ => (sg_name (i := 4) sc__law_taken.nd)) (fun _ _ _ _ _ => sts_one (st_cmp op_notA od_not (se_call0 c__law_values (hr.mono (by decide)) (sa_cons (se_sub (hu_of hr) (se_var (i := 4)) se_int (fun _ _ => rfl)) (sa_cons (se_var (i := 1)) sa_nil))) se_non (nomark _))) (fun _ _ _ _ _ => (se_var (i := 4))) (by decide) (sw_true rfl rfl rfl (by decide +kernel)))
    (sss_cons (ss_if (st_cmp (op_eqA hr) od_eqA (se_var (i := 2)) (se_ofN (sn_list sa_nil)) (nomark _)) (sss_one (ss_ret se_non)) sss_nil)
    (sss_cons (ss_if (st_cmp (op_eqA hr) od_eqA (se_sub (hu_of hr) (se_var (i := 0)) se_int (fun _ _ => rfl)) se_str (nomark _)) (sss_one (ss_ret (se_sub (hu_of hr) (se_var (i := 2)) se_int (fun _ _ => rfl)))) sss_nil)
    (sss_cons (ss_set (i := 3) sc__law_taken.nd (se_callB (cr_min rfl hr) cd_min m_min (by decide +kernel) (sa_cons (se_ofN (sn_lc (own := [("route", 4)]) sc__law_taken.nd (si_any (se_var (i := 2))) (blkOk_by (N := ["table", "path", "fits", "best", "route"]) (sc := defScope (topS 45)) (by decide +kernel)) (fun _ _ _ _ _ => (sg_name (i := 4) sc__law_taken.nd)) (fun _ _ _ _ _ => sts_nil) (fun _ _ _ _ _ => (se_call0 c__law_ranks (hr.mono (by decide)) (sa_cons (se_sub (hu_of hr) (se_var (i := 4)) se_int (fun _ _ => rfl)) sa_nil))) (by decide))) sa_nil)))
    (sss_one (ss_ret (se_sub (hu_of hr) (se_ofN (sn_lc (own := [("route", 4)]) sc__law_taken.nd (si_any (se_var (i := 2))) (blkOk_by (N := ["table", "path", "fits", "best", "route"]) (sc := defScope (topS 45)) (by decide +kernel)) (fun _ _ _ _ _ => (sg_name (i := 4) sc__law_taken.nd)) (fun _ _ _ _ _ => sts_one (st_cmp (op_eqA hr) od_eqA (se_call0 c__law_ranks (hr.mono (by decide)) (sa_cons (se_sub (hu_of hr) (se_var (i := 4)) se_int (fun _ _ => rfl)) sa_nil)) (se_var (i := 3)) (nomark _))) (fun _ _ _ _ _ => (se_var (i := 4))) (by decide))) se_int (fun _ _ => rfl))))))))
/-! _law_title -/
theorem sc__law_title : FnScope ["table", "path", "route"] ["table", "path"] (defScope (topS 46)) := ⟨rfl, rfl, rfl, by decide +kernel, rfl, by decide +kernel, by decide +kernel⟩
def b__law_title : M Out :=
  (mSeq (mSet 2 (mFn 2 F__law_taken (mCons (mVar 0) (mCons (mVar 1) mNil))))
  (mRet (mIfE (mB (m2 dIs (mVar 2) (mC .non))) (mC .non) (mSub (mVar 2) (mC (.int 0))))))
def F__law_title : Fn := mkF 3 b__law_title
theorem ok__law_title {P : Program} {w : World} {K : PySem.W.Frag} {mg : Str → Option Value} {base : Heap} {f : Addr} {fd : FuncData} (F : Fun K "_law_title" "_law_title" (topS 46) f fd) (c__law_taken : Cal P w K mg base "_law_taken" 8 2 F__law_taken) :
    FnOk P w K mg base (L2N.CX P w) 9 f fd ["table", "path"] (spF ⟨K, mg, P, w⟩ 2 F__law_title) :=
  fn_ok (j := 8) F sc__law_title fun cdv A outer s H E hr tk hp =>
    (sss_cons (ss_set (i := 2) sc__law_title.nd (se_call c__law_taken (hr.mono (by decide)) tk (sa_cons (se_var (i := 0)) (sa_cons (se_var (i := 1)) sa_nil))))
    (sss_one (ss_ret (se_if (st_cmp op_isA od_is (se_var (i := 2)) se_non (nomark _)) se_non (se_sub (hu_of hr) (se_var (i := 2)) se_int (fun _ _ => rfl))))))
/-! law -/
theorem sc_law : FnScope ["script", "town", "table", "title", "parts", "k", "kept", "given", "path", "own", "found", "short", "one"] ["script"] (defScope (topS 49)) := ⟨rfl, rfl, rfl, by decide +kernel, rfl, by decide +kernel, by decide +kernel⟩
def b_law : M Out :=
  (mSeq (mSetCell 1 (mLst (mCons (mC (.int 0)) (mCons (mC (.int 0)) mNil))))
  (mSeq (mSet 2 (mFn 3 F__law_table (mCons (mVar 0) (mCons (mVar 1) (mCons (mC (.int 4)) mNil)))))
  (mSeq (mFor (mItems (mSub (mVar 2) (mC (.int 1)))) (gT 2 (gsCons (gV 3) (gsCons (gV 4) gsNil))) (mFor (mRange (mC (.int 3))) (gV 5) (mSeq (mAsg (gT 2 (gsCons (gV 7) (gsCons (gV 8) gsNil))) (mFn 3 F__law_given (mCons (mVar 0) (mCons (mVar 1) (mCons (mVar 4) mNil)))))
  (mSeq (mSet 6 (mFz (mDictD (mCons (mVar 7) mNil))))
  (mSeq (mIf (mOr (mB (m2 dNeA (mFn 3 F_path_of (mCons (mVar 2) (mCons (mVar 3) (mCons (mVar 7) mNil)))) (mVar 8))) (mOr (mB (m2 dNeA (mVar 7) (mVar 6))) (mB (m2 dNeA (mFn 2 F__law_values (mCons (mVar 4) (mCons (mVar 8) mNil))) (mVar 7))))) (mRet (mC (.bl false))) (mpure .nx))
  (mIf (mB (m2 dLe (mCall dLen (mCons (mVar 8) mNil)) (mC (.int 8)))) (mSeq (mSet 9 (mFn 2 F_taken (mCons (mVar 2) (mCons (mVar 8) mNil))))
  (mSeq (mIf (mOr (mB (m2 dNotIn (mVar 3) (mFn 2 F_fitting (mCons (mVar 2) (mCons (mVar 8) mNil))))) (mB (m2 dNeA (mVar 9) (mFn 2 F__law_title (mCons (mVar 2) (mCons (mVar 8) mNil)))))) (mRet (mC (.bl false))) (mpure .nx))
  (mSeq (mSet 10 (mFn 2 F_values (mCons (mVar 2) (mCons (mVar 8) mNil))))
  (mSeq (mIf (mAnd (mB (m2 dEqA (mVar 9) (mVar 3))) (mB (m2 dNeA (mVar 10) (mVar 7)))) (mRet (mC (.bl false))) (mpure .nx))
  (mSeq (mSet 11 (mCall dAll (mCons (mFz (mComp (mItemsV (mVar 10)) [12] (gV 12) (mpure true) (mOrV (m1 (dIsi (fun t => t == "str")) (mVar 12)) (m2 dLt (mCall dLen (mCons (mVar 12) mNil)) (mC (.int 5)))))) mNil)))
  (mIf (mAnd (mB (mVar 11)) (mB (m2 dNeA (mFn 3 F_path_of (mCons (mVar 2) (mCons (mVar 9) (mCons (mVar 10) mNil)))) (mVar 8)))) (mRet (mC (.bl false))) (mpure .nx))))))) (mpure .nx)))))))
  (mRet (mC (.bl true))))))
def F_law : Fn := mkF 13 b_law
theorem ok_law {P : Program} {w : World} {K : PySem.W.Frag} {mg : Str → Option Value} {base : Heap} {f : Addr} {fd : FuncData} (F : Fun K "law" "law" (topS 49) f fd) (m_range : mg "range" = none) (m_dict : mg "dict" = none) (m_len : mg "len" = none) (m_isinstance : mg "isinstance" = none) (m_str : mg "str" = none) (m_all : mg "all" = none) (c__law_table : Cal P w K mg base "_law_table" 4 3 F__law_table) (c__law_given : Cal P w K mg base "_law_given" 3 3 F__law_given) (c_path_of : Cal P w K mg base "path_of" 8 3 F_path_of) (c__law_values : Cal P w K mg base "_law_values" 7 2 F__law_values) (c_taken : Cal P w K mg base "taken" 8 2 F_taken) (c_fitting : Cal P w K mg base "fitting" 8 2 F_fitting) (c__law_title : Cal P w K mg base "_law_title" 9 2 F__law_title) (c_values : Cal P w K mg base "values" 8 2 F_values) :
    FnOk P w K mg base (L2N.CX P w) 10 f fd ["script"] (spF ⟨K, mg, P, w⟩ 1 F_law) :=
  fn_ok (j := 9) F sc_law fun cdv A outer s H E hr tk hp =>
    (sss_cons (ss_setCell (i := 1) sc_law.nd (sn_list (sa_cons se_int (sa_cons se_int sa_nil))))
    (sss_cons (ss_set (i := 2) sc_law.nd (se_call c__law_table (hr.mono (by decide)) tk (sa_cons (se_var (i := 0)) (sa_cons (se_var (i := 1)) (sa_cons se_int sa_nil)))))
    (sss_cons (ss_for hp (si_any (se_sub (hu_of hr) (se_var (i := 2)) se_int (fun _ _ => rfl))) (sg_tup (sgs_cons (sg_name (i := 3) sc_law.nd) (sgs_cons (sg_name (i := 4) sc_law.nd) sgs_nil))) (sss_one (ss_for hp (si_range se_int m_range) (sg_name (i := 5) sc_law.nd) (sss_cons (ss_asg (se_call c__law_given (hr.mono (by decide)) tk (sa_cons (se_var (i := 0)) (sa_cons (se_var (i := 1)) (sa_cons (se_var (i := 4)) sa_nil)))) (sg_tup (sgs_cons (sg_name (i := 7) sc_law.nd) (sgs_cons (sg_name (i := 8) sc_law.nd) sgs_nil))))
    (sss_cons (ss_set (i := 6) sc_law.nd (se_ofN (sn_dictD (sa_cons (se_var (i := 7)) sa_nil) m_dict)))
    (sss_cons (ss_if (st_w (sw_or (st_cmp (op_neA hr) od_neA (se_call c_path_of (hr.mono (by decide)) tk (sa_cons (se_var (i := 2)) (sa_cons (se_var (i := 3)) (sa_cons (se_var (i := 7)) sa_nil)))) (se_var (i := 8)) (nomark _)) (sw_or (st_cmp (op_neA hr) od_neA (se_var (i := 7)) (se_var (i := 6)) (nomark _)) (sw_or1 (st_cmp (op_neA hr) od_neA (se_call c__law_values (hr.mono (by decide)) tk (sa_cons (se_var (i := 4)) (sa_cons (se_var (i := 8)) sa_nil))) (se_var (i := 7)) (nomark _)))))) (sss_one (ss_ret se_bl)) sss_nil)
    (sss_one (ss_if (st_cmp op_le od_le (se_callB call_len cd_len m_len (by decide +kernel) (sa_cons (se_var (i := 8)) sa_nil)) se_int (nomark _)) (sss_cons (ss_set (i := 9) sc_law.nd (se_call c_taken (hr.mono (by decide)) tk (sa_cons (se_var (i := 2)) (sa_cons (se_var (i := 8)) sa_nil))))
    (sss_cons (ss_if (st_w (sw_or (st_notIn (se_var (i := 3)) (se_call c_fitting (hr.mono (by decide)) tk (sa_cons (se_var (i := 2)) (sa_cons (se_var (i := 8)) sa_nil)))) (sw_or1 (st_cmp (op_neA hr) od_neA (se_var (i := 9)) (se_call c__law_title (hr.mono (by decide)) tk (sa_cons (se_var (i := 2)) (sa_cons (se_var (i := 8)) sa_nil))) (nomark _))))) (sss_one (ss_ret se_bl)) sss_nil)
    (sss_cons (ss_set (i := 10) sc_law.nd (se_call c_values (hr.mono (by decide)) tk (sa_cons (se_var (i := 2)) (sa_cons (se_var (i := 8)) sa_nil))))
    (sss_cons (ss_if (st_w (sw_and (st_cmp (op_eqA hr) od_eqA (se_var (i := 9)) (se_var (i := 3)) (nomark _)) (sw_and1 (st_cmp (op_neA hr) od_neA (se_var (i := 10)) (se_var (i := 7)) (nomark _))))) (sss_one (ss_ret se_bl)) sss_nil)
    (sss_cons (ss_set (i := 11) sc_law.nd (se_callB (cr_all rfl) cd_all m_all (by decide +kernel) (sa_cons (se_ofN (sn_lc (own := [("one", 12)]) sc_law.nd (si_values (se_var (i := 10))) (blkOk_by (N := ["script", "town", "table", "title", "parts", "k", "kept", "given", "path", "own", "found", "short", "one"]) (sc := defScope (topS 49)) (by decide +kernel)) (fun _ _ _ _ _ => (sg_name (i := 12) sc_law.nd)) (fun _ _ _ _ _ => sts_nil) (fun _ _ _ _ _ => (se_or (se_isi isi_str (se_var (i := 12)) m_isinstance m_str (by decide +kernel)) (se_one (se_cmp op_lt od_lt (se_callB call_len cd_len m_len (by decide +kernel) (sa_cons (se_var (i := 12)) sa_nil)) se_int (nomark _))))) (by decide))) sa_nil)))
    (sss_one (ss_if (st_w (sw_and (st_val (se_var (i := 11))) (sw_and1 (st_cmp (op_neA hr) od_neA (se_call c_path_of (hr.mono (by decide)) tk (sa_cons (se_var (i := 2)) (sa_cons (se_var (i := 9)) (sa_cons (se_var (i := 10)) sa_nil)))) (se_var (i := 8)) (nomark _))))) (sss_one (ss_ret se_bl)) sss_nil))))))) sss_nil))))))))
    (sss_one (ss_ret se_bl)))))
end Law

/-! QProg: is_table on typed tables -/
namespace Law
open PySem L2 FX
structure POk (p : Pt) : Prop where
  part : ∀ g, F_is_part [p.d] g = .ok (.bl true) g
  tail : ∀ g, F_is_tail [p.d] g = .ok (.bl (isTl p)) g
  wd : PtW p
structure PsOk (ps : List Pt) : Prop where
  len : ps.length ≤ 5
  all : ∀ p ∈ ps, POk p
  nd : (names ps).Nodup
  tl : ∀ p ∈ ps.dropLast, isTl p = false
theorem all_true {α : Type} (l : List α) : (l.all fun _ => true) = true := by simp
theorem isi_tup (p : Pt) : dIsi (fun t => t == "tuple") p.d = some (.bl (isK p)) := by cases p <;> rfl
theorem names_ok (ps : List Pt) (hl : ps.length ≤ 1000) (g : List Ob) : F_names_of [psD ps] g = .ok (.lst ((names ps).map D.str)) g := by
  apply fr_rt (s1 := ⟨_, _⟩)
  apply ev_ret
  have e : (names ps).map D.str = (ps.filter isK).map fun p => match p with | .w x => D.str x | .k _ n => D.str n := by
    clear hl
    induction ps with
    | nil => rfl
    | cons p ps ih => cases p <;> simp [names_cons, Pt.nm, isK, ih, List.filter_cons]
  rw [e]
  refine ev_cI Pt.d _ isK ps (by omega) rfl fun p _ => ?_
  refine ⟨_, _, rfl, ev_B (ev_m1 rfl (isi_tup p)), rfl, fun hp => ?_⟩
  cases p with
  | w x => cases hp
  | k a b => exact ⟨_, rfl, rfl⟩
theorem names_le (ps : List Pt) : (names ps).length ≤ ps.length := List.length_filterMap_le _ _
theorem are_parts_ok {ps : List Pt} (h : PsOk ps) (g : List Ob) : F_are_parts [psD ps] g = .ok (.bl true) g := by
  have hl := h.len
  apply fr_rt (s1 := ⟨_, _⟩)
  apply ev_seq
  · apply ev_ifF
    · apply ev_orF
      · exact ev_not (ev_B (ev_m1 rfl rfl))
      apply ev_orF
      · refine ev_B (ev_m2 (ev_call rfl rfl) rfl (z := .bl false) ?_)
        show some (D.bl (decide ((5 : Int) < ((ps.map Pt.d).length : Int)))) = _
        rw [decide_eq_false (by rw [List.length_map]; omega)]
      exact ev_not (b := true) (ev_B (ev_allT Pt.d ps (by omega) rfl fun p hp => ⟨_, ⟨_, _⟩, rfl, ev_fn0 rfl rfl ((h.all p hp).part _), rfl⟩))
    rfl
  apply ev_seq
  · exact ev_set (ev_fn rfl rfl (names_ok ps (by omega) g))
  apply ev_ret
  have nl := names_le ps
  apply ev_andVT
  · apply ev_m2
    · exact ev_call rfl rfl
    · exact ev_m1 rfl (dLenSet_nodup h.nd (by omega))
    · rw [List.length_map, int_eq]; simp
  · have e : cutD (ps.map Pt.d) none (some (-1)) = ps.dropLast.map Pt.d := by rw [cut_last, List.map_dropLast]
    exact ev_notV (b := false) (ev_anyF Pt.d ps.dropLast (by rw [List.length_dropLast]; omega) (by rw [← e]; rfl) fun p hp => ⟨_, ⟨_, _⟩, rfl, ev_fn0 rfl rfl (by rw [← h.tl p hp]; exact (h.all p (List.dropLast_subset ps hp)).tail _), rfl⟩)
structure RtOk (r : Rt) : Prop where
  title : ∀ g, F_is_over [.str r.1, gc_LETTERS, .int 6] g = .ok (.bl true) g
  wd : Wd r.1
  ps : PsOk r.2
theorem is_route_ok {r : Rt} (h : RtOk r) (g : List Ob) : F_is_route [rtD r] g = .ok (.bl true) g := by
  apply fr_rt (s1 := ⟨_, _⟩)
  exact ev_ret (ev_andVT rfl (ev_andVT rfl (ev_andVT (ev_fn rfl rfl (h.title g)) (ev_fn rfl rfl (are_parts_ok h.ps g)))))
structure TbOk (t : Tb) : Prop where
  way : t.1 = "order" ∨ t.1 = "nearest"
  lo : 1 ≤ t.2.length
  hi : t.2.length ≤ 6
  all : ∀ r ∈ t.2, RtOk r
  nd : (t.2.map (·.1)).Nodup
theorem is_table_ok {t : Tb} (h : TbOk t) (g : List Ob) : F_is_table [tbD t] g = .ok (.bl true) g := by
  have lo := h.lo
  have hi := h.hi
  obtain ⟨way, rs⟩ := t
  have ht : way = "order" ∨ way = "nearest" := h.way
  have lo : 1 ≤ rs.length := lo
  have hi : rs.length ≤ 6 := hi
  have way0 : ∀ st : S, mB (m2 dNotIn (mC (.str way)) (mTup (mCons (mC (.str "order")) (mCons (mC (.str "nearest")) mNil)))) st = .ok false st := fun st => by rcases ht with z | z <;> subst z <;> rfl
  apply fr_rt (s1 := ⟨_, _⟩)
  apply ev_seq
  · exact ev_ifF rfl rfl
  apply ev_seq
  · exact ev_set rfl
  apply ev_seq
  · apply ev_ifF
    · apply ev_orF
      · exact way0 _
      apply ev_orF
      · rfl
      apply ev_not (b := true)
      apply ev_B
      have e1 : dLe (.int 1) (.int ((rs.map rtD).length : Nat)) = some (.bl true) := by
        show some (D.bl (decide ((1 : Int) ≤ ((rs.map rtD).length : Nat)))) = _
        rw [decide_eq_true (by rw [List.length_map]; omega)]
      have e2 : dLe (.int ((rs.map rtD).length : Nat)) gc_ROUTES = some (.bl true) := by
        show some (D.bl (decide ((((rs.map rtD).length : Nat) : Int) ≤ 6))) = _
        rw [decide_eq_true (by rw [List.length_map]; omega)]
      exact ev_chainT rfl (ev_call (z := .int ((rs.map rtD).length : Nat)) rfl rfl) e1 rfl e2
    rfl
  apply ev_seq
  · apply ev_ifF
    · exact ev_not (b := true) (ev_B (ev_allT rtD rs (by omega) rfl fun r hr => ⟨_, ⟨_, _⟩, rfl, ev_fn0 rfl rfl (is_route_ok (h.all r hr) _), rfl⟩))
    rfl
  apply ev_ret
  have e3 : D.lst (rs.map fun r => D.str r.1) = D.lst ((rs.map (·.1)).map D.str) := by rw [List.map_map]; rfl
  refine ev_m2 (ev_m1 (ev_cM rtD (fun r => D.str r.1) rs (by omega) rfl fun r hr => ⟨_, _, rfl, rfl, rfl⟩) (z := .int rs.length) ?_) (ev_call (ds := [.tup (rs.map rtD)]) rfl (z := .int rs.length) ?_) ?_
  · rw [e3, dLenSet_nodup h.nd (by rw [List.length_map]; exact Nat.le_trans hi (by decide)), List.length_map]
  · show some (D.int ((rs.map rtD).length : Nat)) = _
    rw [List.length_map]
  · rw [int_eq]; simp
theorem need_table_ok {t : Tb} (h : TbOk t) (g : List Ob) : F_need_table [tbD t] g = .ok .non g := by
  apply fr_nx (s1 := ⟨_, _⟩)
  exact ev_ifF (ev_not (b := true) (ev_B (ev_fn rfl rfl (is_table_ok h g)))) rfl
end Law

/-! QFit: parts that fit segments; routes in order -/
namespace Law
open PySem L2 FX
def sgn (kd : Str) : Str := if kd == "any" then "abcdefghijklmnopqrstuvwxyz0123456789" else if kd == "letters" then "abcdefghijklmnopqrstuvwxyz" else "0123456789"
def fits : Pt → Str → Bool
  | .w y, x => y == x
  | .k kd _, x => x.cps.toList.all fun c => decide (c ∈ (sgn kd).cps.toList)
def FOk : Pt → Prop
  | .w y => Wd y
  | .k kd nm => kd = "any" ∨ kd = "letters" ∨ kd = "number"
theorem FOk.tl {p : Pt} (h : FOk p) : isTl p = false := by
  cases p with
  | w x => rfl
  | k a b => rcases (show a = "any" ∨ a = "letters" ∨ a = "number" from h) with z | z | z <;> subst z <;> rfl
theorem in_sign (c : Nat) (y : Str) : dInA (.str ⟨#[c]⟩) (.str y) = some (.bl (decide (c ∈ y.cps.toList))) := rfl
theorem fits_ok {p : Pt} {x : Str} (hp : FOk p) (hx : Wd x) (g : List Ob) : F_fits_part [p.d, .str x] g = .ok (.bl (fits p x)) g := by
  cases p with
  | w y =>
    apply fr_rt (s1 := ⟨_, _⟩)
    apply ev_seqR
    apply ev_ifT
    · rfl
    · exact ev_ret (ev_m2 rfl rfl (str_eq (show Wd y from hp) hx))
  | k kd nm =>
    have hs : ∀ st : S, st.e[0]? = some (some (.val (.tup [.str kd, .str nm]))) → (mSub (mFz (mDisp (((mC (.str "any")), (m2 dPlus (mC gc_LETTERS) (mC gc_DIGITS))) :: (((mC (.str "letters")), (mC gc_LETTERS)) :: (((mC (.str "number")), (mC gc_DIGITS)) :: []))))) (mC (.str kd))) st = .ok (.str (sgn kd)) st := fun st _ => by
      rcases (show kd = "any" ∨ kd = "letters" ∨ kd = "number" from hp) with z | z | z <;> subst z <;> rfl
    apply fr_rt (s1 := ⟨_, _⟩)
    apply ev_seq
    · exact ev_ifF rfl rfl
    apply ev_seq
    · exact ev_set (hs _ rfl)
    apply ev_ret
    exact ev_all (fun c => D.str ⟨#[c]⟩) (fun c => decide (c ∈ (sgn kd).cps.toList)) x.cps.toList (Nat.le_trans hx.2 (by decide)) rfl fun c _ => ⟨_, _, rfl, ev_m2 rfl rfl (in_sign c _), rfl⟩
def binds : List Pt → List Str → List (Str × D)
  | .k _ n :: ps, x :: ws => (n, .str x) :: binds ps ws
  | .w _ :: ps, _ :: ws => binds ps ws
  | _, _ => []
def fitAll : List Pt → List Str → Bool
  | p :: ps, x :: ws => fits p x && fitAll ps ws
  | _, _ => true
theorem atI_last {α : Type} (l : List α) (x : α) : atI (l ++ [x]) (-1) = some x := by
  have h : ixN (l ++ [x]).length (-1) = some l.length := by
    unfold ixN
    rw [List.length_append, if_neg (by omega), if_pos (by simp; omega)]
    simp
    omega
  unfold atI
  rw [h]
  simp
theorem ne_nil {b : List Pt} (h : ∀ p ∈ b, PtW p) : dNeA (psD b) (.tup []) = some (.bl (!b.isEmpty)) := by
  rw [show (D.tup []) = psD [] from rfl, dNeA_of (ps_eq h (fun _ z => by cases z))]
  cases b with
  | nil => rfl
  | cons p b => rw [eqD_psF (by simp)]; rfl
theorem len_lt (a b : Nat) : dLt (.int a) (.int b) = some (.bl (decide (a < b))) := by
  show some (D.bl (decide ((a : Int) < b))) = _
  simp
theorem len_gt (a b : Nat) : dGt (.int a) (.int b) = some (.bl (decide (b < a))) := by
  show some (D.bl (decide ((b : Int) < a))) = _
  simp
/-- the rest of the walk -/
theorem ite_iff {α : Type} {a b : Prop} [Decidable a] [Decidable b] (h : a ↔ b) (x y : α) : (if a then x else y) = if b then x else y := by
  by_cases q : a
  · rw [if_pos q, if_pos (h.mp q)]
  · rw [if_neg q, if_neg (fun z => q (h.mpr z))]
structure BOk (b : List Pt) : Prop where
  f : ∀ p ∈ b, FOk p
  p : ∀ p ∈ b, POk p
  nd : (names b).Nodup
  len : b.length ≤ 100
def sol : List Pt → List Str → Option (List (Str × D))
  | [], [] => some []
  | [], _ :: _ => none
  | .w y :: ps, [] => none
  | .w y :: ps, x :: r => if fits (.w y) x = true then sol ps r else none
  | .k kd nm :: ps, [] => if isTl (.k kd nm) = true then some [(nm, pathD [])] else none
  | .k kd nm :: ps, x :: r => if isTl (.k kd nm) = true then some [(nm, pathD (x :: r))] else if fits (.k kd nm) x = true then (sol ps r).map ((nm, .str x) :: ·) else none
theorem sol_plain : ∀ {b : List Pt} (ws : List Str), (∀ p ∈ b, FOk p) → sol b ws = if ws.length = b.length ∧ fitAll b ws = true then some (binds b ws) else none
  | [], [], _ => by simp [sol, fitAll, binds]
  | [], _ :: _, _ => by simp [sol]
  | .w y :: ps, [], _ => by simp [sol]
  | .k a n :: ps, [], h => by simp [sol, (h _ List.mem_cons_self).tl]
  | .w y :: ps, x :: r, h => by
    have ih := sol_plain (b := ps) r fun p hp => h p (List.mem_cons_of_mem _ hp)
    cases q : fits (.w y) x <;> simp [sol, fitAll, binds, ih, q]
  | .k a n :: ps, x :: r, h => by
    have ih := sol_plain (b := ps) r fun p hp => h p (List.mem_cons_of_mem _ hp)
    have tl := (h _ List.mem_cons_self).tl
    cases q : fits (.k a n) x <;> simp [sol, fitAll, binds, ih, q, tl]
theorem sol_tail {nm : Str} : ∀ {b : List Pt} (ws : List Str), (∀ p ∈ b, FOk p) → sol (b ++ [.k "tail" nm]) ws = if b.length ≤ ws.length ∧ fitAll b ws = true then some (binds b ws ++ [(nm, pathD (ws.drop b.length))]) else none
  | [], [], _ => by simp [sol, fitAll, binds, isTl]
  | [], x :: r, _ => by simp [sol, fitAll, binds, isTl]
  | .w y :: ps, [], _ => by simp [sol]
  | .k a n :: ps, [], h => by simp [sol, (h _ List.mem_cons_self).tl]
  | .w y :: ps, x :: r, h => by
    have ih := sol_tail (nm := nm) (b := ps) r fun p hp => h p (List.mem_cons_of_mem _ hp)
    cases q : fits (.w y) x <;> simp [sol, fitAll, binds, ih, q]
  | .k a n :: ps, x :: r, h => by
    have ih := sol_tail (nm := nm) (b := ps) r fun p hp => h p (List.mem_cons_of_mem _ hp)
    have tl := (h _ List.mem_cons_self).tl
    cases q : fits (.k a n) x <;> simp [sol, fitAll, binds, ih, q, tl]
/-- parts, with a tail at the end or none -/
def PO (ps : List Pt) : Prop := BOk ps ∨ ∃ b nm, ps = b ++ [.k "tail" nm] ∧ BOk b ∧ POk (.k "tail" nm) ∧ (names ps).Nodup
theorem PO.wd {ps : List Pt} (h : PO ps) : ∀ p ∈ ps, PtW p := by
  rcases h with h | ⟨b, nm, rfl, h, ht, _⟩
  · exact fun p hp => (h.p p hp).wd
  · intro p hp
    rcases List.mem_append.mp hp with z | z
    · exact (h.p p z).wd
    · rw [List.mem_singleton.mp z]; exact ht.wd
theorem binds_keys : ∀ (b : List Pt) (ws : List Str), ((binds b ws).map (·.1)).Sublist (names b)
  | [], ws => by simp [binds]
  | .w y :: ps, [] => by simp [binds]
  | .k a n :: ps, [] => by simp [binds]
  | .w y :: ps, x :: r => by simpa [binds, names_cons, Pt.nm] using binds_keys ps r
  | .k a n :: ps, x :: r => by simpa [binds, names_cons, Pt.nm] using binds_keys ps r
theorem binds_vals : ∀ (b : List Pt) (ws : List Str), (∀ x ∈ ws, Wd x) → ∀ q ∈ binds b ws, ∃ x, Wd x ∧ q.2 = .str x
  | [], ws, _, q, h => by simp [binds] at h
  | .w y :: ps, [], _, q, h => by simp [binds] at h
  | .k a n :: ps, [], _, q, h => by simp [binds] at h
  | .w y :: ps, x :: r, hw, q, h => binds_vals ps r (fun y hy => hw y (List.mem_cons_of_mem _ hy)) q (by simpa [binds] using h)
  | .k a n :: ps, x :: r, hw, q, h => by
    simp only [binds, List.mem_cons] at h
    rcases h with h | h
    · exact ⟨x, hw x List.mem_cons_self, by rw [h]⟩
    · exact binds_vals ps r (fun y hy => hw y (List.mem_cons_of_mem _ hy)) q h
theorem str_self {x : Str} (h : Wd x) : okEq (.str x) (.str x) = true ∧ eqD (.str x) (.str x) = true := ⟨okEq_of h.1 h.1 (by simp [dep]) (by simp [dep]), by rw [eqD_str]; simp⟩
theorem path_self {ws : List Str} (h : ∀ x ∈ ws, Wd x) : okEq (pathD ws) (pathD ws) = true ∧ eqD (pathD ws) (pathD ws) = true := ⟨path_eq h h, (eqD_strs ws ws).mpr rfl⟩
/-! ranks -/
def rk : Pt → Int
  | .w _ => 1
  | .k a _ => if a == "any" then 3 else if a == "tail" then 4 else 2
def rks (ps : List Pt) : List Int := ps.map rk ++ [0]
def KOk : Pt → Prop
  | .w y => True
  | .k kd nm => kd = "any" ∨ kd = "letters" ∨ kd = "number" ∨ kd = "tail"
theorem PO.kok {ps : List Pt} (h : PO ps) : ∀ p ∈ ps, KOk p := by
  have fk : ∀ p, FOk p → KOk p := fun p h => by
    cases p with
    | w x => trivial
    | k a n => rcases (show a = "any" ∨ a = "letters" ∨ a = "number" from h) with z | z | z <;> subst z <;> simp [KOk]
  rcases h with h | ⟨b, nm, rfl, h, ht, _⟩
  · exact fun p hp => fk p (h.f p hp)
  · intro p hp
    rcases List.mem_append.mp hp with z | z
    · exact fk p (h.f p z)
    · rw [List.mem_singleton.mp z]; simp [KOk]
theorem PO.len {ps : List Pt} (h : PO ps) : ps.length ≤ 101 := by
  rcases h with h | ⟨b, nm, rfl, h, ht, _⟩
  · have := h.len; omega
  · have := h.len; simp; omega
theorem rank_ok {p : Pt} (h : KOk p) (g : List Ob) : F_rank [p.d] g = .ok (.int (rk p)) g := by
  cases p with
  | w x => rfl
  | k a n => rcases (show a = "any" ∨ a = "letters" ∨ a = "number" ∨ a = "tail" from h) with z | z | z | z <;> subst z <;> rfl
theorem cat_ok {a b : List D} (h : a.length + b.length ≤ 100000) : dPlus (.lst a) (.lst b) = some (.lst (a ++ b)) := by
  show (if a.length + b.length ≤ 100000 then some (D.lst (a ++ b)) else none) = _
  rw [if_pos h]
theorem rks_D (ps : List Pt) : (rks ps).map D.int = (ps.map fun p => D.int (rk p)) ++ [D.int 0] := by unfold rks; rw [List.map_append, List.map_map]; rfl
theorem ranks_ok {r : Rt} (h : PO r.2) (g : List Ob) : F_ranks [rtD r] g = .ok (.lst ((rks r.2).map D.int)) g := by
  have hl := h.len
  apply fr_rt (s1 := ⟨_, _⟩)
  apply ev_ret
  rw [rks_D]
  apply ev_m2
  · exact ev_cM Pt.d (fun p => D.int (rk p)) r.2 (by omega) rfl fun p hp => ⟨_, ⟨_, _⟩, rfl, ev_fn0 rfl rfl (rank_ok (h.kok p hp) _), rfl⟩
  · rfl
  · exact cat_ok (by rw [List.length_map]; simp; omega)
theorem intsOf_map : ∀ l : List Int, intsOf (l.map D.int) = some l
  | [] => rfl
  | x :: l => by simp only [List.map_cons, intsOf, intsOf_map l, Option.map_some]
theorem rowOf_map (l : List Int) : rowOf (.lst (l.map D.int)) = some l := intsOf_map l
theorem keysBy_ok {f : Fn} {k : Rt → List Int} : ∀ (rs : List Rt) (g : List Ob), (∀ r ∈ rs, ∀ g, f [rtD r] g = .ok (.lst ((k r).map D.int)) g) → keysBy f (rs.map rtD) g = some (rs.map k, g)
  | [], g, _ => rfl
  | r :: rs, g, h => by
    simp only [List.map_cons, keysBy, h r List.mem_cons_self, rowOf_map, keysBy_ok rs g fun q hq => h q (List.mem_cons_of_mem _ hq)]
theorem byRowD_ok (k : Rt → List Int) (rs : List Rt) : byRowD ((rs.map k).zip (rs.map rtD)) = (rs.mergeSort fun p q => decide (k p ≤ k q)).map rtD := by
  have e : (rs.map k).zip (rs.map rtD) = rs.map fun r => (k r, rtD r) := by
    induction rs with
    | nil => rfl
    | cons r rs ih => simp [ih]
  rw [byRowD_eq, e, ← List.map_mergeSort (r := fun p q : Rt => decide (k p ≤ k q)) (fun _ _ _ _ => rfl), List.map_map]
  rfl
def ord (t : Tb) : List Rt := if t.1 == "order" then t.2 else t.2.mergeSort fun p q => decide (rks p.2 ≤ rks q.2)
/-- a table whose routes can be asked -/
structure TO (t : Tb) : Prop where
  way : t.1 = "order" ∨ t.1 = "nearest"
  po : ∀ r ∈ t.2, PO r.2
theorem wd_order : Wd "order" := ⟨by decide +kernel, by decide +kernel⟩
theorem wd_nearest : Wd "nearest" := ⟨by decide +kernel, by decide +kernel⟩
theorem way_order {way : Str} (h : way = "order" ∨ way = "nearest") : dEqA (.str way) (.str "order") = some (.bl (way == "order")) := by
  rcases h with z | z <;> subst z
  · exact str_eq wd_order wd_order
  · exact str_eq wd_nearest wd_order
theorem ordered_ok {t : Tb} (h : TO t) (g : List Ob) : F_ordered [tbD t] g = .ok (.lst ((ord t).map rtD)) g := by
  obtain ⟨way, rs⟩ := t
  have hp : ∀ r ∈ rs, PO r.2 := h.po
  have hq := way_order (show way = "order" ∨ way = "nearest" from h.way)
  have kb := keysBy_ok (f := F_ranks) (k := fun r => rks r.2) rs g fun r hr g => ranks_ok (hp r hr) g
  apply fr_rt (s1 := ⟨[some (.val (tbD (way, rs)))], g⟩)
  apply ev_ret
  apply ev_ifE (s1 := ⟨[some (.val (tbD (way, rs)))], g⟩)
  · exact ev_B (ev_m2 rfl rfl hq)
  cases c : (way == ("order" : Str)) with
  | true =>
    have e : ord (way, rs) = rs := by unfold ord; simp only [c, if_true]
    rw [e]
    rfl
  | false =>
    have e : ord (way, rs) = rs.mergeSort fun p q => decide (rks p.2 ≤ rks q.2) := by unfold ord; simp only [c]; rfl
    rw [e]
    show mSortKey F_ranks (mSub (mVar 0) (mC (.int 1))) _ = _
    refine ev_bind (a := .tup (rs.map rtD)) (s1 := ⟨[some (.val (tbD (way, rs)))], g⟩) rfl ?_
    simp only [kb, byRowD_ok (fun r => rks r.2)]
theorem ord_mem {t : Tb} {r : Rt} (h : r ∈ ord t) : r ∈ t.2 := by
  unfold ord at h
  split at h
  · exact h
  · exact List.mem_mergeSort.mp h
def solB (ws : List Str) (r : Rt) : Bool := (sol r.2 ws).isSome
def hit (t : Tb) (ws : List Str) : Option Rt := (ord t).find? (solB ws)
def rtO : Option Rt → D
  | none => .non
  | some r => rtD r
def titO : Option Rt → D
  | none => .non
  | some r => .str r.1
end Law

/-! PLawF: the law's own defs on typed tables -/
namespace Law
open PySem L2 FX
def alnum : Str := "abcdefghijklmnopqrstuvwxyz0123456789"
def SegW (x : Str) : Prop := Wd x ∧ ∀ c ∈ x.cps.toList, c ∈ alnum.cps.toList
def solD : Option (List (Str × D)) → D
  | none => .non
  | some d => .dic (keyS d)
/-- how the law asks -/
def fitL : Str → Str → Bool := fun kd x => !((kd == "letters" && decide (0 < (x.cps.toList.filter fun c => decide (c ∈ ("0123456789" : Str).cps.toList)).length)) || (kd == "number" && decide ((x.cps.toList.filter fun c => decide (c ∈ ("0123456789" : Str).cps.toList)).length < x.cps.toList.length)))
theorem split_sign : ∀ c ∈ alnum.cps.toList, (decide (c ∈ ("abcdefghijklmnopqrstuvwxyz" : Str).cps.toList)) = !(decide (c ∈ ("0123456789" : Str).cps.toList)) := by decide +kernel
theorem all_len {α : Type} (f : α → Bool) : ∀ l : List α, (!decide ((l.filter f).length < l.length)) = l.all f
  | [] => rfl
  | c :: l => by
    have ih := all_len f l
    have le := List.length_filter_le f l
    cases q : f c with
    | true => rw [List.filter_cons_of_pos q, List.all_cons, q, ← ih, List.length_cons, List.length_cons, Bool.true_and]; simp
    | false =>
      rw [List.filter_cons_of_neg (by rw [q]; decide), List.all_cons, q, List.length_cons, decide_eq_true (by omega)]; rfl
theorem none_len {α : Type} (f : α → Bool) : ∀ l : List α, (!decide (0 < (l.filter f).length)) = l.all fun c => !f c
  | [] => rfl
  | c :: l => by
    have ih := none_len f l
    cases q : f c with
    | true => rw [List.filter_cons_of_pos q, List.all_cons, q, List.length_cons, decide_eq_true (by omega)]; rfl
    | false => rw [List.filter_cons_of_neg (by rw [q]; decide), List.all_cons, q, ← ih]; rfl
theorem fitL_eq {kd nm x : Str} (hk : kd = "any" ∨ kd = "letters" ∨ kd = "number") (hx : SegW x) : fitL kd x = fits (.k kd nm) x := by
  rcases hk with z | z | z <;> subst z
  · show (!(_ && _ || _ && _)) = (x.cps.toList.all fun c => decide (c ∈ alnum.cps.toList))
    have : (x.cps.toList.all fun c => decide (c ∈ alnum.cps.toList)) = true := by simp only [List.all_eq_true, decide_eq_true_eq]; exact hx.2
    rw [this]; rfl
  · show (!(true && decide (0 < (x.cps.toList.filter fun c => decide (c ∈ ("0123456789" : Str).cps.toList)).length) || false && _)) = (x.cps.toList.all fun c => decide (c ∈ ("abcdefghijklmnopqrstuvwxyz" : Str).cps.toList))
    rw [Bool.true_and, Bool.false_and, Bool.or_false, none_len]
    have h2 := hx.2
    generalize x.cps.toList = l at h2
    induction l with
    | nil => rfl
    | cons c l ih => rw [List.all_cons, List.all_cons, ih fun y hy => h2 y (List.mem_cons_of_mem _ hy), split_sign c (h2 c List.mem_cons_self)]
  · show (!(false && _ || true && decide ((x.cps.toList.filter fun c => decide (c ∈ ("0123456789" : Str).cps.toList)).length < x.cps.toList.length))) = (x.cps.toList.all fun c => decide (c ∈ ("0123456789" : Str).cps.toList))
    rw [Bool.true_and, Bool.false_and, Bool.false_or, all_len]
theorem at_zero {α : Type} (x : α) (l : List α) : atI (x :: l) 0 = some x := by
  have h : ixN (x :: l).length 0 = some 0 := by
    unfold ixN
    rw [if_pos (by decide), if_pos (by rw [List.length_cons]; omega)]
    rfl
  unfold atI
  rw [h]
  rfl
theorem ps_zero (p : Pt) (ps : List Pt) (st : S) : mSub (mC (psD (p :: ps))) (mC (.int 0)) st = .ok p.d st := by
  show mopt (atI (p.d :: ps.map Pt.d) 0) _ = _
  rw [at_zero]; rfl
theorem ws_zero (x : Str) (r : List Str) (st : S) : mSub (mC (pathD (x :: r))) (mC (.int 0)) st = .ok (.str x) st := by
  show mopt (atI (D.str x :: r.map D.str) 0) _ = _
  rw [at_zero]; rfl
theorem rs_zero (x : Rt) (r : List Rt) (st : S) : mSub (mC (.lst ((x :: r).map rtD))) (mC (.int 0)) st = .ok (rtD x) st := by
  show mopt (atI (rtD x :: r.map rtD) 0) _ = _
  rw [at_zero]; rfl
theorem keysOf_S : ∀ l : List (Str × D), pairsOf ((keyS l).map pairD) = some (l.map fun p => ((Sum.inr p.1 : Key), p.2))
  | [] => rfl
  | (x, d) :: l => by
    have ih := keysOf_S l
    show (match pair1 (D.tup [D.str x, d]), pairsOf ((keyS l).map pairD) with | some p, some r => some (p :: r) | _, _ => none) = _
    rw [ih]
    rfl
theorem merge_S : ∀ (l acc : List (Str × D)), ((acc ++ l).map (·.1)).Nodup → mergeD (keyS acc) (l.map fun p => ((Sum.inr p.1 : Key), p.2)) = keyS (acc ++ l)
  | [], acc, _ => by simp [mergeD]
  | (x, d) :: l, acc, nd => by
    have hx : x ∉ acc.map (·.1) := fun z => by
      rw [List.map_append, List.map_cons] at nd
      exact (List.nodup_append.mp nd).2.2 _ z _ List.mem_cons_self rfl
    show mergeD (putD (keyS acc) (Sum.inr x) d) (l.map fun p => ((Sum.inr p.1 : Key), p.2)) = _
    rw [putD_new hx, merge_S l (acc ++ [(x, d)]) (by simpa using nd)]
    simp
theorem dDict_S {l : List (Str × D)} (nd : (l.map (·.1)).Nodup) : dDict [.lst ((keyS l).map pairD)] = some (.dic (keyS l)) := by
  show (pairsOf ((keyS l).map pairD)).map (fun kv => D.dic (mergeD [] kv)) = _
  rw [keysOf_S]
  show some (D.dic (mergeD (keyS []) (l.map fun p => ((Sum.inr p.1 : Key), p.2)))) = _
  rw [merge_S l [] nd, List.nil_append]
theorem eq_nil {b : List Pt} (h : ∀ p ∈ b, PtW p) : dEqA (psD b) (.tup []) = some (.bl b.isEmpty) := by
  rw [show (D.tup []) = psD [] from rfl, dEqA_of (ps_eq h (fun _ z => by cases z))]
  cases b with
  | nil => rfl
  | cons p b => rw [eqD_psF (by simp)]; rfl
theorem eq_nilW {b : List Str} (h : ∀ p ∈ b, Wd p) : dEqA (pathD b) (.tup []) = some (.bl b.isEmpty) := by
  rw [show (D.tup []) = pathD [] from rfl, dEqA_of (path_eq h (fun _ z => by cases z))]
  cases b with
  | nil => rfl
  | cons p b => rfl
theorem sol_keys : ∀ (ps : List Pt) (ws : List Str) (d : List (Str × D)), sol ps ws = some d → (d.map (·.1)).Sublist (names ps)
  | [], [], d, h => by simp [sol] at h; subst h; simp
  | [], _ :: _, d, h => by simp [sol] at h
  | .w y :: ps, [], d, h => by simp [sol] at h
  | .w y :: ps, x :: r, d, h => by
    simp only [sol] at h
    split at h
    · simpa [names_cons, Pt.nm] using sol_keys ps r d h
    · cases h
  | .k a n :: ps, [], d, h => by
    simp only [sol] at h
    split at h
    · cases h; simp [names_cons, Pt.nm]
    · cases h
  | .k a n :: ps, x :: r, d, h => by
    simp only [sol] at h
    split at h
    · cases h; simp [names_cons, Pt.nm]
    · split at h
      · cases q : sol ps r with
        | none => rw [q] at h; cases h
        | some e =>
          rw [q] at h
          cases h
          simpa [names_cons, Pt.nm] using sol_keys ps r e q
      · cases h
/-! the law's values -/
theorem wd_tail : Wd "tail" := ⟨by decide +kernel, by decide +kernel⟩
theorem wd_letters : Wd "letters" := ⟨by decide +kernel, by decide +kernel⟩
theorem wd_number : Wd "number" := ⟨by decide +kernel, by decide +kernel⟩
theorem cut_one {α : Type} (f : α → D) (x : α) (l : List α) : cutD ((x :: l).map f) (some 1) none = l.map f := by
  have := cut_from (l := (x :: l).map f) (n := 1) (by simp)
  rw [show ((1 : Nat) : Int) = 1 from rfl] at this
  rw [this]; rfl
end Law

/-! PLawT: the law's taken -/
namespace Law
open PySem L2 FX
theorem solD_test (o : Option (List (Str × D))) : dNot (solD o) .non = some (.bl o.isSome) := by cases o <;> rfl
def RtW (r : Rt) : Prop := Wd r.1 ∧ ∀ p ∈ r.2, PtW p
theorem plain_rt {r : Rt} (h : RtW r) : plain (rtD r) = true := by
  have h2 : plains (r.2.map Pt.d) = true := plains_ps h.2
  show (plain (.str r.1) && (plains (r.2.map Pt.d) && true)) = true
  rw [h.1.1, h2]; rfl
theorem dep_rt (r : Rt) : dep (rtD r) ≤ 3 := by
  have := deps_ps r.2
  unfold rtD psD
  simp only [dep, deps]
  omega
theorem plains_rs : ∀ {rs : List Rt}, (∀ r ∈ rs, RtW r) → plains (rs.map rtD) = true
  | [], _ => rfl
  | r :: rs, h => by simp only [List.map_cons, plains, plain_rt (h r List.mem_cons_self), plains_rs fun y hy => h y (List.mem_cons_of_mem _ hy), Bool.and_self]
theorem deps_rs : ∀ rs : List Rt, deps (rs.map rtD) ≤ 3
  | [] => by simp [deps]
  | r :: rs => by have a := dep_rt r; have b := deps_rs rs; simp only [List.map_cons, deps]; omega
theorem rs_nil {rs : List Rt} (h : ∀ r ∈ rs, RtW r) : dEqA (.lst (rs.map rtD)) (.lst []) = some (.bl rs.isEmpty) := by
  have d1 := deps_rs rs
  rw [dEqA_of (okEq_of (by simpa [FX.plain] using plains_rs h) (by simp [FX.plain, plains]) (by simp only [dep]; omega) (by simp [dep, deps]))]
  cases rs <;> rfl
theorem ints_eq (a b : List Int) : dEqA (.lst (a.map D.int)) (.lst (b.map D.int)) = some (.bl (decide (a = b))) := by
  have dz : ∀ l : List Int, deps (l.map D.int) = 0 := fun l => by induction l with | nil => simp [deps] | cons x l ih => simp [deps, dep, ih]
  rw [dEqA_of (okEq_of (by simpa [FX.plain] using plains_int a) (by simpa [FX.plain] using plains_int b) (by simp [dep, dz]) (by simp [dep, dz]))]
  have h : eqDs (a.map D.int) (b.map D.int) = true ↔ a = b := eqDs_map (f := D.int) (fun x y => by show ((x == y) = true) ↔ _; exact beq_iff_eq) a b
  show some (D.bl (eqDs (a.map D.int) (b.map D.int))) = _
  congr 2
  rw [Bool.eq_iff_iff, h, decide_eq_true_eq]
theorem rowsOf_map : ∀ l : List (List Int), rowsOf (l.map fun r => D.lst (r.map D.int)) = some l
  | [] => rfl
  | r :: l => by simp only [List.map_cons, FX.rowsOf, rowOf_map, rowsOf_map l]
theorem minRow_fact : ∀ (rs : List (List Int)) (r : List Int), minRow r rs ∈ r :: rs ∧ ∀ x ∈ r :: rs, minRow r rs ≤ x
  | [], r => ⟨List.mem_cons_self, fun x hx => by rw [List.mem_singleton.mp hx]; exact List.le_refl _⟩
  | y :: rs, r => by
    obtain ⟨h1, h2⟩ := minRow_fact rs (if y < r then y else r)
    have e : minRow r (y :: rs) = minRow (if y < r then y else r) rs := rfl
    rw [e]
    by_cases c : y < r
    · rw [if_pos c] at h1 h2 ⊢
      refine ⟨List.mem_cons_of_mem _ h1, fun x hx => ?_⟩
      rcases List.mem_cons.mp hx with z | z
      · rw [z]; exact List.le_trans (h2 y List.mem_cons_self) (List.le_of_lt c)
      · exact h2 x z
    · rw [if_neg c] at h1 h2 ⊢
      refine ⟨?_, fun x hx => ?_⟩
      · rcases List.mem_cons.mp h1 with z | z
        · rw [z]; exact List.mem_cons_self
        · exact List.mem_cons_of_mem _ (List.mem_cons_of_mem _ z)
      · rcases List.mem_cons.mp hx with z | z
        · rw [z]; exact h2 r List.mem_cons_self
        · rcases List.mem_cons.mp z with w | w
          · rw [w]; exact List.le_trans (h2 r List.mem_cons_self) (List.not_lt.mp c)
          · exact h2 x (List.mem_cons_of_mem _ w)
/-- tables that the law may ask -/
structure LT (t : Tb) : Prop where
  to : TO t
  len : ∀ r ∈ t.2, r.2.length ≤ 6
  nd : ∀ r ∈ t.2, (names r.2).Nodup
  wd : ∀ r ∈ t.2, RtW r
  few : t.2.length ≤ 1000
theorem head_find {α : Type} (p : α → Bool) : ∀ l : List α, l.find? p = (l.filter p).head?
  | [] => rfl
  | x :: l => by
    cases q : p x with
    | true => rw [List.find?_cons, q, List.filter_cons_of_pos q]; rfl
    | false => rw [List.find?_cons, q, List.filter_cons_of_neg (by rw [q]; decide), ← head_find p l]
end Law

namespace Law
open PySem L2 FX
/-! draws -/
def Town (g : List Ob) : Prop := ∃ (a b : Int) (J : List Ob), 0 ≤ a ∧ 0 ≤ b ∧ g = .lst [.int a, .int b] :: J
theorem atI_nat {α : Type} {l : List α} {a : Int} (h0 : 0 ≤ a) (h1 : a < l.length) : ∃ x, atI l a = some x := by
  obtain ⟨n, rfl⟩ := Int.eq_ofNat_of_zero_le h0
  have hn : n < l.length := by omega
  refine ⟨l[n], ?_⟩
  unfold atI ixN
  rw [if_pos h0]
  have h2 : ((n : Int) < (l.length : Int)) := by omega
  first
    | (rw [if_pos h2]; simp [hn])
    | simp [hn, h2]
theorem mul_ok {i j : Int} (h : (-(2 ^ 64) < i ∧ i < 2 ^ 64) ∨ (-(2 ^ 64) < j ∧ j < 2 ^ 64)) : dMul (.int i) (.int j) = some (.int (i * j)) := by
  show (if (-(2 ^ 64) < i ∧ i < 2 ^ 64) ∨ (-(2 ^ 64) < j ∧ j < 2 ^ 64) then some (D.int (i * j)) else none) = _
  rw [if_pos h]
theorem draw_ok (ns : List Int) {g : List Ob} (T : Town g) {m : Int} (h0 : 0 < m) (h1 : m < 2 ^ 30) :
    ∃ r g', F__law_draw [.scr ns, .cell 0, .int m] g = .ok (.int r) g' ∧ Town g' ∧ 0 ≤ r ∧ r < m := by
  obtain ⟨a, b, J, ha, hb, rfl⟩ := T
  have md : ∀ i : Int, dMod (.int i) (.int m) = some (.int (i % m)) := fun i => by show (if 0 < m then _ else _) = _; rw [if_pos h0]
  have fd : ∀ i : Int, dFdiv (.int i) (.int m) = some (.int (i / m)) := fun i => by show (if 0 < m ∧ m < 2 ^ 30 then _ else _) = _; rw [if_pos ⟨h0, h1⟩]
  by_cases c : 0 < b
  · refine ⟨b % m, (.lst [.int a, .int (b / m)] :: J), ?_, ⟨a, b / m, J, ha, Int.ediv_nonneg hb (by omega), rfl⟩, Int.emod_nonneg _ (by omega), Int.emod_lt_of_pos _ h0⟩
    apply fr_rt (s1 := ⟨_, _⟩)
    apply ev_seqR
    apply ev_ifT (s1 := ⟨_, _⟩)
    · show R.ok (decide (0 < b)) _ = _
      rw [decide_eq_true c]
    apply ev_seq
    · exact ev_set (ev_m2 rfl rfl (md b))
    apply ev_seq
    · exact ev_bind (ev_m2 rfl rfl (fd b)) rfl
    exact ev_ret rfl
  · have b0 : b = 0 := by omega
    subst b0
    cases ns with
    | nil =>
      refine ⟨a % m, (.lst [.int (a + 1), .int 0] :: J), ?_, ⟨a + 1, 0, J, by omega, by omega, rfl⟩, Int.emod_nonneg _ (by omega), Int.emod_lt_of_pos _ h0⟩
      apply fr_rt (s1 := ⟨_, _⟩)
      apply ev_seq
      · exact ev_ifF rfl rfl
      apply ev_seq
      · exact ev_set rfl
      apply ev_seq
      · rfl
      apply ev_seqR
      apply ev_ifT
      · rfl
      exact ev_ret (ev_m2 rfl rfl (md a))
    | cons n0 ns =>
      generalize hns : n0 :: ns = xs
      have hl : 0 < (xs.length : Int) := by rw [← hns]; simp
      have sc : dEqA (.scr xs) (.lst []) = some (.bl false) := by rw [← hns]; rfl
      have up : b__law_draw ⟨initE 6 [.scr xs, .cell 0, .int m], (.lst [.int a, .int 0] :: J)⟩ = (mSeq (mIf (mAnd (mB (m2 dLt (mVar 3) (mCall dLen (mCons (mVar 0) mNil)))) (mB (m2 dGe (mSub (mVar 0) (mVar 3)) (m2 dPow (mC (.int 10)) (mC (.int 18)))))) (mSeq (mSetC (mVar 1) (mC (.int 1)) (m2 dMod (m2 dFdiv (mSub (mVar 0) (mVar 3)) (mVar 2)) (m2 dMulW (m2 dPow (mC (.int 10)) (mC (.int 60))) (m2 dPow (mC (.int 10)) (mC (.int 60))))))
  (mRet (m2 dMod (mSub (mVar 0) (mVar 3)) (mVar 2)))) (mpure .nx))
  (mSeq (mSet 4 (m2 dMod (m2 dPlus (m2 dPlus (m2 dMul (mSub (mVar 0) (m2 dMod (mVar 3) (mCall dLen (mCons (mVar 0) mNil)))) (mC (.int 1103515245))) (m2 dMul (mC (.int 7919)) (mVar 3))) (mC (.int 12345))) (mC (.int 2147483647))))
  (mRet (m2 dMod (m2 dMod (m2 dMod (m2 dPow (mVar 4) (mC (.int 5))) (mC (.int 2147483647))) (mC (.int 999983))) (mVar 2)))) ⟨[some (.val (.scr xs)), some (.val (.cell 0)), some (.val (.int m)), some (.val (.int a)), none, none], (.lst [.int (a + 1), .int 0] :: J)⟩) := by
        apply ev_seq
        · exact ev_ifF rfl rfl
        apply ev_seq
        · exact ev_set rfl
        apply ev_seq
        · rfl
        apply ev_seq
        · exact ev_ifF (ev_B (ev_m2 rfl rfl sc)) rfl
        rfl
      have late : ∀ g, ∃ r e, (mSeq (mSet 4 (m2 dMod (m2 dPlus (m2 dPlus (m2 dMul (mSub (mVar 0) (m2 dMod (mVar 3) (mCall dLen (mCons (mVar 0) mNil)))) (mC (.int 1103515245))) (m2 dMul (mC (.int 7919)) (mVar 3))) (mC (.int 12345))) (mC (.int 2147483647))))
  (mRet (m2 dMod (m2 dMod (m2 dMod (m2 dPow (mVar 4) (mC (.int 5))) (mC (.int 2147483647))) (mC (.int 999983))) (mVar 2)))) ⟨[some (.val (.scr xs)), some (.val (.cell 0)), some (.val (.int m)), some (.val (.int a)), none, none], g⟩ = .ok (.rt (.int r)) ⟨e, g⟩ ∧ 0 ≤ r ∧ r < m := by
        intro g
        obtain ⟨x, hx⟩ := atI_nat (l := xs) (a := a % xs.length) (Int.emod_nonneg _ (by omega)) (Int.emod_lt_of_pos _ hl)
        have e1 : dMod (.int a) (.int xs.length) = some (.int (a % xs.length)) := by show (if 0 < (xs.length : Int) then _ else _) = _; rw [if_pos hl]
        have e2 : dMul (.int x) (.int 1103515245) = some (.int (x * 1103515245)) := mul_ok (.inr (by omega))
        have e3 : dMul (.int 7919) (.int a) = some (.int (7919 * a)) := mul_ok (.inl (by omega))
        have e4 : ∀ i : Int, dPow (.int (i % 2147483647)) (.int 5) = some (.int ((i % 2147483647) ^ 5)) := fun i => by
          show (if _ ∧ _ ∧ _ then some (D.int (_ ^ (5 : Int).toNat)) else _) = _
          have q1 := Int.emod_nonneg i (b := 2147483647) (by omega)
          have q2 := Int.emod_lt_of_pos i (b := 2147483647) (by omega)
          rw [if_pos ⟨by omega, by omega, by omega⟩]
          rfl
        have e5 : mSub (mC (.scr xs)) (mC (.int (a % xs.length))) ⟨[some (.val (.scr xs)), some (.val (.cell 0)), some (.val (.int m)), some (.val (.int a)), none, none], g⟩ = .ok (.int x) ⟨[some (.val (.scr xs)), some (.val (.cell 0)), some (.val (.int m)), some (.val (.int a)), none, none], g⟩ := by
          show mopt ((atI xs (a % xs.length)).map D.int) _ = _
          rw [hx]
          rfl
        refine ⟨(((x * 1103515245 + 7919 * a + 12345) % 2147483647) ^ 5) % 2147483647 % 999983 % m, [some (.val (.scr xs)), some (.val (.cell 0)), some (.val (.int m)), some (.val (.int a)), some (.val (.int ((x * 1103515245 + 7919 * a + 12345) % 2147483647))), none], ?_, Int.emod_nonneg _ (by omega), Int.emod_lt_of_pos _ h0⟩
        apply ev_seq
        · exact ev_set (ev_m2 (ev_m2 (ev_m2 (ev_m2 (ev_sub rfl (ev_m2 rfl rfl e1) e5) rfl e2) (ev_m2 rfl rfl e3) rfl) rfl rfl) rfl rfl)
        exact ev_ret (ev_m2 (ev_m2 (ev_m2 (ev_m2 rfl rfl (e4 _)) rfl rfl) rfl rfl) rfl (md _))
      by_cases c1 : a < xs.length
      · obtain ⟨x, hx⟩ := atI_nat ha c1
        have e5 : ∀ st : S, mSub (mC (.scr xs)) (mC (.int a)) st = .ok (.int x) st := fun st => by
          show mopt ((atI xs a).map D.int) _ = _
          rw [hx]
          rfl
        by_cases c2 : (10 : Int) ^ 18 ≤ x
        · refine ⟨x % m, (.lst [.int (a + 1), .int (x / m % (10 ^ 60 * 10 ^ 60))] :: J), ?_, ⟨a + 1, _, J, by omega, Int.emod_nonneg _ (by decide), rfl⟩, Int.emod_nonneg _ (by omega), Int.emod_lt_of_pos _ h0⟩
          apply fr_rt (s1 := ⟨_, _⟩)
          refine up.trans ?_
          apply ev_seqR
          apply ev_ifT
          · apply ev_andT
            · exact ev_B (ev_m2 rfl rfl (show some (D.bl (decide (a < xs.length))) = _ by rw [decide_eq_true c1]))
            · exact ev_B (ev_m2 (ev_sub rfl rfl (e5 _)) rfl (show some (D.bl (decide ((10 : Int) ^ 18 ≤ x))) = _ by rw [decide_eq_true c2]))
          apply ev_seq
          · exact ev_bind (ev_m2 (ev_m2 (ev_sub rfl rfl (e5 _)) rfl (fd x)) rfl rfl) rfl
          exact ev_ret (ev_m2 (ev_sub rfl rfl (e5 _)) rfl (md x))
        · obtain ⟨r, e, h3, h4, h5⟩ := late (.lst [.int (a + 1), .int 0] :: J)
          refine ⟨r, (.lst [.int (a + 1), .int 0] :: J), ?_, ⟨a + 1, 0, J, by omega, by omega, rfl⟩, h4, h5⟩
          apply fr_rt (s1 := ⟨e, _⟩)
          refine up.trans ?_
          apply ev_seq
          · apply ev_ifF
            · apply ev_andT
              · exact ev_B (ev_m2 rfl rfl (show some (D.bl (decide (a < xs.length))) = _ by rw [decide_eq_true c1]))
              · exact ev_B (ev_m2 (ev_sub rfl rfl (e5 _)) rfl (show some (D.bl (decide ((10 : Int) ^ 18 ≤ x))) = _ by rw [decide_eq_false c2]))
            rfl
          exact h3
      · obtain ⟨r, e, h3, h4, h5⟩ := late (.lst [.int (a + 1), .int 0] :: J)
        refine ⟨r, (.lst [.int (a + 1), .int 0] :: J), ?_, ⟨a + 1, 0, J, by omega, by omega, rfl⟩, h4, h5⟩
        apply fr_rt (s1 := ⟨e, _⟩)
        refine up.trans ?_
        apply ev_seq
        · apply ev_ifF
          · apply ev_andF
            exact ev_B (ev_m2 rfl rfl (show some (D.bl (decide (a < xs.length))) = _ by rw [decide_eq_false c1]))
          rfl
        exact h3
end Law

/-! PGenA: parts as the law makes them -/
namespace Law
open PySem L2 FX
theorem ev_app {i : Nat} {m : M D} {s s1 : S} {l0 l : List D} {d : D} (h : ownL s i = some l0) (k : m s = .ok d s1) (h1 : ownL s1 i = some l) (hl : l.length < 100000) : mApp i m s = .ok .non (setO i (.lst (l ++ [d])) s1) := by
  unfold mApp
  rw [h]
  refine ev_bind k ?_
  simp only [h1]
  rw [if_pos hl]
theorem ev_pop {i : Nat} {s : S} {l : List D} {d : D} (h : ownL s i = some (l ++ [d])) : mPop i s = .ok d (setO i (.lst l) s) := by
  unfold mPop
  rw [h]
  simp
theorem pick_ok (ns : List Int) {g : List Ob} (T : Town g) {l : List D} (h0 : 0 < l.length) (h1 : l.length < 2 ^ 30) : ∃ x g', F__law_pick [.scr ns, .cell 0, .lst l] g = .ok x g' ∧ Town g' ∧ x ∈ l := by
  obtain ⟨r, g', e, T', r0, r1⟩ := draw_ok ns T (m := l.length) (by omega) (by omega)
  obtain ⟨x, hx⟩ := atI_nat (l := l) r0 r1
  refine ⟨x, g', ?_, T', ?_⟩
  · apply fr_rt (s1 := ⟨_, _⟩)
    refine ev_ret (ev_sub (x := .lst l) rfl (ev_fn (ds := [.scr ns, .cell 0, .int l.length]) rfl rfl e) ?_)
    show mopt (atI l r) _ = _
    rw [hx]
    rfl
  · unfold atI at hx
    cases q : ixN l.length r with
    | none => rw [q] at hx; cases hx
    | some j => rw [q] at hx; exact List.mem_of_getElem? hx
theorem pickT_ok (ns : List Int) {g : List Ob} (T : Town g) {l : List D} (h0 : 0 < l.length) (h1 : l.length < 2 ^ 30) : ∃ x g', F__law_pick [.scr ns, .cell 0, .tup l] g = .ok x g' ∧ Town g' ∧ x ∈ l := by
  obtain ⟨r, g', e, T', r0, r1⟩ := draw_ok ns T (m := l.length) (by omega) (by omega)
  obtain ⟨x, hx⟩ := atI_nat (l := l) r0 r1
  refine ⟨x, g', ?_, T', ?_⟩
  · apply fr_rt (s1 := ⟨_, _⟩)
    refine ev_ret (ev_sub (x := .tup l) rfl (ev_fn (ds := [.scr ns, .cell 0, .int l.length]) rfl rfl e) ?_)
    show mopt (atI l r) _ = _
    rw [hx]
    rfl
  · unfold atI at hx
    cases q : ixN l.length r with
    | none => rw [q] at hx; cases hx
    | some j => rw [q] at hx; exact List.mem_of_getElem? hx
def Nm : List Str := ["u", "vw", "x", "yz"]
def Wp : List Str := ["a", "b", "1", "a1"]
def K3 : List Str := ["any", "letters", "number"]
/-- a part that is no tail, as the law makes it -/
def GP (p : Pt) : Prop := (∃ x ∈ Wp, p = .w x) ∨ ∃ k ∈ K3, ∃ n ∈ Nm, p = .k k n
theorem wd_nm : ∀ n ∈ Nm, Wd n := by
  intro n hn
  simp only [Nm, List.mem_cons, List.not_mem_nil, or_false] at hn
  rcases hn with z | z | z | z <;> subst z <;> exact ⟨by decide +kernel, by decide +kernel⟩
theorem wd_k3 : ∀ n ∈ K3, Wd n := by
  intro n hn
  simp only [K3, List.mem_cons, List.not_mem_nil, or_false] at hn
  rcases hn with z | z | z <;> subst z <;> exact ⟨by decide +kernel, by decide +kernel⟩
theorem tail_ok {kd nm : Str} (h : Wd kd) (g : List Ob) : F_is_tail [(Pt.k kd nm).d] g = .ok (.bl (isTl (.k kd nm))) g := by
  apply fr_rt (s1 := ⟨_, _⟩)
  exact ev_ret (ev_andVT rfl (ev_m2 rfl rfl (str_eq h wd_tail)))
theorem part_k : ∀ kd ∈ K3, ∀ nm ∈ Nm, ∀ g, F_is_part [(Pt.k kd nm).d] g = .ok (.bl true) g := by
  intro kd hk nm hn g
  simp only [K3, Nm, List.mem_cons, List.not_mem_nil, or_false] at hk hn
  rcases hk with z | z | z <;> subst z <;> rcases hn with w | w | w | w <;> subst w <;> rfl
theorem part_t : ∀ nm ∈ Nm, ∀ g, F_is_part [(Pt.k "tail" nm).d] g = .ok (.bl true) g := by
  intro nm hn g
  simp only [Nm, List.mem_cons, List.not_mem_nil, or_false] at hn
  rcases hn with w | w | w | w <;> subst w <;> rfl
theorem part_w : ∀ x ∈ Wp, (∀ g, F_is_part [D.str x] g = .ok (.bl true) g) ∧ (∀ g, F_is_segment [D.str x] g = .ok (.bl true) g) ∧ SegW x := by
  intro x hx
  simp only [Wp, List.mem_cons, List.not_mem_nil, or_false] at hx
  rcases hx with z | z | z | z <;> subst z <;> exact ⟨fun _ => rfl, fun _ => rfl, ⟨by decide +kernel, by decide +kernel⟩, by decide +kernel⟩
theorem GP.pok {p : Pt} (h : GP p) : POk p := by
  rcases h with ⟨x, hx, rfl⟩ | ⟨k, hk, n, hn, rfl⟩
  · exact ⟨(part_w x hx).1, fun g => rfl, (part_w x hx).2.2.1⟩
  · exact ⟨part_k k hk n hn, tail_ok (wd_k3 k hk), wd_k3 k hk, wd_nm n hn⟩
theorem GP.fok {p : Pt} (h : GP p) : FOk p := by
  rcases h with ⟨x, hx, rfl⟩ | ⟨k, hk, n, hn, rfl⟩
  · exact (part_w x hx).2.2.1
  · simpa [K3, FOk] using hk
theorem tail_pok {n : Str} (h : n ∈ Nm) : POk (.k "tail" n) := ⟨part_t n h, tail_ok wd_tail, wd_tail, wd_nm n h⟩
/-- a route's parts as the law makes them -/
structure GPs (ps : List Pt) : Prop where
  ok : PsOk ps
  po : PO ps
  len : ps.length ≤ 4
  gp : ∀ p ∈ ps, GP p ∨ ∃ n ∈ Nm, p = .k "tail" n
end Law

/-! PGen: what the law makes of a script -/
namespace Law
open PySem L2 FX
structure Inv3 (b : List Pt) (rem : List Str) : Prop where
  gp : ∀ p ∈ b, GP p
  nd : (names b ++ rem).Nodup
  sub : ∀ n ∈ rem, n ∈ Nm
  len : 4 ≤ rem.length + b.length
abbrev pBody : M Out := (mIf (mB (m2 dEqA (mFn 3 F__law_draw (mCons (mVar 0) (mCons (mVar 1) (mCons (mC (.int 2)) mNil)))) (mC (.int 0)))) (mDrop (mApp 3 (mFn 3 F__law_pick (mCons (mVar 0) (mCons (mVar 1) (mCons (mFz (mLst (mCons (mC (.str "a")) (mCons (mC (.str "b")) (mCons (mC (.str "1")) (mCons (mC (.str "a1")) mNil)))))) mNil)))))) (mDrop (mApp 3 (mTup (mCons (mFn 3 F__law_pick (mCons (mVar 0) (mCons (mVar 1) (mCons (mFz (mLst (mCons (mC (.str "any")) (mCons (mC (.str "any")) (mCons (mC (.str "letters")) (mCons (mC (.str "number")) mNil)))))) mNil)))) (mCons (mPop 4) mNil))))))
abbrev eP (ns : List Int) (s2 : Option Sl) (b : List Pt) (rem : List Str) : List (Option Sl) := [some (.val (.scr ns)), some (.val (.cell 0)), s2, some (.own (.lst (b.map Pt.d))), some (.own (.lst (rem.map D.str)))]
theorem names_snoc (b : List Pt) (p : Pt) : names (b ++ [p]) = names b ++ (match p.nm with | some n => [n] | none => []) := by
  unfold names
  rw [List.filterMap_append]
  cases p <;> rfl
theorem pop_one {rem : List Str} (h : 1 ≤ rem.length) : ∃ r n, rem = r ++ [n] := by
  rcases List.eq_nil_or_concat rem with z | ⟨i, p, z⟩
  · subst z; cases h
  · exact ⟨i, p, by rw [z, List.concat_eq_append]⟩
theorem parts_loop (ns : List Int) : ∀ (l : List D) (b : List Pt) (rem : List Str) (s2 : Option Sl) (g : List Ob), Town g → Inv3 b rem → l.length + b.length ≤ 3 →
    ∃ b' rem' s2' g', forR (gV 2) pBody l ⟨eP ns s2 b rem, g⟩ = .ok .nx ⟨eP ns s2' b' rem', g'⟩ ∧ Town g' ∧ Inv3 b' rem' ∧ b'.length ≤ 3
  | [], b, rem, s2, g, T, I, h => ⟨b, rem, s2, g, rfl, T, I, by simpa using h⟩
  | d :: l, b, rem, s2, g, T, I, h => by
    have hb : l.length + 1 + b.length ≤ 3 := h
    obtain ⟨r, g1, e1, T1, r0, r1⟩ := draw_ok ns T (m := 2) (by omega) (by omega)
    have turn : ∃ b1 rem1 g2, pBody ⟨eP ns (some (.val d)) b rem, g⟩ = .ok .nx ⟨eP ns (some (.val d)) b1 rem1, g2⟩ ∧ Town g2 ∧ Inv3 b1 rem1 ∧ b1.length = b.length + 1 := by
      by_cases c : r = 0
      · subst c
        obtain ⟨x, g2, e2, T2, hx⟩ := pick_ok ns T1 (l := [.str "a", .str "b", .str "1", .str "a1"]) (by simp) (by simp)
        obtain ⟨y, hy, rfl⟩ : ∃ y ∈ Wp, x = D.str y := by
          simp only [List.mem_cons, List.not_mem_nil, or_false] at hx
          rcases hx with z | z | z | z <;> subst z <;> exact ⟨_, by simp [Wp], rfl⟩
        refine ⟨b ++ [.w y], rem, g2, ?_, T2, ⟨fun p hp => ?_, ?_, I.sub, ?_⟩, by simp⟩
        · apply ev_ifT
          · exact ev_B (ev_m2 (ev_fn rfl rfl e1) rfl rfl)
          apply ev_drop
          have q := ev_app (i := 3) (s := ⟨eP ns (some (.val d)) b rem, g1⟩) (l0 := b.map Pt.d) (l := b.map Pt.d) (d := .str y) (s1 := ⟨eP ns (some (.val d)) b rem, g2⟩) (m := (mFn 3 F__law_pick (mCons (mVar 0) (mCons (mVar 1) (mCons (mFz (mLst (mCons (mC (.str "a")) (mCons (mC (.str "b")) (mCons (mC (.str "1")) (mCons (mC (.str "a1")) mNil)))))) mNil))))) rfl (ev_fn rfl rfl e2) rfl (by rw [List.length_map]; omega)
          rw [show eP ns (some (.val d)) (b ++ [.w y]) rem = [some (.val (.scr ns)), some (.val (.cell 0)), some (.val d), some (.own (.lst (b.map Pt.d ++ [.str y]))), some (.own (.lst (rem.map D.str)))] by unfold eP; rw [List.map_append]; rfl]
          exact q
        · rcases List.mem_append.mp hp with z | z
          · exact I.gp p z
          · rw [List.mem_singleton.mp z]; exact .inl ⟨y, hy, rfl⟩
        · rw [names_snoc]; simpa [Pt.nm] using I.nd
        · have := I.len; simp; omega
      · obtain ⟨x, g2, e2, T2, hx⟩ := pick_ok ns T1 (l := [.str "any", .str "any", .str "letters", .str "number"]) (by simp) (by simp)
        obtain ⟨y, hy, rfl⟩ : ∃ y ∈ K3, x = D.str y := by
          simp only [List.mem_cons, List.not_mem_nil, or_false] at hx
          rcases hx with z | z | z | z <;> subst z <;> exact ⟨_, by simp [K3], rfl⟩
        obtain ⟨rm, n, rfl⟩ := pop_one (rem := rem) (by have := I.len; omega)
        refine ⟨b ++ [.k y n], rm, g2, ?_, T2, ⟨fun p hp => ?_, ?_, fun m hm => I.sub m (List.mem_append_left _ hm), ?_⟩, by simp⟩
        · apply ev_ifF (s1 := ⟨eP ns (some (.val d)) b (rm ++ [n]), g1⟩)
          · have q : dEqA (.int r) (.int 0) = some (.bl false) := by rw [int_eq]; simp [c]
            exact ev_B (ev_m2 (ev_fn rfl rfl e1) rfl q)
          apply ev_drop
          have tp : mTup (mCons (mFn 3 F__law_pick (mCons (mVar 0) (mCons (mVar 1) (mCons (mFz (mLst (mCons (mC (.str "any")) (mCons (mC (.str "any")) (mCons (mC (.str "letters")) (mCons (mC (.str "number")) mNil)))))) mNil)))) (mCons (mPop 4) mNil)) ⟨eP ns (some (.val d)) b (rm ++ [n]), g1⟩ = .ok (.tup [.str y, .str n]) ⟨eP ns (some (.val d)) b rm, g2⟩ := by
            refine ev_tup (ds := [.str y, .str n]) (ev_cons (s1 := ⟨eP ns (some (.val d)) b (rm ++ [n]), g2⟩) (ev_fn rfl rfl e2) (ev_cons (s1 := ⟨eP ns (some (.val d)) b rm, g2⟩) ?_ rfl)) (by simp)
            refine ev_pop (l := rm.map D.str) ?_
            show some ((rm ++ [n]).map D.str) = _
            rw [List.map_append]; rfl
          have q := ev_app (i := 3) (s := ⟨eP ns (some (.val d)) b (rm ++ [n]), g1⟩) (l0 := b.map Pt.d) (l := b.map Pt.d) rfl tp rfl (by rw [List.length_map]; omega)
          rw [show eP ns (some (.val d)) (b ++ [.k y n]) rm = [some (.val (.scr ns)), some (.val (.cell 0)), some (.val d), some (.own (.lst (b.map Pt.d ++ [.tup [.str y, .str n]]))), some (.own (.lst (rm.map D.str)))] by unfold eP; rw [List.map_append]; rfl]
          exact q
        · rcases List.mem_append.mp hp with z | z
          · exact I.gp p z
          · rw [List.mem_singleton.mp z]; exact .inr ⟨y, hy, n, I.sub n (by simp), rfl⟩
        · rw [names_snoc]
          have := I.nd
          simp only [Pt.nm]
          rw [List.append_assoc, List.singleton_append]
          exact ((List.perm_append_singleton n rm).append_left _).nodup_iff.mp this
        · have := I.len; simp at this ⊢; omega
    obtain ⟨b1, rem1, g2, e2, T2, I2, l2⟩ := turn
    obtain ⟨b', rem', s2', g', e3, T3, I3, l3⟩ := parts_loop ns l b1 rem1 (some (.val d)) g2 T2 I2 (by omega)
    refine ⟨b', rem', s2', g', ?_, T3, I3, l3⟩
    have st : forR (gV 2) pBody (d :: l) ⟨eP ns s2 b rem, g⟩ = (match pBody ⟨eP ns (some (.val d)) b rem, g⟩ with
      | .ok .nx s2 => forR (gV 2) pBody l s2
      | .ok .ct s2 => forR (gV 2) pBody l s2
      | .ok .bk s2 => .ok .nx s2
      | .ok (.rt d) s2 => .ok (.rt d) s2
      | .ex c s2 => .ex c s2
      | .no => .no) := rfl
    rw [st, e2]
    exact e3
theorem bok_of {b : List Pt} {rem : List Str} (I : Inv3 b rem) (h : b.length ≤ 3) : BOk b := ⟨fun p hp => (I.gp p hp).fok, fun p hp => (I.gp p hp).pok, (List.nodup_append.mp I.nd).1, by omega⟩
theorem parts_ok (ns : List Int) {g : List Ob} (T : Town g) : ∃ ps g', F__law_parts [.scr ns, .cell 0] g = .ok (psD ps) g' ∧ Town g' ∧ GPs ps := by
  obtain ⟨r, g1, e1, T1, r0, r1⟩ := draw_ok ns T (m := 4) (by omega) (by omega)
  have I0 : Inv3 [] Nm := ⟨fun _ h => (by cases h), by decide +kernel, fun _ h => h, by decide⟩
  have rl : ((List.range r.toNat).map fun i => D.int (i : Nat)).length + ([] : List Pt).length ≤ 3 := by
    rw [List.length_map, List.length_range]
    show r.toNat + 0 ≤ 3
    omega
  obtain ⟨b, rem, s2, g2, e2, T2, I2, l2⟩ := parts_loop ns _ [] Nm none g1 T1 I0 rl
  obtain ⟨q, g3, e3, T3, q0, q1⟩ := draw_ok ns T2 (m := 4) (by omega) (by omega)
  have head : ∀ {rest : M Out} {res : R Out}, rest ⟨eP ns s2 b rem, g2⟩ = res → (mSeq (mParNN 3 4 (mLst mNil) (mLst (mCons (mC (.str "u")) (mCons (mC (.str "vw")) (mCons (mC (.str "x")) (mCons (mC (.str "yz")) mNil))))))
  (mSeq (mFor (mRange (mFn 3 F__law_draw (mCons (mVar 0) (mCons (mVar 1) (mCons (mC (.int 4)) mNil))))) (gV 2) pBody) rest)) ⟨initE 5 [.scr ns, .cell 0], g⟩ = res := by
    intro rest res hr
    apply ev_seq
    · rfl
    apply ev_seq
    · exact ev_for (ev_range (ev_fn rfl rfl e1) ⟨by omega, by omega⟩) e2
    exact hr
  by_cases c : q = 0
  · subst c
    obtain ⟨rm, n, rfl⟩ := pop_one (rem := rem) (by have := I2.len; omega)
    have hn : n ∈ Nm := I2.sub n (by simp)
    have nd : (names (b ++ [.k "tail" n])).Nodup := by
      rw [names_snoc]
      have := I2.nd
      rw [← List.append_assoc] at this
      have h2 := ((List.perm_append_singleton n rm).append_left (names b)).nodup_iff.mp I2.nd
      refine h2.sublist ?_
      simp only [Pt.nm]
      exact List.Sublist.append_left (by simp) _
    have bk := bok_of I2 l2
    refine ⟨b ++ [.k "tail" n], g3, ?_, T3, ⟨⟨by simp; omega, fun p hp => ?_, nd, fun p hp => ?_⟩, .inr ⟨b, n, rfl, bk, tail_pok hn, nd⟩, by simp; omega, fun p hp => ?_⟩⟩
    · apply fr_rt (s1 := ⟨_, _⟩)
      apply head
      apply ev_seq (s1 := ⟨eP ns s2 (b ++ [.k "tail" n]) rm, g3⟩)
      · apply ev_ifT
        · exact ev_B (ev_m2 (ev_fn rfl rfl e3) rfl rfl)
        apply ev_drop
        have tp : mTup (mCons (mC (.str "tail")) (mCons (mPop 4) mNil)) ⟨eP ns s2 b (rm ++ [n]), g3⟩ = .ok (.tup [.str "tail", .str n]) ⟨eP ns s2 b rm, g3⟩ := by
          refine ev_tup (ds := [.str "tail", .str n]) (ev_cons (s1 := ⟨eP ns s2 b (rm ++ [n]), g3⟩) rfl (ev_cons (s1 := ⟨eP ns s2 b rm, g3⟩) ?_ rfl)) (by simp)
          refine ev_pop (l := rm.map D.str) ?_
          show some ((rm ++ [n]).map D.str) = _
          rw [List.map_append]; rfl
        have q := ev_app (i := 3) (s := ⟨eP ns s2 b (rm ++ [n]), g3⟩) (l0 := b.map Pt.d) (l := b.map Pt.d) rfl tp rfl (by rw [List.length_map]; omega)
        rw [show eP ns s2 (b ++ [.k "tail" n]) rm = [some (.val (.scr ns)), some (.val (.cell 0)), s2, some (.own (.lst (b.map Pt.d ++ [.tup [.str "tail", .str n]]))), some (.own (.lst (rm.map D.str)))] by unfold eP; rw [List.map_append]; rfl]
        exact q
      rfl
    · rcases List.mem_append.mp hp with z | z
      · exact (I2.gp p z).pok
      · rw [List.mem_singleton.mp z]; exact tail_pok hn
    · rw [List.dropLast_concat] at hp
      exact (I2.gp p hp).fok.tl
    · rcases List.mem_append.mp hp with z | z
      · exact .inl (I2.gp p z)
      · rw [List.mem_singleton.mp z]; exact .inr ⟨n, hn, rfl⟩
  · have bk := bok_of I2 l2
    refine ⟨b, g3, ?_, T3, ⟨⟨by omega, bk.p, bk.nd, fun p hp => (bk.f p (List.dropLast_subset b hp)).tl⟩, .inl bk, by omega, fun p hp => .inl (I2.gp p hp)⟩⟩
    apply fr_rt (s1 := ⟨_, _⟩)
    apply head
    apply ev_seq (s1 := ⟨eP ns s2 b rem, g3⟩)
    · apply ev_ifF (s1 := ⟨eP ns s2 b rem, g3⟩)
      · have z : dEqA (.int q) (.int 0) = some (.bl false) := by rw [int_eq]; simp [c]
        exact ev_B (ev_m2 (ev_fn rfl rfl e3) rfl z)
      rfl
    rfl
end Law

/-! QMainA: tables as the law makes them -/
namespace Law
open PySem L2 FX
def T5 : List Str := ["p", "qr", "s", "t", "last"]
structure GT (t : Tb) : Prop where
  ok : TbOk t
  lt : LT t
  gps : ∀ r ∈ t.2, GPs r.2
theorem t5_facts : ∀ x ∈ T5, (∀ g, F_is_over [.str x, gc_LETTERS, .int 6] g = .ok (.bl true) g) ∧ Wd x := by
  intro x hx
  simp only [T5, List.mem_cons, List.not_mem_nil, or_false] at hx
  rcases hx with z | z | z | z | z <;> subst z <;> exact ⟨fun _ => rfl, by decide +kernel, by decide +kernel⟩
end Law

/-! QMain: the law's table maker -/
namespace Law
open PySem L2 FX
abbrev tBody : M Out := (mDrop (mApp 3 (mTup (mCons (mVar 4) (mCons (mFn 2 F__law_parts (mCons (mVar 0) (mCons (mVar 1) mNil))) mNil)))))
abbrev eT (most : Int) (ns : List Int) (rs : List Rt) (s4 : Option Sl) : List (Option Sl) := [some (.val (.scr ns)), some (.val (.cell 0)), some (.val (.int most)), some (.own (.lst (rs.map rtD))), s4]
theorem table_loop (most : Int) (ns : List Int) : ∀ (ts : List Str) (rs : List Rt) (s4 : Option Sl) (g : List Ob), Town g → (∀ r ∈ rs, GPs r.2) → rs.length + ts.length ≤ 100 →
    ∃ rs' s4' g', forR (gV 4) tBody (ts.map D.str) ⟨eT most ns rs s4, g⟩ = .ok .nx ⟨eT most ns rs' s4', g'⟩ ∧ Town g' ∧ (∀ r ∈ rs', GPs r.2) ∧ rs'.map (·.1) = rs.map (·.1) ++ ts
  | [], rs, s4, g, T, h, _ => ⟨rs, s4, g, rfl, T, h, by simp⟩
  | t :: ts, rs, s4, g, T, h, hl => by
    have hl : rs.length + (ts.length + 1) ≤ 100 := hl
    obtain ⟨ps, g1, e1, T1, gp⟩ := parts_ok ns T
    have q : tBody ⟨eT most ns rs (some (.val (.str t))), g⟩ = .ok .nx ⟨eT most ns (rs ++ [(t, ps)]) (some (.val (.str t))), g1⟩ := by
      apply ev_drop
      have tp : mTup (mCons (mVar 4) (mCons (mFn 2 F__law_parts (mCons (mVar 0) (mCons (mVar 1) mNil))) mNil)) ⟨eT most ns rs (some (.val (.str t))), g⟩ = .ok (.tup [.str t, psD ps]) ⟨eT most ns rs (some (.val (.str t))), g1⟩ :=
        ev_tup (ds := [.str t, psD ps]) (ev_cons rfl (ev_cons (ev_fn rfl rfl e1) rfl)) (by simp)
      have q := ev_app (i := 3) (s := ⟨eT most ns rs (some (.val (.str t))), g⟩) (l0 := rs.map rtD) (l := rs.map rtD) rfl tp rfl (by rw [List.length_map]; omega)
      rw [show eT most ns (rs ++ [(t, ps)]) (some (.val (.str t))) = [some (.val (.scr ns)), some (.val (.cell 0)), some (.val (.int most)), some (.own (.lst (rs.map rtD ++ [.tup [.str t, psD ps]]))), some (.val (.str t))] by unfold eT; rw [List.map_append]; rfl]
      exact q
    obtain ⟨rs', s4', g', e2, T2, h2, e3⟩ := table_loop most ns ts (rs ++ [(t, ps)]) (some (.val (.str t))) g1 T1 (fun r hr => by
      rcases List.mem_append.mp hr with z | z
      · exact h r z
      · rw [List.mem_singleton.mp z]; exact gp) (by simp; omega)
    refine ⟨rs', s4', g', ?_, T2, h2, by rw [e3]; simp⟩
    have st : forR (gV 4) tBody ((t :: ts).map D.str) ⟨eT most ns rs s4, g⟩ = (match tBody ⟨eT most ns rs (some (.val (.str t))), g⟩ with
      | .ok .nx s2 => forR (gV 4) tBody (ts.map D.str) s2
      | .ok .ct s2 => forR (gV 4) tBody (ts.map D.str) s2
      | .ok .bk s2 => .ok .nx s2
      | .ok (.rt d) s2 => .ok (.rt d) s2
      | .ex c s2 => .ex c s2
      | .no => .no) := rfl
    rw [st, q]
    exact e2
theorem table_ok (ns : List Int) {g : List Ob} (T : Town g) {most : Int} (m0 : 0 < most) (m1 : most ≤ 5) : ∃ t g', F__law_table [.scr ns, .cell 0, .int most] g = .ok (tbD t) g' ∧ Town g' ∧ GT t ∧ t.2.length ≤ most.toNat ∧ ∀ r ∈ t.2, r.1 ∈ T5 := by
  obtain ⟨r, g1, e1, T1, r0, r1⟩ := draw_ok ns T (m := most) (by omega) (by omega)
  have sl : ∀ r : Int, 0 ≤ r → r < 5 → cutD (T5.map D.str) none (some (1 + r)) = (T5.take (1 + r.toNat)).map D.str := by
    intro r h0 h1
    have : r = 0 ∨ r = 1 ∨ r = 2 ∨ r = 3 ∨ r = 4 := by omega
    rcases this with z | z | z | z | z <;> subst z <;> rfl
  have tl : (T5.take (1 + r.toNat)).length = 1 + r.toNat := by
    rw [List.length_take]
    show min (1 + r.toNat) 5 = _
    omega
  obtain ⟨rs, s4, g2, e2, T2, h2, e3⟩ := table_loop most ns (T5.take (1 + r.toNat)) [] none g1 T1 (fun _ h => by cases h) (by rw [tl]; simp; omega)
  rw [List.map_nil, List.nil_append] at e3
  have hlen : rs.length = 1 + r.toNat := by rw [← tl, ← e3, List.length_map]
  obtain ⟨x, g3, e4, T3, hx⟩ := pick_ok ns T2 (l := [.str "order", .str "nearest"]) (by simp) (by simp)
  obtain ⟨way, hw, rfl⟩ : ∃ way : Str, (way = "order" ∨ way = "nearest") ∧ x = D.str way := by
    simp only [List.mem_cons, List.not_mem_nil, or_false] at hx
    rcases hx with z | z
    · exact ⟨"order", .inl rfl, z⟩
    · exact ⟨"nearest", .inr rfl, z⟩
  have mt : ∀ q ∈ rs, q.1 ∈ T5 := fun q hq => List.mem_of_mem_take (i := 1 + r.toNat) (by rw [← e3]; exact List.mem_map.mpr ⟨q, hq, rfl⟩)
  refine ⟨(way, rs), g3, ?_, T3, ⟨⟨hw, by show 1 ≤ rs.length; omega, by show rs.length ≤ 6; omega, fun q hq => ⟨(t5_facts _ (mt q hq)).1, (t5_facts _ (mt q hq)).2, (h2 q hq).ok⟩, ?_⟩, ⟨⟨hw, fun q hq => (h2 q hq).po⟩, fun q hq => by have := (h2 q hq).len; omega, fun q hq => (h2 q hq).ok.nd, fun q hq => ⟨(t5_facts _ (mt q hq)).2, (h2 q hq).po.wd⟩, by show rs.length ≤ 1000; omega⟩, h2⟩, by show rs.length ≤ most.toNat; omega, mt⟩
  · apply fr_rt (s1 := ⟨_, _⟩)
    apply ev_seq
    · rfl
    apply ev_seq
    · refine ev_for (ds := (T5.take (1 + r.toNat)).map D.str) (s1 := ⟨eT most ns [] none, g1⟩) (ev_items (d := .lst ((T5.take (1 + r.toNat)).map D.str)) ?_ rfl) e2
      rw [← sl r r0 (by omega)]
      have q : mPart (m2 dPlus (mC (.int 1)) (mFn 3 F__law_draw (mCons (mVar 0) (mCons (mVar 1) (mCons (mVar 2) mNil))))) ⟨eT most ns [] none, g⟩ = .ok (some (1 + r)) ⟨eT most ns [] none, g1⟩ :=
        ev_bind (ev_m2 rfl (ev_fn rfl rfl e1) rfl) rfl
      exact ev_bind rfl (ev_bind rfl (ev_bind q rfl))
    refine ev_ret (ev_tup (ds := [.str way, .tup (rs.map rtD)]) (ev_cons (s1 := ⟨eT most ns rs s4, g3⟩) (ev_fn rfl rfl e4) (ev_cons rfl rfl)) (by simp))
  · show (rs.map (·.1)).Nodup
    rw [e3]
    exact (List.take_sublist _ _).nodup (by decide +kernel)
end Law

/-! RPath: is_path -/
namespace Law
open PySem L2 FX
structure WsOk (ws : List Str) : Prop where
  len : ws.length ≤ 8
  seg : ∀ x ∈ ws, ∀ g, F_is_segment [.str x] g = .ok (.bl true) g
  wd : ∀ x ∈ ws, Wd x
theorem is_path_ok {ws : List Str} (h : WsOk ws) (g : List Ob) : F_is_path [pathD ws] g = .ok (.bl true) g := by
  have hl := h.len
  apply fr_rt (s1 := ⟨_, _⟩)
  refine ev_ret (ev_fn rfl rfl ?_)
  apply fr_rt (s1 := ⟨_, _⟩)
  apply ev_ret
  refine ev_andVT rfl (ev_andVT (ev_m2 (ev_call rfl rfl) rfl (z := .bl true) ?_) ?_)
  · show some (D.bl (decide ((((ws.map D.str).length : Nat) : Int) ≤ 8))) = _
    rw [decide_eq_true (by rw [List.length_map]; omega)]
  · exact ev_allT D.str ws (by omega) rfl fun x hx => ⟨_, ⟨_, _⟩, rfl, ev_fn0 rfl rfl (h.seg x hx _), rfl⟩
theorem need_path_ok {ws : List Str} (h : WsOk ws) (g : List Ob) : F_need_path [pathD ws] g = .ok .non g := by
  apply fr_nx (s1 := ⟨_, _⟩)
  exact ev_ifF (ev_not (b := true) (ev_B (ev_fn rfl rfl (is_path_ok h g)))) rfl
end Law

/-! RVals: values_of, route_for -/
namespace Law
open PySem L2 FX
theorem ev_dput {i : Nat} {mk mv : M D} {s s1 s2 : S} {d : D} {x : Str} {l : List (Str × D)} (h : mv s = .ok d s1) (h1 : ownD s1 i = some (keyS l)) (k : mk s1 = .ok (.str x) s2) (h2 : ownD s2 i = some (keyS l)) (hl : l.length < 1000) (hn : x ∉ l.map (·.1)) :
    mDPut i mk mv s = .ok .nx (setO i (.dic (keyS (l ++ [(x, d)]))) s2) := by
  unfold mDPut
  refine ev_bind h ?_
  simp only [h1]
  refine ev_bind k ?_
  simp only [h2]
  show (if (keyS l).length < 100000 then R.ok Out.nx (setO i (Ob.dic (putD (keyS l) (Sum.inr x) d)) s2) else R.no) = _
  rw [if_pos (by unfold keyS; rw [List.length_map]; omega), putD_new hn]
abbrev vBody : M Out := (mSeq (mIf (mNot (mB (mFn 2 F_fits_part (mCons (mVar 4) (mCons (mVar 5) mNil))))) (mRet (mC .non)) (mpure .nx))
  (mIf (mB (m1 (dIsi (fun t => t == "tuple")) (mVar 4))) (mDPut 2 (mSub (mVar 4) (mC (.int 1))) (mVar 5)) (mpure .nx)))
theorem loopV {A B C : Option Sl} {g : List Ob} : ∀ (f : List Pt) (ws : List Str) (acc : List (Str × D)) (s4 s5 : Option Sl), (∀ p ∈ f, FOk p) → (∀ x ∈ ws, Wd x) → (acc.map (·.1) ++ names f).Nodup → acc.length + f.length < 1000 →
    (fitAll f ws = true → ∃ t4 t5, forR (gT 2 (gsCons (gV 4) (gsCons (gV 5) gsNil))) vBody (zipD (f.map Pt.d) (ws.map D.str)) ⟨[A, B, some (.own (.dic (keyS acc))), C, s4, s5], g⟩ = .ok .nx ⟨[A, B, some (.own (.dic (keyS (acc ++ binds f ws)))), C, t4, t5], g⟩) ∧
    (fitAll f ws = false → ∃ e', forR (gT 2 (gsCons (gV 4) (gsCons (gV 5) gsNil))) vBody (zipD (f.map Pt.d) (ws.map D.str)) ⟨[A, B, some (.own (.dic (keyS acc))), C, s4, s5], g⟩ = .ok (.rt .non) ⟨e', g⟩)
  | [], ws, acc, s4, s5, _, _, _, _ => ⟨fun _ => ⟨s4, s5, by cases ws <;> simp [zipD, forR, binds, mpure]⟩, fun h => by cases ws <;> cases h⟩
  | p :: f, [], acc, s4, s5, _, _, _, _ => ⟨fun _ => ⟨s4, s5, by cases p <;> simp [zipD, forR, binds, mpure]⟩, fun h => by cases h⟩
  | p :: f, x :: ws, acc, s4, s5, hf, hw, nd, hl => by
    have fo := fits_ok (hf p List.mem_cons_self) (hw x List.mem_cons_self) g
    have hf' : ∀ q ∈ f, FOk q := fun q hq => hf q (List.mem_cons_of_mem _ hq)
    have hw' : ∀ q ∈ ws, Wd q := fun q hq => hw q (List.mem_cons_of_mem _ hq)
    have hl' : acc.length + (f.length + 1) < 1000 := hl
    -- one turn
    have turn : ∀ r, (fits p x = true → ∃ acc', acc' = acc ++ binds [p] [x] ∧ vBody ⟨[A, B, some (.own (.dic (keyS acc))), C, some (.val p.d), some (.val (.str x))], g⟩ = .ok .nx ⟨[A, B, some (.own (.dic (keyS acc'))), C, some (.val p.d), some (.val (.str x))], g⟩) ∧
        (fits p x = false → vBody ⟨[A, B, some (.own (.dic (keyS acc))), C, some (.val p.d), some (.val (.str x))], g⟩ = .ok (.rt .non) r → True) := fun r => ⟨fun hfit => ?_, fun _ _ => trivial⟩
    have fail : fits p x = false → vBody ⟨[A, B, some (.own (.dic (keyS acc))), C, some (.val p.d), some (.val (.str x))], g⟩ = .ok (.rt .non) ⟨[A, B, some (.own (.dic (keyS acc))), C, some (.val p.d), some (.val (.str x))], g⟩ := fun hfit => by
      apply ev_seqR
      apply ev_ifT
      · exact ev_not (b := false) (ev_B (ev_fn rfl rfl (by rw [← hfit]; exact fo)))
      · rfl
    have step : ∀ st, forR (gT 2 (gsCons (gV 4) (gsCons (gV 5) gsNil))) vBody (zipD ((p :: f).map Pt.d) ((x :: ws).map D.str)) ⟨[A, B, some (.own (.dic (keyS acc))), C, s4, s5], g⟩ =
        (match vBody ⟨[A, B, some (.own (.dic (keyS acc))), C, some (.val p.d), some (.val (.str x))], g⟩ with
          | .ok .nx s2 => forR (gT 2 (gsCons (gV 4) (gsCons (gV 5) gsNil))) vBody (zipD (f.map Pt.d) (ws.map D.str)) s2
          | .ok .ct s2 => forR (gT 2 (gsCons (gV 4) (gsCons (gV 5) gsNil))) vBody (zipD (f.map Pt.d) (ws.map D.str)) s2
          | .ok .bk s2 => .ok .nx s2
          | .ok (.rt d) s2 => .ok (.rt d) s2
          | .ex c s2 => .ex c s2
          | .no => .no) := fun (st : Unit) => rfl
    cases hfit : fits p x with
    | false =>
      refine ⟨fun h => ?_, fun h => ⟨_, by rw [step (), fail hfit]⟩⟩
      simp only [fitAll, hfit, Bool.false_and] at h
      cases h
    | true =>
      obtain ⟨acc', ea, ev⟩ := (turn ⟨[], []⟩).1 hfit
      have nd' : (acc'.map (·.1) ++ names f).Nodup := by
        rw [ea]
        cases p with
        | w y => simpa [binds, names_cons, Pt.nm] using nd
        | k a n =>
          have : (acc ++ binds [.k a n] [x]).map (·.1) ++ names f = acc.map (·.1) ++ names (.k a n :: f) := by simp [binds, names_cons, Pt.nm]
          rw [this]; exact nd
      have la : acc'.length ≤ acc.length + 1 := by rw [ea]; cases p <;> simp [binds]
      obtain ⟨i1, i2⟩ := loopV (A := A) (B := B) (C := C) (g := g) f ws acc' (some (.val p.d)) (some (.val (.str x))) hf' hw' nd' (by omega)
      have eb : acc' ++ binds f ws = acc ++ binds (p :: f) (x :: ws) := by rw [ea]; cases p <;> simp [binds]
      constructor
      · intro h
        simp only [fitAll, hfit, Bool.true_and] at h
        obtain ⟨t4, t5, e⟩ := i1 h
        exact ⟨t4, t5, by rw [step (), ev]; simp only; rw [e, eb]⟩
      · intro h
        simp only [fitAll, hfit, Bool.true_and] at h
        obtain ⟨e', e⟩ := i2 h
        exact ⟨e', by rw [step (), ev]; simp only; rw [e]⟩
    · refine ⟨_, rfl, ?_⟩
      apply ev_seq
      · apply ev_ifF
        · exact ev_not (b := true) (ev_B (ev_fn rfl rfl (by rw [← hfit]; exact fo)))
        · rfl
      cases p with
      | w y =>
        have : acc ++ binds [.w y] [x] = acc := by simp [binds]
        rw [this]
        exact ev_ifF rfl rfl
      | k a n =>
        apply ev_ifT
        · rfl
        have nn : n ∉ acc.map (·.1) := fun z => by
          rw [names_cons] at nd
          exact (List.nodup_append.mp nd).2.2 _ z _ List.mem_cons_self rfl
        exact (ev_dput (i := 2) (l := acc) (x := n) (d := .str x) (s1 := ⟨[A, B, some (.own (.dic (keyS acc))), C, some (.val (Pt.k a n).d), some (.val (.str x))], g⟩) (s2 := ⟨[A, B, some (.own (.dic (keyS acc))), C, some (.val (Pt.k a n).d), some (.val (.str x))], g⟩) rfl rfl rfl rfl (by omega) nn)
theorem vals_rest {ps f : List Pt} {ws : List Str} {acc : List (Str × D)} {g : List Ob} {q : Bool} (hq : q = true ↔ f = ps) (hps : ∀ p ∈ ps, PtW p) (hf : ∀ p ∈ f, FOk p) (hff : ∀ p ∈ f, PtW p) (hw : ∀ x ∈ ws, Wd x) (nd : (acc.map (·.1) ++ names f).Nodup) (hl : acc.length + f.length < 1000) :
    ∃ e', (mSeq (mIf (mOr (mB (m2 dLt (mCall dLen (mCons (mVar 1) mNil)) (mCall dLen (mCons (mVar 3) mNil)))) (mAnd (mB (m2 dGt (mCall dLen (mCons (mVar 1) mNil)) (mCall dLen (mCons (mVar 3) mNil)))) (mB (m2 dEqA (mVar 3) (mVar 0))))) (mRet (mC .non)) (mpure .nx))
  (mSeq (mFor (mZipT (mCons (mVar 3) (mCons (mVar 1) mNil))) (gT 2 (gsCons (gV 4) (gsCons (gV 5) gsNil))) vBody)
  (mRet (mTake 2)))) ⟨[some (.val (psD ps)), some (.val (pathD ws)), some (.own (.dic (keyS acc))), some (.val (psD f)), none, none], g⟩ =
    .ok (.rt (if f.length ≤ ws.length ∧ (q = true → ws.length = f.length) ∧ fitAll f ws = true then .dic (keyS (acc ++ binds f ws)) else .non)) ⟨e', g⟩ := by
  have eq1 : dEqA (psD f) (psD ps) = some (.bl (eqD (psD f) (psD ps))) := dEqA_of (ps_eq hff hps)
  by_cases c1 : ws.length < f.length
  · apply Exists.intro
    rw [if_neg (fun z => by omega)]
    apply ev_seqR
    apply ev_ifT
    · apply ev_orT
      refine ev_B (ev_m2 (x := .int ws.length) (y := .int f.length) (ev_call rfl (by show some (D.int ((ws.map D.str).length : Nat)) = _; rw [List.length_map])) (ev_call rfl (by show some (D.int ((f.map Pt.d).length : Nat)) = _; rw [List.length_map])) ?_)
      rw [len_lt, decide_eq_true c1]
    · rfl
  · have first : ∀ st : S, st.e = [some (.val (psD ps)), some (.val (pathD ws)), some (.own (.dic (keyS acc))), some (.val (psD f)), none, none] → mB (m2 dLt (mCall dLen (mCons (mVar 1) mNil)) (mCall dLen (mCons (mVar 3) mNil))) st = .ok false st := fun st hst => by
      obtain ⟨e, g⟩ := st
      cases hst
      refine ev_B (ev_m2 (x := .int ws.length) (y := .int f.length) (ev_call rfl (by show some (D.int ((ws.map D.str).length : Nat)) = _; rw [List.length_map])) (ev_call rfl (by show some (D.int ((f.map Pt.d).length : Nat)) = _; rw [List.length_map])) ?_)
      rw [len_lt, decide_eq_false c1]
    have second : ∀ st : S, st.e = [some (.val (psD ps)), some (.val (pathD ws)), some (.own (.dic (keyS acc))), some (.val (psD f)), none, none] → mB (m2 dGt (mCall dLen (mCons (mVar 1) mNil)) (mCall dLen (mCons (mVar 3) mNil))) st = .ok (decide (f.length < ws.length)) st := fun st hst => by
      obtain ⟨e, g⟩ := st
      cases hst
      refine ev_B (ev_m2 (x := .int ws.length) (y := .int f.length) (ev_call rfl (by show some (D.int ((ws.map D.str).length : Nat)) = _; rw [List.length_map])) (ev_call rfl (by show some (D.int ((f.map Pt.d).length : Nat)) = _; rw [List.length_map])) ?_)
      rw [len_gt]
    by_cases c2 : f = ps ∧ f.length < ws.length
    · apply Exists.intro
      rw [if_neg (fun z => by have := z.2.1 (hq.mpr c2.1); omega)]
      apply ev_seqR
      apply ev_ifT
      · apply ev_orF (first _ rfl)
        apply ev_andT
        · rw [second _ rfl, decide_eq_true c2.2]
        · exact ev_B (ev_m2 rfl rfl (by rw [eq1, (eqD_ps f ps).mpr c2.1]))
      · rfl
    · have test : mOr (mB (m2 dLt (mCall dLen (mCons (mVar 1) mNil)) (mCall dLen (mCons (mVar 3) mNil)))) (mAnd (mB (m2 dGt (mCall dLen (mCons (mVar 1) mNil)) (mCall dLen (mCons (mVar 3) mNil)))) (mB (m2 dEqA (mVar 3) (mVar 0)))) ⟨[some (.val (psD ps)), some (.val (pathD ws)), some (.own (.dic (keyS acc))), some (.val (psD f)), none, none], g⟩ = .ok false ⟨[some (.val (psD ps)), some (.val (pathD ws)), some (.own (.dic (keyS acc))), some (.val (psD f)), none, none], g⟩ := by
        apply ev_orF (first _ rfl)
        by_cases c3 : f.length < ws.length
        · apply ev_andT
          · rw [second _ rfl, decide_eq_true c3]
          · exact ev_B (ev_m2 rfl rfl (by rw [eq1, eqD_psF (fun z => c2 ⟨z, c3⟩)]))
        · apply ev_andF
          rw [second _ rfl, decide_eq_false c3]
      have len : f.length ≤ ws.length ∧ (q = true → ws.length = f.length) := ⟨by omega, fun z => by
        by_cases w : f.length < ws.length
        · exact absurd ⟨hq.mp z, w⟩ c2
        · omega⟩
      obtain ⟨l1, l2⟩ := loopV (A := some (.val (psD ps))) (B := some (.val (pathD ws))) (C := some (.val (psD f))) (g := g) f ws acc none none hf hw nd hl
      cases hfit : fitAll f ws with
      | true =>
        obtain ⟨t4, t5, e⟩ := l1 hfit
        apply Exists.intro
        rw [if_pos ⟨len.1, len.2, rfl⟩]
        apply ev_seq
        · exact ev_ifF test rfl
        apply ev_seq
        · exact ev_for rfl e
        · rfl
      | false =>
        obtain ⟨e', e⟩ := l2 hfit
        apply Exists.intro
        rw [if_neg (fun z => by have := z.2.2; cases this)]
        apply ev_seq
        · exact ev_ifF test rfl
        apply ev_seqR
        exact ev_for rfl e
theorem vals_plain {b : List Pt} {ws : List Str} (h : BOk b) (hw : ∀ x ∈ ws, Wd x) (g : List Ob) :
    F_values_of [psD b, pathD ws] g = .ok (if ws.length = b.length ∧ fitAll b ws = true then .dic (keyS (binds b ws)) else .non) g := by
  have hl := h.len
  have pw : ∀ p ∈ b, PtW p := fun p hp => (h.p p hp).wd
  obtain ⟨e', e⟩ := vals_rest (ps := b) (f := b) (ws := ws) (acc := []) (g := g) (q := true) ⟨fun _ => rfl, fun _ => rfl⟩ pw h.f pw hw (by simpa using h.nd) (by simp; omega)
  have c : (b.length ≤ ws.length ∧ (true = true → ws.length = b.length) ∧ fitAll b ws = true) ↔ (ws.length = b.length ∧ fitAll b ws = true) := ⟨fun z => ⟨z.2.1 rfl, z.2.2⟩, fun z => ⟨by omega, fun _ => z.1, z.2⟩⟩
  apply fr_rt (s1 := ⟨e', g⟩)
  apply ev_seq
  · rfl
  apply ev_seq (s1 := ⟨[some (.val (psD b)), some (.val (pathD ws)), some (.own (.dic (keyS []))), some (.val (psD b)), none, none], g⟩)
  · apply ev_ifF (s1 := ⟨[some (.val (psD b)), some (.val (pathD ws)), some (.own (.dic (keyS []))), some (.val (psD b)), none, none], g⟩)
    · rcases List.eq_nil_or_concat b with z | ⟨i, p, z⟩
      · subst z
        apply ev_andF
        rfl
      · rw [List.concat_eq_append] at z
        subst z
        apply ev_andT
        · exact ev_B (ev_m2 rfl rfl (by rw [ne_nil pw]; simp))
        · have hp : p ∈ i ++ [p] := List.mem_append_right _ List.mem_cons_self
          have t := (h.p p hp).tail g
          rw [(h.f p hp).tl] at t
          have at1 : ∀ st : S, mSub (mC (psD (i ++ [p]))) (mC (.int (-1))) st = .ok p.d st := fun st => by
            show mopt (atI ((i ++ [p]).map Pt.d) (-1)) _ = _
            rw [List.map_append, List.map_cons, List.map_nil, atI_last]
            rfl
          apply ev_B
          apply ev_fn (ds := [p.d]) (g' := g) (s1 := ⟨[some (.val (psD (i ++ [p]))), some (.val (pathD ws)), some (.own (.dic (keyS []))), some (.val (psD (i ++ [p]))), none, none], g⟩)
          · exact ev_cons (ev_sub rfl rfl (at1 _)) rfl
          · rfl
          · exact t
    · rfl
  rw [e, ite_iff c, List.nil_append]
theorem vals_tail {b : List Pt} {nm : Str} {ws : List Str} (h : BOk b) (ht : POk (.k "tail" nm)) (hn : (names (b ++ [.k "tail" nm])).Nodup) (hw : ∀ x ∈ ws, Wd x) (g : List Ob) :
    F_values_of [psD (b ++ [.k "tail" nm]), pathD ws] g = .ok (if b.length ≤ ws.length ∧ fitAll b ws = true then .dic (keyS ((nm, pathD (ws.drop b.length)) :: binds b ws)) else .non) g := by
  have hl := h.len
  have pw : ∀ p ∈ b, PtW p := fun p hp => (h.p p hp).wd
  have pw2 : ∀ p ∈ b ++ [.k "tail" nm], PtW p := fun p hp => by
    rcases List.mem_append.mp hp with z | z
    · exact pw p z
    · rw [List.mem_singleton.mp z]; exact ht.wd
  have nd : (([(nm, pathD (ws.drop b.length))] : List (Str × D)).map (·.1) ++ names b).Nodup := by
    have e : names (b ++ [.k "tail" nm]) = names b ++ [nm] := by unfold names; rw [List.filterMap_append]; rfl
    rw [e] at hn
    have := List.nodup_append.mp hn
    simp only [List.map_cons, List.map_nil, List.singleton_append, List.nodup_cons]
    exact ⟨fun z => this.2.2 _ z _ List.mem_cons_self rfl, this.1⟩
  obtain ⟨e', e⟩ := vals_rest (ps := b ++ [.k "tail" nm]) (f := b) (ws := ws) (acc := [(nm, pathD (ws.drop b.length))]) (g := g) (q := false) ⟨fun z => (by cases z), fun z => (by have := congrArg List.length z; simp at this)⟩ pw2 h.f pw hw nd (by simp; omega)
  have c : (b.length ≤ ws.length ∧ (false = true → ws.length = b.length) ∧ fitAll b ws = true) ↔ (b.length ≤ ws.length ∧ fitAll b ws = true) := ⟨fun z => ⟨z.1, z.2.2⟩, fun z => ⟨z.1, fun q => (by cases q), z.2⟩⟩
  apply fr_rt (s1 := ⟨e', g⟩)
  apply ev_seq
  · rfl
  have at1 : ∀ st : S, mSub (mC (psD (b ++ [.k "tail" nm]))) (mC (.int (-1))) st = .ok (Pt.k "tail" nm).d st := fun st => by
    show mopt (atI ((b ++ [Pt.k "tail" nm]).map Pt.d) (-1)) _ = _
    rw [List.map_append, List.map_cons, List.map_nil, atI_last]
    rfl
  have sl1 : cutD ((b ++ [Pt.k "tail" nm]).map Pt.d) none (some (-1)) = b.map Pt.d := by
    rw [cut_last, List.map_append, List.map_cons, List.map_nil, List.dropLast_concat]
  apply ev_seq (s1 := ⟨[some (.val (psD (b ++ [.k "tail" nm]))), some (.val (pathD ws)), some (.own (.dic (keyS [(nm, pathD (ws.drop b.length))]))), some (.val (psD b)), none, none], g⟩)
  · apply ev_ifT (s1 := ⟨[some (.val (psD (b ++ [.k "tail" nm]))), some (.val (pathD ws)), some (.own (.dic (keyS []))), some (.val (psD (b ++ [.k "tail" nm]))), none, none], g⟩)
    · apply ev_andT
      · exact ev_B (ev_m2 rfl rfl (by rw [ne_nil pw2]; simp))
      · exact ev_B (ev_fn (ds := [(Pt.k "tail" nm).d]) (ev_cons (ev_sub rfl rfl (at1 _)) rfl) rfl (ht.tail g))
    apply ev_seq (s1 := ⟨[some (.val (psD (b ++ [.k "tail" nm]))), some (.val (pathD ws)), some (.own (.dic (keyS []))), some (.val (psD b)), none, none], g⟩)
    · have := ev_set (i := 3) (m := mSl (mVar 0) mNoPart (mPart (m1 dNeg (mC (.int 1))))) (s := ⟨[some (.val (psD (b ++ [.k "tail" nm]))), some (.val (pathD ws)), some (.own (.dic (keyS []))), some (.val (psD (b ++ [.k "tail" nm]))), none, none], g⟩) (s1 := ⟨[some (.val (psD (b ++ [.k "tail" nm]))), some (.val (pathD ws)), some (.own (.dic (keyS []))), some (.val (psD (b ++ [.k "tail" nm]))), none, none], g⟩) (d := psD b) (by
        show R.ok (D.tup (cutD ((b ++ [Pt.k "tail" nm]).map Pt.d) none (some (-1)))) _ = _
        rw [sl1]
        rfl)
      exact this
    · refine ev_dput (i := 2) (l := []) (x := nm) (d := pathD (ws.drop b.length)) (s1 := ⟨[some (.val (psD (b ++ [.k "tail" nm]))), some (.val (pathD ws)), some (.own (.dic (keyS []))), some (.val (psD b)), none, none], g⟩) (s2 := ⟨[some (.val (psD (b ++ [.k "tail" nm]))), some (.val (pathD ws)), some (.own (.dic (keyS []))), some (.val (psD b)), none, none], g⟩) ?_ rfl ?_ rfl (by simp) (by simp)
      · show R.ok (D.tup (cutD (ws.map D.str) (some (((b.map Pt.d).length : Nat) : Int)) none)) _ = _
        rw [List.length_map]
        by_cases q : b.length ≤ ws.length
        · rw [cut_from (by rw [List.length_map]; exact q), ← List.map_drop]
          rfl
        · have q2 : ws.length ≤ b.length := by omega
          unfold cutD
          rw [HT.sIx_nat, HT.sIx_none, Nat.min_eq_right (by rw [List.length_map]; exact q2)]
          simp only [Nat.sub_self, List.take_zero]
          unfold pathD
          rw [List.drop_eq_nil_of_le q2]
          rfl
      · exact ev_sub (ev_sub rfl rfl (at1 _)) rfl rfl
  rw [e, ite_iff c, List.singleton_append]
theorem values_ok {ps : List Pt} {ws : List Str} (h : PO ps) (hw : ∀ x ∈ ws, Wd x) :
    (sol ps ws = none ∧ ∀ g, F_values_of [psD ps, pathD ws] g = .ok .non g) ∨
    ∃ d a, sol ps ws = some d ∧ a.Perm d ∧ (d.map (·.1)).Nodup ∧ (∀ q ∈ a, okEq q.2 q.2 = true ∧ eqD q.2 q.2 = true) ∧ ∀ g, F_values_of [psD ps, pathD ws] g = .ok (.dic (keyS a)) g := by
  rcases h with h | ⟨b, nm, rfl, h, ht, hn⟩
  · by_cases c : ws.length = ps.length ∧ fitAll ps ws = true
    · refine .inr ⟨binds ps ws, binds ps ws, by rw [sol_plain ws h.f, if_pos c], List.Perm.refl _, (binds_keys ps ws).nodup h.nd, fun q hq => ?_, fun g => by rw [vals_plain h hw, if_pos c]⟩
      obtain ⟨x, hx, e⟩ := binds_vals ps ws hw q hq
      rw [e]; exact str_self hx
    · exact .inl ⟨by rw [sol_plain ws h.f, if_neg c], fun g => by rw [vals_plain h hw, if_neg c]⟩
  · by_cases c : b.length ≤ ws.length ∧ fitAll b ws = true
    · refine .inr ⟨binds b ws ++ [(nm, pathD (ws.drop b.length))], (nm, pathD (ws.drop b.length)) :: binds b ws, by rw [sol_tail ws h.f, if_pos c], (List.perm_append_singleton _ _).symm, ?_, fun q hq => ?_, fun g => by rw [vals_tail h ht hn hw, if_pos c]⟩
      · have e : names (b ++ [.k "tail" nm]) = names b ++ [nm] := by unfold names; rw [List.filterMap_append]; rfl
        rw [e] at hn
        rw [List.map_append]
        exact ((binds_keys b ws).append (List.Sublist.refl _)).nodup hn
      · rcases List.mem_cons.mp hq with z | z
        · rw [z]; exact path_self fun x hx => hw x (List.mem_of_mem_drop hx)
        · obtain ⟨x, hx, e⟩ := binds_vals b ws hw q z
          rw [e]; exact str_self hx
    · exact .inl ⟨by rw [sol_tail ws h.f, if_neg c], fun g => by rw [vals_tail h ht hn hw, if_neg c]⟩
theorem values_test {ps : List Pt} {ws : List Str} (h : PO ps) (hw : ∀ x ∈ ws, Wd x) : ∃ v, (∀ g, F_values_of [psD ps, pathD ws] g = .ok v g) ∧ dNot v .non = some (.bl (sol ps ws).isSome) := by
  rcases values_ok h hw with ⟨e, f⟩ | ⟨d, a, e, _, _, _, f⟩
  · exact ⟨_, f, by rw [e]; rfl⟩
  · exact ⟨_, f, by rw [e]; rfl⟩
theorem route_for_ok {t : Tb} {ws : List Str} (h : TO t) (hw : ∀ x ∈ ws, Wd x) (g : List Ob) : F_route_for [tbD t, pathD ws] g = .ok (rtO (hit t ws)) g := by
  have lp : ∀ (l : List Rt) (s2 : Option Sl), (∀ r ∈ l, PO r.2) →
      (l.find? (solB ws) = none → ∃ t2, forR (gV 2) (mIf (mB (m2 dNot (mFn 2 F_values_of (mCons (mSub (mVar 2) (mC (.int 1))) (mCons (mVar 1) mNil))) (mC .non))) (mRet (mVar 2)) (mpure .nx)) (l.map rtD) ⟨[some (.val (tbD t)), some (.val (pathD ws)), s2], g⟩ = .ok .nx ⟨[some (.val (tbD t)), some (.val (pathD ws)), t2], g⟩) ∧
      ∀ r, l.find? (solB ws) = some r → ∃ t2, forR (gV 2) (mIf (mB (m2 dNot (mFn 2 F_values_of (mCons (mSub (mVar 2) (mC (.int 1))) (mCons (mVar 1) mNil))) (mC .non))) (mRet (mVar 2)) (mpure .nx)) (l.map rtD) ⟨[some (.val (tbD t)), some (.val (pathD ws)), s2], g⟩ = .ok (.rt (rtD r)) ⟨[some (.val (tbD t)), some (.val (pathD ws)), t2], g⟩ := by
    intro l
    induction l with
    | nil => exact fun s2 _ => ⟨fun _ => ⟨s2, rfl⟩, fun r e => by simp at e⟩
    | cons q l ih =>
      intro s2 hp
      obtain ⟨v, fv, tv⟩ := values_test (hp q List.mem_cons_self) hw
      have test : mB (m2 dNot (mFn 2 F_values_of (mCons (mSub (mVar 2) (mC (.int 1))) (mCons (mVar 1) mNil))) (mC .non)) ⟨[some (.val (tbD t)), some (.val (pathD ws)), some (.val (rtD q))], g⟩ = .ok (solB ws q) ⟨[some (.val (tbD t)), some (.val (pathD ws)), some (.val (rtD q))], g⟩ :=
        ev_B (ev_m2 (ev_fn (ds := [psD q.2, pathD ws]) (s1 := ⟨[some (.val (tbD t)), some (.val (pathD ws)), some (.val (rtD q))], g⟩) rfl rfl (fv g)) rfl tv)
      obtain ⟨i1, i2⟩ := ih (some (.val (rtD q))) fun r hr => hp r (List.mem_cons_of_mem _ hr)
      cases c : solB ws q with
      | true =>
        rw [c] at test
        refine ⟨fun e => ?_, fun r e => ?_⟩
        · simp [List.find?_cons, c] at e
        · simp only [List.find?_cons, c, Option.some.injEq] at e
          subst e
          refine ⟨some (.val (rtD q)), ?_⟩
          have b := ev_ifT (a := mRet (mVar 2)) (b := mpure .nx) (r := .ok (.rt (rtD q)) ⟨[some (.val (tbD t)), some (.val (pathD ws)), some (.val (rtD q))], g⟩) test rfl
          simp only [List.map_cons, forR, gV]
          show (match mIf _ _ _ ⟨[some (.val (tbD t)), some (.val (pathD ws)), some (.val (rtD q))], g⟩ with | .ok .nx s2 => _ | .ok .ct s2 => _ | .ok .bk s2 => _ | .ok (.rt d) s2 => _ | .ex c s2 => _ | .no => _) = _
          rw [b]
      | false =>
        rw [c] at test
        have b := ev_ifF (a := mRet (mVar 2)) (b := mpure .nx) (r := .ok .nx ⟨[some (.val (tbD t)), some (.val (pathD ws)), some (.val (rtD q))], g⟩) test rfl
        refine ⟨fun e => ?_, fun r e => ?_⟩
        · simp only [List.find?_cons, c] at e
          obtain ⟨t2, h2⟩ := i1 e
          refine ⟨t2, ?_⟩
          simp only [List.map_cons, forR, gV]
          show (match mIf _ _ _ ⟨[some (.val (tbD t)), some (.val (pathD ws)), some (.val (rtD q))], g⟩ with | .ok .nx s2 => _ | .ok .ct s2 => _ | .ok .bk s2 => _ | .ok (.rt d) s2 => _ | .ex c s2 => _ | .no => _) = _
          rw [b]
          exact h2
        · simp only [List.find?_cons, c] at e
          obtain ⟨t2, h2⟩ := i2 r e
          refine ⟨t2, ?_⟩
          simp only [List.map_cons, forR, gV]
          show (match mIf _ _ _ ⟨[some (.val (tbD t)), some (.val (pathD ws)), some (.val (rtD q))], g⟩ with | .ok .nx s2 => _ | .ok .ct s2 => _ | .ok .bk s2 => _ | .ok (.rt d) s2 => _ | .ex c s2 => _ | .no => _) = _
          rw [b]
          exact h2
  obtain ⟨l1, l2⟩ := lp (ord t) none fun r hr => h.po r (ord_mem hr)
  have it : mItems (mFn 1 F_ordered (mCons (mVar 0) mNil)) ⟨[some (.val (tbD t)), some (.val (pathD ws)), none], g⟩ = .ok ((ord t).map rtD) ⟨[some (.val (tbD t)), some (.val (pathD ws)), none], g⟩ :=
    ev_items (ev_fn (ds := [tbD t]) (s1 := ⟨[some (.val (tbD t)), some (.val (pathD ws)), none], g⟩) rfl rfl (ordered_ok h g)) rfl
  unfold hit
  cases c : (ord t).find? (solB ws) with
  | none =>
    obtain ⟨t2, e⟩ := l1 c
    apply fr_rt (s1 := ⟨_, _⟩)
    apply ev_seq
    · exact ev_for it e
    · rfl
  | some r =>
    obtain ⟨t2, e⟩ := l2 r c
    apply fr_rt (s1 := ⟨_, _⟩)
    apply ev_seqR
    exact ev_for it e
end Law

/-! WTit -/
namespace Law
open PySem L2 FX
theorem forR_cons {gg : D → M Unit} {body : M Out} {d : D} {r : List D} {s s1 s2 : S} {z : R Out} (h : gg d s = .ok () s1) (k : body s1 = .ok .nx s2) (l : forR gg body r s2 = z) : forR gg body (d :: r) s = z := by
  unfold forR; simp only [h, k]; exact l
theorem forR_rt {gg : D → M Unit} {body : M Out} {d x : D} {r : List D} {s s1 s2 : S} (h : gg d s = .ok () s1) (k : body s1 = .ok (.rt x) s2) : forR gg body (d :: r) s = .ok (.rt x) s2 := by
  unfold forR; simp only [h, k]
def SegN (x : Str) : Prop := SegW x ∧ x.cps.toList ≠ []
theorem strs_eq {a b : List Str} (h : ∀ x ∈ a, Wd x) (h' : ∀ x ∈ b, Wd x) : dEqA (.lst (a.map D.str)) (.lst (b.map D.str)) = some (.bl (decide (a = b))) := by
  rw [dEqA_of (list_eq h h')]
  congr 2
  have := eqD_strs a b
  by_cases c : a = b
  · rw [decide_eq_true c]; exact this.mpr c
  · rw [decide_eq_false c]
    cases q : eqD (.lst (a.map D.str)) (.lst (b.map D.str)) with
    | false => rfl
    | true => exact absurd (this.mp q) c
theorem strs_ne {a b : List Str} (h : ∀ x ∈ a, Wd x) (h' : ∀ x ∈ b, Wd x) : dNeA (.lst (a.map D.str)) (.lst (b.map D.str)) = some (.bl (!decide (a = b))) := by
  rw [dNeA_of (list_eq h h')]
  congr 2
  have := eqD_strs a b
  by_cases c : a = b
  · rw [decide_eq_true c]; congr 1; exact this.mpr c
  · rw [decide_eq_false c]
    cases q : eqD (.lst (a.map D.str)) (.lst (b.map D.str)) with
    | false => rfl
    | true => exact absurd (this.mp q) c
def tit (t : Tb) (q : List Str) : Option Str := (hit t q).map (·.1)
def titD : Option Str → D
  | none => .non
  | some x => .str x
theorem wd_tit {t : Tb} (h : ∀ r ∈ t.2, Wd r.1) {q : List Str} {x : Str} (e : tit t q = some x) : Wd x := by
  unfold tit hit at e
  cases c : (ord t).find? (solB q) with
  | none => rw [c] at e; cases e
  | some r =>
    rw [c] at e
    cases e
    exact h r (ord_mem (List.mem_of_find?_eq_some c))
theorem plain_titD {o : Option Str} (h : ∀ x, o = some x → Wd x) : plain (titD o) = true ∧ dep (titD o) ≤ 64 := by
  cases o with
  | none => exact ⟨rfl, by simp [titD, dep]⟩
  | some x => exact ⟨(h x rfl).1, by simp [titD, dep]⟩
theorem eqD_titD (a b : Option Str) : eqD (titD a) (titD b) = decide (a = b) := by
  cases a <;> cases b <;> simp [titD, eqD]
  rfl
theorem titD_eq {a b : Option Str} (h : ∀ x, a = some x → Wd x) (h' : ∀ x, b = some x → Wd x) : dEqA (titD a) (titD b) = some (.bl (decide (a = b))) := by
  rw [dEqA_of (okEq_of (plain_titD h).1 (plain_titD h').1 (plain_titD h).2 (plain_titD h').2), eqD_titD]
theorem titD_ne {a b : Option Str} (h : ∀ x, a = some x → Wd x) (h' : ∀ x, b = some x → Wd x) : dNeA (titD a) (titD b) = some (.bl (!decide (a = b))) := by
  rw [dNeA_of (okEq_of (plain_titD h).1 (plain_titD h').1 (plain_titD h).2 (plain_titD h').2), eqD_titD]
def hv : Option Sl → Option Sl
  | some (.val d) => some (.val d)
  | _ => none
theorem find_ext {α : Type} {p p' : α → Bool} : ∀ {l : List α}, (∀ x ∈ l, p x = p' x) → l.find? p = l.find? p'
  | [], _ => rfl
  | x :: l, h => by
    rw [List.find?_cons, List.find?_cons, h x List.mem_cons_self, find_ext fun y hy => h y (List.mem_cons_of_mem _ hy)]
theorem titO_D (t : Tb) (q : List Str) : titO (hit t q) = titD (tit t q) := by unfold tit; cases hit t q <;> rfl
theorem len_rs (rs : List Rt) : dLen [.tup (rs.map rtD)] = some (.int (rs.length : Nat)) := by show some (D.int ((rs.map rtD).length : Nat)) = _; rw [List.length_map]
theorem ixN_nat {l n : Nat} (h : n < l) : ixN l (n : Nat) = some n := by
  unfold ixN
  simp
  omega
theorem at_get {l : List D} {n : Nat} {x : D} (h : l[n]? = some x) : atI l (n : Nat) = some x := by
  unfold atI
  rw [ixN_nat (List.getElem?_eq_some_iff.mp h).1, Option.bind_some, h]
theorem path_len (p : List Str) : dLen [pathD p] = some (.int (p.length : Nat)) := by
  show some (D.int ((p.map D.str).length : Nat)) = _
  rw [List.length_map]
abbrev vl (d : D) : Option Sl := some (.val d)
theorem int_ne (i j : Int) : dNeA (.int i) (.int j) = some (.bl (!(i == j))) := rfl
theorem Town.app {g : List Ob} (T : Town g) (o : Ob) : Town (g ++ [o]) := by
  obtain ⟨a, b, J, h1, h2, e⟩ := T
  exact ⟨a, b, J ++ [o], h1, h2, by rw [e]; rfl⟩
theorem tit_nec {a b : Option Str} (h : ∀ x, a = some x → Wd x) (h' : ∀ x, b = some x → Wd x) {c : Bool} (e : (!decide (a = b)) = c) : dNeA (titD a) (titD b) = some (.bl c) := by rw [← e]; exact titD_ne h h'
theorem tit_eqc {a b : Option Str} (h : ∀ x, a = some x → Wd x) (h' : ∀ x, b = some x → Wd x) {c : Bool} (e : decide (a = b) = c) : dEqA (titD a) (titD b) = some (.bl c) := by rw [← e]; exact titD_eq h h'
theorem strs_eqb {a b : List Str} (h : ∀ x ∈ a, Wd x) (h' : ∀ x ∈ b, Wd x) {c : Bool} (e : decide (a = b) = c) : dEqA (.lst (a.map D.str)) (.lst (b.map D.str)) = some (.bl c) := by rw [← e]; exact strs_eq h h'
theorem strs_neb {a b : List Str} (h : ∀ x ∈ a, Wd x) (h' : ∀ x ∈ b, Wd x) {c : Bool} (e : (!decide (a = b)) = c) : dNeA (.lst (a.map D.str)) (.lst (b.map D.str)) = some (.bl c) := by rw [← e]; exact strs_ne h h'
theorem int_eqb {i j : Int} {c : Bool} (e : (i == j) = c) : dEqA (.int i) (.int j) = some (.bl c) := by rw [← e]; exact int_eq i j
theorem int_neb {i j : Int} {c : Bool} (e : (!(i == j)) = c) : dNeA (.int i) (.int j) = some (.bl c) := by rw [← e]; exact int_ne i j
end Law

/-! LV: the law's own values, ranks, taken, title -/
namespace Law
open PySem L2 FX
theorem ev_dictN {m : M (List D)} {s s1 : S} {l : List (Str × D)} (nd : (l.map (·.1)).Nodup) (h : m s = .ok [.lst ((keyS l).map pairD)] s1) : mFz (mDictN m) s = .ok (.dic (keyS l)) s1 := by
  have e := merge_S l [] (by simpa using nd)
  refine ev_fz (o := .dic (keyS l)) (ev_bind h ?_)
  simp only [keysOf_S]
  rw [List.nil_append] at e
  exact congrArg (fun z => R.ok (Ob.dic z) s1) e
abbrev LV (n : Nat) : Fn := iterF (fun r => mkF 7 (b__law_values r)) n
theorem lawvals : ∀ (ps : List Pt) (ws : List Str) (n : Nat), ps.length < n → n ≤ 1000 → (∀ p ∈ ps, KOk p ∧ PtW p) → (names ps).Nodup → (∀ x ∈ ws, SegW x) → ∀ g, LV n [psD ps, pathD ws] g = .ok (solD (sol ps ws)) g
  | [], ws, n + 1, _, _, _, _, hw, g => by
    have hw' : ∀ x ∈ ws, Wd x := fun x hx => (hw x hx).1
    cases ws
    all_goals
      apply fr_rt (s1 := ⟨_, _⟩)
      apply ev_seqR
      apply ev_ifT
      · rfl
      apply ev_ret
      apply ev_ifE
      · exact ev_B (ev_m2 rfl rfl (eq_nilW hw'))
      rfl
  | p :: ps, ws, n + 1, hn, hm, hp, nd, hw, g => by
    have hw' : ∀ x ∈ ws, Wd x := fun x hx => (hw x hx).1
    have pw : ∀ q ∈ p :: ps, PtW q := fun q hq => (hp q hq).2
    have hn' : ps.length < n := by simpa using hn
    have hp' : ∀ q ∈ ps, KOk q ∧ PtW q := fun q hq => hp q (List.mem_cons_of_mem _ hq)
    have nd' : (names ps).Nodup := by
      rw [names_cons] at nd
      cases p with
      | w y => exact nd
      | k a b => exact (List.nodup_cons.mp nd).2
    obtain ⟨pk, pp⟩ := hp p List.mem_cons_self
    -- the beginning
    have s0 : ∀ r, (mSeq (mIf (mAnd (mB (m1 (dIsi (fun t => t == "tuple")) (mVar 2))) (mB (m2 dEqA (mSub (mVar 2) (mC (.int 0))) (mC (.str "tail"))))) (mRet (mFz (mDisp (((mSub (mVar 2) (mC (.int 1))), (mVar 1)) :: [])))) (mpure .nx))
  (mSeq (mIf (mB (m2 dEqA (mVar 1) (mTup mNil))) (mRet (mC .non)) (mpure .nx))
  (mSeq (mSet 3 (mSub (mVar 1) (mC (.int 0))))
  (mSeq (mIf (mAnd (mB (m1 (dIsi (fun t => t == "str")) (mVar 2))) (mB (m2 dNeA (mVar 2) (mVar 3)))) (mRet (mC .non)) (mpure .nx))
  (mSeq (mIf (mNot (mB (m1 (dIsi (fun t => t == "str")) (mVar 2)))) (mSeq (mSet 5 (mCall dLen (mCons (mFz (mComp (mItems (mVar 3)) [6] (gV 6) (mB (m2 dInA (mVar 6) (mC (.str "0123456789")))) (mVar 6))) mNil)))
  (mIf (mOr (mAnd (mB (m2 dEqA (mSub (mVar 2) (mC (.int 0))) (mC (.str "letters")))) (mB (m2 dGt (mVar 5) (mC (.int 0))))) (mAnd (mB (m2 dEqA (mSub (mVar 2) (mC (.int 0))) (mC (.str "number")))) (mB (m2 dLt (mVar 5) (mCall dLen (mCons (mVar 3) mNil)))))) (mRet (mC .non)) (mpure .nx))) (mpure .nx))
  (mSeq (mSet 4 (mFn 2 (LV n) (mCons (mSl (mVar 0) (mPart (mC (.int 1))) mNoPart) (mCons (mSl (mVar 1) (mPart (mC (.int 1))) mNoPart) mNil))))
  (mSeq (mIf (mOr (mB (m2 dIs (mVar 4) (mC .non))) (mB (m1 (dIsi (fun t => t == "str")) (mVar 2)))) (mRet (mVar 4)) (mpure .nx))
  (mRet (mFz (mDictN (mCons (m2 dPlus (mFz (mLst (mCons (mTup (mCons (mSub (mVar 2) (mC (.int 1))) (mCons (mVar 3) mNil))) mNil))) (mItemsL2 (mVar 4))) mNil))))))))))) ⟨[some (.val (psD (p :: ps))), some (.val (pathD ws)), some (.val p.d), none, none, none, none], g⟩ = .ok (.rt (solD (sol (p :: ps) ws))) r → r.g = g → LV (n + 1) [psD (p :: ps), pathD ws] g = .ok (solD (sol (p :: ps) ws)) g := by
      intro r hr hg
      rw [← hg]
      apply fr_rt (s1 := r)
      rw [hg]
      apply ev_seq
      · exact ev_ifF (ev_B (ev_m2 rfl rfl (by rw [eq_nil pw]; rfl))) rfl
      apply ev_seq
      · exact ev_set (ev_sub rfl rfl (ps_zero _ _ _))
      exact hr
    cases p with
    | w y =>
      have wy : Wd y := pp
      cases ws with
      | nil =>
        refine s0 ⟨[some (.val (psD (.w y :: ps))), some (.val (pathD [])), some (.val (.str y)), none, none, none, none], g⟩ ?_ rfl
        apply ev_seq
        · exact ev_ifF rfl rfl
        apply ev_seqR
        exact ev_ifT rfl rfl
      | cons x r =>
        have wx : Wd x := hw' x List.mem_cons_self
        have ne : dNeA (.str y) (.str x) = some (.bl (!(y == x))) := by rw [dNeA_of (okEq_of wy.1 wx.1 (by simp [dep]) (by simp [dep]))]; rfl
        have e0 : dEqA (pathD (x :: r)) (.tup []) = some (.bl false) := by rw [eq_nilW hw']; rfl
        have sp : sol (.w y :: ps) (x :: r) = if (y == x) = true then sol ps r else none := rfl
        cases c : y == x with
        | false =>
          rw [c] at ne
          refine s0 ⟨[some (.val (psD (.w y :: ps))), some (.val (pathD (x :: r))), some (.val (.str y)), some (.val (.str x)), none, none, none], g⟩ ?_ rfl
          rw [sp, c]
          apply ev_seq
          · exact ev_ifF rfl rfl
          apply ev_seq
          · exact ev_ifF (ev_B (ev_m2 rfl rfl e0)) rfl
          apply ev_seq
          · exact ev_set (ev_sub rfl rfl (ws_zero _ _ _))
          apply ev_seqR
          apply ev_ifT
          · exact ev_andT rfl (ev_B (ev_m2 rfl rfl ne))
          rfl
        | true =>
          rw [c] at ne
          have rc := lawvals ps r n hn' (by omega) hp' nd' (fun z hz => hw z (List.mem_cons_of_mem _ hz)) g
          have sp2 : sol (.w y :: ps) (x :: r) = sol ps r := by rw [sp, c]; rfl
          refine s0 ⟨[some (.val (psD (.w y :: ps))), some (.val (pathD (x :: r))), some (.val (.str y)), some (.val (.str x)), some (.val (solD (sol ps r))), none, none], g⟩ ?_ rfl
          rw [sp2]
          apply ev_seq
          · exact ev_ifF rfl rfl
          apply ev_seq
          · exact ev_ifF (ev_B (ev_m2 rfl rfl e0)) rfl
          apply ev_seq
          · exact ev_set (ev_sub rfl rfl (ws_zero _ _ _))
          apply ev_seq
          · exact ev_ifF (ev_andT rfl (ev_B (ev_m2 rfl rfl ne))) rfl
          apply ev_seq
          · exact ev_ifF rfl rfl
          apply ev_seq
          · refine ev_set (ev_fn (ds := [psD ps, pathD r]) (s1 := ⟨[some (.val (psD (.w y :: ps))), some (.val (pathD (x :: r))), some (.val (.str y)), some (.val (.str x)), none, none, none], g⟩) ?_ rfl rc)
            refine ev_cons (s1 := ⟨[some (.val (psD (.w y :: ps))), some (.val (pathD (x :: r))), some (.val (.str y)), some (.val (.str x)), none, none, none], g⟩) ?_ (ev_cons (s1 := ⟨[some (.val (psD (.w y :: ps))), some (.val (pathD (x :: r))), some (.val (.str y)), some (.val (.str x)), none, none, none], g⟩) ?_ rfl)
            · show R.ok (D.tup (cutD ((Pt.w y :: ps).map Pt.d) (some 1) none)) _ = _
              rw [cut_one Pt.d]
              rfl
            · show R.ok (D.tup (cutD ((x :: r).map D.str) (some 1) none)) _ = _
              rw [cut_one D.str]
              rfl
          cases sol ps r with
          | none => rfl
          | some d => rfl
    | k a b =>
      have wa : Wd a := pp.1
      have ta : dEqA (.str a) (.str "tail") = some (.bl (isTl (.k a b))) := str_eq wa wd_tail
      cases tl : isTl (.k a b) with
      | true =>
        rw [tl] at ta
        have sp : sol (.k a b :: ps) ws = some [(b, pathD ws)] := by
          cases ws <;> simp only [sol, tl, if_true]
        refine s0 ⟨[some (.val (psD (.k a b :: ps))), some (.val (pathD ws)), some (.val (.tup [.str a, .str b])), none, none, none, none], g⟩ ?_ rfl
        rw [sp]
        apply ev_seqR
        apply ev_ifT
        · exact ev_andT rfl (ev_B (ev_m2 rfl rfl ta))
        rfl
      | false =>
        rw [tl] at ta
        cases ws with
        | nil =>
          have sp : sol (.k a b :: ps) [] = none := by simp only [sol, tl, Bool.false_eq_true, if_false]
          refine s0 ⟨[some (.val (psD (.k a b :: ps))), some (.val (pathD [])), some (.val (.tup [.str a, .str b])), none, none, none, none], g⟩ ?_ rfl
          rw [sp]
          apply ev_seq
          · exact ev_ifF (ev_andT rfl (ev_B (ev_m2 rfl rfl ta))) rfl
          apply ev_seqR
          exact ev_ifT rfl rfl
        | cons x r =>
          have hk : a = "any" ∨ a = "letters" ∨ a = "number" := by
            rcases (show a = "any" ∨ a = "letters" ∨ a = "number" ∨ a = "tail" from pk) with z | z | z | z
            · exact .inl z
            · exact .inr (.inl z)
            · exact .inr (.inr z)
            · subst z; cases tl
          have sx : SegW x := hw x List.mem_cons_self
          have e0 : dEqA (pathD (x :: r)) (.tup []) = some (.bl false) := by rw [eq_nilW hw']; rfl
          have fl := fitL_eq (nm := b) hk sx
          have sp : sol (.k a b :: ps) (x :: r) = if fits (.k a b) x = true then (sol ps r).map ((b, D.str x) :: ·) else none := by simp only [sol, tl, Bool.false_eq_true, if_false]
          have el : dEqA (.str a) (.str "letters") = some (.bl (a == "letters")) := str_eq wa wd_letters
          have en : dEqA (.str a) (.str "number") = some (.bl (a == "number")) := str_eq wa wd_number
          obtain ⟨dg, hdg⟩ : ∃ dg, dg = (x.cps.toList.filter fun c => decide (c ∈ ("0123456789" : Str).cps.toList)).length := ⟨_, rfl⟩
          have hx1 : x.cps.toList.length ≤ 1000 := sx.1.2
          -- the digits
          have dig : mSet 5 (mCall dLen (mCons (mFz (mComp (mItems (mVar 3)) [6] (gV 6) (mB (m2 dInA (mVar 6) (mC (.str "0123456789")))) (mVar 6))) mNil)) ⟨[some (.val (psD (.k a b :: ps))), some (.val (pathD (x :: r))), some (.val (.tup [.str a, .str b])), some (.val (.str x)), none, none, none], g⟩ = .ok .nx ⟨[some (.val (psD (.k a b :: ps))), some (.val (pathD (x :: r))), some (.val (.tup [.str a, .str b])), some (.val (.str x)), none, some (.val (.int dg)), none], g⟩ := by
            refine ev_set (i := 5) (d := .int dg) (s1 := ⟨[some (.val (psD (.k a b :: ps))), some (.val (pathD (x :: r))), some (.val (.tup [.str a, .str b])), some (.val (.str x)), none, none, none], g⟩) (ev_call (ev_cons (ev_cI (fun c => D.str ⟨#[c]⟩) (fun c => D.str ⟨#[c]⟩) (fun c => decide (c ∈ ("0123456789" : Str).cps.toList)) x.cps.toList (by omega) rfl fun c _ => ⟨_, _, rfl, ev_B (ev_m2 rfl rfl (in_sign c _)), rfl, fun _ => ⟨_, rfl, rfl⟩⟩) rfl) ?_)
            show some (D.int (((x.cps.toList.filter fun c => decide (c ∈ ("0123456789" : Str).cps.toList)).map fun c => D.str ⟨#[c]⟩).length : Nat)) = _
            rw [List.length_map, hdg]
          have g1 : dGt (.int dg) (.int 0) = some (.bl (decide (0 < dg))) := len_gt dg 0
          have g2 : dLt (.int dg) (.int x.cps.toList.length) = some (.bl (decide (dg < x.cps.toList.length))) := len_lt _ _
          have lx : ∀ st : S, st.e[3]? = some (some (.val (.str x))) → mCall dLen (mCons (mVar 3) mNil) st = .ok (.int x.cps.toList.length) st := fun st h3 => by
            refine ev_call (ds := [.str x]) (ev_cons (d := .str x) (s1 := st) ?_ rfl) ?_
            · unfold mVar; rw [h3]
            · show (if x.length ≤ 100000 then some (D.int x.length) else none) = _
              have e : x.length = x.cps.toList.length := by unfold Str.length; simp
              rw [if_pos (by omega), e]
          have bt : fitL a x = !((a == "letters" && decide (0 < dg)) || (a == "number" && decide (dg < x.cps.toList.length))) := by rw [hdg]; rfl
          have test : mOr (mAnd (mB (m2 dEqA (mSub (mVar 2) (mC (.int 0))) (mC (.str "letters")))) (mB (m2 dGt (mVar 5) (mC (.int 0))))) (mAnd (mB (m2 dEqA (mSub (mVar 2) (mC (.int 0))) (mC (.str "number")))) (mB (m2 dLt (mVar 5) (mCall dLen (mCons (mVar 3) mNil))))) ⟨[some (.val (psD (.k a b :: ps))), some (.val (pathD (x :: r))), some (.val (.tup [.str a, .str b])), some (.val (.str x)), none, some (.val (.int dg)), none], g⟩ = .ok (!fitL a x) ⟨[some (.val (psD (.k a b :: ps))), some (.val (pathD (x :: r))), some (.val (.tup [.str a, .str b])), some (.val (.str x)), none, some (.val (.int dg)), none], g⟩ := by
            have h2 : mAnd (mB (m2 dEqA (mSub (mVar 2) (mC (.int 0))) (mC (.str "number")))) (mB (m2 dLt (mVar 5) (mCall dLen (mCons (mVar 3) mNil)))) ⟨[some (.val (psD (.k a b :: ps))), some (.val (pathD (x :: r))), some (.val (.tup [.str a, .str b])), some (.val (.str x)), none, some (.val (.int dg)), none], g⟩ = .ok (a == "number" && decide (dg < x.cps.toList.length)) ⟨[some (.val (psD (.k a b :: ps))), some (.val (pathD (x :: r))), some (.val (.tup [.str a, .str b])), some (.val (.str x)), none, some (.val (.int dg)), none], g⟩ := by
              cases c : (a == ("number" : Str)) with
              | true => rw [c] at en; exact ev_andT (ev_B (ev_m2 rfl rfl en)) (ev_B (ev_m2 rfl (lx _ rfl) g2))
              | false => rw [c] at en; exact ev_andF (ev_B (ev_m2 rfl rfl en))
            have h1 : mAnd (mB (m2 dEqA (mSub (mVar 2) (mC (.int 0))) (mC (.str "letters")))) (mB (m2 dGt (mVar 5) (mC (.int 0)))) ⟨[some (.val (psD (.k a b :: ps))), some (.val (pathD (x :: r))), some (.val (.tup [.str a, .str b])), some (.val (.str x)), none, some (.val (.int dg)), none], g⟩ = .ok (a == "letters" && decide (0 < dg)) ⟨[some (.val (psD (.k a b :: ps))), some (.val (pathD (x :: r))), some (.val (.tup [.str a, .str b])), some (.val (.str x)), none, some (.val (.int dg)), none], g⟩ := by
              cases c : (a == ("letters" : Str)) with
              | true => rw [c] at el; exact ev_andT (ev_B (ev_m2 rfl rfl el)) (ev_B (ev_m2 rfl rfl g1))
              | false => rw [c] at el; exact ev_andF (ev_B (ev_m2 rfl rfl el))
            rw [bt, Bool.not_not]
            cases c : (a == ("letters" : Str) && decide (0 < dg)) with
            | true => rw [c] at h1; exact ev_orT h1
            | false => rw [c] at h1; rw [Bool.false_or]; exact ev_orF h1 h2
          cases c : fits (.k a b) x with
          | false =>
            rw [fl, c] at test
            refine s0 ⟨[some (.val (psD (.k a b :: ps))), some (.val (pathD (x :: r))), some (.val (.tup [.str a, .str b])), some (.val (.str x)), none, some (.val (.int dg)), none], g⟩ ?_ rfl
            rw [sp, c]
            apply ev_seq
            · exact ev_ifF (ev_andT rfl (ev_B (ev_m2 rfl rfl ta))) rfl
            apply ev_seq
            · exact ev_ifF (ev_B (ev_m2 rfl rfl e0)) rfl
            apply ev_seq
            · exact ev_set (ev_sub rfl rfl (ws_zero _ _ _))
            apply ev_seq
            · exact ev_ifF (ev_andF rfl) rfl
            apply ev_seqR
            apply ev_ifT
            · rfl
            apply ev_seq
            · exact dig
            exact ev_ifT test rfl
          | true =>
            rw [fl, c] at test
            have rc := lawvals ps r n hn' (by omega) hp' nd' (fun z hz => hw z (List.mem_cons_of_mem _ hz)) g
            obtain ⟨e5, h5⟩ : ∃ e5, e5 = some (Sl.val (D.int dg)) := ⟨_, rfl⟩
            refine s0 ⟨[some (.val (psD (.k a b :: ps))), some (.val (pathD (x :: r))), some (.val (.tup [.str a, .str b])), some (.val (.str x)), some (.val (solD (sol ps r))), some (.val (.int dg)), none], g⟩ ?_ rfl
            rw [sp, c]
            apply ev_seq
            · exact ev_ifF (ev_andT rfl (ev_B (ev_m2 rfl rfl ta))) rfl
            apply ev_seq
            · exact ev_ifF (ev_B (ev_m2 rfl rfl e0)) rfl
            apply ev_seq
            · exact ev_set (ev_sub rfl rfl (ws_zero _ _ _))
            apply ev_seq
            · exact ev_ifF (ev_andF rfl) rfl
            apply ev_seq (s1 := ⟨[some (.val (psD (.k a b :: ps))), some (.val (pathD (x :: r))), some (.val (.tup [.str a, .str b])), some (.val (.str x)), none, some (.val (.int dg)), none], g⟩)
            · apply ev_ifT
              · rfl
              apply ev_seq
              · exact dig
              exact ev_ifF test rfl
            apply ev_seq (s1 := ⟨[some (.val (psD (.k a b :: ps))), some (.val (pathD (x :: r))), some (.val (.tup [.str a, .str b])), some (.val (.str x)), some (.val (solD (sol ps r))), some (.val (.int dg)), none], g⟩)
            · refine ev_set (i := 4) (ev_fn (ds := [psD ps, pathD r]) (s1 := ⟨[some (.val (psD (.k a b :: ps))), some (.val (pathD (x :: r))), some (.val (.tup [.str a, .str b])), some (.val (.str x)), none, some (.val (.int dg)), none], g⟩) ?_ rfl rc)
              refine ev_cons (s1 := ⟨[some (.val (psD (.k a b :: ps))), some (.val (pathD (x :: r))), some (.val (.tup [.str a, .str b])), some (.val (.str x)), none, some (.val (.int dg)), none], g⟩) ?_ (ev_cons (s1 := ⟨[some (.val (psD (.k a b :: ps))), some (.val (pathD (x :: r))), some (.val (.tup [.str a, .str b])), some (.val (.str x)), none, some (.val (.int dg)), none], g⟩) ?_ rfl)
              · show R.ok (D.tup (cutD ((Pt.k a b :: ps).map Pt.d) (some 1) none)) _ = _
                rw [cut_one Pt.d]
                rfl
              · show R.ok (D.tup (cutD ((x :: r).map D.str) (some 1) none)) _ = _
                rw [cut_one D.str]
                rfl
            cases q : sol ps r with
            | none => rfl
            | some d =>
              have nd2 : (((b, D.str x) :: d).map (·.1)).Nodup := ((sol_keys ps r d q).cons_cons b).nodup (by simpa [names_cons, Pt.nm] using nd)
              have ld : d.length ≤ ps.length := by
                have h1 := (sol_keys ps r d q).length_le
                have h2 := names_le ps
                rw [List.length_map] at h1
                omega
              apply ev_seq
              · exact ev_ifF rfl rfl
              refine ev_ret (ev_dictN nd2 (ev_cons (ev_m2 rfl rfl ?_) rfl))
              exact cat_ok (by
                show 1 + ((keyS d).map pairD).length ≤ 100000
                unfold keyS
                rw [List.length_map, List.length_map]
                omega)
theorem lawvals_ok {ps : List Pt} {ws : List Str} (h : PO ps) (hl : ps.length ≤ 6) (nd : (names ps).Nodup) (hw : ∀ x ∈ ws, SegW x) (g : List Ob) : F__law_values [psD ps, pathD ws] g = .ok (solD (sol ps ws)) g :=
  lawvals ps ws 7 (by omega) (by omega) (fun p hp => ⟨h.kok p hp, h.wd p hp⟩) nd hw g
theorem lawranks_ok {ps : List Pt} (h : PO ps) (g : List Ob) : F__law_ranks [psD ps] g = .ok (.lst ((rks ps).map D.int)) g := by
  have hl := h.len
  apply fr_rt (s1 := ⟨_, _⟩)
  apply ev_ret
  rw [rks_D]
  apply ev_m2
  · refine ev_cM Pt.d (fun p => D.int (rk p)) ps (by omega) rfl fun p hp => ?_
    have hk := h.kok p hp
    cases p with
    | w x => exact ⟨_, _, rfl, rfl, rfl⟩
    | k a n => rcases (show a = "any" ∨ a = "letters" ∨ a = "number" ∨ a = "tail" from hk) with z | z | z | z <;> subst z <;> exact ⟨_, _, rfl, rfl, rfl⟩
  · rfl
  · exact cat_ok (by rw [List.length_map]; simp; omega)
theorem lawtaken_ok {t : Tb} {ws : List Str} (h : LT t) (hw : ∀ x ∈ ws, SegW x) (g : List Ob) : F__law_taken [tbD t, pathD ws] g = .ok (rtO (hit t ws)) g := by
  obtain ⟨way, rs⟩ := t
  have few : rs.length ≤ 1000 := h.few
  have po : ∀ r ∈ rs, PO r.2 := h.to.po
  have lf := List.length_filter_le (solB ws) rs
  have hq := way_order (show way = "order" ∨ way = "nearest" from h.to.way)
  have fz : mSet 2 (mFz (mComp (mItems (mSub (mVar 0) (mC (.int 1)))) [4] (gV 4) (mB (m2 dNot (mFn0 2 F__law_values (mCons (mSub (mVar 4) (mC (.int 1))) (mCons (mVar 1) mNil))) (mC .non))) (mVar 4))) ⟨[some (.val (tbD (way, rs))), some (.val (pathD ws)), none, none, none], g⟩ = .ok .nx ⟨[some (.val (tbD (way, rs))), some (.val (pathD ws)), some (.val (.lst ((rs.filter (solB ws)).map rtD))), none, none], g⟩ := by
    refine ev_set (i := 2) (d := .lst ((rs.filter (solB ws)).map rtD)) (s1 := ⟨[some (.val (tbD (way, rs))), some (.val (pathD ws)), none, none, none], g⟩) (ev_cI rtD rtD (solB ws) rs (by omega) rfl fun r hr => ?_)
    exact ⟨_, ⟨_, _⟩, rfl, ev_B (ev_m2 (ev_fn0 (ds := [psD r.2, pathD ws]) rfl rfl (lawvals_ok (po r hr) (h.len r hr) (h.nd r hr) hw _)) rfl (solD_test _)), rfl, fun _ => ⟨_, rfl, rfl⟩⟩
  have en : dEqA (.lst ((rs.filter (solB ws)).map rtD)) (.lst []) = some (.bl (rs.filter (solB ws)).isEmpty) := rs_nil fun r hr => h.wd r (List.mem_filter.mp hr).1
  have pf : ∀ r ∈ rs.filter (solB ws), PO r.2 := fun r hr => po r (List.mem_filter.mp hr).1
  have hm : ∀ r ∈ rs.filter (solB ws), r ∈ rs ∧ solB ws r = true := fun r hr => List.mem_filter.mp hr
  have hm2 : ∀ r ∈ rs, solB ws r = true → r ∈ rs.filter (solB ws) := fun r hr hs => List.mem_filter.mpr ⟨hr, hs⟩
  cases c : rs.filter (solB ws) with
  | nil =>
    have e : hit (way, rs) ws = none := by
      unfold hit
      rw [List.find?_eq_none]
      intro r hr hs
      have := hm2 r (ord_mem hr) hs
      rw [c] at this
      cases this
    rw [e]
    rw [c] at fz en
    apply fr_rt (s1 := ⟨_, _⟩)
    apply ev_seq
    · exact fz
    apply ev_seqR
    apply ev_ifT
    · exact ev_B (ev_m2 rfl rfl en)
    rfl
  | cons r0 fs =>
    rw [c] at fz en pf hm hm2 lf
    cases cw : (way == ("order" : Str)) with
    | true =>
      rw [cw] at hq
      have e : hit (way, rs) ws = some r0 := by
        unfold hit ord
        simp only [cw, if_true]
        rw [head_find, c]; rfl
      rw [e]
      apply fr_rt (s1 := ⟨_, _⟩)
      apply ev_seq
      · exact fz
      apply ev_seq
      · exact ev_ifF (ev_B (ev_m2 rfl rfl en)) rfl
      apply ev_seqR
      apply ev_ifT
      · exact ev_B (ev_m2 rfl rfl hq)
      exact ev_ret (ev_sub rfl rfl (rs_zero _ _ _))
    | false =>
      rw [cw] at hq
      obtain ⟨mm, ml⟩ := minRow_fact (fs.map fun r => rks r.2) (rks r0.2)
      have e : hit (way, rs) ws = ((r0 :: fs).filter fun r => decide (rks r.2 = minRow (rks r0.2) (fs.map fun r => rks r.2))).head? := by
        unfold hit ord
        simp only [cw, Bool.false_eq_true, if_false]
        rw [← c]
        refine find_sort (fun r : Rt => rks r.2) (solB ws) rs _ ?_ fun r hr hs => ml _ ?_
        · rcases List.mem_cons.mp mm with z | z
          · exact ⟨r0, (hm r0 List.mem_cons_self).1, (hm r0 List.mem_cons_self).2, z.symm⟩
          · obtain ⟨r, hr, er⟩ := List.mem_map.mp z
            exact ⟨r, (hm r (List.mem_cons_of_mem _ hr)).1, (hm r (List.mem_cons_of_mem _ hr)).2, er⟩
        · rcases List.mem_cons.mp (hm2 r hr hs) with z | z
          · rw [z]; exact List.mem_cons_self
          · exact List.mem_cons_of_mem _ (List.mem_map.mpr ⟨r, z, rfl⟩)
      have ne : ∃ r1 f1, ((r0 :: fs).filter fun r => decide (rks r.2 = minRow (rks r0.2) (fs.map fun r => rks r.2))) = r1 :: f1 := by
        cases q : ((r0 :: fs).filter fun r => decide (rks r.2 = minRow (rks r0.2) (fs.map fun r => rks r.2))) with
        | cons r1 f1 => exact ⟨r1, f1, rfl⟩
        | nil =>
          rw [List.filter_eq_nil_iff] at q
          rcases List.mem_cons.mp mm with z | z
          · exact absurd (by simp [z]) (q r0 List.mem_cons_self)
          · obtain ⟨r, hr, er⟩ := List.mem_map.mp z
            exact absurd (by simp [er]) (q r (List.mem_cons_of_mem _ hr))
      obtain ⟨r1, f1, e1⟩ := ne
      rw [e1] at e
      rw [e]
      have e3 : (r0 :: fs).map (fun r => D.lst ((rks r.2).map D.int)) = ((r0 :: fs).map fun r => rks r.2).map fun r => D.lst (r.map D.int) := by rw [List.map_map]; rfl
      apply fr_rt (s1 := ⟨_, _⟩)
      apply ev_seq
      · exact fz
      apply ev_seq
      · exact ev_ifF (ev_B (ev_m2 rfl rfl en)) rfl
      apply ev_seq
      · exact ev_ifF (ev_B (ev_m2 rfl rfl hq)) rfl
      apply ev_seq (s1 := ⟨[some (.val (tbD (way, rs))), some (.val (pathD ws)), some (.val (.lst ((r0 :: fs).map rtD))), some (.val (.lst ((minRow (rks r0.2) (fs.map fun r => rks r.2)).map D.int))), none], g⟩)
      · have q : mCall dMin (mCons (mFz (mComp (mItems (mVar 2)) [4] (gV 4) (mpure true) (mFn0 1 F__law_ranks (mCons (mSub (mVar 4) (mC (.int 1))) mNil)))) mNil) ⟨[some (.val (tbD (way, rs))), some (.val (pathD ws)), some (.val (.lst ((r0 :: fs).map rtD))), none, none], g⟩ = .ok (.lst ((minRow (rks r0.2) (fs.map fun r => rks r.2)).map D.int)) ⟨[some (.val (tbD (way, rs))), some (.val (pathD ws)), some (.val (.lst ((r0 :: fs).map rtD))), none, none], g⟩ := ?_
        · exact ev_set q
        apply ev_call
        · exact ev_cons (ev_cM rtD (fun r => D.lst ((rks r.2).map D.int)) (r0 :: fs) (by omega) rfl fun r hr => ⟨_, ⟨_, _⟩, rfl, ev_fn0 (ds := [psD r.2]) rfl rfl (lawranks_ok (pf r hr) _), rfl⟩) rfl
        rw [e3]
        simp only [dMin, rowsOf_map]
        rfl
      refine ev_ret (ev_sub (x := .lst ((r1 :: f1).map rtD)) (y := .int 0) (s1 := ⟨[some (.val (tbD (way, rs))), some (.val (pathD ws)), some (.val (.lst ((r0 :: fs).map rtD))), some (.val (.lst ((minRow (rks r0.2) (fs.map fun r => rks r.2)).map D.int))), none], g⟩) ?_ rfl (rs_zero _ _ _))
      rw [← e1]
      exact ev_cI rtD rtD (fun r => decide (rks r.2 = minRow (rks r0.2) (fs.map fun r => rks r.2))) (r0 :: fs) (by omega) rfl fun r hr => ⟨_, ⟨_, _⟩, rfl, ev_B (ev_m2 (ev_fn0 (ds := [psD r.2]) rfl rfl (lawranks_ok (pf r hr) _)) rfl (ints_eq _ _)), rfl, fun _ => ⟨_, rfl, rfl⟩⟩
theorem lawtitle_ok {t : Tb} {ws : List Str} (h : LT t) (hw : ∀ x ∈ ws, SegW x) (g : List Ob) : F__law_title [tbD t, pathD ws] g = .ok (titD (tit t ws)) g := by
  apply fr_rt (s1 := ⟨[some (.val (tbD t)), some (.val (pathD ws)), some (.val (rtO (hit t ws)))], g⟩)
  apply ev_seq (s1 := ⟨[some (.val (tbD t)), some (.val (pathD ws)), some (.val (rtO (hit t ws)))], g⟩)
  · exact ev_set (s1 := ⟨[some (.val (tbD t)), some (.val (pathD ws)), none], g⟩) (ev_fn rfl rfl (lawtaken_ok h hw g))
  apply ev_ret
  unfold tit
  cases hit t ws <;> rfl
end Law

/-! WDraw: paths that a law draws -/
namespace Law
open PySem L2 FX
theorem compR_T {e0 : List (Option Sl)} {body : D → M (Option D)} {P : D → Prop} : ∀ (l : List D) (g : List Ob), Town g → (∀ d ∈ l, ∀ g, Town g → ∃ y s', body d ⟨e0, g⟩ = .ok (some y) s' ∧ Town s'.g ∧ P y) →
    ∃ ys g', compR e0 body l g = some (ys, g') ∧ Town g' ∧ (∀ y ∈ ys, P y) ∧ ys.length = l.length
  | [], g, T, _ => ⟨[], g, rfl, T, fun _ h => (by cases h), rfl⟩
  | d :: l, g, T, h => by
    obtain ⟨y, s', e, T', hy⟩ := h d List.mem_cons_self g T
    obtain ⟨ys, g', e2, T2, h2, l2⟩ := compR_T l s'.g T' fun d' hd => h d' (List.mem_cons_of_mem _ hd)
    refine ⟨y :: ys, g', ?_, T2, fun z hz => ?_, by simp [l2]⟩
    · simp only [compR, e, e2]
    · rcases List.mem_cons.mp hz with w | w
      · rw [w]; exact hy
      · exact h2 z w
theorem strs_in {Wl : List Str} : ∀ {ys : List D}, (∀ y ∈ ys, ∃ x ∈ Wl, y = D.str x) → ∃ ws : List Str, ys = ws.map D.str ∧ ∀ x ∈ ws, x ∈ Wl
  | [], _ => ⟨[], rfl, fun _ h => (by cases h)⟩
  | y :: ys, h => by
    obtain ⟨x, hx, rfl⟩ := h y List.mem_cons_self
    obtain ⟨ws, rfl, h2⟩ := strs_in (ys := ys) fun z hz => h z (List.mem_cons_of_mem _ hz)
    exact ⟨x :: ws, rfl, fun z hz => by
      rcases List.mem_cons.mp hz with w | w
      · rw [w]; exact hx
      · exact h2 z w⟩
theorem draw_comp {Wl : List Str} {mi : M (List D)} {v : Nat} {me : M D} {s : S} {l : List D} {g1 : List Ob} (hi : mi s = .ok l ⟨s.e, g1⟩) (T1 : Town g1) (hl : l.length ≤ 1000) (k : ∀ d g, Town g → ∃ x s', me ⟨(hideE (wipeE s.e [v])).set v (some (.val d)), g⟩ = .ok (.str x) s' ∧ Town s'.g ∧ x ∈ Wl) :
    ∃ (ws : List Str) (g' : List Ob), mComp mi [v] (gV v) (mpure true) me s = .ok (.lst (ws.map D.str)) ⟨s.e, g'⟩ ∧ Town g' ∧ (∀ x ∈ ws, x ∈ Wl) ∧ ws.length = l.length := by
  obtain ⟨ys, g2, e2, T2, h2, l2⟩ := compR_T (e0 := hideE (wipeE s.e [v])) (body := cbody (gV v) (mpure true) me) (P := fun y => ∃ x ∈ Wl, y = D.str x) l g1 T1 (fun d _ g T => by
    obtain ⟨x, s', e, T', hx⟩ := k d g T
    exact ⟨.str x, s', ev_bind (a := ()) rfl (ev_bind (a := true) rfl (ev_bind e rfl)), T', x, hx, rfl⟩)
  obtain ⟨ws, rfl, hw⟩ := strs_in h2
  rw [List.length_map] at l2
  refine ⟨ws, g2, ?_, T2, hw, l2⟩
  unfold mComp
  refine ev_bind hi ?_
  simp only [e2]
  rw [if_pos (by rw [List.length_map]; omega)]
theorem pickS_ok (ns : List Int) {g : List Ob} (T : Town g) {Wl : List Str} (h0 : 0 < Wl.length) (h1 : Wl.length < 2 ^ 30) : ∃ x g', F__law_pick [.scr ns, .cell 0, .lst (Wl.map D.str)] g = .ok (.str x) g' ∧ Town g' ∧ x ∈ Wl := by
  obtain ⟨x, g', e, T', hx⟩ := pick_ok ns T (l := Wl.map D.str) (by rw [List.length_map]; exact h0) (by rw [List.length_map]; exact h1)
  obtain ⟨w, hw, rfl⟩ := List.mem_map.mp hx
  exact ⟨w, g', e, T', hw⟩
end Law

/-! RTaken: taken -/
namespace Law
open PySem L2 FX
theorem taken_ok {t : Tb} {ws : List Str} (h : TbOk t) (ho : TO t) (hw : WsOk ws) (g : List Ob) : F_taken [tbD t, pathD ws] g = .ok (titO (hit t ws)) g := by
  have rf := route_for_ok ho hw.wd g
  cases c : hit t ws
  all_goals
    rw [c] at rf
    apply fr_rt (s1 := ⟨_, _⟩)
    apply ev_seq
    · exact ev_drop (ev_fn rfl rfl (need_table_ok h g))
    apply ev_seq
    · exact ev_drop (ev_fn rfl rfl (need_path_ok hw g))
    apply ev_seq
    · exact ev_set (ev_fn rfl rfl rf)
    exact ev_ret rfl
end Law

/-! RFitting: fitting -/
namespace Law
open PySem L2 FX
theorem fitting_ok {t : Tb} {ws : List Str} (h : TbOk t) (ho : TO t) (hw : WsOk ws) (g : List Ob) : F_fitting [tbD t, pathD ws] g = .ok (.lst ((t.2.filter (solB ws)).map fun r => D.str r.1)) g := by
  have hi := h.hi
  apply fr_rt (s1 := ⟨_, _⟩)
  apply ev_seq
  · exact ev_drop (ev_fn rfl rfl (need_table_ok h g))
  apply ev_seq
  · exact ev_drop (ev_fn rfl rfl (need_path_ok hw g))
  apply ev_ret
  refine ev_cI rtD (fun r => D.str r.1) (solB ws) t.2 (by omega) rfl fun r hr => ?_
  obtain ⟨v, fv, tv⟩ := values_test (ho.po r hr) hw.wd
  exact ⟨_, ⟨_, _⟩, rfl, ev_B (ev_m2 (ev_fn0 (ds := [psD r.2, pathD ws]) rfl rfl (fv _)) rfl tv), rfl, fun _ => ⟨_, rfl, rfl⟩⟩
end Law

/-! RValues: values -/
namespace Law
open PySem L2 FX
theorem values_of_ok {t : Tb} {ws : List Str} (h : TbOk t) (ho : TO t) (hw : WsOk ws) (g : List Ob) : 
    (hit t ws = none ∧ F_values [tbD t, pathD ws] g = .ok .non g) ∨ ∃ r d a, hit t ws = some r ∧ sol r.2 ws = some d ∧ a.Perm d ∧ (d.map (·.1)).Nodup ∧ (∀ q ∈ a, okEq q.2 q.2 = true ∧ eqD q.2 q.2 = true) ∧ F_values [tbD t, pathD ws] g = .ok (.dic (keyS a)) g := by
  have rf := route_for_ok ho hw.wd g
  cases c : hit t ws with
  | none =>
    rw [c] at rf
    refine .inl ⟨rfl, ?_⟩
    apply fr_rt (s1 := ⟨_, _⟩)
    apply ev_seq
    · exact ev_drop (ev_fn rfl rfl (need_table_ok h g))
    apply ev_seq
    · exact ev_drop (ev_fn rfl rfl (need_path_ok hw g))
    apply ev_seq
    · exact ev_set (ev_fn rfl rfl rf)
    rfl
  | some r =>
    rw [c] at rf
    have hr : r ∈ t.2 := ord_mem (List.mem_of_find?_eq_some c)
    have hs : solB ws r = true := List.find?_some c
    rcases values_ok (ho.po r hr) hw.wd with ⟨e, _⟩ | ⟨d, a, e1, e2, e3, e4, e5⟩
    · unfold solB at hs; rw [e] at hs; cases hs
    · refine .inr ⟨r, d, a, rfl, e1, e2, e3, e4, ?_⟩
      apply fr_rt (s1 := ⟨_, _⟩)
      apply ev_seq
      · exact ev_drop (ev_fn rfl rfl (need_table_ok h g))
      apply ev_seq
      · exact ev_drop (ev_fn rfl rfl (need_path_ok hw g))
      apply ev_seq
      · exact ev_set (ev_fn rfl rfl rf)
      apply ev_ret
      apply ev_ifE (t := false)
      · rfl
      exact ev_fn rfl rfl (e5 g)
end Law

/-! W03A: the law's values for the parts of a route -/
namespace Law
open PySem L2 FX
abbrev vq (d : D) : Option Sl := some (.val d)
def W7 : List Str := ["a", "b", "zz", "1", "07", "a1", "q9"]
theorem w7_facts : ∀ x ∈ W7, (∀ g, F_is_segment [.str x] g = .ok (.bl true) g) ∧ SegW x := by
  intro x hx
  simp only [W7, List.mem_cons, List.not_mem_nil, or_false] at hx
  rcases hx with z | z | z | z | z | z | z <;> subst z <;> exact ⟨fun g => by kernel_rfl, ⟨by decide +kernel, by decide +kernel⟩, by decide +kernel⟩
theorem cat_tup3 {a b : List D} (h : a.length + b.length ≤ 100000) : dPlus (.tup a) (.tup b) = some (.tup (a ++ b)) := by
  show (if a.length + b.length ≤ 100000 then _ else _) = _
  rw [if_pos h]
theorem cat_path {a b : List Str} (h : a.length + b.length ≤ 1000) : dPlus (pathD a) (pathD b) = some (pathD (a ++ b)) := by
  have := cat_tup3 (a := a.map D.str) (b := b.map D.str) (by simp; omega)
  rw [← List.map_append] at this
  exact this
theorem ev_dgetO {i : Nat} {mk : M D} {s : S} {l : List (Str × D)} {x : Str} {z : D} (h : ownD s i = some (keyS l)) (k : mk s = .ok (.str x) s) (e : lkD (.inr x) (keyS l) = some z) : mDGetO i mk s = .ok z s := by
  unfold mDGetO
  simp only [h]
  refine ev_bind k ?_
  simp only [h]
  show (match lkD (.inr x) (keyS l) with | some z => R.ok z s | none => .no) = _
  rw [e]
def GL : List Pt → Prop
  | [] => True
  | .w x :: r => x ∈ Wp ∧ GL r
  | .k kd nm :: r => nm ∈ Nm ∧ ((kd ∈ K3 ∧ GL r) ∨ (kd = "tail" ∧ r = []))
theorem gl_plain : ∀ {b : List Pt}, (∀ p ∈ b, FOk p) → (∀ p ∈ b, GP p ∨ ∃ n ∈ Nm, p = .k "tail" n) → GL b
  | [], _, _ => trivial
  | p :: b, hf, hg => by
    have ih := gl_plain (fun q hq => hf q (List.mem_cons_of_mem _ hq)) fun q hq => hg q (List.mem_cons_of_mem _ hq)
    have t := (hf p List.mem_cons_self).tl
    rcases hg p List.mem_cons_self with (⟨x, hx, rfl⟩ | ⟨k, hk, n, hn, rfl⟩) | ⟨n, hn, rfl⟩
    · exact ⟨hx, ih⟩
    · exact ⟨hn, .inl ⟨hk, ih⟩⟩
    · cases t
theorem gl_tail {nm : Str} (hn : nm ∈ Nm) : ∀ {b : List Pt}, (∀ p ∈ b, FOk p) → (∀ p ∈ b, GP p ∨ ∃ n ∈ Nm, p = .k "tail" n) → GL (b ++ [.k "tail" nm])
  | [], _, _ => ⟨hn, .inr ⟨rfl, rfl⟩⟩
  | p :: b, hf, hg => by
    have ih := gl_tail hn (b := b) (fun q hq => hf q (List.mem_cons_of_mem _ hq)) fun q hq => hg q (List.mem_cons_of_mem _ hq)
    have t := (hf p List.mem_cons_self).tl
    rcases hg p List.mem_cons_self with (⟨x, hx, rfl⟩ | ⟨k, hk, n, hn, rfl⟩) | ⟨n, hn, rfl⟩
    · exact ⟨hx, ih⟩
    · exact ⟨hn, .inl ⟨hk, ih⟩⟩
    · cases t
theorem gl_of {ps : List Pt} (h : GPs ps) : GL ps := by
  rcases h.po with b | ⟨b, nm, rfl, hb, _, _⟩
  · exact gl_plain b.f h.gp
  · refine gl_tail ?_ hb.f fun p hp => h.gp p (List.mem_append_left _ hp)
    rcases h.gp (.k "tail" nm) (by simp) with (⟨x, _, z⟩ | ⟨k, hk, n, hn, z⟩) | ⟨n, hn, z⟩
    · cases z
    · cases z; exact hn
    · cases z; exact hn
def Sh4 (v : D) : Prop := ∀ l, v = .tup l → l.length ≤ 4
def kindW (kd : Str) : List Str := if kd = "letters" then ["a", "b", "zz"] else if kd = "number" then ["1", "07"] else ["a", "1", "a1", "zz", "q9"]
theorem kind_w : ∀ kd ∈ K3, 0 < (kindW kd).length ∧ (kindW kd).length < 2 ^ 30 ∧ ∀ x ∈ kindW kd, x ∈ W7 ∧ (x.cps.toList.all fun c => decide (c ∈ (sgn kd).cps.toList)) = true := by
  intro kd hk
  simp only [K3, List.mem_cons, List.not_mem_nil, or_false] at hk
  rcases hk with z | z | z <;> subst z <;> exact ⟨by decide +kernel, by decide +kernel, by decide +kernel⟩
abbrev givBody : M Out := (mIf (mB (m1 (dIsi (fun t => t == "str")) (mVar 3))) (mSet 5 (m2 dPlus (mVar 5) (mTup (mCons (mVar 3) mNil)))) (mIf (mB (m2 dEqA (mSub (mVar 3) (mC (.int 0))) (mC (.str "tail")))) (mSeq (mSet 6 (mFn 3 F__law_draw (mCons (mVar 0) (mCons (mVar 1) (mCons (mC (.int 5)) mNil))))) (mSeq (mDPut 4 (mSub (mVar 3) (mC (.int 1))) (mCall dTuple (mCons (mFz (mComp (mRange (mVar 6)) [8] (gV 8) (mpure true) (mFn0 3 F__law_pick (mCons (mVar 0) (mCons (mVar 1) (mCons (mFz (mLst (mCons (mC (.str "a")) (mCons (mC (.str "1")) (mCons (mC (.str "q9")) mNil))))) mNil)))))) mNil))) (mSet 5 (m2 dPlus (mVar 5) (mDGetO 4 (mSub (mVar 3) (mC (.int 1)))))))) (mSeq (mSet 7 (mSub (mFz (mDisp (((mC (.str "letters")), (mFz (mLst (mCons (mC (.str "a")) (mCons (mC (.str "b")) (mCons (mC (.str "zz")) mNil)))))) :: (((mC (.str "number")), (mFz (mLst (mCons (mC (.str "1")) (mCons (mC (.str "07")) mNil))))) :: (((mC (.str "any")), (mFz (mLst (mCons (mC (.str "a")) (mCons (mC (.str "1")) (mCons (mC (.str "a1")) (mCons (mC (.str "zz")) (mCons (mC (.str "q9")) mNil)))))))) :: []))))) (mSub (mVar 3) (mC (.int 0))))) (mSeq (mDPut 4 (mSub (mVar 3) (mC (.int 1))) (mFn 3 F__law_pick (mCons (mVar 0) (mCons (mVar 1) (mCons (mVar 7) mNil))))) (mSet 5 (m2 dPlus (mVar 5) (mTup (mCons (mDGetO 4 (mSub (mVar 3) (mC (.int 1)))) mNil))))))))
abbrev eGv (ns : List Int) (q : D) (s3 : Option Sl) (acc : List (Str × D)) (w : List Str) (s6 s7 : Option Sl) : List (Option Sl) := [vq (.scr ns), vq (.cell 0), vq q, s3, some (.own (.dic (keyS acc))), vq (pathD w), s6, s7, none]
theorem kind_ev {kd nm : Str} (hk : kd ∈ K3) (ns : List Int) (q : D) (acc : List (Str × D)) (w : List Str) (s6 s7 : Option Sl) (g : List Ob) :
    (mSub (mFz (mDisp (((mC (.str "letters")), (mFz (mLst (mCons (mC (.str "a")) (mCons (mC (.str "b")) (mCons (mC (.str "zz")) mNil)))))) :: (((mC (.str "number")), (mFz (mLst (mCons (mC (.str "1")) (mCons (mC (.str "07")) mNil))))) :: (((mC (.str "any")), (mFz (mLst (mCons (mC (.str "a")) (mCons (mC (.str "1")) (mCons (mC (.str "a1")) (mCons (mC (.str "zz")) (mCons (mC (.str "q9")) mNil)))))))) :: []))))) (mSub (mVar 3) (mC (.int 0)))) ⟨eGv ns q (vq (Pt.k kd nm).d) acc w s6 s7, g⟩ = .ok (.lst ((kindW kd).map D.str)) ⟨eGv ns q (vq (Pt.k kd nm).d) acc w s6 s7, g⟩ := by
  simp only [K3, List.mem_cons, List.not_mem_nil, or_false] at hk
  rcases hk with z | z | z <;> subst z <;> kernel_rfl
theorem given_loop (ns : List Int) (q : D) : ∀ (ps : List Pt) (acc : List (Str × D)) (w : List Str) (s3 s6 s7 : Option Sl) (g : List Ob), Town g → GL ps → (acc.map (·.1) ++ names ps).Nodup → acc.length + ps.length ≤ 100 → w.length + ps.length ≤ 100 →
    ∃ ws d t3 t6 t7 g', forR (gV 3) givBody (ps.map Pt.d) ⟨eGv ns q s3 acc w s6 s7, g⟩ = .ok .nx ⟨eGv ns q t3 (acc ++ d) (w ++ ws) t6 t7, g'⟩ ∧ Town g' ∧ sol ps ws = some d ∧ (∀ x ∈ ws, x ∈ W7) ∧ ws.length ≤ ps.length + 3 ∧ ∀ y ∈ d, Sh4 y.2
  | [], acc, w, s3, s6, s7, g, T, _, _, _, _ => ⟨[], [], s3, s6, s7, g, by simp [forR, mpure], T, rfl, (fun _ h => by cases h), by simp, (fun _ h => by cases h)⟩
  | .w x :: ps, acc, w, s3, s6, s7, g, T, gl, nd, l1, l2 => by
    obtain ⟨hx, gl⟩ := gl
    have nd : (acc.map (·.1) ++ names ps).Nodup := by simpa [names_cons, Pt.nm] using nd
    have l1 : acc.length + (ps.length + 1) ≤ 100 := l1
    have l2 : w.length + (ps.length + 1) ≤ 100 := l2
    obtain ⟨ws, d, t3, t6, t7, g', e, T', h1, h2, h3, h4⟩ := given_loop ns q ps acc (w ++ [x]) (vq (.str x)) s6 s7 g T gl nd (by omega) (by simp; omega)
    have st : givBody ⟨eGv ns q (vq (.str x)) acc w s6 s7, g⟩ = .ok .nx ⟨eGv ns q (vq (.str x)) acc (w ++ [x]) s6 s7, g⟩ := by
      refine ev_ifT (s1 := ⟨eGv ns q (vq (.str x)) acc w s6 s7, g⟩) rfl (ev_set (ev_m2 (s1 := ⟨eGv ns q (vq (.str x)) acc w s6 s7, g⟩) (s2 := ⟨eGv ns q (vq (.str x)) acc w s6 s7, g⟩) (x := pathD w) (y := pathD [x]) rfl rfl (cat_path (by simp; omega))))
    refine ⟨x :: ws, d, t3, t6, t7, g', ?_, T', ?_, fun y hy => ?_, by simp; omega, h4⟩
    · rw [show w ++ x :: ws = w ++ [x] ++ ws by simp]
      exact forR_cons (s1 := ⟨eGv ns q (vq (.str x)) acc w s6 s7, g⟩) rfl st e
    · show (if fits (.w x) x = true then sol ps ws else none) = some d
      rw [if_pos (by show (x == x) = true; simp), h1]
    · rcases List.mem_cons.mp hy with z | z
      · rw [z]
        exact (by decide +kernel : ∀ x ∈ Wp, x ∈ W7) x hx
      · exact h2 y z
  | .k kd nm :: ps, acc, w, s3, s6, s7, g, T, gl, nd, l1, l2 => by
    obtain ⟨hn, gl⟩ := gl
    have nd : (acc.map (·.1) ++ nm :: names ps).Nodup := by simpa [names_cons, Pt.nm] using nd
    have l1 : acc.length + (ps.length + 1) ≤ 100 := l1
    have l2 : w.length + (ps.length + 1) ≤ 100 := l2
    have new : nm ∉ acc.map (·.1) := fun z => (List.nodup_append.mp nd).2.2 nm z nm List.mem_cons_self rfl
    have nda : ((acc.map (·.1)) ++ [nm]).Nodup := (List.Sublist.append (List.Sublist.refl _) (List.Sublist.cons₂ nm (List.nil_sublist _))).nodup nd
    have found : ∀ v : D, lkD (.inr nm) (keyS (acc ++ [(nm, v)])) = some v := fun v => lkD_S (by rw [List.map_append]; exact nda) (by simp)
    let A (a : List (Str × D)) (w : List Str) (s6 s7 : Option Sl) (g : List Ob) : S := ⟨eGv ns q (vq (Pt.k kd nm).d) a w s6 s7, g⟩
    have isn : mB (m1 (dIsi (fun t => t == "str")) (mVar 3)) (A acc w s6 s7 g) = .ok false (A acc w s6 s7 g) := rfl
    rcases gl with ⟨hk, gl⟩ | ⟨rfl, rfl⟩
    · have tl : mB (m2 dEqA (mSub (mVar 3) (mC (.int 0))) (mC (.str "tail"))) (A acc w s6 s7 g) = .ok false (A acc w s6 s7 g) := ev_B (ev_m2 (s1 := A acc w s6 s7 g) (s2 := A acc w s6 s7 g) (x := .str kd) (y := .str "tail") rfl rfl (by
        rw [str_eq (wd_k3 kd hk) wd_tail]
        exact congrArg (fun b => some (D.bl b)) ((by decide +kernel : ∀ x ∈ K3, (x == ("tail" : Str)) = false) kd hk)))
      obtain ⟨k0, k1, kw⟩ := kind_w kd hk
      obtain ⟨x, g1, e1, T1, hx⟩ := pickS_ok ns T (Wl := kindW kd) k0 k1
      obtain ⟨x7, xf⟩ := kw x hx
      let u7 := vq (.lst ((kindW kd).map D.str))
      obtain ⟨ws, d, t3, t6, t7, g', e, T', h1, h2, h3, h4⟩ := given_loop ns q ps (acc ++ [(nm, .str x)]) (w ++ [x]) (vq (Pt.k kd nm).d) s6 u7 g1 T1 gl (by rw [List.map_append]; simpa using nd) (by simp; omega) (by simp; omega)
      have pt : mDPut 4 (mSub (mVar 3) (mC (.int 1))) (mFn 3 F__law_pick (mCons (mVar 0) (mCons (mVar 1) (mCons (mVar 7) mNil)))) (A acc w s6 u7 g) = .ok .nx (A (acc ++ [(nm, .str x)]) w s6 u7 g1) := by
        have pk : mFn 3 F__law_pick (mCons (mVar 0) (mCons (mVar 1) (mCons (mVar 7) mNil))) (A acc w s6 u7 g) = .ok (.str x) (A acc w s6 u7 g1) := ev_fn (ds := [.scr ns, .cell 0, .lst ((kindW kd).map D.str)]) (s1 := A acc w s6 u7 g) rfl rfl e1
        have nmv : mSub (mVar 3) (mC (.int 1)) (A acc w s6 u7 g1) = .ok (.str nm) (A acc w s6 u7 g1) := rfl
        exact ev_dput (i := 4) (l := acc) pk rfl nmv rfl (by omega) new
      have tlf : isTl (.k kd nm) = false := by
        have hk := hk
        simp only [K3, List.mem_cons, List.not_mem_nil, or_false] at hk
        rcases hk with z | z | z <;> subst z <;> rfl
      have fx : fits (.k kd nm) x = true := xf
      have st : givBody (A acc w s6 s7 g) = .ok .nx (A (acc ++ [(nm, .str x)]) (w ++ [x]) s6 u7 g1) := by
        refine ev_ifF isn (ev_ifF tl (ev_seq (s1 := A acc w s6 u7 g) (ev_set (kind_ev hk ns q acc w s6 s7 g)) (ev_seq (s1 := A (acc ++ [(nm, .str x)]) w s6 u7 g1) pt ?_)))
        let Z := A (acc ++ [(nm, .str x)]) w s6 u7 g1
        exact ev_set (ev_m2 (s1 := Z) (s2 := Z) (x := pathD w) (y := pathD [x]) rfl (ev_tup (ds := [.str x]) (ev_cons (s1 := Z) (ev_dgetO (i := 4) (l := acc ++ [(nm, .str x)]) (x := nm) rfl rfl (found _)) rfl) (by simp)) (cat_path (by simp; omega)))
      refine ⟨x :: ws, (nm, .str x) :: d, t3, t6, t7, g', ?_, T', ?_, fun y hy => ?_, by simp; omega, fun y hy => ?_⟩
      · rw [show w ++ x :: ws = w ++ [x] ++ ws by simp, show acc ++ (nm, D.str x) :: d = acc ++ [(nm, .str x)] ++ d by simp]
        exact forR_cons (s1 := A acc w s6 s7 g) rfl st e
      · show (if isTl (.k kd nm) = true then some [(nm, pathD (x :: ws))] else if fits (.k kd nm) x = true then (sol ps ws).map ((nm, .str x) :: ·) else none) = _
        rw [if_neg (by rw [tlf]; simp), if_pos fx, h1]
        rfl
      · rcases List.mem_cons.mp hy with z | z
        · rw [z]; exact x7
        · exact h2 y z
      · rcases List.mem_cons.mp hy with z | z
        · rw [z]; intro l hl; cases hl
        · exact h4 y z
    · have tl : mB (m2 dEqA (mSub (mVar 3) (mC (.int 0))) (mC (.str "tail"))) (A acc w s6 s7 g) = .ok true (A acc w s6 s7 g) := ev_B (ev_m2 (s1 := A acc w s6 s7 g) (s2 := A acc w s6 s7 g) (x := .str "tail") (y := .str "tail") rfl rfl (by rw [str_eq wd_tail wd_tail]; simp))
      obtain ⟨r, g1, e1, T1, r0, r1⟩ := draw_ok ns T (m := 5) (by omega) (by omega)
      let B := A acc w (vq (.int r)) s7 g1
      obtain ⟨ws, g2, e2, T2, hw, hl⟩ := draw_comp (Wl := ["a", "1", "q9"]) (mi := mRange (mVar 6)) (v := 8) (me := (mFn0 3 F__law_pick (mCons (mVar 0) (mCons (mVar 1) (mCons (mFz (mLst (mCons (mC (.str "a")) (mCons (mC (.str "1")) (mCons (mC (.str "q9")) mNil))))) mNil))))) (s := B) (g1 := g1) (ev_range (n := r) rfl ⟨by omega, by omega⟩) T1 (by simp; omega) (fun dd g T => by
        obtain ⟨x, g', e, T', hx⟩ := pickS_ok ns T (Wl := ["a", "1", "q9"]) (by decide) (by decide)
        exact ⟨x, ⟨_, g'⟩, ev_fn0 (ds := [.scr ns, .cell 0, .lst ((["a", "1", "q9"] : List Str).map D.str)]) rfl rfl e, T', hx⟩)
      have hl4 : ws.length ≤ 4 := by
        rw [hl, List.length_map, List.length_range]
        omega
      let C := A acc w (vq (.int r)) s7 g2
      have e2 : mComp (mRange (mVar 6)) [8] (gV 8) (mpure true) (mFn0 3 F__law_pick (mCons (mVar 0) (mCons (mVar 1) (mCons (mFz (mLst (mCons (mC (.str "a")) (mCons (mC (.str "1")) (mCons (mC (.str "q9")) mNil))))) mNil)))) B = .ok (.lst (ws.map D.str)) C := e2
      have pt : mDPut 4 (mSub (mVar 3) (mC (.int 1))) (mCall dTuple (mCons (mFz (mComp (mRange (mVar 6)) [8] (gV 8) (mpure true) (mFn0 3 F__law_pick (mCons (mVar 0) (mCons (mVar 1) (mCons (mFz (mLst (mCons (mC (.str "a")) (mCons (mC (.str "1")) (mCons (mC (.str "q9")) mNil))))) mNil)))))) mNil)) B = .ok .nx (A (acc ++ [(nm, pathD ws)]) w (vq (.int r)) s7 g2) := by
        have cm : mCall dTuple (mCons (mFz (mComp (mRange (mVar 6)) [8] (gV 8) (mpure true) (mFn0 3 F__law_pick (mCons (mVar 0) (mCons (mVar 1) (mCons (mFz (mLst (mCons (mC (.str "a")) (mCons (mC (.str "1")) (mCons (mC (.str "q9")) mNil))))) mNil)))))) mNil) B = .ok (pathD ws) C := ev_call (ds := [.lst (ws.map D.str)]) (s1 := C) (ev_cons (s1 := C) (ev_fz (o := .lst (ws.map D.str)) e2) rfl) rfl
        have nmv : mSub (mVar 3) (mC (.int 1)) C = .ok (.str nm) C := rfl
        exact ev_dput (i := 4) (l := acc) cm rfl nmv rfl (by omega) new
      have st : givBody (A acc w s6 s7 g) = .ok .nx (A (acc ++ [(nm, pathD ws)]) (w ++ ws) (vq (.int r)) s7 g2) := by
        refine ev_ifF isn (ev_ifT tl (ev_seq (s1 := B) (ev_set (ev_fn (ds := [.scr ns, .cell 0, .int 5]) (s1 := A acc w s6 s7 g) rfl rfl e1)) (ev_seq (s1 := A (acc ++ [(nm, pathD ws)]) w (vq (.int r)) s7 g2) pt ?_)))
        let Z := A (acc ++ [(nm, pathD ws)]) w (vq (.int r)) s7 g2
        exact ev_set (ev_m2 (s1 := Z) (s2 := Z) (x := pathD w) (y := pathD ws) rfl (ev_dgetO (i := 4) (l := acc ++ [(nm, pathD ws)]) (x := nm) rfl rfl (found _)) (cat_path (by omega)))
      refine ⟨ws, [(nm, pathD ws)], vq (Pt.k "tail" nm).d, vq (.int r), s7, g2, ?_, T2, ?_, fun y hy => (by decide +kernel : ∀ x ∈ (["a", "1", "q9"] : List Str), x ∈ W7) y (hw y hy), by simp; omega, fun y hy => ?_⟩
      · exact forR_cons (s1 := A acc w s6 s7 g) rfl st rfl
      · cases ws <;> rfl
      · rw [List.mem_singleton.mp hy]
        intro l hl
        cases hl
        rw [List.length_map]
        exact hl4
theorem given_ok (ns : List Int) {ps : List Pt} (h : GPs ps) (nd : (names ps).Nodup) {g : List Ob} (T : Town g) :
    ∃ ws d g', F__law_given [.scr ns, .cell 0, psD ps] g = .ok (.tup [.dic (keyS d), pathD ws]) g' ∧ Town g' ∧ sol ps ws = some d ∧ (∀ x ∈ ws, x ∈ W7) ∧ ws.length ≤ 7 ∧ ∀ y ∈ d, Sh4 y.2 := by
  have hl := h.len
  obtain ⟨ws, d, t3, t6, t7, g', e, T', h1, h2, h3, h4⟩ := given_loop ns (psD ps) ps [] [] none none none g T (gl_of h) (by simpa using nd) (by simp; omega) (by simp; omega)
  rw [List.nil_append, List.nil_append] at e
  refine ⟨ws, d, g', fr_rt (s1 := ⟨[vq (.scr ns), vq (.cell 0), vq (psD ps), t3, vq (.dic (keyS d)), vq (pathD ws), t6, t7, none], g'⟩) ?_, T', h1, h2, by omega, h4⟩
  apply ev_seq (s1 := ⟨eGv ns (psD ps) none [] [] none none, g⟩)
  · rfl
  apply ev_seq (s1 := ⟨eGv ns (psD ps) t3 d ws t6 t7, g'⟩)
  · exact ev_for (s1 := ⟨eGv ns (psD ps) none [] [] none none, g⟩) (ds := ps.map Pt.d) rfl e
  exact ev_ret (ev_tup (ds := [.dic (keyS d), pathD ws]) (ev_cons (s1 := ⟨[vq (.scr ns), vq (.cell 0), vq (psD ps), t3, vq (.dic (keyS d)), vq (pathD ws), t6, t7, none], g'⟩) rfl rfl) (by simp))
end Law

/-! W03B: path_of -/
namespace Law
open PySem L2 FX
theorem forR_ct3 {gg : D → M Unit} {body : M Out} {d : D} {r : List D} {s s1 s2 : S} {z : R Out} (h : gg d s = .ok () s1) (k : body s1 = .ok .ct s2) (l : forR gg body r s2 = z) : forR gg body (d :: r) s = z := by
  unfold forR; simp only [h, k]; exact l
theorem ev_seqC {a b : M Out} {s s1 : S} (h : a s = .ok .ct s1) : mSeq a b s = .ok .ct s1 := by unfold mSeq; rw [h]
theorem sol_names : ∀ {ps : List Pt} {ws : List Str} {d : List (Str × D)}, GL ps → sol ps ws = some d → d.map (·.1) = names ps
  | [], [], d, _, e => by cases e; rfl
  | [], _ :: _, d, _, e => by cases e
  | .w y :: ps, [], d, _, e => by cases e
  | .w y :: ps, x :: r, d, g, e => by
    have e : (if fits (.w y) x = true then sol ps r else none) = some d := e
    by_cases c : fits (.w y) x = true
    · rw [if_pos c] at e
      rw [sol_names g.2 e, names_cons]; rfl
    · rw [if_neg c] at e; cases e
  | .k kd nm :: ps, [], d, g, e => by
    have e : (if isTl (.k kd nm) = true then some [(nm, pathD [])] else none) = some d := e
    by_cases c : isTl (.k kd nm) = true
    · rw [if_pos c] at e
      cases e
      rcases g.2 with ⟨hk, _⟩ | ⟨_, z⟩
      · exfalso
        simp only [K3, List.mem_cons, List.not_mem_nil, or_false] at hk
        rcases hk with z | z | z <;> subst z <;> cases c
      · rw [z]; rfl
    · rw [if_neg c] at e; cases e
  | .k kd nm :: ps, x :: r, d, g, e => by
    have e : (if isTl (.k kd nm) = true then some [(nm, pathD (x :: r))] else if fits (.k kd nm) x = true then (sol ps r).map ((nm, .str x) :: ·) else none) = some d := e
    by_cases c : isTl (.k kd nm) = true
    · rw [if_pos c] at e
      cases e
      rcases g.2 with ⟨hk, _⟩ | ⟨_, z⟩
      · exfalso
        simp only [K3, List.mem_cons, List.not_mem_nil, or_false] at hk
        rcases hk with z | z | z <;> subst z <;> cases c
      · rw [z]; rfl
    · rw [if_neg c] at e
      by_cases c2 : fits (.k kd nm) x = true
      · rw [if_pos c2] at e
        cases q : sol ps r with
        | none => rw [q] at e; cases e
        | some d' =>
          rw [q] at e
          cases e
          rcases g.2 with ⟨_, g2⟩ | ⟨z, _⟩
          · rw [List.map_cons, sol_names g2 q, names_cons]; rfl
          · subst z; exact absurd rfl c
      · rw [if_neg c2] at e; cases e
theorem k3_tl {kd : Str} (hk : kd ∈ K3) (nm : Str) : isTl (.k kd nm) = false ∧ FOk (.k kd nm) := by
  simp only [K3, List.mem_cons, List.not_mem_nil, or_false] at hk
  rcases hk with z | z | z <;> subst z <;> exact ⟨rfl, by simp [FOk]⟩
theorem segs4 {ws : List Str} (h : ∀ x ∈ ws, x ∈ W7) (hl : ws.length ≤ 4) (g : List Ob) : F_are_segments [pathD ws, .int 4] g = .ok (.bl true) g := by
  apply fr_rt (s1 := ⟨_, _⟩)
  apply ev_ret
  refine ev_andVT rfl (ev_andVT (ev_m2 (ev_call rfl rfl) rfl (z := .bl true) ?_) ?_)
  · show some (D.bl (decide ((((ws.map D.str).length : Nat) : Int) ≤ 4))) = _
    rw [decide_eq_true (by rw [List.length_map]; omega)]
  · exact ev_allT D.str ws (by omega) rfl fun x hx => ⟨_, ⟨_, _⟩, rfl, ev_fn0 rfl rfl ((w7_facts x (h x hx)).1 _), rfl⟩
theorem val_k {kd nm x : Str} (hk : kd ∈ K3) (hx : x ∈ W7) (hf : fits (.k kd nm) x = true) (g : List Ob) : F_is_value [(Pt.k kd nm).d, .str x] g = .ok (.bl true) g := by
  let A : S := ⟨[vq (Pt.k kd nm).d, vq (.str x)], g⟩
  have t := tail_ok (nm := nm) (wd_k3 kd hk) g
  rw [(k3_tl hk nm).1] at t
  have f := fits_ok (k3_tl hk nm).2 (w7_facts x hx).2.1 g
  rw [hf] at f
  exact fr_rt (s1 := A) (ev_seq (s1 := A) (ev_ifF (ev_B (ev_fn (ds := [(Pt.k kd nm).d]) (s1 := A) rfl rfl t)) rfl) (ev_ret (ev_andVT (s1 := A) (ev_fn (ds := [.str x]) (s1 := A) rfl rfl ((w7_facts x hx).1 g)) (ev_fn (ds := [(Pt.k kd nm).d, .str x]) (s1 := A) rfl rfl f))))
theorem val_t {nm : Str} {ws : List Str} (h : ∀ x ∈ ws, x ∈ W7) (hl : ws.length ≤ 4) (g : List Ob) : F_is_value [(Pt.k "tail" nm).d, pathD ws] g = .ok (.bl true) g := by
  let A : S := ⟨[vq (Pt.k "tail" nm).d, vq (pathD ws)], g⟩
  have t := tail_ok (nm := nm) wd_tail g
  exact fr_rt (s1 := A) (ev_seqR (ev_ifT (s1 := A) (ev_B (ev_fn (ds := [(Pt.k "tail" nm).d]) (s1 := A) rfl rfl t)) (ev_ret (ev_fn (ds := [pathD ws, .int 4]) (s1 := A) rfl rfl (segs4 h hl g)))))
abbrev pofBody : M Out := (mSeq (mIf (mNot (mB (m1 (dIsi (fun t => t == "tuple")) (mVar 5)))) (mSeq (mSet 4 (m2 dPlus (mVar 4) (mTup (mCons (mVar 5) mNil)))) (mpure .ct)) (mpure .nx)) (mSeq (mIf (mOr (mB (m2 dNotInK (mSub (mVar 5) (mC (.int 1))) (mVar 2))) (mNot (mB (mFn 2 F_is_value (mCons (mVar 5) (mCons (mSub (mVar 2) (mSub (mVar 5) (mC (.int 1)))) mNil)))))) mno (mpure .nx)) (mSet 4 (m2 dPlus (mVar 4) (mIfE (mB (mFn 1 F_is_tail (mCons (mVar 5) mNil))) (mSub (mVar 2) (mSub (mVar 5) (mC (.int 1)))) (mTup (mCons (mSub (mVar 2) (mSub (mVar 5) (mC (.int 1)))) mNil)))))))
abbrev ePo (T ti : D) (a : List (Str × D)) (q : D) (w : List Str) (s5 : Option Sl) : List (Option Sl) := [vq T, vq ti, vq (.dic (keyS a)), vq q, vq (pathD w), s5]
theorem sub_dic {a : List (Str × D)} {nm : Str} {v : D} (nd : (a.map (·.1)).Nodup) (h : (nm, v) ∈ a) (s : S) : mSub (mC (.dic (keyS a))) (mC (.str nm)) s = .ok v s := by
  show mopt (lkD (.inr nm) (keyS a)) s = _
  rw [lkD_S nd h]; rfl
theorem one_k {T ti q : D} {a : List (Str × D)} {w : List Str} {g : List Ob} {kd nm : Str} {v : D} {tl : Bool} (nd : (a.map (·.1)).Nodup) (h : (nm, v) ∈ a) (hv : F_is_value [(Pt.k kd nm).d, v] g = .ok (.bl true) g) (ht : F_is_tail [(Pt.k kd nm).d] g = .ok (.bl tl) g) {u : List Str}
    (hu : (if tl = true then v else .tup [v]) = pathD u) (hl : w.length + u.length ≤ 1000) : pofBody ⟨ePo T ti a q w (vq (Pt.k kd nm).d), g⟩ = .ok .nx ⟨ePo T ti a q (w ++ u) (vq (Pt.k kd nm).d), g⟩ := by
  let A : S := ⟨ePo T ti a q w (vq (Pt.k kd nm).d), g⟩
  have rd : mSub (mVar 2) (mSub (mVar 5) (mC (.int 1))) A = .ok v A := ev_sub (s1 := A) (s2 := A) (x := .dic (keyS a)) (y := .str nm) rfl rfl (sub_dic nd h A)
  have has : mB (m2 dNotInK (mSub (mVar 5) (mC (.int 1))) (mVar 2)) A = .ok false A := ev_B (ev_m2 (s1 := A) (s2 := A) (x := .str nm) (y := .dic (keyS a)) rfl rfl (by
    show some (D.bl (!hasD (.inr nm) (keyS a))) = _
    rw [hasD_S, decide_eq_true (List.mem_map.mpr ⟨_, h, rfl⟩)]; rfl))
  have ok : mNot (mB (mFn 2 F_is_value (mCons (mVar 5) (mCons (mSub (mVar 2) (mSub (mVar 5) (mC (.int 1)))) mNil)))) A = .ok false A := ev_not (b := true) (ev_B (ev_fn (ds := [(Pt.k kd nm).d, v]) (s1 := A) (ev_cons (s1 := A) rfl (ev_cons rd rfl)) rfl hv))
  have it : mB (mFn 1 F_is_tail (mCons (mVar 5) mNil)) A = .ok tl A := ev_B (ev_fn (ds := [(Pt.k kd nm).d]) (s1 := A) rfl rfl ht)
  have more : mIfE (mB (mFn 1 F_is_tail (mCons (mVar 5) mNil))) (mSub (mVar 2) (mSub (mVar 5) (mC (.int 1)))) (mTup (mCons (mSub (mVar 2) (mSub (mVar 5) (mC (.int 1)))) mNil)) A = .ok (pathD u) A := by
    refine ev_ifE it ?_
    rw [← hu]
    cases tl with
    | true => exact rd
    | false => exact ev_tup (ds := [v]) (ev_cons rd rfl) (by simp)
  exact ev_seq (s1 := A) (ev_ifF (s1 := A) rfl rfl) (ev_seq (s1 := A) (ev_ifF (ev_orF has ok) rfl) (ev_set (ev_m2 (s1 := A) (s2 := A) (x := pathD w) (y := pathD u) rfl more (cat_path hl))))
theorem pof_loop {T ti q : D} {a : List (Str × D)} {g : List Ob} (nd : (a.map (·.1)).Nodup) : ∀ (ps : List Pt) (ws : List Str) (d : List (Str × D)) (w : List Str) (s5 : Option Sl), GL ps → sol ps ws = some d → (∀ y ∈ d, y ∈ a) → (∀ x ∈ ws, x ∈ W7) → (∀ y ∈ d, Sh4 y.2) → w.length + ws.length ≤ 1000 →
    ∃ t5, forR (gV 5) pofBody (ps.map Pt.d) ⟨ePo T ti a q w s5, g⟩ = .ok .nx ⟨ePo T ti a q (w ++ ws) t5, g⟩
  | [], [], d, w, s5, _, e, _, _, _, _ => ⟨s5, by simp [forR, mpure]⟩
  | [], _ :: _, d, w, s5, _, e, _, _, _, _ => by cases e
  | .w y :: ps, [], d, w, s5, _, e, _, _, _, _ => by cases e
  | .w y :: ps, x :: r, d, w, s5, gl, e, sub, h7, h4, hl => by
    have e2 : (if fits (.w y) x = true then sol ps r else none) = some d := e
    clear e
    by_cases c : fits (.w y) x = true
    · rw [if_pos c] at e2
      have yx : y = x := by simpa [fits] using c
      subst yx
      have hl : w.length + (r.length + 1) ≤ 1000 := hl
      obtain ⟨t5, ih⟩ := pof_loop nd ps r d (w ++ [y]) (vq (.str y)) gl.2 e2 sub (fun x hx => h7 x (List.mem_cons_of_mem _ hx)) h4 (by simp; omega)
      let A : S := ⟨ePo T ti a q w (vq (.str y)), g⟩
      refine ⟨t5, ?_⟩
      rw [show w ++ y :: r = w ++ [y] ++ r by simp]
      exact forR_ct3 (s1 := A) (s2 := ⟨ePo T ti a q (w ++ [y]) (vq (.str y)), g⟩) rfl (by
        have z : (mIf (mNot (mB (m1 (dIsi (fun t => t == "tuple")) (mVar 5)))) (mSeq (mSet 4 (m2 dPlus (mVar 4) (mTup (mCons (mVar 5) mNil)))) (mpure .ct)) (mpure .nx)) A = .ok .ct ⟨ePo T ti a q (w ++ [y]) (vq (.str y)), g⟩ := ev_ifT (s1 := A) rfl (ev_seq (s1 := ⟨ePo T ti a q (w ++ [y]) (vq (.str y)), g⟩) (ev_set (ev_m2 (s1 := A) (s2 := A) (x := pathD w) (y := pathD [y]) rfl rfl (cat_path (by simp; omega)))) rfl)
        exact ev_seqC z) ih
    · rw [if_neg c] at e2; cases e2
  | .k kd nm :: ps, ws, d, w, s5, gl, e, sub, h7, h4, hl => by
    rcases gl.2 with ⟨hk, g2⟩ | ⟨rfl, rfl⟩
    · have tf := (k3_tl hk nm).1
      cases ws with
      | nil =>
        have e : (if isTl (.k kd nm) = true then some [(nm, pathD [])] else none) = some d := e
        rw [if_neg (by rw [tf]; simp)] at e; cases e
      | cons x r =>
        have e : (if isTl (.k kd nm) = true then some [(nm, pathD (x :: r))] else if fits (.k kd nm) x = true then (sol ps r).map ((nm, .str x) :: ·) else none) = some d := e
        rw [if_neg (by rw [tf]; simp)] at e
        by_cases c : fits (.k kd nm) x = true
        · rw [if_pos c] at e
          cases qs : sol ps r with
          | none => rw [qs] at e; cases e
          | some d' =>
            rw [qs] at e
            cases e
            have hl : w.length + (r.length + 1) ≤ 1000 := hl
            obtain ⟨t5, ih⟩ := pof_loop nd ps r d' (w ++ [x]) (vq (Pt.k kd nm).d) g2 qs (fun y hy => sub y (List.mem_cons_of_mem _ hy)) (fun x hx => h7 x (List.mem_cons_of_mem _ hx)) (fun y hy => h4 y (List.mem_cons_of_mem _ hy)) (by simp; omega)
            have t := tail_ok (nm := nm) (wd_k3 kd hk) g
            rw [tf] at t
            refine ⟨t5, ?_⟩
            rw [show w ++ x :: r = w ++ [x] ++ r by simp]
            exact forR_cons (s1 := ⟨ePo T ti a q w (vq (Pt.k kd nm).d), g⟩) rfl (one_k (u := [x]) nd (sub _ List.mem_cons_self) (val_k hk (h7 x List.mem_cons_self) c g) t rfl (by simp; omega)) ih
        · rw [if_neg c] at e; cases e
    · have ed : d = [(nm, pathD ws)] := by cases ws <;> (cases e; rfl)
      subst ed
      have l4 : ws.length ≤ 4 := by
        have := h4 (nm, pathD ws) (by simp) (ws.map D.str) rfl
        rwa [List.length_map] at this
      exact ⟨vq (Pt.k "tail" nm).d, forR_cons (s1 := ⟨ePo T ti a q w (vq (Pt.k "tail" nm).d), g⟩) rfl (one_k (u := ws) nd (sub _ (by simp)) (val_t h7 l4 g) (tail_ok (nm := nm) wd_tail g) rfl hl) rfl⟩
theorem parts_at {t : Tb} {r0 : Rt} (hr : r0 ∈ t.2) (nd : (t.2.map (·.1)).Nodup) (hw : ∀ r ∈ t.2, Wd r.1) (g : List Ob) : F_parts_of [tbD t, .str r0.1] g = .ok (psD r0.2) g := by
  have loop : ∀ (l : List Rt) (s2 s3 : Option Sl), (∀ r ∈ l, Wd r.1) → (l.map (·.1)).Nodup → r0 ∈ l → ∃ e, forR (gT 2 (gsCons (gV 2) (gsCons (gV 3) gsNil))) (mIf (mB (m2 dEqA (mVar 2) (mVar 1))) (mRet (mVar 3)) (mpure .nx)) (l.map rtD) ⟨[vq (tbD t), vq (.str r0.1), s2, s3], g⟩ = .ok (.rt (psD r0.2)) ⟨e, g⟩ := by
    intro l
    induction l with
    | nil => intro s2 s3 _ _ h; cases h
    | cons r l ih =>
      intro s2 s3 hl nd h
      obtain ⟨n1, n2⟩ := List.nodup_cons.mp nd
      let A : S := ⟨[vq (tbD t), vq (.str r0.1), vq (.str r.1), vq (psD r.2)], g⟩
      have test : mB (m2 dEqA (mVar 2) (mVar 1)) A = .ok (r.1 == r0.1) A := ev_B (ev_m2 (s1 := A) (s2 := A) (x := .str r.1) (y := .str r0.1) rfl rfl (str_eq (hl r List.mem_cons_self) (hw r0 hr)))
      by_cases c : r.1 = r0.1
      · have same : r0 = r := by
          rcases List.mem_cons.mp h with z | z
          · exact z
          · exact absurd (List.mem_map.mpr ⟨r0, z, c.symm⟩) n1
        rw [c, beq_self_eq_true] at test
        refine ⟨[vq (tbD t), vq (.str r0.1), vq (.str r.1), vq (psD r.2)], forR_rt (s1 := A) (s2 := A) rfl (ev_ifT test ?_)⟩
        rw [show psD r0.2 = psD r.2 by rw [same]]; rfl
      · rw [beq_eq_false_iff_ne.mpr c] at test
        have h' : r0 ∈ l := by
          rcases List.mem_cons.mp h with z | z
          · exact absurd (by rw [z]) c
          · exact z
        obtain ⟨e, ih⟩ := ih (vq (.str r.1)) (vq (psD r.2)) (fun x hx => hl x (List.mem_cons_of_mem _ hx)) n2 h'
        exact ⟨e, forR_cons (s1 := A) rfl (ev_ifF test rfl) ih⟩
  obtain ⟨e, q⟩ := loop t.2 none none hw nd hr
  exact fr_rt (ev_seqR (ev_for (s1 := ⟨[vq (tbD t), vq (.str r0.1), none, none], g⟩) (ev_items (d := .tup (t.2.map rtD)) rfl rfl) q))
theorem path_of_ok {t : Tb} (ht : TbOk t) {r0 : Rt} (hr : r0 ∈ t.2) (nd : (t.2.map (·.1)).Nodup) (hw : ∀ r ∈ t.2, Wd r.1) (gl : GL r0.2) (pl : r0.2.length ≤ 1000) {ws : List Str} {d a : List (Str × D)} (e : sol r0.2 ws = some d) (ap : a.Perm d) (an : (names r0.2).Nodup) (h7 : ∀ x ∈ ws, x ∈ W7) (h4 : ∀ y ∈ d, Sh4 y.2) (hl : ws.length ≤ 1000) (g : List Ob) :
    F_path_of [tbD t, .str r0.1, .dic (keyS a)] g = .ok (pathD ws) g := by
  have sn := sol_names gl e
  have na : (a.map (·.1)).Nodup := (ap.map _).nodup_iff.mpr (by rw [sn]; exact an)
  have la : a.length = (names r0.2).length := by rw [ap.length_eq, ← sn, List.length_map]
  obtain ⟨t5, lp⟩ := pof_loop (T := tbD t) (ti := .str r0.1) (q := psD r0.2) (g := g) na r0.2 ws d [] none gl e (fun y hy => ap.mem_iff.mpr hy) h7 h4 (by simpa using hl)
  rw [List.nil_append] at lp
  let A0 : S := ⟨[vq (tbD t), vq (.str r0.1), vq (.dic (keyS a)), none, none, none], g⟩
  let A1 : S := ⟨[vq (tbD t), vq (.str r0.1), vq (.dic (keyS a)), vq (psD r0.2), none, none], g⟩
  refine fr_rt (s1 := ⟨ePo (tbD t) (.str r0.1) a (psD r0.2) ws t5, g⟩) (ev_seq (s1 := A0) (ev_drop (ev_fn (ds := [tbD t]) (s1 := A0) rfl rfl (need_table_ok ht g))) (ev_seq (s1 := A1) (ev_set (ev_fn (ds := [tbD t, .str r0.1]) (s1 := A0) rfl rfl (parts_at hr nd hw g))) (ev_seq (s1 := A1) ?_ (ev_seq (s1 := ⟨ePo (tbD t) (.str r0.1) a (psD r0.2) [] none, g⟩) rfl (ev_seq (s1 := ⟨ePo (tbD t) (.str r0.1) a (psD r0.2) ws t5, g⟩) (ev_for (s1 := ⟨ePo (tbD t) (.str r0.1) a (psD r0.2) [] none, g⟩) (ds := r0.2.map Pt.d) rfl lp) rfl)))))
  refine ev_ifF (s1 := A1) (ev_orF (s1 := A1) rfl (ev_B (ev_m2 (s1 := A1) (s2 := A1) (x := .int (a.length : Nat)) (y := .int ((names r0.2).length : Nat)) (ev_call (ds := [.dic (keyS a)]) (s1 := A1) rfl ?_) (ev_call (ds := [.lst ((names r0.2).map D.str)]) (s1 := A1) (ev_cons (s1 := A1) (ev_fn (ds := [psD r0.2]) (s1 := A1) rfl rfl (names_ok r0.2 pl g)) rfl) ?_) ?_))) rfl
  · show some (D.int ((keyS a).length : Nat)) = _
    unfold keyS; rw [List.length_map]
  · show some (D.int (((names r0.2).map D.str).length : Nat)) = _
    rw [List.length_map]
  · show some (D.bl (!(((a.length : Nat) : Int) == ((names r0.2).length : Nat)))) = _
    rw [la]; simp
end Law

/-! WTit0: words in lists; sets of words -/
namespace Law
open PySem L2 FX
theorem flat_strs0 : ∀ l : List Str, (l.map D.str).all flatD = true
  | [] => rfl
  | x :: l => by simp only [List.map_cons, List.all_cons, flatD, flat_strs0 l, Bool.and_self]
theorem any_strs0 (x : Str) : ∀ l : List Str, ((l.map D.str).any fun y => eqD y (.str x)) = decide (x ∈ l)
  | [] => rfl
  | y :: l => by
    rw [List.map_cons, List.any_cons, any_strs0 x l, eqD_str]
    by_cases c : x = y
    · subst c; simp
    · have : ¬ y = x := fun z => c z.symm
      simp [c, this]
theorem inD_strs0 (x : Str) (l : List Str) : inD (.str x) (l.map D.str) = some (decide (x ∈ l)) := by
  unfold inD
  rw [if_pos (by rw [flat_strs0]; rfl), any_strs0]
theorem notIn_strs0 (x : Str) (l : List Str) : dNotIn (.str x) (.lst (l.map D.str)) = some (.bl (!decide (x ∈ l))) := by
  show (inD (.str x) (l.map D.str)).map _ = _
  rw [inD_strs0]; rfl
theorem in_strs0 (x : Str) (l : List Str) : dInA (.str x) (.lst (l.map D.str)) = some (.bl (decide (x ∈ l))) := by
  show (inD (.str x) (l.map D.str)).map _ = _
  rw [inD_strs0]; rfl
theorem addNew_le0 : ∀ (xs l : List Str), (xs.foldl addNew l).length ≤ l.length + xs.length ∧ ((xs.foldl addNew l).length = l.length + xs.length → xs.Nodup ∧ ∀ x ∈ xs, x ∉ l)
  | [], l => ⟨Nat.le_refl _, fun _ => ⟨List.nodup_nil, fun _ h => by cases h⟩⟩
  | x :: xs, l => by
    rw [List.foldl_cons, List.length_cons]
    by_cases h : x ∈ l
    · have e : addNew l x = l := by unfold addNew; rw [if_pos h]
      rw [e]
      have := (addNew_le0 xs l).1
      exact ⟨by omega, fun z => by omega⟩
    · have e : addNew l x = x :: l := by unfold addNew; rw [if_neg h]
      rw [e]
      have := addNew_le0 xs (x :: l)
      rw [List.length_cons] at this
      refine ⟨by omega, fun z => ?_⟩
      obtain ⟨n1, n2⟩ := this.2 (by omega)
      refine ⟨List.nodup_cons.mpr ⟨fun hx => n2 x hx List.mem_cons_self, n1⟩, fun y hy => ?_⟩
      rcases List.mem_cons.mp hy with w | w
      · rw [w]; exact h
      · exact fun hl => n2 y w (List.mem_cons_of_mem _ hl)
end Law

/-! W03C: law_k03 -/
namespace Law
open PySem L2 FX
theorem sol_vals : ∀ {ps : List Pt} {ws : List Str} {d : List (Str × D)}, sol ps ws = some d → ∀ y ∈ d, (∃ x, y.2 = .str x) ∨ ∃ u : List Str, y.2 = pathD u
  | [], [], d, e => by cases e; intro y hy; cases hy
  | [], _ :: _, d, e => by cases e
  | .w y :: ps, [], d, e => by cases e
  | .w y :: ps, x :: r, d, e => by
    have e : (if fits (.w y) x = true then sol ps r else none) = some d := e
    by_cases c : fits (.w y) x = true
    · rw [if_pos c] at e
      exact sol_vals e
    · rw [if_neg c] at e; cases e
  | .k kd nm :: ps, [], d, e => by
    have e : (if isTl (.k kd nm) = true then some [(nm, pathD [])] else none) = some d := e
    by_cases c : isTl (.k kd nm) = true
    · rw [if_pos c] at e
      cases e
      intro y hy
      rw [List.mem_singleton.mp hy]; exact .inr ⟨[], rfl⟩
    · rw [if_neg c] at e; cases e
  | .k kd nm :: ps, x :: r, d, e => by
    have e : (if isTl (.k kd nm) = true then some [(nm, pathD (x :: r))] else if fits (.k kd nm) x = true then (sol ps r).map ((nm, .str x) :: ·) else none) = some d := e
    by_cases c : isTl (.k kd nm) = true
    · rw [if_pos c] at e
      cases e
      intro y hy
      rw [List.mem_singleton.mp hy]; exact .inr ⟨x :: r, rfl⟩
    · rw [if_neg c] at e
      by_cases c2 : fits (.k kd nm) x = true
      · rw [if_pos c2] at e
        cases q : sol ps r with
        | none => rw [q] at e; cases e
        | some d' =>
          rw [q] at e
          cases e
          intro y hy
          rcases List.mem_cons.mp hy with z | z
          · rw [z]; exact .inl ⟨x, rfl⟩
          · exact sol_vals q y z
      · rw [if_neg c2] at e; cases e
theorem mem_ord3 {t : Tb} {r : Rt} (h : r ∈ t.2) : r ∈ ord t := by
  unfold ord
  split
  · exact h
  · exact List.mem_mergeSort.mpr h
theorem path_ne3 {ws : List Str} (h : ∀ x ∈ ws, Wd x) : dNeA (pathD ws) (pathD ws) = some (.bl false) := by
  rw [dNeA_of (path_self h).1, (path_self h).2]; rfl
theorem str_ne3 {x : Str} (h : Wd x) : dNeA (.str x) (.str x) = some (.bl false) := by
  rw [dNeA_of (str_self h).1, (str_self h).2]; rfl
theorem ev_orVT {a b : M D} {s s1 : S} (h : a s = .ok (.bl true) s1) : mOrV a b s = .ok (.bl true) s1 := by unfold mOrV mbind; rw [h]
theorem ev_orVF {a b : M D} {s s1 : S} {r : R D} (h : a s = .ok (.bl false) s1) (k : b s1 = r) : mOrV a b s = r := by unfold mOrV mbind; rw [h]; exact k
def shortB (y : Str × D) : Bool := match y.2 with
  | .tup l => decide (l.length < 5)
  | _ => true
abbrev eKk (ns : List Int) (t : Tb) (s3 s4 s5 s6 s7 s8 s9 s10 s11 : Option Sl) : List (Option Sl) := [vq (.scr ns), vq (.cell 0), vq (tbD t), s3, s4, s5, s6, s7, s8, s9, s10, s11, none]
abbrev lBody3 : M Out := (mSeq (mAsg (gT 2 (gsCons (gV 7) (gsCons (gV 8) gsNil))) (mFn 3 F__law_given (mCons (mVar 0) (mCons (mVar 1) (mCons (mVar 4) mNil))))) (mSeq (mSet 6 (mFz (mDictD (mCons (mVar 7) mNil)))) (mSeq (mIf (mOr (mB (m2 dNeA (mFn 3 F_path_of (mCons (mVar 2) (mCons (mVar 3) (mCons (mVar 7) mNil)))) (mVar 8))) (mOr (mB (m2 dNeA (mVar 7) (mVar 6))) (mB (m2 dNeA (mFn 2 F__law_values (mCons (mVar 4) (mCons (mVar 8) mNil))) (mVar 7))))) (mRet (mC (.bl false))) (mpure .nx)) (mIf (mB (m2 dLe (mCall dLen (mCons (mVar 8) mNil)) (mC (.int 8)))) (mSeq (mSet 9 (mFn 2 F_taken (mCons (mVar 2) (mCons (mVar 8) mNil)))) (mSeq (mIf (mOr (mB (m2 dNotIn (mVar 3) (mFn 2 F_fitting (mCons (mVar 2) (mCons (mVar 8) mNil))))) (mB (m2 dNeA (mVar 9) (mFn 2 F__law_title (mCons (mVar 2) (mCons (mVar 8) mNil)))))) (mRet (mC (.bl false))) (mpure .nx)) (mSeq (mSet 10 (mFn 2 F_values (mCons (mVar 2) (mCons (mVar 8) mNil)))) (mSeq (mIf (mAnd (mB (m2 dEqA (mVar 9) (mVar 3))) (mB (m2 dNeA (mVar 10) (mVar 7)))) (mRet (mC (.bl false))) (mpure .nx)) (mSeq (mSet 11 (mCall dAll (mCons (mFz (mComp (mItemsV (mVar 10)) [12] (gV 12) (mpure true) (mOrV (m1 (dIsi (fun t => t == "str")) (mVar 12)) (m2 dLt (mCall dLen (mCons (mVar 12) mNil)) (mC (.int 5)))))) mNil))) (mIf (mAnd (mB (mVar 11)) (mB (m2 dNeA (mFn 3 F_path_of (mCons (mVar 2) (mCons (mVar 9) (mCons (mVar 10) mNil)))) (mVar 8)))) (mRet (mC (.bl false))) (mpure .nx))))))) (mpure .nx)))))
theorem nodup_same {t : Tb} (nd : (t.2.map (·.1)).Nodup) {r r' : Rt} (h : r ∈ t.2) (h' : r' ∈ t.2) (e : r.1 = r'.1) : r = r' := by
  revert nd h h'
  generalize t.2 = l
  induction l with
  | nil => intro _ h; cases h
  | cons a l ih =>
    intro nd h h'
    obtain ⟨n1, n2⟩ := List.nodup_cons.mp nd
    rcases List.mem_cons.mp h with z | z <;> rcases List.mem_cons.mp h' with y | y
    · rw [z, y]
    · exact absurd (List.mem_map.mpr ⟨r', y, by rw [← e, z]⟩) n1
    · exact absurd (List.mem_map.mpr ⟨r, z, by rw [e, y]⟩) n1
    · exact ih n2 z y
theorem turn3 (ns : List Int) {t : Tb} (gt : GT t) {r : Rt} (hr : r ∈ t.2) (hw : ∀ r ∈ t.2, Wd r.1) {g : List Ob} (T : Town g) (s5 s6 s7 s8 s9 s10 s11 : Option Sl) :
    ∃ t6 t7 t8 t9 t10 t11 g', lBody3 ⟨eKk ns t (vq (.str r.1)) (vq (psD r.2)) s5 s6 s7 s8 s9 s10 s11, g⟩ = .ok .nx ⟨eKk ns t (vq (.str r.1)) (vq (psD r.2)) s5 t6 t7 t8 t9 t10 t11, g'⟩ ∧ Town g' := by
  have nd : (t.2.map (·.1)).Nodup := gt.ok.nd
  have gps := gt.gps r hr
  have ndn := gt.lt.nd r hr
  obtain ⟨ws, d, g', eg, T', e, h7, l7, h4⟩ := given_ok ns gps ndn T
  have hWd : ∀ x ∈ ws, Wd x := fun x hx => (w7_facts x (h7 x hx)).2.1
  have wso : WsOk ws := ⟨by omega, fun x hx => (w7_facts x (h7 x hx)).1, hWd⟩
  have okd : (d.map (·.1)).Nodup ∧ ∀ q ∈ d, okEq q.2 q.2 = true ∧ eqD q.2 q.2 = true := by
    rcases values_ok gps.po hWd with ⟨z, _⟩ | ⟨d2, a, z, ap, n2, ok, _⟩
    · rw [z] at e; cases e
    · rw [z] at e; cases e
      exact ⟨n2, fun q hq => ok q (ap.mem_iff.mpr hq)⟩
  have dd : dNeA (.dic (keyS d)) (.dic (keyS d)) = some (.bl false) := dNeA_dic (eqDic_perm (List.Perm.refl _) okd.1 okd.2)
  have po1 := path_of_ok gt.ok hr nd hw (gl_of gps) (by have := gps.len; omega) e (List.Perm.refl _) ndn h7 h4 (by omega) g'
  have lv := lawvals_ok gps.po (by have := gps.len; omega) ndn (fun x hx => (w7_facts x (h7 x hx)).2) g'
  rw [e] at lv
  -- what is taken
  have sr : solB ws r = true := by unfold solB; rw [e]; rfl
  obtain ⟨r', hh⟩ : ∃ r', hit t ws = some r' := by
    cases c : hit t ws with
    | some r' => exact ⟨r', rfl⟩
    | none =>
      have := List.find?_eq_none.mp c r (mem_ord3 hr)
      exact absurd sr this
  have hr' : r' ∈ t.2 := ord_mem (List.mem_of_find?_eq_some hh)
  have tk := taken_ok gt.ok gt.lt.to wso g'
  have lt := lawtitle_ok gt.lt (fun x hx => (w7_facts x (h7 x hx)).2) g'
  rw [← titO_D, hh] at lt
  rw [hh] at tk
  have ft := fitting_ok gt.ok gt.lt.to wso g'
  obtain ⟨d', a, sd, ap, n2, oka, vv⟩ : ∃ d' a, sol r'.2 ws = some d' ∧ a.Perm d' ∧ (d'.map (·.1)).Nodup ∧ (∀ q ∈ a, okEq q.2 q.2 = true ∧ eqD q.2 q.2 = true) ∧ F_values [tbD t, pathD ws] g' = .ok (.dic (keyS a)) g' := by
    rcases values_of_ok gt.ok gt.lt.to wso g' with ⟨z, _⟩ | ⟨r2, d', a, z, sd, ap, n2, oka, vv⟩
    · rw [hh] at z; cases z
    · rw [hh] at z; cases z
      exact ⟨d', a, sd, ap, n2, oka, vv⟩
  let X (s6 s9 s10 s11 : Option Sl) : S := ⟨eKk ns t (vq (.str r.1)) (vq (psD r.2)) s5 s6 (vq (.dic (keyS d))) (vq (pathD ws)) s9 s10 s11, g'⟩
  let K := vq (.dic (keyS d))
  let u9 := vq (.str r'.1)
  let u10 := vq (.dic (keyS a))
  let u11 := vq (.bl (a.all shortB))
  refine ⟨K, K, vq (pathD ws), u9, u10, u11, g', ?_, T'⟩
  apply ev_seq (s1 := X s6 s9 s10 s11)
  · exact ev_bind (ev_fn (ds := [.scr ns, .cell 0, psD r.2]) (s1 := ⟨eKk ns t (vq (.str r.1)) (vq (psD r.2)) s5 s6 s7 s8 s9 s10 s11, g⟩) rfl rfl eg) rfl
  apply ev_seq (s1 := X K s9 s10 s11)
  · rfl
  apply ev_seq (s1 := X K s9 s10 s11)
  · let A := X K s9 s10 s11
    exact ev_ifF (s1 := A) (ev_orF (s1 := A) (ev_B (ev_m2 (s1 := A) (s2 := A) (x := pathD ws) (y := pathD ws) (ev_fn (ds := [tbD t, .str r.1, .dic (keyS d)]) (s1 := A) rfl rfl po1) rfl (path_ne3 hWd))) (ev_orF (s1 := A) (ev_B (ev_m2 (s1 := A) (s2 := A) (x := .dic (keyS d)) (y := .dic (keyS d)) rfl rfl dd)) (ev_B (ev_m2 (s1 := A) (s2 := A) (x := .dic (keyS d)) (y := .dic (keyS d)) (ev_fn (ds := [psD r.2, pathD ws]) (s1 := A) rfl rfl lv) rfl dd)))) rfl
  have le8 : mB (m2 dLe (mCall dLen (mCons (mVar 8) mNil)) (mC (.int 8))) (X K s9 s10 s11) = .ok true (X K s9 s10 s11) := ev_B (ev_m2 (s1 := X K s9 s10 s11) (s2 := X K s9 s10 s11) (x := .int (ws.length : Nat)) (y := .int 8) (ev_call (ds := [pathD ws]) (s1 := X K s9 s10 s11) rfl (by show some (D.int ((ws.map D.str).length : Nat)) = _; rw [List.length_map])) rfl (by
    show some (D.bl (decide (((ws.length : Nat) : Int) ≤ 8))) = _
    rw [decide_eq_true (by omega)]))
  apply ev_ifT le8
  apply ev_seq (s1 := X K u9 s10 s11)
  · exact ev_set (ev_fn (ds := [tbD t, pathD ws]) (s1 := X K s9 s10 s11) rfl rfl tk)
  apply ev_seq (s1 := X K u9 s10 s11)
  · let A := X K u9 s10 s11
    refine ev_ifF (s1 := A) (ev_orF (s1 := A) (ev_B (ev_m2 (s1 := A) (s2 := A) (x := .str r.1) (y := .lst ((t.2.filter (solB ws)).map fun r => D.str r.1)) rfl (ev_fn (ds := [tbD t, pathD ws]) (s1 := A) rfl rfl ft) ?_)) (ev_B (ev_m2 (s1 := A) (s2 := A) (x := .str r'.1) (y := .str r'.1) rfl (ev_fn (ds := [tbD t, pathD ws]) (s1 := A) rfl rfl lt) (str_ne3 (hw r' hr'))))) rfl
    have em : ((t.2.filter (solB ws)).map fun r => D.str r.1) = ((t.2.filter (solB ws)).map (·.1)).map D.str := by rw [List.map_map]; rfl
    rw [em, notIn_strs0, decide_eq_true (List.mem_map.mpr ⟨r, List.mem_filter.mpr ⟨hr, sr⟩, rfl⟩)]
    rfl
  apply ev_seq (s1 := X K u9 u10 s11)
  · exact ev_set (ev_fn (ds := [tbD t, pathD ws]) (s1 := X K u9 s10 s11) rfl rfl vv)
  apply ev_seq (s1 := X K u9 u10 s11)
  · let A := X K u9 u10 s11
    have test : mB (m2 dEqA (mVar 9) (mVar 3)) A = .ok (r'.1 == r.1) A := ev_B (ev_m2 (s1 := A) (s2 := A) (x := .str r'.1) (y := .str r.1) rfl rfl (str_eq (hw r' hr') (hw r hr)))
    by_cases c : r'.1 = r.1
    · have same := nodup_same nd hr' hr c
      rw [c, beq_self_eq_true] at test
      have ed : d' = d := by rw [same, e] at sd; exact (Option.some.inj sd).symm
      refine ev_ifF (s1 := A) (ev_andT test (ev_B (ev_m2 (s1 := A) (s2 := A) (x := .dic (keyS a)) (y := .dic (keyS d)) rfl rfl (dNeA_dic (eqDic_perm (by rw [← ed]; exact ap) okd.1 oka))))) rfl
    · rw [beq_eq_false_iff_ne.mpr c] at test
      exact ev_ifF (s1 := A) (ev_andF test) rfl
  have sv := sol_vals sd
  apply ev_seq (s1 := X K u9 u10 u11)
  · let A := X K u9 u10 s11
    refine ev_set (ev_all (s := A) (fun y : Str × D => y.2) shortB a ?_ ?_ fun y hy => ?_)
    · have := (ap.map (·.1)).length_eq
      have := names_le r'.2
      have := (gt.gps r' hr').len
      have q := sol_names (gl_of (gt.gps r' hr')) sd
      have := congrArg List.length q
      rw [List.length_map] at this
      rw [ap.length_eq]; omega
    · show R.ok ((keyS a).map (·.2)) A = _
      unfold keyS
      rw [List.map_map]; rfl
    · have sy := sv y (ap.mem_iff.mp hy)
      obtain ⟨y1, y2⟩ := y
      rcases sy with ⟨x, z⟩ | ⟨u, z⟩
      · have z : y2 = .str x := z
        subst z
        exact ⟨_, ⟨_, _⟩, rfl, ev_orVT rfl, rfl⟩
      · have z : y2 = pathD u := z
        subst z
        have hs : shortB (y1, pathD u) = decide (((u.map D.str).length : Int) < 5) := decide_eq_decide.mpr (by omega)
        rw [hs]
        exact ⟨_, ⟨_, _⟩, rfl, ev_orVF rfl rfl, rfl⟩
  let A := X K u9 u10 u11
  cases c : a.all shortB with
  | false =>
    have v11 : mB (mVar 11) A = .ok false A := by
      show mB (mVar 11) (X K u9 u10 (vq (.bl (a.all shortB)))) = _
      simp only [A, u11, c]
      rfl
    exact ev_ifF (s1 := A) (ev_andF v11) rfl
  | true =>
    have v11 : mB (mVar 11) A = .ok true A := by
      show mB (mVar 11) (X K u9 u10 (vq (.bl (a.all shortB)))) = _
      simp only [A, u11, c]
      rfl
    have s4 : ∀ y ∈ d', Sh4 y.2 := fun y hy l hl => by
      have := List.all_eq_true.mp c y (ap.mem_iff.mpr hy)
      unfold shortB at this
      rw [hl] at this
      have := of_decide_eq_true this
      omega
    have po2 := path_of_ok gt.ok hr' nd hw (gl_of (gt.gps r' hr')) (by have := (gt.gps r' hr').len; omega) sd ap (gt.lt.nd r' hr') h7 s4 (by omega) g'
    exact ev_ifF (s1 := A) (ev_andT v11 (ev_B (ev_m2 (s1 := A) (s2 := A) (x := pathD ws) (y := pathD ws) (ev_fn (ds := [tbD t, .str r'.1, .dic (keyS a)]) (s1 := A) rfl rfl po2) rfl (path_ne3 hWd)))) rfl
theorem inner3 (ns : List Int) {t : Tb} (gt : GT t) {r : Rt} (hr : r ∈ t.2) (hw : ∀ r ∈ t.2, Wd r.1) : ∀ (l : List D) (g : List Ob), Town g → ∀ s5 s6 s7 s8 s9 s10 s11, ∃ t5 t6 t7 t8 t9 t10 t11 g', forR (gV 5) lBody3 l ⟨eKk ns t (vq (.str r.1)) (vq (psD r.2)) s5 s6 s7 s8 s9 s10 s11, g⟩ = .ok .nx ⟨eKk ns t (vq (.str r.1)) (vq (psD r.2)) t5 t6 t7 t8 t9 t10 t11, g'⟩ ∧ Town g'
  | [], g, T, s5, s6, s7, s8, s9, s10, s11 => ⟨s5, s6, s7, s8, s9, s10, s11, g, rfl, T⟩
  | x :: l, g, T, s5, s6, s7, s8, s9, s10, s11 => by
    obtain ⟨a6, a7, a8, a9, a10, a11, g1, e1, T1⟩ := turn3 ns gt hr hw T (vq x) s6 s7 s8 s9 s10 s11
    obtain ⟨t5, t6, t7, t8, t9, t10, t11, g2, e2, T2⟩ := inner3 ns gt hr hw l g1 T1 (vq x) a6 a7 a8 a9 a10 a11
    exact ⟨t5, t6, t7, t8, t9, t10, t11, g2, forR_cons (s1 := ⟨eKk ns t (vq (.str r.1)) (vq (psD r.2)) (vq x) s6 s7 s8 s9 s10 s11, g⟩) rfl e1 e2, T2⟩
theorem outer3 (ns : List Int) {t : Tb} (gt : GT t) (hw : ∀ r ∈ t.2, Wd r.1) : ∀ (rs : List Rt), (∀ r ∈ rs, r ∈ t.2) → ∀ (g : List Ob), Town g → ∀ s3 s4 s5 s6 s7 s8 s9 s10 s11, ∃ t3 t4 t5 t6 t7 t8 t9 t10 t11 g', forR (gT 2 (gsCons (gV 3) (gsCons (gV 4) gsNil))) (mFor (mRange (mC (.int 3))) (gV 5) lBody3) (rs.map rtD) ⟨eKk ns t s3 s4 s5 s6 s7 s8 s9 s10 s11, g⟩ = .ok .nx ⟨eKk ns t t3 t4 t5 t6 t7 t8 t9 t10 t11, g'⟩ ∧ Town g'
  | [], _, g, T, s3, s4, s5, s6, s7, s8, s9, s10, s11 => ⟨s3, s4, s5, s6, s7, s8, s9, s10, s11, g, rfl, T⟩
  | r :: rs, h, g, T, s3, s4, s5, s6, s7, s8, s9, s10, s11 => by
    obtain ⟨a5, a6, a7, a8, a9, a10, a11, g1, e1, T1⟩ := inner3 ns gt (h r List.mem_cons_self) hw [.int 0, .int 1, .int 2] g T s5 s6 s7 s8 s9 s10 s11
    obtain ⟨t3, t4, t5, t6, t7, t8, t9, t10, t11, g2, e2, T2⟩ := outer3 ns gt hw rs (fun x hx => h x (List.mem_cons_of_mem _ hx)) g1 T1 (vq (.str r.1)) (vq (psD r.2)) a5 a6 a7 a8 a9 a10 a11
    exact ⟨t3, t4, t5, t6, t7, t8, t9, t10, t11, g2, forR_cons (s1 := ⟨eKk ns t (vq (.str r.1)) (vq (psD r.2)) s5 s6 s7 s8 s9 s10 s11, g⟩) rfl (ev_for (ds := [.int 0, .int 1, .int 2]) (s1 := ⟨eKk ns t (vq (.str r.1)) (vq (psD r.2)) s5 s6 s7 s8 s9 s10 s11, g⟩) rfl e1) e2, T2⟩
theorem law_end (ns : List Int) (h : ns.length ≤ 63) : ∃ g, F_law [.scr ns] [] = .ok (.bl true) g := by
  have T0 : Town [Ob.lst [.int 0, .int 0]] := ⟨0, 0, [], by omega, by omega, rfl⟩
  obtain ⟨t, g1, e1, T1, gt, hl, h5⟩ := table_ok ns T0 (most := 4) (by omega) (by omega)
  have hw : ∀ r ∈ t.2, Wd r.1 := fun r hr => (t5_facts _ (h5 r hr)).2
  obtain ⟨t3, t4, t5, t6, t7, t8, t9, t10, t11, g2, e2, T2⟩ := outer3 ns gt hw t.2 (fun _ h => h) g1 T1 none none none none none none none none none
  refine ⟨_, fr_rt (s1 := ⟨eKk ns t t3 t4 t5 t6 t7 t8 t9 t10 t11, g2⟩) ?_⟩
  apply ev_seq (s1 := ⟨[vq (.scr ns), vq (.cell 0), none, none, none, none, none, none, none, none, none, none, none], [.lst [.int 0, .int 0]]⟩)
  · rfl
  apply ev_seq (s1 := ⟨eKk ns t none none none none none none none none none, g1⟩)
  · exact ev_set (ev_fn (ds := [.scr ns, .cell 0, .int 4]) rfl rfl e1)
  apply ev_seq (s1 := ⟨eKk ns t t3 t4 t5 t6 t7 t8 t9 t10 t11, g2⟩)
  · exact ev_for (s1 := ⟨eKk ns t none none none none none none none none none, g1⟩) (ds := t.2.map rtD) (ev_items (d := .tup (t.2.map rtD)) rfl rfl) e2
  rfl
end Law

namespace Law
open PySem L2 FX
set_option maxHeartbeats 4000000
theorem law_true (ns : List Int) (h : ns.length ≤ 63) : ∃ g, F_law [.scr ns] [] = .ok (.bl true) g := law_end ns h
theorem all_mk {l : PySem.W.OpenLaw} {w : World} {K : PySem.W.Frag} {h : Heap} {mg : Str → Option Value} {fa : Addr} (X : K.In h) (G : h.Ns mainGlobals mg) (hfa : mg "law" = some (.ref fa))
    {f__law_draw : Addr} {od__law_draw an__law_draw : Option Addr} {sl__law_draw : Array (Option Value)} {oc__law_draw kV__law_draw dc__law_draw pm__law_draw cd__law_draw ct__law_draw : Value}
    {f__law_pick : Addr} {od__law_pick an__law_pick : Option Addr} {sl__law_pick : Array (Option Value)} {oc__law_pick kV__law_pick dc__law_pick pm__law_pick cd__law_pick ct__law_pick : Value}
    {f__law_parts : Addr} {od__law_parts an__law_parts : Option Addr} {sl__law_parts : Array (Option Value)} {oc__law_parts kV__law_parts dc__law_parts pm__law_parts cd__law_parts ct__law_parts : Value}
    {f__law_table : Addr} {od__law_table an__law_table : Option Addr} {sl__law_table : Array (Option Value)} {oc__law_table kV__law_table dc__law_table pm__law_table cd__law_table ct__law_table : Value}
    {f__law_given : Addr} {od__law_given an__law_given : Option Addr} {sl__law_given : Array (Option Value)} {oc__law_given kV__law_given dc__law_given pm__law_given cd__law_given ct__law_given : Value}
    {f_is_over : Addr} {od_is_over an_is_over : Option Addr} {sl_is_over : Array (Option Value)} {oc_is_over kV_is_over dc_is_over pm_is_over cd_is_over ct_is_over : Value}
    {f_names_of : Addr} {od_names_of an_names_of : Option Addr} {sl_names_of : Array (Option Value)} {oc_names_of kV_names_of dc_names_of pm_names_of cd_names_of ct_names_of : Value}
    {f_is_segment : Addr} {od_is_segment an_is_segment : Option Addr} {sl_is_segment : Array (Option Value)} {oc_is_segment kV_is_segment dc_is_segment pm_is_segment cd_is_segment ct_is_segment : Value}
    {f_is_part : Addr} {od_is_part an_is_part : Option Addr} {sl_is_part : Array (Option Value)} {oc_is_part kV_is_part dc_is_part pm_is_part cd_is_part ct_is_part : Value}
    {f_is_tail : Addr} {od_is_tail an_is_tail : Option Addr} {sl_is_tail : Array (Option Value)} {oc_is_tail kV_is_tail dc_is_tail pm_is_tail cd_is_tail ct_is_tail : Value}
    {f_are_parts : Addr} {od_are_parts an_are_parts : Option Addr} {sl_are_parts : Array (Option Value)} {oc_are_parts kV_are_parts dc_are_parts pm_are_parts cd_are_parts ct_are_parts : Value}
    {f_is_route : Addr} {od_is_route an_is_route : Option Addr} {sl_is_route : Array (Option Value)} {oc_is_route kV_is_route dc_is_route pm_is_route cd_is_route ct_is_route : Value}
    {f_is_table : Addr} {od_is_table an_is_table : Option Addr} {sl_is_table : Array (Option Value)} {oc_is_table kV_is_table dc_is_table pm_is_table cd_is_table ct_is_table : Value}
    {f_need_table : Addr} {od_need_table an_need_table : Option Addr} {sl_need_table : Array (Option Value)} {oc_need_table kV_need_table dc_need_table pm_need_table cd_need_table ct_need_table : Value}
    {f_are_segments : Addr} {od_are_segments an_are_segments : Option Addr} {sl_are_segments : Array (Option Value)} {oc_are_segments kV_are_segments dc_are_segments pm_are_segments cd_are_segments ct_are_segments : Value}
    {f_is_path : Addr} {od_is_path an_is_path : Option Addr} {sl_is_path : Array (Option Value)} {oc_is_path kV_is_path dc_is_path pm_is_path cd_is_path ct_is_path : Value}
    {f_need_path : Addr} {od_need_path an_need_path : Option Addr} {sl_need_path : Array (Option Value)} {oc_need_path kV_need_path dc_need_path pm_need_path cd_need_path ct_need_path : Value}
    {f_rank : Addr} {od_rank an_rank : Option Addr} {sl_rank : Array (Option Value)} {oc_rank kV_rank dc_rank pm_rank cd_rank ct_rank : Value}
    {f_ranks : Addr} {od_ranks an_ranks : Option Addr} {sl_ranks : Array (Option Value)} {oc_ranks kV_ranks dc_ranks pm_ranks cd_ranks ct_ranks : Value}
    {f_ordered : Addr} {od_ordered an_ordered : Option Addr} {sl_ordered : Array (Option Value)} {oc_ordered kV_ordered dc_ordered pm_ordered cd_ordered ct_ordered : Value}
    {f_fits_part : Addr} {od_fits_part an_fits_part : Option Addr} {sl_fits_part : Array (Option Value)} {oc_fits_part kV_fits_part dc_fits_part pm_fits_part cd_fits_part ct_fits_part : Value}
    {f_values_of : Addr} {od_values_of an_values_of : Option Addr} {sl_values_of : Array (Option Value)} {oc_values_of kV_values_of dc_values_of pm_values_of cd_values_of ct_values_of : Value}
    {f_route_for : Addr} {od_route_for an_route_for : Option Addr} {sl_route_for : Array (Option Value)} {oc_route_for kV_route_for dc_route_for pm_route_for cd_route_for ct_route_for : Value}
    {f_taken : Addr} {od_taken an_taken : Option Addr} {sl_taken : Array (Option Value)} {oc_taken kV_taken dc_taken pm_taken cd_taken ct_taken : Value}
    {f_values : Addr} {od_values an_values : Option Addr} {sl_values : Array (Option Value)} {oc_values kV_values dc_values pm_values cd_values ct_values : Value}
    {f_parts_of : Addr} {od_parts_of an_parts_of : Option Addr} {sl_parts_of : Array (Option Value)} {oc_parts_of kV_parts_of dc_parts_of pm_parts_of cd_parts_of ct_parts_of : Value}
    {f_is_value : Addr} {od_is_value an_is_value : Option Addr} {sl_is_value : Array (Option Value)} {oc_is_value kV_is_value dc_is_value pm_is_value cd_is_value ct_is_value : Value}
    {f_path_of : Addr} {od_path_of an_path_of : Option Addr} {sl_path_of : Array (Option Value)} {oc_path_of kV_path_of dc_path_of pm_path_of cd_path_of ct_path_of : Value}
    {f__law_values : Addr} {od__law_values an__law_values : Option Addr} {sl__law_values : Array (Option Value)} {oc__law_values kV__law_values dc__law_values pm__law_values cd__law_values ct__law_values : Value}
    {f_fitting : Addr} {od_fitting an_fitting : Option Addr} {sl_fitting : Array (Option Value)} {oc_fitting kV_fitting dc_fitting pm_fitting cd_fitting ct_fitting : Value}
    {f__law_ranks : Addr} {od__law_ranks an__law_ranks : Option Addr} {sl__law_ranks : Array (Option Value)} {oc__law_ranks kV__law_ranks dc__law_ranks pm__law_ranks cd__law_ranks ct__law_ranks : Value}
    {f__law_taken : Addr} {od__law_taken an__law_taken : Option Addr} {sl__law_taken : Array (Option Value)} {oc__law_taken kV__law_taken dc__law_taken pm__law_taken cd__law_taken ct__law_taken : Value}
    {f__law_title : Addr} {od__law_title an__law_title : Option Addr} {sl__law_title : Array (Option Value)} {oc__law_title kV__law_title dc__law_title pm__law_title cd__law_title ct__law_title : Value}
    {f_law : Addr} {od_law an_law : Option Addr} {sl_law : Array (Option Value)} {oc_law kV_law dc_law pm_law cd_law ct_law : Value}
    {t_LETTERS : Tok}
    {t_DIGITS : Tok}
    {r_KINDS : Addr} {n_KINDS : Nat} {dd_KINDS : Option Addr} {ss_KINDS : Array (Option Value)} {t0_KINDS t1_KINDS t2_KINDS t3_KINDS : Tok}
    {t_PATH : Tok}
    {t_PARTS : Tok}
    {t_ROUTES : Tok}
    (a__law_draw : PySem.W.nsIn K mainGlobals "_law_draw" = some (some (.ref f__law_draw)))
    (l__law_draw : K.lookup f__law_draw = some ⟨oc__law_draw, od__law_draw, .func (PySem.W.fnOf "_law_draw" "_law_draw" (defArgs (topS 39)) (defBody (topS 39)) (defScope (topS 39)) .none kV__law_draw dc__law_draw pm__law_draw an__law_draw cd__law_draw ct__law_draw), sl__law_draw⟩)
    (o__law_draw : PySem.W.codeIn K cd__law_draw "_law_draw" = true)
    (k__law_draw : PySem.W.keepIn K (.ref f__law_draw) = true)
    (a__law_pick : PySem.W.nsIn K mainGlobals "_law_pick" = some (some (.ref f__law_pick)))
    (l__law_pick : K.lookup f__law_pick = some ⟨oc__law_pick, od__law_pick, .func (PySem.W.fnOf "_law_pick" "_law_pick" (defArgs (topS 40)) (defBody (topS 40)) (defScope (topS 40)) .none kV__law_pick dc__law_pick pm__law_pick an__law_pick cd__law_pick ct__law_pick), sl__law_pick⟩)
    (o__law_pick : PySem.W.codeIn K cd__law_pick "_law_pick" = true)
    (k__law_pick : PySem.W.keepIn K (.ref f__law_pick) = true)
    (a__law_parts : PySem.W.nsIn K mainGlobals "_law_parts" = some (some (.ref f__law_parts)))
    (l__law_parts : K.lookup f__law_parts = some ⟨oc__law_parts, od__law_parts, .func (PySem.W.fnOf "_law_parts" "_law_parts" (defArgs (topS 41)) (defBody (topS 41)) (defScope (topS 41)) .none kV__law_parts dc__law_parts pm__law_parts an__law_parts cd__law_parts ct__law_parts), sl__law_parts⟩)
    (o__law_parts : PySem.W.codeIn K cd__law_parts "_law_parts" = true)
    (k__law_parts : PySem.W.keepIn K (.ref f__law_parts) = true)
    (a__law_table : PySem.W.nsIn K mainGlobals "_law_table" = some (some (.ref f__law_table)))
    (l__law_table : K.lookup f__law_table = some ⟨oc__law_table, od__law_table, .func (PySem.W.fnOf "_law_table" "_law_table" (defArgs (topS 42)) (defBody (topS 42)) (defScope (topS 42)) .none kV__law_table dc__law_table pm__law_table an__law_table cd__law_table ct__law_table), sl__law_table⟩)
    (o__law_table : PySem.W.codeIn K cd__law_table "_law_table" = true)
    (k__law_table : PySem.W.keepIn K (.ref f__law_table) = true)
    (a__law_given : PySem.W.nsIn K mainGlobals "_law_given" = some (some (.ref f__law_given)))
    (l__law_given : K.lookup f__law_given = some ⟨oc__law_given, od__law_given, .func (PySem.W.fnOf "_law_given" "_law_given" (defArgs (topS 48)) (defBody (topS 48)) (defScope (topS 48)) .none kV__law_given dc__law_given pm__law_given an__law_given cd__law_given ct__law_given), sl__law_given⟩)
    (o__law_given : PySem.W.codeIn K cd__law_given "_law_given" = true)
    (k__law_given : PySem.W.keepIn K (.ref f__law_given) = true)
    (a_is_over : PySem.W.nsIn K mainGlobals "is_over" = some (some (.ref f_is_over)))
    (l_is_over : K.lookup f_is_over = some ⟨oc_is_over, od_is_over, .func (PySem.W.fnOf "is_over" "is_over" (defArgs (topS 13)) (defBody (topS 13)) (defScope (topS 13)) .none kV_is_over dc_is_over pm_is_over an_is_over cd_is_over ct_is_over), sl_is_over⟩)
    (o_is_over : PySem.W.codeIn K cd_is_over "is_over" = true)
    (k_is_over : PySem.W.keepIn K (.ref f_is_over) = true)
    (a_names_of : PySem.W.nsIn K mainGlobals "names_of" = some (some (.ref f_names_of)))
    (l_names_of : K.lookup f_names_of = some ⟨oc_names_of, od_names_of, .func (PySem.W.fnOf "names_of" "names_of" (defArgs (topS 19)) (defBody (topS 19)) (defScope (topS 19)) .none kV_names_of dc_names_of pm_names_of an_names_of cd_names_of ct_names_of), sl_names_of⟩)
    (o_names_of : PySem.W.codeIn K cd_names_of "names_of" = true)
    (k_names_of : PySem.W.keepIn K (.ref f_names_of) = true)
    (a_is_segment : PySem.W.nsIn K mainGlobals "is_segment" = some (some (.ref f_is_segment)))
    (l_is_segment : K.lookup f_is_segment = some ⟨oc_is_segment, od_is_segment, .func (PySem.W.fnOf "is_segment" "is_segment" (defArgs (topS 14)) (defBody (topS 14)) (defScope (topS 14)) .none kV_is_segment dc_is_segment pm_is_segment an_is_segment cd_is_segment ct_is_segment), sl_is_segment⟩)
    (o_is_segment : PySem.W.codeIn K cd_is_segment "is_segment" = true)
    (k_is_segment : PySem.W.keepIn K (.ref f_is_segment) = true)
    (a_is_part : PySem.W.nsIn K mainGlobals "is_part" = some (some (.ref f_is_part)))
    (l_is_part : K.lookup f_is_part = some ⟨oc_is_part, od_is_part, .func (PySem.W.fnOf "is_part" "is_part" (defArgs (topS 18)) (defBody (topS 18)) (defScope (topS 18)) .none kV_is_part dc_is_part pm_is_part an_is_part cd_is_part ct_is_part), sl_is_part⟩)
    (o_is_part : PySem.W.codeIn K cd_is_part "is_part" = true)
    (k_is_part : PySem.W.keepIn K (.ref f_is_part) = true)
    (a_is_tail : PySem.W.nsIn K mainGlobals "is_tail" = some (some (.ref f_is_tail)))
    (l_is_tail : K.lookup f_is_tail = some ⟨oc_is_tail, od_is_tail, .func (PySem.W.fnOf "is_tail" "is_tail" (defArgs (topS 21)) (defBody (topS 21)) (defScope (topS 21)) .none kV_is_tail dc_is_tail pm_is_tail an_is_tail cd_is_tail ct_is_tail), sl_is_tail⟩)
    (o_is_tail : PySem.W.codeIn K cd_is_tail "is_tail" = true)
    (k_is_tail : PySem.W.keepIn K (.ref f_is_tail) = true)
    (a_are_parts : PySem.W.nsIn K mainGlobals "are_parts" = some (some (.ref f_are_parts)))
    (l_are_parts : K.lookup f_are_parts = some ⟨oc_are_parts, od_are_parts, .func (PySem.W.fnOf "are_parts" "are_parts" (defArgs (topS 20)) (defBody (topS 20)) (defScope (topS 20)) .none kV_are_parts dc_are_parts pm_are_parts an_are_parts cd_are_parts ct_are_parts), sl_are_parts⟩)
    (o_are_parts : PySem.W.codeIn K cd_are_parts "are_parts" = true)
    (k_are_parts : PySem.W.keepIn K (.ref f_are_parts) = true)
    (a_is_route : PySem.W.nsIn K mainGlobals "is_route" = some (some (.ref f_is_route)))
    (l_is_route : K.lookup f_is_route = some ⟨oc_is_route, od_is_route, .func (PySem.W.fnOf "is_route" "is_route" (defArgs (topS 22)) (defBody (topS 22)) (defScope (topS 22)) .none kV_is_route dc_is_route pm_is_route an_is_route cd_is_route ct_is_route), sl_is_route⟩)
    (o_is_route : PySem.W.codeIn K cd_is_route "is_route" = true)
    (k_is_route : PySem.W.keepIn K (.ref f_is_route) = true)
    (a_is_table : PySem.W.nsIn K mainGlobals "is_table" = some (some (.ref f_is_table)))
    (l_is_table : K.lookup f_is_table = some ⟨oc_is_table, od_is_table, .func (PySem.W.fnOf "is_table" "is_table" (defArgs (topS 23)) (defBody (topS 23)) (defScope (topS 23)) .none kV_is_table dc_is_table pm_is_table an_is_table cd_is_table ct_is_table), sl_is_table⟩)
    (o_is_table : PySem.W.codeIn K cd_is_table "is_table" = true)
    (k_is_table : PySem.W.keepIn K (.ref f_is_table) = true)
    (a_need_table : PySem.W.nsIn K mainGlobals "need_table" = some (some (.ref f_need_table)))
    (l_need_table : K.lookup f_need_table = some ⟨oc_need_table, od_need_table, .func (PySem.W.fnOf "need_table" "need_table" (defArgs (topS 24)) (defBody (topS 24)) (defScope (topS 24)) .none kV_need_table dc_need_table pm_need_table an_need_table cd_need_table ct_need_table), sl_need_table⟩)
    (o_need_table : PySem.W.codeIn K cd_need_table "need_table" = true)
    (k_need_table : PySem.W.keepIn K (.ref f_need_table) = true)
    (a_are_segments : PySem.W.nsIn K mainGlobals "are_segments" = some (some (.ref f_are_segments)))
    (l_are_segments : K.lookup f_are_segments = some ⟨oc_are_segments, od_are_segments, .func (PySem.W.fnOf "are_segments" "are_segments" (defArgs (topS 15)) (defBody (topS 15)) (defScope (topS 15)) .none kV_are_segments dc_are_segments pm_are_segments an_are_segments cd_are_segments ct_are_segments), sl_are_segments⟩)
    (o_are_segments : PySem.W.codeIn K cd_are_segments "are_segments" = true)
    (k_are_segments : PySem.W.keepIn K (.ref f_are_segments) = true)
    (a_is_path : PySem.W.nsIn K mainGlobals "is_path" = some (some (.ref f_is_path)))
    (l_is_path : K.lookup f_is_path = some ⟨oc_is_path, od_is_path, .func (PySem.W.fnOf "is_path" "is_path" (defArgs (topS 16)) (defBody (topS 16)) (defScope (topS 16)) .none kV_is_path dc_is_path pm_is_path an_is_path cd_is_path ct_is_path), sl_is_path⟩)
    (o_is_path : PySem.W.codeIn K cd_is_path "is_path" = true)
    (k_is_path : PySem.W.keepIn K (.ref f_is_path) = true)
    (a_need_path : PySem.W.nsIn K mainGlobals "need_path" = some (some (.ref f_need_path)))
    (l_need_path : K.lookup f_need_path = some ⟨oc_need_path, od_need_path, .func (PySem.W.fnOf "need_path" "need_path" (defArgs (topS 17)) (defBody (topS 17)) (defScope (topS 17)) .none kV_need_path dc_need_path pm_need_path an_need_path cd_need_path ct_need_path), sl_need_path⟩)
    (o_need_path : PySem.W.codeIn K cd_need_path "need_path" = true)
    (k_need_path : PySem.W.keepIn K (.ref f_need_path) = true)
    (a_rank : PySem.W.nsIn K mainGlobals "rank" = some (some (.ref f_rank)))
    (l_rank : K.lookup f_rank = some ⟨oc_rank, od_rank, .func (PySem.W.fnOf "rank" "rank" (defArgs (topS 28)) (defBody (topS 28)) (defScope (topS 28)) .none kV_rank dc_rank pm_rank an_rank cd_rank ct_rank), sl_rank⟩)
    (o_rank : PySem.W.codeIn K cd_rank "rank" = true)
    (k_rank : PySem.W.keepIn K (.ref f_rank) = true)
    (a_ranks : PySem.W.nsIn K mainGlobals "ranks" = some (some (.ref f_ranks)))
    (l_ranks : K.lookup f_ranks = some ⟨oc_ranks, od_ranks, .func (PySem.W.fnOf "ranks" "ranks" (defArgs (topS 29)) (defBody (topS 29)) (defScope (topS 29)) .none kV_ranks dc_ranks pm_ranks an_ranks cd_ranks ct_ranks), sl_ranks⟩)
    (o_ranks : PySem.W.codeIn K cd_ranks "ranks" = true)
    (k_ranks : PySem.W.keepIn K (.ref f_ranks) = true)
    (a_ordered : PySem.W.nsIn K mainGlobals "ordered" = some (some (.ref f_ordered)))
    (l_ordered : K.lookup f_ordered = some ⟨oc_ordered, od_ordered, .func (PySem.W.fnOf "ordered" "ordered" (defArgs (topS 30)) (defBody (topS 30)) (defScope (topS 30)) .none kV_ordered dc_ordered pm_ordered an_ordered cd_ordered ct_ordered), sl_ordered⟩)
    (o_ordered : PySem.W.codeIn K cd_ordered "ordered" = true)
    (k_ordered : PySem.W.keepIn K (.ref f_ordered) = true)
    (a_fits_part : PySem.W.nsIn K mainGlobals "fits_part" = some (some (.ref f_fits_part)))
    (l_fits_part : K.lookup f_fits_part = some ⟨oc_fits_part, od_fits_part, .func (PySem.W.fnOf "fits_part" "fits_part" (defArgs (topS 26)) (defBody (topS 26)) (defScope (topS 26)) .none kV_fits_part dc_fits_part pm_fits_part an_fits_part cd_fits_part ct_fits_part), sl_fits_part⟩)
    (o_fits_part : PySem.W.codeIn K cd_fits_part "fits_part" = true)
    (k_fits_part : PySem.W.keepIn K (.ref f_fits_part) = true)
    (a_values_of : PySem.W.nsIn K mainGlobals "values_of" = some (some (.ref f_values_of)))
    (l_values_of : K.lookup f_values_of = some ⟨oc_values_of, od_values_of, .func (PySem.W.fnOf "values_of" "values_of" (defArgs (topS 27)) (defBody (topS 27)) (defScope (topS 27)) .none kV_values_of dc_values_of pm_values_of an_values_of cd_values_of ct_values_of), sl_values_of⟩)
    (o_values_of : PySem.W.codeIn K cd_values_of "values_of" = true)
    (k_values_of : PySem.W.keepIn K (.ref f_values_of) = true)
    (a_route_for : PySem.W.nsIn K mainGlobals "route_for" = some (some (.ref f_route_for)))
    (l_route_for : K.lookup f_route_for = some ⟨oc_route_for, od_route_for, .func (PySem.W.fnOf "route_for" "route_for" (defArgs (topS 31)) (defBody (topS 31)) (defScope (topS 31)) .none kV_route_for dc_route_for pm_route_for an_route_for cd_route_for ct_route_for), sl_route_for⟩)
    (o_route_for : PySem.W.codeIn K cd_route_for "route_for" = true)
    (k_route_for : PySem.W.keepIn K (.ref f_route_for) = true)
    (a_taken : PySem.W.nsIn K mainGlobals "taken" = some (some (.ref f_taken)))
    (l_taken : K.lookup f_taken = some ⟨oc_taken, od_taken, .func (PySem.W.fnOf "taken" "taken" (defArgs (topS 32)) (defBody (topS 32)) (defScope (topS 32)) .none kV_taken dc_taken pm_taken an_taken cd_taken ct_taken), sl_taken⟩)
    (o_taken : PySem.W.codeIn K cd_taken "taken" = true)
    (k_taken : PySem.W.keepIn K (.ref f_taken) = true)
    (a_values : PySem.W.nsIn K mainGlobals "values" = some (some (.ref f_values)))
    (l_values : K.lookup f_values = some ⟨oc_values, od_values, .func (PySem.W.fnOf "values" "values" (defArgs (topS 34)) (defBody (topS 34)) (defScope (topS 34)) .none kV_values dc_values pm_values an_values cd_values ct_values), sl_values⟩)
    (o_values : PySem.W.codeIn K cd_values "values" = true)
    (k_values : PySem.W.keepIn K (.ref f_values) = true)
    (a_parts_of : PySem.W.nsIn K mainGlobals "parts_of" = some (some (.ref f_parts_of)))
    (l_parts_of : K.lookup f_parts_of = some ⟨oc_parts_of, od_parts_of, .func (PySem.W.fnOf "parts_of" "parts_of" (defArgs (topS 35)) (defBody (topS 35)) (defScope (topS 35)) .none kV_parts_of dc_parts_of pm_parts_of an_parts_of cd_parts_of ct_parts_of), sl_parts_of⟩)
    (o_parts_of : PySem.W.codeIn K cd_parts_of "parts_of" = true)
    (k_parts_of : PySem.W.keepIn K (.ref f_parts_of) = true)
    (a_is_value : PySem.W.nsIn K mainGlobals "is_value" = some (some (.ref f_is_value)))
    (l_is_value : K.lookup f_is_value = some ⟨oc_is_value, od_is_value, .func (PySem.W.fnOf "is_value" "is_value" (defArgs (topS 36)) (defBody (topS 36)) (defScope (topS 36)) .none kV_is_value dc_is_value pm_is_value an_is_value cd_is_value ct_is_value), sl_is_value⟩)
    (o_is_value : PySem.W.codeIn K cd_is_value "is_value" = true)
    (k_is_value : PySem.W.keepIn K (.ref f_is_value) = true)
    (a_path_of : PySem.W.nsIn K mainGlobals "path_of" = some (some (.ref f_path_of)))
    (l_path_of : K.lookup f_path_of = some ⟨oc_path_of, od_path_of, .func (PySem.W.fnOf "path_of" "path_of" (defArgs (topS 37)) (defBody (topS 37)) (defScope (topS 37)) .none kV_path_of dc_path_of pm_path_of an_path_of cd_path_of ct_path_of), sl_path_of⟩)
    (o_path_of : PySem.W.codeIn K cd_path_of "path_of" = true)
    (k_path_of : PySem.W.keepIn K (.ref f_path_of) = true)
    (a__law_values : PySem.W.nsIn K mainGlobals "_law_values" = some (some (.ref f__law_values)))
    (l__law_values : K.lookup f__law_values = some ⟨oc__law_values, od__law_values, .func (PySem.W.fnOf "_law_values" "_law_values" (defArgs (topS 43)) (defBody (topS 43)) (defScope (topS 43)) .none kV__law_values dc__law_values pm__law_values an__law_values cd__law_values ct__law_values), sl__law_values⟩)
    (o__law_values : PySem.W.codeIn K cd__law_values "_law_values" = true)
    (k__law_values : PySem.W.keepIn K (.ref f__law_values) = true)
    (a_fitting : PySem.W.nsIn K mainGlobals "fitting" = some (some (.ref f_fitting)))
    (l_fitting : K.lookup f_fitting = some ⟨oc_fitting, od_fitting, .func (PySem.W.fnOf "fitting" "fitting" (defArgs (topS 33)) (defBody (topS 33)) (defScope (topS 33)) .none kV_fitting dc_fitting pm_fitting an_fitting cd_fitting ct_fitting), sl_fitting⟩)
    (o_fitting : PySem.W.codeIn K cd_fitting "fitting" = true)
    (k_fitting : PySem.W.keepIn K (.ref f_fitting) = true)
    (a__law_ranks : PySem.W.nsIn K mainGlobals "_law_ranks" = some (some (.ref f__law_ranks)))
    (l__law_ranks : K.lookup f__law_ranks = some ⟨oc__law_ranks, od__law_ranks, .func (PySem.W.fnOf "_law_ranks" "_law_ranks" (defArgs (topS 44)) (defBody (topS 44)) (defScope (topS 44)) .none kV__law_ranks dc__law_ranks pm__law_ranks an__law_ranks cd__law_ranks ct__law_ranks), sl__law_ranks⟩)
    (o__law_ranks : PySem.W.codeIn K cd__law_ranks "_law_ranks" = true)
    (k__law_ranks : PySem.W.keepIn K (.ref f__law_ranks) = true)
    (a__law_taken : PySem.W.nsIn K mainGlobals "_law_taken" = some (some (.ref f__law_taken)))
    (l__law_taken : K.lookup f__law_taken = some ⟨oc__law_taken, od__law_taken, .func (PySem.W.fnOf "_law_taken" "_law_taken" (defArgs (topS 45)) (defBody (topS 45)) (defScope (topS 45)) .none kV__law_taken dc__law_taken pm__law_taken an__law_taken cd__law_taken ct__law_taken), sl__law_taken⟩)
    (o__law_taken : PySem.W.codeIn K cd__law_taken "_law_taken" = true)
    (k__law_taken : PySem.W.keepIn K (.ref f__law_taken) = true)
    (a__law_title : PySem.W.nsIn K mainGlobals "_law_title" = some (some (.ref f__law_title)))
    (l__law_title : K.lookup f__law_title = some ⟨oc__law_title, od__law_title, .func (PySem.W.fnOf "_law_title" "_law_title" (defArgs (topS 46)) (defBody (topS 46)) (defScope (topS 46)) .none kV__law_title dc__law_title pm__law_title an__law_title cd__law_title ct__law_title), sl__law_title⟩)
    (o__law_title : PySem.W.codeIn K cd__law_title "_law_title" = true)
    (k__law_title : PySem.W.keepIn K (.ref f__law_title) = true)
    (a_law : PySem.W.nsIn K mainGlobals "law" = some (some (.ref f_law)))
    (l_law : K.lookup f_law = some ⟨oc_law, od_law, .func (PySem.W.fnOf "law" "law" (defArgs (topS 49)) (defBody (topS 49)) (defScope (topS 49)) .none kV_law dc_law pm_law an_law cd_law ct_law), sl_law⟩)
    (o_law : PySem.W.codeIn K cd_law "law" = true)
    (k_law : PySem.W.keepIn K (.ref f_law) = true)
    (z_all : PySem.W.nsIn K mainGlobals "all" = some none)
    (z_any : PySem.W.nsIn K mainGlobals "any" = some none)
    (z_dict : PySem.W.nsIn K mainGlobals "dict" = some none)
    (z_isinstance : PySem.W.nsIn K mainGlobals "isinstance" = some none)
    (z_len : PySem.W.nsIn K mainGlobals "len" = some none)
    (z_list : PySem.W.nsIn K mainGlobals "list" = some none)
    (z_min : PySem.W.nsIn K mainGlobals "min" = some none)
    (z_range : PySem.W.nsIn K mainGlobals "range" = some none)
    (z_set : PySem.W.nsIn K mainGlobals "set" = some none)
    (z_sorted : PySem.W.nsIn K mainGlobals "sorted" = some none)
    (z_str : PySem.W.nsIn K mainGlobals "str" = some none)
    (z_tuple : PySem.W.nsIn K mainGlobals "tuple" = some none)
    (z_zip : PySem.W.nsIn K mainGlobals "zip" = some none)
    (y_LETTERS : PySem.W.nsIn K mainGlobals "LETTERS" = some (some (.str "abcdefghijklmnopqrstuvwxyz" t_LETTERS)))
    (y_DIGITS : PySem.W.nsIn K mainGlobals "DIGITS" = some (some (.str "0123456789" t_DIGITS)))
    (y_KINDS : PySem.W.nsIn K mainGlobals "KINDS" = some (some (.ref r_KINDS)))
    (w_KINDS : K.lookup r_KINDS = some ⟨.type "tuple", dd_KINDS, .seq #[.str "any" t0_KINDS, .str "letters" t1_KINDS, .str "number" t2_KINDS, .str "tail" t3_KINDS] n_KINDS, ss_KINDS⟩)
    (y_PATH : PySem.W.nsIn K mainGlobals "PATH" = some (some (.int 8 t_PATH)))
    (y_PARTS : PySem.W.nsIn K mainGlobals "PARTS" = some (some (.int 5 t_PARTS)))
    (y_ROUTES : PySem.W.nsIn K mainGlobals "ROUTES" = some (some (.int 6 t_ROUTES)))
    (hF : ∀ ns : List Int, ns.length ≤ 63 → ∃ g, F_law [.scr ns] [] = .ok (.bl true) g) :
    ∃ fd : FuncData, (∀ (s : Shared) (v : Value), BindsTo s fd ⟨[v], []⟩ [("script", v)]) ∧ ∀ base : Heap, K.In base → base.Ns mainGlobals mg → FnOk l.prog w K mg base (L2N.CX l.prog w) 10 fa fd ["script"] (spEnd K) := by
  have e := hfa.symm.trans (PySem.W.mg_of X G a_law)
  cases e
  have m_all := PySem.W.mg_none_of X G z_all
  have m_any := PySem.W.mg_none_of X G z_any
  have m_dict := PySem.W.mg_none_of X G z_dict
  have m_isinstance := PySem.W.mg_none_of X G z_isinstance
  have m_len := PySem.W.mg_none_of X G z_len
  have m_list := PySem.W.mg_none_of X G z_list
  have m_min := PySem.W.mg_none_of X G z_min
  have m_range := PySem.W.mg_none_of X G z_range
  have m_set := PySem.W.mg_none_of X G z_set
  have m_sorted := PySem.W.mg_none_of X G z_sorted
  have m_str := PySem.W.mg_none_of X G z_str
  have m_tuple := PySem.W.mg_none_of X G z_tuple
  have m_zip := PySem.W.mg_none_of X G z_zip
  have g_LETTERS : GlD ⟨K, mg, l.prog, w⟩ "LETTERS" gc_LETTERS := GlD.str (PySem.W.mg_of X G y_LETTERS)
  have g_DIGITS : GlD ⟨K, mg, l.prog, w⟩ "DIGITS" gc_DIGITS := GlD.str (PySem.W.mg_of X G y_DIGITS)
  have g_KINDS : GlD ⟨K, mg, l.prog, w⟩ "KINDS" gc_KINDS := GlD.tup (zs := ["any", "letters", "number", "tail"]) (PySem.W.mg_of X G y_KINDS) w_KINDS (by show 4 ≤ sizeLine; decide) (vals_strs ["any", "letters", "number", "tail"] [t0_KINDS, t1_KINDS, t2_KINDS, t3_KINDS] rfl)
  have g_PATH : GlD ⟨K, mg, l.prog, w⟩ "PATH" gc_PATH := GlD.int (PySem.W.mg_of X G y_PATH)
  have g_PARTS : GlD ⟨K, mg, l.prog, w⟩ "PARTS" gc_PARTS := GlD.int (PySem.W.mg_of X G y_PARTS)
  have g_ROUTES : GlD ⟨K, mg, l.prog, w⟩ "ROUTES" gc_ROUTES := GlD.int (PySem.W.mg_of X G y_ROUTES)
  have F__law_draw' := fun_mk (st := (topS 39)) l__law_draw o__law_draw k__law_draw
  have F__law_pick' := fun_mk (st := (topS 40)) l__law_pick o__law_pick k__law_pick
  have F__law_parts' := fun_mk (st := (topS 41)) l__law_parts o__law_parts k__law_parts
  have F__law_table' := fun_mk (st := (topS 42)) l__law_table o__law_table k__law_table
  have F__law_given' := fun_mk (st := (topS 48)) l__law_given o__law_given k__law_given
  have F_is_over' := fun_mk (st := (topS 13)) l_is_over o_is_over k_is_over
  have F_names_of' := fun_mk (st := (topS 19)) l_names_of o_names_of k_names_of
  have F_is_segment' := fun_mk (st := (topS 14)) l_is_segment o_is_segment k_is_segment
  have F_is_part' := fun_mk (st := (topS 18)) l_is_part o_is_part k_is_part
  have F_is_tail' := fun_mk (st := (topS 21)) l_is_tail o_is_tail k_is_tail
  have F_are_parts' := fun_mk (st := (topS 20)) l_are_parts o_are_parts k_are_parts
  have F_is_route' := fun_mk (st := (topS 22)) l_is_route o_is_route k_is_route
  have F_is_table' := fun_mk (st := (topS 23)) l_is_table o_is_table k_is_table
  have F_need_table' := fun_mk (st := (topS 24)) l_need_table o_need_table k_need_table
  have F_are_segments' := fun_mk (st := (topS 15)) l_are_segments o_are_segments k_are_segments
  have F_is_path' := fun_mk (st := (topS 16)) l_is_path o_is_path k_is_path
  have F_need_path' := fun_mk (st := (topS 17)) l_need_path o_need_path k_need_path
  have F_rank' := fun_mk (st := (topS 28)) l_rank o_rank k_rank
  have F_ranks' := fun_mk (st := (topS 29)) l_ranks o_ranks k_ranks
  have F_ordered' := fun_mk (st := (topS 30)) l_ordered o_ordered k_ordered
  have F_fits_part' := fun_mk (st := (topS 26)) l_fits_part o_fits_part k_fits_part
  have F_values_of' := fun_mk (st := (topS 27)) l_values_of o_values_of k_values_of
  have F_route_for' := fun_mk (st := (topS 31)) l_route_for o_route_for k_route_for
  have F_taken' := fun_mk (st := (topS 32)) l_taken o_taken k_taken
  have F_values' := fun_mk (st := (topS 34)) l_values o_values k_values
  have F_parts_of' := fun_mk (st := (topS 35)) l_parts_of o_parts_of k_parts_of
  have F_is_value' := fun_mk (st := (topS 36)) l_is_value o_is_value k_is_value
  have F_path_of' := fun_mk (st := (topS 37)) l_path_of o_path_of k_path_of
  have F__law_values' := fun_mk (st := (topS 43)) l__law_values o__law_values k__law_values
  have F_fitting' := fun_mk (st := (topS 33)) l_fitting o_fitting k_fitting
  have F__law_ranks' := fun_mk (st := (topS 44)) l__law_ranks o__law_ranks k__law_ranks
  have F__law_taken' := fun_mk (st := (topS 45)) l__law_taken o__law_taken k__law_taken
  have F__law_title' := fun_mk (st := (topS 46)) l__law_title o__law_title k__law_title
  have F_law' := fun_mk (st := (topS 49)) l_law o_law k_law
  have b__law_draw' := F__law_draw'.binds (ps := ["script", "town", "many"]) fun _ _ _ _ _ _ us hl => match us, hl with | [_, _, _], _ => rfl
  have b__law_pick' := F__law_pick'.binds (ps := ["script", "town", "some"]) fun _ _ _ _ _ _ us hl => match us, hl with | [_, _, _], _ => rfl
  have b__law_parts' := F__law_parts'.binds (ps := ["script", "town"]) fun _ _ _ _ _ _ us hl => match us, hl with | [_, _], _ => rfl
  have b__law_table' := F__law_table'.binds (ps := ["script", "town", "most"]) fun _ _ _ _ _ _ us hl => match us, hl with | [_, _, _], _ => rfl
  have b__law_given' := F__law_given'.binds (ps := ["script", "town", "parts"]) fun _ _ _ _ _ _ us hl => match us, hl with | [_, _, _], _ => rfl
  have b_is_over' := F_is_over'.binds (ps := ["value", "signs", "most"]) fun _ _ _ _ _ _ us hl => match us, hl with | [_, _, _], _ => rfl
  have b_names_of' := F_names_of'.binds (ps := ["parts"]) fun _ _ _ _ _ _ us hl => match us, hl with | [_], _ => rfl
  have b_is_segment' := F_is_segment'.binds (ps := ["value"]) fun _ _ _ _ _ _ us hl => match us, hl with | [_], _ => rfl
  have b_is_part' := F_is_part'.binds (ps := ["value"]) fun _ _ _ _ _ _ us hl => match us, hl with | [_], _ => rfl
  have b_is_tail' := F_is_tail'.binds (ps := ["part"]) fun _ _ _ _ _ _ us hl => match us, hl with | [_], _ => rfl
  have b_are_parts' := F_are_parts'.binds (ps := ["value"]) fun _ _ _ _ _ _ us hl => match us, hl with | [_], _ => rfl
  have b_is_route' := F_is_route'.binds (ps := ["value"]) fun _ _ _ _ _ _ us hl => match us, hl with | [_], _ => rfl
  have b_is_table' := F_is_table'.binds (ps := ["value"]) fun _ _ _ _ _ _ us hl => match us, hl with | [_], _ => rfl
  have b_need_table' := F_need_table'.binds (ps := ["value"]) fun _ _ _ _ _ _ us hl => match us, hl with | [_], _ => rfl
  have b_are_segments' := F_are_segments'.binds (ps := ["value", "most"]) fun _ _ _ _ _ _ us hl => match us, hl with | [_, _], _ => rfl
  have b_is_path' := F_is_path'.binds (ps := ["value"]) fun _ _ _ _ _ _ us hl => match us, hl with | [_], _ => rfl
  have b_need_path' := F_need_path'.binds (ps := ["value"]) fun _ _ _ _ _ _ us hl => match us, hl with | [_], _ => rfl
  have b_rank' := F_rank'.binds (ps := ["part"]) fun _ _ _ _ _ _ us hl => match us, hl with | [_], _ => rfl
  have b_ranks' := F_ranks'.binds (ps := ["route"]) fun _ _ _ _ _ _ us hl => match us, hl with | [_], _ => rfl
  have b_ordered' := F_ordered'.binds (ps := ["table"]) fun _ _ _ _ _ _ us hl => match us, hl with | [_], _ => rfl
  have b_fits_part' := F_fits_part'.binds (ps := ["part", "segment"]) fun _ _ _ _ _ _ us hl => match us, hl with | [_, _], _ => rfl
  have b_values_of' := F_values_of'.binds (ps := ["parts", "path"]) fun _ _ _ _ _ _ us hl => match us, hl with | [_, _], _ => rfl
  have b_route_for' := F_route_for'.binds (ps := ["table", "path"]) fun _ _ _ _ _ _ us hl => match us, hl with | [_, _], _ => rfl
  have b_taken' := F_taken'.binds (ps := ["table", "path"]) fun _ _ _ _ _ _ us hl => match us, hl with | [_, _], _ => rfl
  have b_values' := F_values'.binds (ps := ["table", "path"]) fun _ _ _ _ _ _ us hl => match us, hl with | [_, _], _ => rfl
  have b_parts_of' := F_parts_of'.binds (ps := ["table", "title"]) fun _ _ _ _ _ _ us hl => match us, hl with | [_, _], _ => rfl
  have b_is_value' := F_is_value'.binds (ps := ["part", "value"]) fun _ _ _ _ _ _ us hl => match us, hl with | [_, _], _ => rfl
  have b_path_of' := F_path_of'.binds (ps := ["table", "title", "values"]) fun _ _ _ _ _ _ us hl => match us, hl with | [_, _, _], _ => rfl
  have b__law_values' := F__law_values'.binds (ps := ["parts", "path"]) fun _ _ _ _ _ _ us hl => match us, hl with | [_, _], _ => rfl
  have b_fitting' := F_fitting'.binds (ps := ["table", "path"]) fun _ _ _ _ _ _ us hl => match us, hl with | [_, _], _ => rfl
  have b__law_ranks' := F__law_ranks'.binds (ps := ["parts"]) fun _ _ _ _ _ _ us hl => match us, hl with | [_], _ => rfl
  have b__law_taken' := F__law_taken'.binds (ps := ["table", "path"]) fun _ _ _ _ _ _ us hl => match us, hl with | [_, _], _ => rfl
  have b__law_title' := F__law_title'.binds (ps := ["table", "path"]) fun _ _ _ _ _ _ us hl => match us, hl with | [_, _], _ => rfl
  have b_law' := F_law'.binds (ps := ["script"]) fun _ _ _ _ _ _ us hl => match us, hl with | [_], _ => rfl
  refine ⟨PySem.W.fnOf "law" "law" (defArgs (topS 49)) (defBody (topS 49)) (defScope (topS 49)) .none kV_law dc_law pm_law an_law cd_law ct_law, fun s v => .of_eq rfl, fun base _ _ => ?_⟩
  have ok__law_draw' := ok__law_draw (w := w) (P := l.prog) (mg := mg) (base := base) F__law_draw' m_len
  have c__law_draw : Cal l.prog w K mg base "_law_draw" 1 3 F__law_draw := ⟨_, _, _, ok__law_draw', PySem.W.mg_of X G a__law_draw, k__law_draw, b__law_draw'⟩
  have ok__law_pick' := ok__law_pick (w := w) (P := l.prog) (mg := mg) (base := base) F__law_pick' m_len c__law_draw
  have c__law_pick : Cal l.prog w K mg base "_law_pick" 2 3 F__law_pick := ⟨_, _, _, ok__law_pick', PySem.W.mg_of X G a__law_pick, k__law_pick, b__law_pick'⟩
  have ok__law_parts' := ok__law_parts (w := w) (P := l.prog) (mg := mg) (base := base) F__law_parts' m_range m_tuple c__law_draw c__law_pick
  have c__law_parts : Cal l.prog w K mg base "_law_parts" 3 2 F__law_parts := ⟨_, _, _, ok__law_parts', PySem.W.mg_of X G a__law_parts, k__law_parts, b__law_parts'⟩
  have ok__law_table' := ok__law_table (w := w) (P := l.prog) (mg := mg) (base := base) F__law_table' m_tuple c__law_draw c__law_parts c__law_pick
  have c__law_table : Cal l.prog w K mg base "_law_table" 4 3 F__law_table := ⟨_, _, _, ok__law_table', PySem.W.mg_of X G a__law_table, k__law_table, b__law_table'⟩
  have ok__law_given' := ok__law_given (w := w) (P := l.prog) (mg := mg) (base := base) F__law_given' m_isinstance m_str m_range m_tuple c__law_draw c__law_pick
  have c__law_given : Cal l.prog w K mg base "_law_given" 3 3 F__law_given := ⟨_, _, _, ok__law_given', PySem.W.mg_of X G a__law_given, k__law_given, b__law_given'⟩
  have ok_is_over' := ok_is_over (w := w) (P := l.prog) (mg := mg) (base := base) F_is_over' m_isinstance m_str m_len m_all
  have c_is_over : Cal l.prog w K mg base "is_over" 1 3 F_is_over := ⟨_, _, _, ok_is_over', PySem.W.mg_of X G a_is_over, k_is_over, b_is_over'⟩
  have ok_names_of' := ok_names_of (w := w) (P := l.prog) (mg := mg) (base := base) F_names_of' m_isinstance m_tuple
  have c_names_of : Cal l.prog w K mg base "names_of" 1 1 F_names_of := ⟨_, _, _, ok_names_of', PySem.W.mg_of X G a_names_of, k_names_of, b_names_of'⟩
  have ok_is_segment' := ok_is_segment (w := w) (P := l.prog) (mg := mg) (base := base) F_is_segment' g_LETTERS g_DIGITS c_is_over
  have c_is_segment : Cal l.prog w K mg base "is_segment" 2 1 F_is_segment := ⟨_, _, _, ok_is_segment', PySem.W.mg_of X G a_is_segment, k_is_segment, b_is_segment'⟩
  have ok_is_part' := ok_is_part (w := w) (P := l.prog) (mg := mg) (base := base) F_is_part' m_isinstance m_tuple m_len m_str g_KINDS g_LETTERS c_is_segment c_is_over
  have c_is_part : Cal l.prog w K mg base "is_part" 3 1 F_is_part := ⟨_, _, _, ok_is_part', PySem.W.mg_of X G a_is_part, k_is_part, b_is_part'⟩
  have ok_is_tail' := ok_is_tail (w := w) (P := l.prog) (mg := mg) (base := base) F_is_tail' m_isinstance m_tuple
  have c_is_tail : Cal l.prog w K mg base "is_tail" 1 1 F_is_tail := ⟨_, _, _, ok_is_tail', PySem.W.mg_of X G a_is_tail, k_is_tail, b_is_tail'⟩
  have ok_are_parts' := ok_are_parts (w := w) (P := l.prog) (mg := mg) (base := base) F_are_parts' m_isinstance m_tuple m_len m_all m_set m_any g_PARTS c_is_part c_names_of c_is_tail
  have c_are_parts : Cal l.prog w K mg base "are_parts" 4 1 F_are_parts := ⟨_, _, _, ok_are_parts', PySem.W.mg_of X G a_are_parts, k_are_parts, b_are_parts'⟩
  have ok_is_route' := ok_is_route (w := w) (P := l.prog) (mg := mg) (base := base) F_is_route' m_isinstance m_tuple m_len g_LETTERS c_is_over c_are_parts
  have c_is_route : Cal l.prog w K mg base "is_route" 5 1 F_is_route := ⟨_, _, _, ok_is_route', PySem.W.mg_of X G a_is_route, k_is_route, b_is_route'⟩
  have ok_is_table' := ok_is_table (w := w) (P := l.prog) (mg := mg) (base := base) F_is_table' m_isinstance m_tuple m_len m_str m_all m_set g_ROUTES c_is_route
  have c_is_table : Cal l.prog w K mg base "is_table" 6 1 F_is_table := ⟨_, _, _, ok_is_table', PySem.W.mg_of X G a_is_table, k_is_table, b_is_table'⟩
  have ok_need_table' := ok_need_table (w := w) (P := l.prog) (mg := mg) (base := base) F_need_table' c_is_table
  have c_need_table : Cal l.prog w K mg base "need_table" 7 1 F_need_table := ⟨_, _, _, ok_need_table', PySem.W.mg_of X G a_need_table, k_need_table, b_need_table'⟩
  have ok_are_segments' := ok_are_segments (w := w) (P := l.prog) (mg := mg) (base := base) F_are_segments' m_isinstance m_tuple m_len m_all c_is_segment
  have c_are_segments : Cal l.prog w K mg base "are_segments" 3 2 F_are_segments := ⟨_, _, _, ok_are_segments', PySem.W.mg_of X G a_are_segments, k_are_segments, b_are_segments'⟩
  have ok_is_path' := ok_is_path (w := w) (P := l.prog) (mg := mg) (base := base) F_is_path' g_PATH c_are_segments
  have c_is_path : Cal l.prog w K mg base "is_path" 4 1 F_is_path := ⟨_, _, _, ok_is_path', PySem.W.mg_of X G a_is_path, k_is_path, b_is_path'⟩
  have ok_need_path' := ok_need_path (w := w) (P := l.prog) (mg := mg) (base := base) F_need_path' c_is_path
  have c_need_path : Cal l.prog w K mg base "need_path" 5 1 F_need_path := ⟨_, _, _, ok_need_path', PySem.W.mg_of X G a_need_path, k_need_path, b_need_path'⟩
  have ok_rank' := ok_rank (w := w) (P := l.prog) (mg := mg) (base := base) F_rank' m_isinstance m_tuple
  have c_rank : Cal l.prog w K mg base "rank" 1 1 F_rank := ⟨_, _, _, ok_rank', PySem.W.mg_of X G a_rank, k_rank, b_rank'⟩
  have ok_ranks' := ok_ranks (w := w) (P := l.prog) (mg := mg) (base := base) F_ranks' c_rank
  have c_ranks : Cal l.prog w K mg base "ranks" 2 1 F_ranks := ⟨_, _, _, ok_ranks', PySem.W.mg_of X G a_ranks, k_ranks, b_ranks'⟩
  have ok_ordered' := ok_ordered (w := w) (P := l.prog) (mg := mg) (base := base) F_ordered' m_list m_sorted c_ranks
  have c_ordered : Cal l.prog w K mg base "ordered" 4 1 F_ordered := ⟨_, _, _, ok_ordered', PySem.W.mg_of X G a_ordered, k_ordered, b_ordered'⟩
  have ok_fits_part' := ok_fits_part (w := w) (P := l.prog) (mg := mg) (base := base) F_fits_part' m_isinstance m_tuple m_all g_DIGITS g_LETTERS
  have c_fits_part : Cal l.prog w K mg base "fits_part" 1 2 F_fits_part := ⟨_, _, _, ok_fits_part', PySem.W.mg_of X G a_fits_part, k_fits_part, b_fits_part'⟩
  have ok_values_of' := ok_values_of (w := w) (P := l.prog) (mg := mg) (base := base) F_values_of' m_len m_zip m_isinstance m_tuple c_is_tail c_fits_part
  have c_values_of : Cal l.prog w K mg base "values_of" 2 2 F_values_of := ⟨_, _, _, ok_values_of', PySem.W.mg_of X G a_values_of, k_values_of, b_values_of'⟩
  have ok_route_for' := ok_route_for (w := w) (P := l.prog) (mg := mg) (base := base) F_route_for' c_ordered c_values_of
  have c_route_for : Cal l.prog w K mg base "route_for" 5 2 F_route_for := ⟨_, _, _, ok_route_for', PySem.W.mg_of X G a_route_for, k_route_for, b_route_for'⟩
  have ok_taken' := ok_taken (w := w) (P := l.prog) (mg := mg) (base := base) F_taken' c_need_table c_need_path c_route_for
  have c_taken : Cal l.prog w K mg base "taken" 8 2 F_taken := ⟨_, _, _, ok_taken', PySem.W.mg_of X G a_taken, k_taken, b_taken'⟩
  have ok_values' := ok_values (w := w) (P := l.prog) (mg := mg) (base := base) F_values' c_need_table c_need_path c_route_for c_values_of
  have c_values : Cal l.prog w K mg base "values" 8 2 F_values := ⟨_, _, _, ok_values', PySem.W.mg_of X G a_values, k_values, b_values'⟩
  have ok_parts_of' := ok_parts_of (w := w) (P := l.prog) (mg := mg) (base := base) F_parts_of' 
  have c_parts_of : Cal l.prog w K mg base "parts_of" 1 2 F_parts_of := ⟨_, _, _, ok_parts_of', PySem.W.mg_of X G a_parts_of, k_parts_of, b_parts_of'⟩
  have ok_is_value' := ok_is_value (w := w) (P := l.prog) (mg := mg) (base := base) F_is_value' c_is_tail c_are_segments c_is_segment c_fits_part
  have c_is_value : Cal l.prog w K mg base "is_value" 4 2 F_is_value := ⟨_, _, _, ok_is_value', PySem.W.mg_of X G a_is_value, k_is_value, b_is_value'⟩
  have ok_path_of' := ok_path_of (w := w) (P := l.prog) (mg := mg) (base := base) F_path_of' m_isinstance m_dict m_len m_tuple c_need_table c_parts_of c_names_of c_is_value c_is_tail
  have c_path_of : Cal l.prog w K mg base "path_of" 8 3 F_path_of := ⟨_, _, _, ok_path_of', PySem.W.mg_of X G a_path_of, k_path_of, b_path_of'⟩
  have ok__law_values' := fn_rec (w := w) (P := l.prog) (base := base) (lv := 0) (PySem.W.mg_of X G a__law_values) k__law_values b__law_values' (fun j Fr hj c => ok__law_values F__law_values' m_isinstance m_tuple m_str m_len m_list m_dict c hj) 7
  have c__law_values : Cal l.prog w K mg base "_law_values" 7 2 F__law_values := ⟨_, _, _, ok__law_values', PySem.W.mg_of X G a__law_values, k__law_values, b__law_values'⟩
  have ok_fitting' := ok_fitting (w := w) (P := l.prog) (mg := mg) (base := base) F_fitting' c_need_table c_need_path c_values_of
  have c_fitting : Cal l.prog w K mg base "fitting" 8 2 F_fitting := ⟨_, _, _, ok_fitting', PySem.W.mg_of X G a_fitting, k_fitting, b_fitting'⟩
  have ok__law_ranks' := ok__law_ranks (w := w) (P := l.prog) (mg := mg) (base := base) F__law_ranks' m_isinstance m_str
  have c__law_ranks : Cal l.prog w K mg base "_law_ranks" 1 1 F__law_ranks := ⟨_, _, _, ok__law_ranks', PySem.W.mg_of X G a__law_ranks, k__law_ranks, b__law_ranks'⟩
  have ok__law_taken' := ok__law_taken (w := w) (P := l.prog) (mg := mg) (base := base) F__law_taken' m_min c__law_values c__law_ranks
  have c__law_taken : Cal l.prog w K mg base "_law_taken" 8 2 F__law_taken := ⟨_, _, _, ok__law_taken', PySem.W.mg_of X G a__law_taken, k__law_taken, b__law_taken'⟩
  have ok__law_title' := ok__law_title (w := w) (P := l.prog) (mg := mg) (base := base) F__law_title' c__law_taken
  have c__law_title : Cal l.prog w K mg base "_law_title" 9 2 F__law_title := ⟨_, _, _, ok__law_title', PySem.W.mg_of X G a__law_title, k__law_title, b__law_title'⟩
  have ok_law' := ok_law (w := w) (P := l.prog) (mg := mg) (base := base) F_law' m_range m_dict m_len m_isinstance m_str m_all c__law_table c__law_given c_path_of c__law_values c_taken c_fitting c__law_title c_values
  exact end_ok ok_law' hF
end Law

open PySem PySem.W PyProof.Rows
set_option maxHeartbeats 0 in
theorem PySem.Challenge.cw_pathroutes_k03_whole_path_of_holds : PySem.Challenge.rw_pathroutes_k03_whole_path_of.Holds := by
  w_on; o_law; k_head; (case hw => w_witness2)
  k_fill
  refine L2.walk_of (l := PySem.Challenge.rw_pathroutes_k03_whole_path_of) (n := 63) (k := 10) (x := "script") (CX := fun w => L2N.CX (PySem.Challenge.rw_pathroutes_k03_whole_path_of).prog w) (sp := fun w => FX.spEnd _) rfl (by decide) rfl ⟨rfl, by decide, by decide⟩ (fun w h Y => PySem.W.kIn_of Y) ?F (fun _ _ a ns hl _ hS => ⟨a, ns, rfl, hS, hl, fun _ => rfl⟩) (fun _ _ _ _ _ h => FX.cx_end h)
  case F =>
    intro w mg fa h KX G hmg
    refine' Law.all_mk KX G hmg ?a__law_draw ?l__law_draw ?o__law_draw ?k__law_draw ?a__law_pick ?l__law_pick ?o__law_pick ?k__law_pick ?a__law_parts ?l__law_parts ?o__law_parts ?k__law_parts ?a__law_table ?l__law_table ?o__law_table ?k__law_table ?a__law_given ?l__law_given ?o__law_given ?k__law_given ?a_is_over ?l_is_over ?o_is_over ?k_is_over ?a_names_of ?l_names_of ?o_names_of ?k_names_of ?a_is_segment ?l_is_segment ?o_is_segment ?k_is_segment ?a_is_part ?l_is_part ?o_is_part ?k_is_part ?a_is_tail ?l_is_tail ?o_is_tail ?k_is_tail ?a_are_parts ?l_are_parts ?o_are_parts ?k_are_parts ?a_is_route ?l_is_route ?o_is_route ?k_is_route ?a_is_table ?l_is_table ?o_is_table ?k_is_table ?a_need_table ?l_need_table ?o_need_table ?k_need_table ?a_are_segments ?l_are_segments ?o_are_segments ?k_are_segments ?a_is_path ?l_is_path ?o_is_path ?k_is_path ?a_need_path ?l_need_path ?o_need_path ?k_need_path ?a_rank ?l_rank ?o_rank ?k_rank ?a_ranks ?l_ranks ?o_ranks ?k_ranks ?a_ordered ?l_ordered ?o_ordered ?k_ordered ?a_fits_part ?l_fits_part ?o_fits_part ?k_fits_part ?a_values_of ?l_values_of ?o_values_of ?k_values_of ?a_route_for ?l_route_for ?o_route_for ?k_route_for ?a_taken ?l_taken ?o_taken ?k_taken ?a_values ?l_values ?o_values ?k_values ?a_parts_of ?l_parts_of ?o_parts_of ?k_parts_of ?a_is_value ?l_is_value ?o_is_value ?k_is_value ?a_path_of ?l_path_of ?o_path_of ?k_path_of ?a__law_values ?l__law_values ?o__law_values ?k__law_values ?a_fitting ?l_fitting ?o_fitting ?k_fitting ?a__law_ranks ?l__law_ranks ?o__law_ranks ?k__law_ranks ?a__law_taken ?l__law_taken ?o__law_taken ?k__law_taken ?a__law_title ?l__law_title ?o__law_title ?k__law_title ?a_law ?l_law ?o_law ?k_law ?z_all ?z_any ?z_dict ?z_isinstance ?z_len ?z_list ?z_min ?z_range ?z_set ?z_sorted ?z_str ?z_tuple ?z_zip ?y_LETTERS ?y_DIGITS ?y_KINDS ?w_KINDS ?y_PATH ?y_PARTS ?y_ROUTES Law.law_true
    (case a__law_draw => k_is)
    (case l__law_draw => k_is)
    (case o__law_draw => k_is)
    (case k__law_draw => k_is)
    (case a__law_pick => k_is)
    (case l__law_pick => k_is)
    (case o__law_pick => k_is)
    (case k__law_pick => k_is)
    (case a__law_parts => k_is)
    (case l__law_parts => k_is)
    (case o__law_parts => k_is)
    (case k__law_parts => k_is)
    (case a__law_table => k_is)
    (case l__law_table => k_is)
    (case o__law_table => k_is)
    (case k__law_table => k_is)
    (case a__law_given => k_is)
    (case l__law_given => k_is)
    (case o__law_given => k_is)
    (case k__law_given => k_is)
    (case a_is_over => k_is)
    (case l_is_over => k_is)
    (case o_is_over => k_is)
    (case k_is_over => k_is)
    (case a_names_of => k_is)
    (case l_names_of => k_is)
    (case o_names_of => k_is)
    (case k_names_of => k_is)
    (case a_is_segment => k_is)
    (case l_is_segment => k_is)
    (case o_is_segment => k_is)
    (case k_is_segment => k_is)
    (case a_is_part => k_is)
    (case l_is_part => k_is)
    (case o_is_part => k_is)
    (case k_is_part => k_is)
    (case a_is_tail => k_is)
    (case l_is_tail => k_is)
    (case o_is_tail => k_is)
    (case k_is_tail => k_is)
    (case a_are_parts => k_is)
    (case l_are_parts => k_is)
    (case o_are_parts => k_is)
    (case k_are_parts => k_is)
    (case a_is_route => k_is)
    (case l_is_route => k_is)
    (case o_is_route => k_is)
    (case k_is_route => k_is)
    (case a_is_table => k_is)
    (case l_is_table => k_is)
    (case o_is_table => k_is)
    (case k_is_table => k_is)
    (case a_need_table => k_is)
    (case l_need_table => k_is)
    (case o_need_table => k_is)
    (case k_need_table => k_is)
    (case a_are_segments => k_is)
    (case l_are_segments => k_is)
    (case o_are_segments => k_is)
    (case k_are_segments => k_is)
    (case a_is_path => k_is)
    (case l_is_path => k_is)
    (case o_is_path => k_is)
    (case k_is_path => k_is)
    (case a_need_path => k_is)
    (case l_need_path => k_is)
    (case o_need_path => k_is)
    (case k_need_path => k_is)
    (case a_rank => k_is)
    (case l_rank => k_is)
    (case o_rank => k_is)
    (case k_rank => k_is)
    (case a_ranks => k_is)
    (case l_ranks => k_is)
    (case o_ranks => k_is)
    (case k_ranks => k_is)
    (case a_ordered => k_is)
    (case l_ordered => k_is)
    (case o_ordered => k_is)
    (case k_ordered => k_is)
    (case a_fits_part => k_is)
    (case l_fits_part => k_is)
    (case o_fits_part => k_is)
    (case k_fits_part => k_is)
    (case a_values_of => k_is)
    (case l_values_of => k_is)
    (case o_values_of => k_is)
    (case k_values_of => k_is)
    (case a_route_for => k_is)
    (case l_route_for => k_is)
    (case o_route_for => k_is)
    (case k_route_for => k_is)
    (case a_taken => k_is)
    (case l_taken => k_is)
    (case o_taken => k_is)
    (case k_taken => k_is)
    (case a_values => k_is)
    (case l_values => k_is)
    (case o_values => k_is)
    (case k_values => k_is)
    (case a_parts_of => k_is)
    (case l_parts_of => k_is)
    (case o_parts_of => k_is)
    (case k_parts_of => k_is)
    (case a_is_value => k_is)
    (case l_is_value => k_is)
    (case o_is_value => k_is)
    (case k_is_value => k_is)
    (case a_path_of => k_is)
    (case l_path_of => k_is)
    (case o_path_of => k_is)
    (case k_path_of => k_is)
    (case a__law_values => k_is)
    (case l__law_values => k_is)
    (case o__law_values => k_is)
    (case k__law_values => k_is)
    (case a_fitting => k_is)
    (case l_fitting => k_is)
    (case o_fitting => k_is)
    (case k_fitting => k_is)
    (case a__law_ranks => k_is)
    (case l__law_ranks => k_is)
    (case o__law_ranks => k_is)
    (case k__law_ranks => k_is)
    (case a__law_taken => k_is)
    (case l__law_taken => k_is)
    (case o__law_taken => k_is)
    (case k__law_taken => k_is)
    (case a__law_title => k_is)
    (case l__law_title => k_is)
    (case o__law_title => k_is)
    (case k__law_title => k_is)
    (case a_law => k_is)
    (case l_law => k_is)
    (case o_law => k_is)
    (case k_law => k_is)
    (case z_all => k_is)
    (case z_any => k_is)
    (case z_dict => k_is)
    (case z_isinstance => k_is)
    (case z_len => k_is)
    (case z_list => k_is)
    (case z_min => k_is)
    (case z_range => k_is)
    (case z_set => k_is)
    (case z_sorted => k_is)
    (case z_str => k_is)
    (case z_tuple => k_is)
    (case z_zip => k_is)
    (case y_LETTERS => k_is)
    (case y_DIGITS => k_is)
    (case y_KINDS => k_is)
    (case w_KINDS => k_is)
    (case y_PATH => k_is)
    (case y_PARTS => k_is)
    (case y_ROUTES => k_is)
