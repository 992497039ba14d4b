import PyProof.Rows.All
import Wide.All
import OpenK.AllK
import Wide.FinOn
import HandS.ForMost
import HandS.Exc
import HandS.TryMany
import HandS.ExcInit
import HandS.WordsExc
import HandS.Finally
import HandS.HotCalls
import HandS.DictComp
import HandS.Conv
import HandS.IsInst
import HandS.Flow
import HandS.Deep
import HandS.OwnEq
import HandS.Walk
import HandS.Style
import HandS.More
import HandS.Star
import HandS.Wide
import HandS.DictTup
import KE.GoesMore
import KE.GoesZip
import KE.GoesEnum
import KE.SortData
import KE.KSortTupG
import PyProof.RulesMatch
import HandS.Codes
import HandS.Defaults
import HandS.ExcField
import KE.LtData
import KE.SortLaws
import KE.SortKeyed
import HandS.DictEq
import PyProof.ReprRoads
import PyProof.ReprLen
import HandS.HeadHook1
import PyProof.StrBlock2
import KE.KStateDown
import HandS.Head0
import HandS.Head1
import HandS.Head2
import HandS.HeadEnd
import HandS.HeadHook2
import HandS.HeadHook3
import HandS.HeadHook4
import PySem.Challenge.RW_thawedwrites_k38_whole_attempt_all_or_no
set_option Elab.async false
set_option linter.all false
set_option maxRecDepth 100000
/-! ## rules that the hand layer lacks -/
namespace L2
open PySem PySem.Spec PyProof.Rows
section
variable {X : Cx}
/-! ### match e: case "text": .. case _: .. -/
def tCases (K : Unit) : List (Option Str × TS) → V → TS
  | [], _ => tNext
  | (some z, t) :: r, v => fun D σ H => ∃ x, v = .str x ∧ if x = z then t D σ H else tCases K r v D σ H
  | (none, t) :: _, _ => t
inductive MCs (X : Cx) : List MatchCase → List (Option Str × TS) → Prop
  | nil : MCs X [] []
  | cons {z : Str} {j : Nat} {p1 p2 : Pos} {body : List Stmt} {t : TS} {cs : List MatchCase} {l : List (Option Str × TS)} (hb : PSs X body t) (r : MCs X cs l) :
      MCs X (⟨.MatchValue (.Constant (.str z) j p1) p2, none, body⟩ :: cs) ((some z, t) :: l)
  | wild {p : Pos} {body : List Stmt} {t : TS} {cs : List MatchCase} {l : List (Option Str × TS)} (hb : PSs X body t) : MCs X (⟨.MatchAs none none p, none, body⟩ :: cs) ((none, t) :: l)
theorem mcs_run : ∀ {cs : List MatchCase} {l : List (Option Str × TS)}, MCs X cs l → ∀ {first : Bool} {pins : List (Addr × Obj)} {s : Shared} {σ : St} {H : Hp} {D : Ends} {v : V} {u : Value}, Inv X pins σ H s → RelV v u → tCases () l v D σ H →
    wpAny (model X.prog X.w) X.A (matchCases cs X.env u first) (SP X pins D) X.xe s
  | _, _, .nil, first, pins, s, σ, H, D, v, u, I, r, h => wpAny_matchCases_nil ⟨σ, H, I, h⟩
  | _, _, .cons (z := z) (body := body) hb rest, first, pins, s, σ, H, D, v, u, I, r, h => by
    obtain ⟨x, rfl, h⟩ := h
    obtain ⟨t, rfl⟩ := r
    refine wpAny_matchCases_cons (wpAny_matchPattern_Value (Calls.Constant_str ?_))
    refine eq_str (wpAny_truthy_bool ?_)
    have I1 := I.tok (s.toks + 1)
    by_cases e : x = z
    · subst e
      rw [if_pos rfl] at h
      simp only [beq_self_eq_true, if_true]
      exact wpAny_assignInOrder_none (hb.run pins _ σ H D I1 h)
    · rw [if_neg e] at h
      have : (x == z) = false := by simp [e]
      simp only [this]
      exact mcs_run rest I1 (v := .str x) ⟨t, rfl⟩ h
  | _, _, .wild hb, first, pins, s, σ, H, D, v, u, I, r, h =>
    wpAny_matchCases_cons (wpAny_matchPattern_Capture (wpAny_assignInOrder_none (hb.run pins s σ H D I h)))
def tMatch (te : TE) (l : List (Option Str × TS)) : TS := fun D σ H => te σ H fun v H1 => tCases () l v D σ H1
theorem ps_match {e : Expr} {te : TE} {cs : List MatchCase} {l : List (Option Str × TS)} {pos : Pos} (he : PE X e te) (h : MCs X cs l) : PS X (.Match e cs pos) (tMatch te l) :=
  ⟨fun pins s σ H D I hw => wpAny_Match (thn (he.run pins s σ H _ I hw) fun u s1 ⟨v, H1, I1, r, q⟩ => mcs_run h I1 r q)⟩
/-! ### (x := e) op c and d, as a test -/
def wAndP (ta : TTw) (tb : TT) : TTw := fun σ H Q => ta σ H fun c σ1 H1 => if c = true then tb σ1 H1 (fun c H2 => Q c σ1 H2) else Q false σ1 H1
theorem ptw_andP {a b : Expr} {ta : TTw} {tb : TT} {pos : Pos} (ha : PTw X a ta) (hb : PT X b tb) : PTw X (.BoolOp .And [a, b] pos) (wAndP ta tb) := by
  refine ⟨fun pins s σ H Q I h => ?_⟩
  refine isTrue_and (thn (ha.run pins s σ H _ I h) fun c s1 ⟨σ1, H1, I1, q1⟩ => ?_)
  cases c with
  | false => exact ⟨σ1, H1, I1, q1⟩
  | true =>
    refine isTrue_and (thn (hb.run pins s1 σ1 H1 _ I1 q1) fun c s2 ⟨H2, I2, q2⟩ => ?_)
    cases c with
    | false => exact ⟨σ1, H2, I2, q2⟩
    | true => exact isTrue_and_nil ⟨σ1, H2, I2, q2⟩
end
end L2
/-! ### None asked of a dict whose keys are tuples -/
namespace TwN
open PySem PySem.Spec PyProof.Rows
section
variable {prog : Program} {w : World} {K : Type} [DecidableEq K] {knd : PySem.KeyKind prog w K} {A : Around} {E : Value → Shared → Prop} {s : Shared}
theorem dictFind_none {d : Addr} {o : Obj} {es : Array DictEntry} {ep : Nat} {xs : List (List K × Addr × Value)} {hsh : Int} {Q : Option Nat → Shared → Prop} (hu : A.units < cLine) (ho : s.heap.get? d = some o) (hd : o.data = .dict es ep)
    (he : es.toList = xs.map (entryOfKey (tupleKind knd))) (his : ∀ x ∈ xs, (tupleKind knd).is s.heap x.1 x.2.1) (h : Q none s) : wpAny (model prog w) A (dictFind d .none hsh) Q E s := by
  have hmem : ∀ e ∈ es, ∃ x ∈ xs, e = entryOfKey (tupleKind knd) x := by
    intro e hin
    have : e ∈ xs.map (entryOfKey (tupleKind knd)) := he ▸ Array.mem_toList_iff.mpr hin
    obtain ⟨x, hx, rfl⟩ := List.mem_map.mp this
    exact ⟨x, hx, rfl⟩
  have hst : ∀ v ∈ (placesWithHash es.size (fun i => es[i]?.map (·.hash)) hsh).filterMap (fun i => es[i]?.map (·.key)), ∃ k' b, v = .ref b ∧ (tupleKind knd).is s.heap k' b := by
    intro v hv
    obtain ⟨i, _, hi⟩ := List.mem_filterMap.mp hv
    cases hei : es[i]? with
    | none => rw [hei] at hi; cases hi
    | some e =>
      rw [hei] at hi
      obtain rfl : e.key = v := by simpa using hi
      obtain ⟨x, hx, rfl⟩ := hmem e (Array.mem_of_getElem? hei)
      exact ⟨x.1, x.2.1, rfl, his x hx⟩
  have hpl : ∀ i ∈ placesWithHash es.size (fun i => es[i]?.map (·.hash)) hsh, ∃ k' b v', es[i]? = some ⟨(tupleKind knd).hash k', .ref b, v'⟩ ∧ (tupleKind knd).is s.heap k' b := by
    intro i hi
    unfold placesWithHash at hi
    obtain ⟨hr, _⟩ := List.mem_filter.mp hi
    have hlt : i < es.size := List.mem_range.mp hr
    obtain ⟨x, hx, e⟩ := hmem es[i] (Array.getElem_mem hlt)
    exact ⟨x.1, x.2.1, x.2.2, by rw [Array.getElem?_eq_getElem hlt, e]; rfl, his x hx⟩
  unfold dictFind
  try with_reducible refine wpAny_holding ?_
  refine wpAny_bind (wpAny_dictEntries ho hd ?_)
  dsimp only
  generalize placesWithHash es.size (fun i => es[i]?.map (·.hash)) hsh = places at hst hpl
  by_cases hall : ((Value.none :: places.filterMap (fun i => es[i]?.map (·.key))).all carriedByValue) = true
  · rw [if_pos hall]
    have hp : places = [] := by
      cases places with
      | nil => rfl
      | cons i r =>
        obtain ⟨k', b, v', e, _⟩ := hpl i List.mem_cons_self
        rw [List.filterMap_cons, e] at hall
        simp [carriedByValue] at hall
    subst hp
    unfold dictWalkPlain
    exact wpAny_pure h
  · rw [if_neg hall]
    by_cases hone : ((places.filterMap (fun i => es[i]?.map (·.key))) == [Value.none]) = true
    · exfalso
      have e := beq_iff_eq.mp hone
      obtain ⟨_, _, z, _⟩ := hst .none (by rw [e]; exact List.mem_singleton.mpr rfl)
      cases z
    · rw [if_neg hone]
      have quiet : ∀ {Q : Bool → Shared → Prop}, Q false s → wpAny (model prog w) A (tableMayTell .none (places.filterMap (fun i => es[i]?.map (·.key)))) Q E s := by
        intro Q hq
        unfold tableMayTell
        split
        · exact wpAny_pure hq
        · refine wpAny_bind ?_
          rw [eqIsQuiet_byValue 8 rfl]
          refine wpAny_pure ?_
          simp only [Bool.not_true, Bool.false_eq_true, if_false]
          refine wpAny_bind ?_
          refine wpAny_forIn_list _ (fun rest r s' => s' = s ∧ r = (none, ()) ∧ ∀ v ∈ rest, ∃ k' b, v = .ref b ∧ (tupleKind knd).is s.heap k' b) _ ?_ ?_ _ _ ⟨rfl, rfl, hst⟩
          · rintro x rest r s' ⟨rfl, rfl, hr⟩
            obtain ⟨k', b, rfl, hb⟩ := hr x List.mem_cons_self
            refine wpAny_bind ((tupleKind knd).quiet hb ?_)
            simp only [Bool.not_true, Bool.false_eq_true, if_false]
            exact wpAny_pure ⟨rfl, rfl, fun v hv => hr v (List.mem_cons_of_mem _ hv)⟩
          · rintro r s' ⟨rfl, rfl, _⟩
            exact wpAny_pure hq
      refine wpAny_bind (quiet ?_)
      rw [if_neg (by simp)]
      refine wpAny_bind ?_
      refine wpAny_forIn_list _ (fun rest b s' => s' = s ∧ b = (none, none) ∧ ∀ i ∈ rest, ∃ k' b v', es[i]? = some ⟨(tupleKind knd).hash k', .ref b, v'⟩ ∧ (tupleKind knd).is s.heap k' b) _ ?_ ?_ _ _ ⟨rfl, rfl, hpl⟩
      · rintro i rest b s' ⟨rfl, rfl, hr⟩
        obtain ⟨k', b, v', e, hb⟩ := hr i List.mem_cons_self
        have hr' := fun j (hj : j ∈ rest) => hr j (List.mem_cons_of_mem _ hj)
        rw [e]
        dsimp only
        by_cases hh : ((tupleKind knd).hash k' == hsh) = true
        · rw [if_pos hh]
          obtain ⟨ob, items, n, g1, g2, g3, _⟩ := hb
          refine wpAny_bind (wpAny_dictEpoch ho hd (wpAny_bind ((SeqAt.EqAt.tuple_none (items := items) ⟨ob, g1, g2, n, g3⟩ hu) _ _ _ _ (wpAny_bind (wpAny_dictEpoch ho hd ?_)))))
          show wpAny _ _ (if (ep != ep) = true then _ else _) _ E _
          rw [if_neg (by simp)]
          simp only [Bool.false_eq_true, if_false]
          refine wpAny_bind (wpAny_rule ?_)
          first | rw [if_neg (by simp)] | skip
          first
            | exact wpAny_pure ⟨rfl, rfl, hr'⟩
            | exact wpAny_bind (wpAny_pure (wpAny_pure ⟨rfl, rfl, hr'⟩))
        · rw [if_neg hh]
          exact wpAny_pure ⟨rfl, rfl, hr'⟩
      · rintro b s' ⟨rfl, rfl, _⟩
        exact wpAny_pure h
theorem dictGet_none {d : Addr} {xs : List (List K × Addr × Value)} {Q : Option Value → Shared → Prop} (hu : A.units < cLine) (hm : s.heap.DictOfH (tupleKind knd) d xs) (h : ∀ tk, Q none { s with toks := tk }) : wpAny (model prog w) A (dictGet d .none) Q E s := by
  obtain ⟨o, es, ep, ho, _, hd, he, his, hn⟩ := hm
  unfold dictGet
  try with_reducible refine wpAny_holding ?_
  refine wpAny_bind (PySem.W.pyHash_slot (T := "NoneType") rfl PySem.F.slot_NoneType_hash PySem.F.entry_NoneType_hash (PySem.F.args_NoneType_hash_1 _) (PySem.beq_builtin_none _) (.inl rfl) (wpAny_bind (wpAny_pure (wpAny_bind (wpAny_mkInt (wpAny_pure ⟨_, _, rfl, ?_⟩))))))
  refine wpAny_bind (dictFind_none (s := { s with toks := _ }) hu ho hd he his ?_)
  exact wpAny_pure (h _)
theorem meets_get_none {d : Addr} (hd : (d == sysModules) = false) :
    MeetsIn prog w (Builtin.«dict.get» ⟨[.ref d, .none], []⟩) (fun A R s => A.in1.units < cLine ∧ ∃ xs, s.heap.DictOfH (tupleKind knd) d xs ∧ ∀ tk, R (.ok (.ret .none)) { s with toks := tk }) :=
  .of_wp fun A R s ⟨hu, xs, hm, h⟩ => by
    show wpAny _ _ (dictGet d .none >>= _) _ _ s
    refine wpAny_bind (dictGet_none hu hm fun tk => ?_)
    show wpAny _ _ (Builtin.Dict.missed d .none >>= _) _ _ _
    exact wpAny_bind (wpAny_missed_other hd (wpAny_pure ⟨.none, rfl, h tk⟩))
end
end TwN
namespace L2
open PySem PySem.Spec PyProof.Rows
section
variable {X : Cx}
/-- what the dict at a holds at y; y may be None where the keys are tuples -/
def DGetN (H : Hp) (a : Addr) (y : V) (r : Option V) : Prop := DGet H a y r ∨ (y = .non ∧ r = none ∧ ∃ kvs, Rd H a (.dT kvs))
theorem d_getN {pins : List (Addr × Obj)} {σ : St} {H : Hp} {s : Shared} {a : Addr} {y : V} {u : Value} {o : Option V} {A : Around} {E : Value → Shared → Prop} {Q : Value → Shared → Prop} (hu : A.units + 1 < cLine) (I : Inv X pins σ H s) (g : DGetN H a y o) (ry : RelV y u)
    (h : ∀ w' s', Inv X pins σ H s' → RelV (o.getD .non) w' → Q w' s') : wpAny (model X.prog X.w) A (call (.builtin "dict.get") [.ref a, u]) Q E s := by
  rcases g with g | ⟨rfl, rfl, kvs, e⟩
  · exact d_get1 hu I g ry h
  · cases ry
    obtain ⟨z, hd, xs, rel, dd⟩ := dt_rd I.hok e
    exact call_meetsIn PySem.F.slot_dict_get dd.typeIs PySem.F.entry_dict_get (PySem.F.args_dict_get_2 _ _) (TwN.meets_get_none (knd := mixKind X.prog X.w) hd) ⟨tupleKind_room_in1 (knd := mixKind X.prog X.w) hu, xs, dd, fun tk => h _ _ (I.tok _) rfl⟩
def tDGetN (td ty : TE) : TE := fun σ H Q => td σ H fun x H1 => ∃ a, x = .ref a ∧ IsD H1 a ∧ ty σ H1 fun y H2 => ∃ o, DGetN H2 a y o ∧ Q (o.getD .non) H2
theorem pe_dgetN {o e : Expr} {apos cpos : Pos} {td ty : TE} (hu : X.A.units + 1 < cLine) (ho : PE X o td) (he : PE X e ty) (m : M1 X o "get" apos e cpos) : PE X (.Call (.Attribute o "get" apos) [e] [] cpos) (tDGetN td ty) := by
  refine ⟨fun pins s σ H Q I h => ?_⟩
  refine wpAny_Call_method m.base m.few m.line PySem.F.plainAttrs_dict PySem.F.slot_dict_get PySem.F.type_dict_get (thn (ho.run pins s σ H _ I h) fun u s1 ⟨x, H1, I1, rx, a, ex, d, q1⟩ => ?_)
  subst ex
  obtain rfl : u = Value.ref a := rx
  obtain ⟨t1, t2, _⟩ := isD_at I1 d
  refine ⟨t1, t2, ?_⟩
  rw [m.trees]
  refine Calls.callWith_builtin rfl (Calls.evalArgs_plain (Calls.spliced_cons (thn (he.run pins s1 σ H1 _ I1 q1) fun iv s2 ⟨y, H2, I2, ry, ov, g, q2⟩ => Calls.spliced_nil ?_)))
  exact d_getN hu I2 g ry fun w' s3 I3 rw' => ⟨_, H2, I3, rw', q2⟩
end
/-! ### items() of a dict whose keys are tuples -/
section
variable {X : Cx} {pins : List (Addr × Obj)} {σ : St} {H : Hp} {s : Shared} {d : Addr} {o : Obj}
theorem Inv.frzTV {kvs : List (List Key × V)} (I : Inv X pins σ H s) (h : H d = some (.frz o (.dT kvs))) :
    (d == sysModules) = false ∧ s.heap.get? d = some o ∧ o.ExactDict ∧ ∃ (es : Array DictEntry) (ep : Nat), o.data = .dict es ep ∧ es.size = kvs.length ∧
      ∀ (i : Nat) (k : List Key) (v : V), kvs[i]? = some (k, v) → ∃ (en : DictEntry) (q : Addr), es[i]? = some en ∧ en.key = .ref q ∧ H q = some (.tup (k.map kV)) ∧ RelV v en.val := by
  obtain ⟨hd, z, hs, xs, pr, o', es, ep, ho, hx, hdt, he, _⟩ := I.hok d _ h
  rw [hd] at ho
  cases ho
  refine ⟨hs, hd, hx, es, ep, hdt, ?_, fun i k v e => ?_⟩
  · have l1 : es.size = xs.length := size_of_entries he
    have l2 : kvs.length = xs.length := Paired.length pr
    omega
  · obtain ⟨b, hb, e1, e2, e3⟩ := paired_get pr e
    have q := entry_at he i
    rw [hb] at q
    exact ⟨_, b.2.1, q, rfl, e2, e3⟩
end
/-- the pairs, each a new tuple of the key's own tuple and the value -/
def ItiT (d : Addr) (o : Obj) (kvs : List (List Key × V)) : It :=
  ⟨fun i H => H d = some (.frz o (.dT kvs)) ∧ i < kvs.length, fun i H x H' => ∃ T k v q, kvs[i]? = some (k, v) ∧ H q = some (.tup (k.map kV)) ∧ x = .ref T ∧ H T = none ∧ H' = upd H T (.tup [.ref q, v]), fun i H => H d = some (.frz o (.dT kvs)) ∧ kvs.length ≤ i⟩
section
variable {P : Program} {w : World} {K : PySem.W.Frag} {tg : Expr} {d : Addr} {o : Obj} {es : Array DictEntry} {ep : Nat}
theorem turn_itemsT {kvs : List (List Key × V)} {elts : List Expr} {kk : Nat} {tpos : Pos} (it : Addr) (hod : o.data = .dict es ep) :
    Turn P w K (.Tuple elts kk tpos) (ItiT d o kvs) [it] it (fun i h => ∃ ok ov, IsItemIter h it d i kvs.length ep ok ov) where
  mem := by simp
  obj := fun i h st b hb => by
    have e : b = it := by simpa using hb
    subst e
    obtain ⟨ok, ov, e⟩ := st
    exact ⟨_, e, fun v z => nomatch z⟩
  keep := fun i h h' st k => let ⟨ok, ov, e⟩ := st; ⟨ok, ov, k it (by simp) _ e⟩
  item := by
    intro X hP hw hK hc i pins s σ H E I hf st hg
    subst hP hw hK
    obtain ⟨hd, hi⟩ := hg
    obtain ⟨hs, hgd, hx, es', ep', hdt, hsz, ent⟩ := I.frzTV hd
    obtain ⟨rfl, rfl⟩ := dict_ep hod hdt
    obtain ⟨⟨k, v⟩, hkv⟩ : ∃ p, kvs[i]? = some p := ⟨kvs[i], List.getElem?_eq_getElem hi⟩
    obtain ⟨en, q, hen, hkey, hq, rv⟩ := ent i k v hkv
    obtain ⟨ok, ov, he⟩ := st
    rw [← hsz] at he
    have hlt : it < s.heap.objs.size := Heap.lt_size he
    have his : i < es'.size := by rw [hsz]; exact hi
    refine DT.nextI (es := es') he ⟨o, hgd, hx, hdt⟩ his fun h' ho hT hz hk => ?_
    have een : es'[i] = en := by
      rw [Array.getElem?_eq_getElem his] at hen
      exact Option.some.inj hen
    rw [een] at ho hT
    refine ⟨_, rfl, wpAny_letOwnedTupleGo_items (s := { s with heap := h' }) ho fun h'' he' sb => ?_⟩
    have hT2 : h''.get? s.heap.objs.size = some { cls := .type "tuple", data := .seq #[en.key, en.val] } := (sb.2 _ (Nat.ne_of_gt hlt)).trans hT
    have new : ObjOk X.prog X.w (upd H s.heap.objs.size (.tup [.ref q, v])) h'' s.heap.objs.size (.tup [.ref q, v]) :=
      ⟨by show 2 ≤ sizeLine; decide, [en.key, en.val], .cons hkey (.cons rv .nil), ⟨_, hT2, rfl, _, rfl⟩⟩
    have I1 : Inv X pins σ (upd H s.heap.objs.size (.tup [.ref q, v])) { s with heap := h'' } :=
      I.turnedNew (t' := s.toks) (ch := [it]) (fun b ob hb e => (sb.2 b (by simpa using hb)).trans (hk b ob (by simpa using hb) e)) hf (Nat.le_refl _) new
    refine ⟨.ref s.heap.objs.size, _, I1, rfl, ⟨_, k, v, q, hkv, hq, rfl, I.hok.fresh (Nat.le_refl _), rfl⟩, ⟨en.key, en.val, ?_⟩, fun b hb => ?_⟩
    · rw [← hsz]; exact he'
    · have e : b = it := by simpa using hb
      rw [e, upd_ne (Nat.ne_of_lt hlt)]
      exact (hf it (by simp)).1
  done := by
    intro X hP hw hK hc i pins s σ H E I hf st hg
    subst hP hw hK
    obtain ⟨hd, hi⟩ := hg
    obtain ⟨f0, f1, f2, f3, f4, f5⟩ := hf it (by simp)
    obtain ⟨hs, hgd, hx, es', ep', hdt, hsz, ent⟩ := I.frzTV hd
    obtain ⟨rfl, rfl⟩ := dict_ep hod hdt
    obtain ⟨ok, ov, he⟩ := st
    rw [← hsz] at he
    exact DT.endI (I.ok.hd hc) he ⟨o, hgd, hx, hdt⟩ (by omega) fun h' eb => ⟨rfl, I.turned (t' := s.toks) (fun b ob hb e => eb b ob hb e) f0 f1 f3 f4 f5⟩
  self := fun A i s Q E st h => let ⟨_, _, e⟩ := st; PySem.W.kcp_self e h
end
def iItemsT (td : TE) : TI := fun σ H R => td σ H fun x H1 => ∃ d o kvs, x = .ref d ∧ H1 d = some (.frz o (.dT kvs)) ∧ R (ItiT d o kvs) H1
/-- items() of a dict that no name holds: it is known from there on -/
def iItemsF (td : TE) : TI := fun σ H R => td σ H fun x H1 => ∃ d kvs, x = .ref d ∧ H1 d = some (.dK kvs) ∧ ∀ o, R (Iti d o kvs) (upd H1 d (.frz o (.dK kvs)))
section
variable {X : Cx} {e : Expr} {td : TE} {apos cpos : Pos}
theorem pi_itemsT {elts : List Expr} {kk : Nat} {tpos : Pos} (he : PE X e td) (hbase : attributeBase e "items" X.env (eval e X.env) = eval e X.env := by rfl) (hline : (apos.endLine == cpos.line) = true := by rfl) :
    PI X (.Tuple elts kk tpos) (.Call (.Attribute e "items" apos) [] [] cpos) (iItemsT td) := by
  refine ⟨fun pins s σ H R I h => ?_⟩
  refine wpAny_Call_method (T := "dict") (id := "dict.items") hbase rfl hline F.plainAttrs_dict F.slot_dict_items F.type_dict_items (thn (he.run pins s σ H _ I h) fun u s1 ⟨x, H1, I1, rx, d, o, kvs, ex, hd, q⟩ => ?_)
  subst ex
  obtain rfl : u = Value.ref d := rx
  obtain ⟨hs, hgd, hx, es, ep, hdt, hsz, ent⟩ := I1.frzTV hd
  have hraw : DT.Raw s1.heap d es ep := ⟨o, hgd, hx, hdt⟩
  have hty : s1.TypeIs (.ref d) "dict" := hraw.typeIs
  refine ⟨hty, fun b hb => ?_, ?_⟩
  · cases hb
    exact ⟨o, hgd, hx.2.1⟩
  have I2 : Inv X pins σ H1 { s1 with heap := s1.heap.push { cls := .type "dict_items", data := .fields #[.ref d] } } := I1.kept (t' := s1.toks) fun b ob q => Heap.get?_push_of_some _ q
  have fin : wpAny (model X.prog X.w) X.A (pyIter (.ref s1.heap.objs.size)) (PIE X pins σ (.Tuple elts kk tpos) R) X.xe { s1 with heap := s1.heap.push { cls := .type "dict_items", data := .fields #[.ref d] } } := by
    refine DT.iterI (d := d) ⟨_, Heap.get?_push_size _ rfl, rfl, rfl⟩ (hraw.push _) (pi_one (tk := s1.toks) I2 _ (turn_itemsT _ hdt) ⟨.none, .none, ?_⟩ q)
    rw [← hsz]
    exact Heap.get?_push_size _ rfl
  show wpAny _ _ (callWith cpos (.builtin "dict.items") [.ref d] [] []) _ X.xe s1
  exact method_meetsIn F.slot_dict_items F.entry_dict_items rfl (PySem.evalArgs_none ⟨rfl, hty, F.args_dict_items_1 _, _, DT.meetsItems hs, ⟨hraw, fin⟩⟩)
theorem pi_itemsF {elts : List Expr} {kk : Nat} {tpos : Pos} (he : PE X e td) (hbase : attributeBase e "items" X.env (eval e X.env) = eval e X.env := by rfl) (hline : (apos.endLine == cpos.line) = true := by rfl) :
    PI X (.Tuple elts kk tpos) (.Call (.Attribute e "items" apos) [] [] cpos) (iItemsF td) := by
  refine ⟨fun pins s σ H R I h => ?_⟩
  refine wpAny_Call_method (T := "dict") (id := "dict.items") hbase rfl hline F.plainAttrs_dict F.slot_dict_items F.type_dict_items (thn (he.run pins s σ H _ I h) fun u s1 ⟨x, H0, I0, rx, d, kvs, ex, hd0, q0⟩ => ?_)
  subst ex
  obtain rfl : u = Value.ref d := rx
  obtain ⟨o, I1⟩ := I0.lock hd0 trivial
  have q := q0 o
  have hd : upd H0 d (.frz o (.dK kvs)) d = some (.frz o (.dK kvs)) := upd_same
  obtain ⟨hs, hgd, hx, es, ep, vs, hdt, hsz, kv, hm⟩ := I1.frzK hd
  have hl : kvs.length = vs.length := Paired.length kv
  refine ⟨hm.dictOf.typeIs, hm.dictOf.mapOf.noDict, ?_⟩
  have I2 : Inv X pins σ (upd H0 d (.frz o (.dK kvs))) { s1 with heap := s1.heap.push { cls := .type "dict_items", data := .fields #[.ref d] } } := I1.kept (t' := s1.toks) fun b ob q => Heap.get?_push_of_some _ q
  have fin : wpAny (model X.prog X.w) X.A (pyIter (.ref s1.heap.objs.size)) (PIE X pins σ (.Tuple elts kk tpos) R) X.xe { s1 with heap := s1.heap.push { cls := .type "dict_items", data := .fields #[.ref d] } } := by
    refine wpAny_pyIter_items (d := d) (knd := mixKind X.prog X.w) ⟨_, Heap.get?_push_size _ rfl, rfl, rfl⟩ (hm.push _) (pi_one (tk := s1.toks) I2 _ (turn_items _ hdt) ⟨.none, .none, ?_⟩ q)
    rw [hl]
    exact Heap.get?_push_size _ rfl
  show wpAny _ _ (callWith cpos (.builtin "dict.items") [.ref d] [] []) _ X.xe s1
  exact method_meetsIn F.slot_dict_items F.entry_dict_items rfl (PySem.evalArgs_none ⟨rfl, hm.dictOf.typeIs, F.args_dict_items_1 _, _, meets_dict_items (mixKind X.prog X.w) d hs, ⟨vs, hm.dictOf⟩, fin⟩)
end
end L2
namespace L2
open PySem PySem.Spec PyProof.Rows
theorem tup_ne_iter {h : Heap} {a it : Addr} {items : Array Value} {i : Nat} (p : IsTup h a items) (q : h.IsTupleIter it a i) : a ≠ it := by
  intro e
  subst e
  obtain ⟨o, ho, hc, _⟩ := p
  obtain ⟨o', ho', hc', _⟩ := q
  rw [ho] at ho'
  cases ho'
  rw [hc] at hc'
  injection hc' with e
  exact absurd e (by decide)
theorem tup_ne_obj {h : Heap} {a b : Addr} {items : Array Value} {o : Obj} (p : IsTup h a items) (q : h.get? b = some o) (hc : o.cls ≠ .type "tuple") : b ≠ a := by
  intro e
  subst e
  obtain ⟨o1, ho, hc1, _⟩ := p
  rw [ho] at q
  cases q
  exact hc hc1
/-! ### enumerate(tuple) -/
set_option maxHeartbeats 1000000 in
theorem meets_enumerate_new1 {v : Value} {o : Obj} {H : Heap → Prop} (B : Begins v o H) :
    Meets (Builtin.«enumerate.__new__» ⟨[.type "enumerate", v], []⟩) (fun _ R s => H s.heap ∧
      R (.ok (.ret (.ref (s.heap.push o).objs.size))) { s with heap := (s.heap.push o).push { cls := .type "enumerate", data := .fields #[.none, .bool false, .ref s.heap.objs.size, rawInt 0, .none, .none] } }) :=
  .of_wp fun prog w A R s h => by
    obtain ⟨hp, g, d, tk, os⟩ := s; obtain ⟨h1, h⟩ := h
    have hsub := sub_enumerate
    have q1 : ∀ {A' : Around} {E : Value → Shared → Prop} {Q : Value → Shared → Prop}, Q (.ref hp.objs.size) ⟨hp.push o, g, d, tk, os⟩ → wpAny (model prog w) A' (pyIter v) Q E ⟨hp, g, d, tk, os⟩ :=
      fun q => B.iter prog w _ _ ⟨hp, g, d, tk, os⟩ _ h1 q
    wp_walk using q1
    refine wpAny_stack_any fun st => wpAny_pure ?_
    split
    · rename_i c _ _ _ _ _
      cases (c == Value.type "enumerate")
      · wp_walk using q1
        exact ⟨_, rfl, h⟩
      · wp_walk using q1
        exact ⟨_, rfl, h⟩
    · wp_walk using q1
      exact ⟨_, rfl, h⟩
section
variable {prog : Program} {w : World} {A : Around} {E : Value → Shared → Prop} {s : Shared}
theorem enum_begins1 {v : Value} {o : Obj} {H : Heap → Prop} {Q : Value → Shared → Prop} (B : Begins v o H) (h1 : H s.heap)
    (h : ∀ h', IsEnum h' (s.heap.objs.size + 1) s.heap.objs.size 0 .none → h'.get? s.heap.objs.size = some o → h'.objs.size = s.heap.objs.size + 2 →
      (∀ b o, s.heap.get? b = some o → h'.get? b = some o) → Q (.ref (s.heap.objs.size + 1)) { s with heap := h' }) :
    wpAny (model prog w) A (call (.type "enumerate") [v]) Q E s := by
  refine callType_new F.called_enumerate (by decide) (F.typeCall_enumerate_1 _) (F.newCall_enumerate_1 _) (fun obj => F.args_object_init_2 obj _) F.entry_enumerate_new
    (meets_enumerate_new1 B) ⟨h1, ?_⟩
  have hz : (s.heap.push o).objs.size = s.heap.objs.size + 1 := Heap.size_push ..
  show _ ∧ _
  rw [hz]
  have he : IsEnum ((s.heap.push o).push { cls := .type "enumerate", data := .fields #[.none, .bool false, .ref s.heap.objs.size, rawInt 0, .none, .none] }) (s.heap.objs.size + 1) s.heap.objs.size 0 .none := by
    have := Heap.get?_push_size (s.heap.push o) (o := { cls := .type "enumerate", data := .fields #[.none, .bool false, .ref s.heap.objs.size, rawInt 0, .none, .none] }) rfl
    rw [hz] at this; exact this
  refine ⟨⟨_, he, rfl⟩, h _ he (Heap.get?_push_of_some _ (Heap.get?_push_size _ B.free)) (by rw [Heap.size_push, hz]) fun b o x => Heap.get?_push_of_some _ (Heap.get?_push_of_some _ x)⟩
end
def IteT (K : PySem.W.Frag) (a : Addr) : It :=
  ⟨fun i H => ∃ (xs : List V) (x : V), SqT K H a xs ∧ xs[i]? = some x, fun i H v H' => ∃ T x, v = .ref T ∧ H T = none ∧ H' = upd H T (.tup [.int (i : Nat), x]) ∧ ∀ xs, SqT K H a xs → xs[i]? = some x, fun i H => ∃ xs : List V, SqT K H a xs ∧ xs.length = i⟩
theorem turn_enumT {P : Program} {w : World} {K : PySem.W.Frag} {elts : List Expr} {kk : Nat} {tpos : Pos} (a e it : Addr) :
    Turn P w K (.Tuple elts kk tpos) (IteT K a) [e, it] e (fun i h => (∃ old, IsEnum h e it ((i : Nat) : Int) old) ∧ h.IsTupleIter it a i ∧ e ≠ it) where
  mem := by simp
  obj := fun i h st b hb => by
    obtain ⟨⟨old, he⟩, ⟨o, ho, hc, hd⟩, _⟩ := st
    have e' : b = e ∨ b = it := by simpa using hb
    rcases e' with z | z
    · rw [z]; exact ⟨_, he, fun v q => nomatch q⟩
    · rw [z]; exact ⟨o, ho, fun v q => by rw [hd] at q; cases q⟩
  keep := fun i h h' st k => let ⟨⟨old, he⟩, hi, hne⟩ := st; ⟨⟨old, k e (by simp) _ he⟩, hi.at fun o q => k it (by simp) o q, hne⟩
  item := by
    intro X hP hw hK hc i pins s σ H E I hf st hg
    subst hP hw hK
    obtain ⟨⟨old, he⟩, hit, hne⟩ := st
    obtain ⟨xs, x, hq, hx⟩ := hg
    obtain ⟨its, rv, p, hz⟩ := I.tuple hq
    obtain ⟨u, hu, ru⟩ := rv.get hx
    have hel : e < s.heap.objs.size := Heap.lt_size he
    have hil : it < s.heap.objs.size := by obtain ⟨_, q, _⟩ := hit; exact Heap.lt_size q
    have ai : a ≠ it := tup_ne_iter p hit
    have ea : e ≠ a := tup_ne_obj p he (by intro q; injection q with e; exact absurd e (by decide))
    have hlt : i < its.toArray.size := by
      have := (List.getElem?_eq_some_iff.mp hu).1
      simpa using this
    refine wpAny_pyNext_enum_itemD (Draws.tuple (A := X.A.in1) (I.ok.hd hc) it a ai its.toArray) he ⟨hit, show s.heap.IsTuple a its.toArray from p⟩ hlt hne (by simp [hne, ea]) fun y h' tk hy ho hst' hT hsz hk => ?_
    have ey : y = u := by
      have h1 : its.toArray[i]? = some y := hy
      have h2 : its.toArray[i]? = some u := by simpa using hu
      rw [h1] at h2
      exact Option.some.inj h2
    rw [ey] at ho hT
    refine ⟨_, rfl, wpAny_letOwnedTupleGo_enum (s := { s with heap := h', toks := tk + 1 }) ho fun h'' he' sb => ?_⟩
    have hT2 : h''.get? s.heap.objs.size = some { cls := .type "tuple", data := .seq #[.int i tk, u] } := (sb.2 _ (Nat.ne_of_gt hel)).trans hT
    have new : ObjOk X.prog X.w (upd H s.heap.objs.size (.tup [.int (i : Nat), x])) h'' s.heap.objs.size (.tup [.int (i : Nat), x]) :=
      ⟨by show 2 ≤ sizeLine; decide, [.int i tk, u], .cons ⟨_, rfl⟩ (.cons ru .nil), ⟨_, hT2, rfl, _, rfl⟩⟩
    have I1 : Inv X pins σ (upd H s.heap.objs.size (.tup [.int (i : Nat), x])) { s with heap := h'', toks := tk + 1 } :=
      I.turnedNew (ch := [e, it]) (fun b ob hb q => (sb.2 b (fun z => hb (by simp [z]))).trans (hk b ob (fun z => hb (by simp [z])) (fun z => hb (by simp [z])) q)) hf (Nat.le_refl _) new
    refine ⟨.ref s.heap.objs.size, _, I1, rfl, ⟨_, x, rfl, I.hok.fresh (Nat.le_refl _), rfl, fun ys hy => by rw [I.tuple_inj hy hq]; exact hx⟩, ⟨⟨u, ?_⟩, hst'.1.at fun o q => (sb.2 it (Ne.symm hne)).trans q, hne⟩, fun b hb => ?_⟩
    · have e1 : ((i + 1 : Nat) : Int) = (i : Int) + 1 := by omega
      rw [e1]; exact he'
    · have hb' : b < s.heap.objs.size := by
        have e' : b = e ∨ b = it := by simpa using hb
        rcases e' with z | z
        · rw [z]; exact hel
        · rw [z]; exact hil
      rw [upd_ne (Nat.ne_of_lt hb')]
      exact (hf b hb).1
  done := by
    intro X hP hw hK hc i pins s σ H E I hf st hg
    subst hP hw hK
    obtain ⟨⟨old, he⟩, hit, hne⟩ := st
    obtain ⟨xs, hq, hx⟩ := hg
    obtain ⟨its, rv, p, hz⟩ := I.tuple hq
    obtain ⟨f0, f1, f2, f3, f4, f5⟩ := hf it (by simp)
    have hl := rv.length
    have ai : a ≠ it := tup_ne_iter p hit
    have e1 : i = its.toArray.size := by simp; omega
    exact wpAny_pyNext_enum_endD (Draws.tuple (A := X.A.in1) (I.ok.hd hc) it a ai its.toArray) he ⟨e1 ▸ hit, show s.heap.IsTuple a its.toArray from p⟩ fun h' eb => ⟨rfl, I.turned (t' := s.toks) (fun b o hb q => eb b o hb q) f0 f1 f3 f4 f5⟩
  self := fun A i s Q E st h => let ⟨⟨_, he⟩, _⟩ := st; wpAny_pyIter_enum he h
def iEnumT (K : PySem.W.Frag) (ta : TA) : TI := fun σ H R => ta σ H fun vs H1 => ∃ a xs, vs = [.ref a] ∧ SqT K H1 a xs ∧ R (IteT K a) H1
theorem pi_enumT {X : Cx} {e : Expr} {ta : TA} {p pos tpos : Pos} {elts : List Expr} {kk : Nat} (hg : Gl X "enumerate") (hm : X.mg "enumerate" = none) (ha : PA X [e] ta) (hs : starEach [e] X.env = [(false, eval e X.env)] := by rfl) :
    PI X (.Tuple elts kk tpos) (.Call (.Name "enumerate" p) [e] [] pos) (iEnumT X.K ta) := by
  refine ⟨fun pins s σ H R I h => ?_⟩
  refine Call_ (ld_blt I hg hm boot_enumerate (PyProof.Rows.callWith_type1 (thn (ha.run pos pins s σ H _ I h) fun us s1 ⟨vs, H1, I1, r1, q1⟩ => ?_) hs rfl))
  obtain ⟨a, xs, ex, hq, q⟩ := q1
  subst ex
  cases r1 with
  | cons r rr =>
    cases rr
    cases r
    obtain ⟨its, rv, p', hz⟩ := I1.tuple hq
    refine enum_begins1 (begins_tuple a its.toArray) (show s1.heap.IsTuple a its.toArray from p') fun h' he hit hsz hk => wpAny_pyIter_enum he ?_
    have I2 : Inv X pins σ H1 { s1 with heap := h' } := I1.kept (t' := s1.toks) hk
    refine ⟨s1.heap.objs.size + 1, [s1.heap.objs.size + 1, s1.heap.objs.size], _, _, H1, rfl, I2, turn_enumT a (s1.heap.objs.size + 1) s1.heap.objs.size, ⟨⟨.none, he⟩, ⟨_, hit, rfl, rfl⟩, Nat.succ_ne_self _⟩, fun b hb => ?_, q⟩
    have e' : b = s1.heap.objs.size + 1 ∨ b = s1.heap.objs.size := by simpa using hb
    have hle : s1.heap.objs.size ≤ b := by
      rcases e' with z | z
      · rw [z]; exact Nat.le_add_right _ _
      · rw [z]; exact Nat.le_refl _
    exact I1.fpOk hle (I1.hok.fresh hle)
theorem walk_enumT {K : PySem.W.Frag} {a : Addr} {xs : List V} : Walk (IteT K a) xs.length (fun H => SqT K H a xs) (YPair (fun i => some (.int (i : Nat))) fun i => xs[i]?) where
  goes := fun i H hi g => ⟨xs, xs[i], g, by simp [hi]⟩
  stops := fun H g => ⟨xs, g, rfl⟩
  yields := fun i H x H' hi g y => by
    obtain ⟨T, x, e1, e2, e3, e4⟩ := y
    exact ⟨T, _, x, e1, e2, e3, rfl, e4 xs g⟩
theorem strIter_at {h h' : Heap} {a : Addr} {ty : String} {x : Str} {t : Tok} {i : Nat} (y : h.IsStrIter a ty x t i) (k : ∀ o, h.get? a = some o → h'.get? a = some o) : h'.IsStrIter a ty x t i := by
  obtain ⟨o, ho, r⟩ := y
  exact ⟨o, k o ho, r⟩
/-! ### zip(text, tuple) -/
def ItzS (K : PySem.W.Frag) (z : Str) (a : Addr) : It :=
  ⟨fun i H => ∃ (c : Nat) (xs : List V) (x : V), z.cps[i]? = some c ∧ SqT K H a xs ∧ xs[i]? = some x,
    fun i H v H' => ∃ T c x, v = .ref T ∧ H T = none ∧ H' = upd H T (.tup [.str ⟨#[c]⟩, x]) ∧ z.cps[i]? = some c ∧ ∀ xs, SqT K H a xs → xs[i]? = some x,
    fun i H => ∃ xs : List V, SqT K H a xs ∧ i = z.cps.size ∧ i = xs.length⟩
theorem turn_zipS {P : Program} {w : World} {K : PySem.W.Frag} {elts : List Expr} {kk : Nat} {tpos : Pos} {zs : Str} {t : Tok} {a z TI TO i1 i2 : Addr} (d1 : TI ≠ z) (d2 : TO ≠ z) (d3 : TI ≠ TO) (d4 : TI ≠ i1) (d5 : z ≠ i1) (d6 : TO ≠ i1) (d7 : TI ≠ i2) (d8 : z ≠ i2) (d9 : TO ≠ i2) (d10 : i1 ≠ i2) :
    Turn P w K (.Tuple elts kk tpos) (ItzS K zs a) [z, TI, TO, i1, i2] z (fun i h => IsZip h z TI TO .none ∧ IsTupOf2 h TI (.ref i1) (.ref i2) ∧ (∃ x y, IsTupOf2 h TO x y) ∧ h.IsStrIter i1 (strIterType zs) zs t i ∧ h.IsTupleIter i2 a i) where
  mem := by simp
  obj := fun i h st c hc => by
    obtain ⟨hz, hTI, ⟨x, y, hTO⟩, ⟨o1, e1, _, q1⟩, ⟨o2, e2, _, q2⟩⟩ := st
    have e' : c = z ∨ c = TI ∨ c = TO ∨ c = i1 ∨ c = i2 := by simpa using hc
    rcases e' with q | q | q | q | q
    · rw [q]; exact ⟨_, hz, fun v q => nomatch q⟩
    · rw [q]; exact ⟨_, hTI, fun v q => nomatch q⟩
    · rw [q]; exact ⟨_, hTO, fun v q => nomatch q⟩
    · rw [q]; exact ⟨o1, e1, fun v q => by rw [q1] at q; cases q⟩
    · rw [q]; exact ⟨o2, e2, fun v q => by rw [q2] at q; cases q⟩
  keep := fun i h h' st k => by
    obtain ⟨hz, hTI, ⟨x, y, hTO⟩, h1, h2⟩ := st
    exact ⟨k z (by simp) _ hz, k TI (by simp) _ hTI, ⟨x, y, k TO (by simp) _ hTO⟩, strIter_at h1 fun o q => k i1 (by simp) o q, h2.at fun o q => k i2 (by simp) o q⟩
  item := by
    intro X hP hw hK hc i pins s σ H E I hf st hg
    subst hP hw hK
    obtain ⟨hz, hTI, ⟨x0, y0, hTO⟩, h1, h2⟩ := st
    obtain ⟨c, ys, y, hcx, hqy, hy⟩ := hg
    obtain ⟨its2, rv2, p2, _⟩ := I.tuple hqy
    obtain ⟨u2, hu2, ru2⟩ := rv2.get hy
    have hzl : z < s.heap.objs.size := Heap.lt_size hz
    have ai : a ≠ i2 := tup_ne_iter p2 h2
    have za : z ≠ a := tup_ne_obj p2 hz (by intro q; injection q with e; exact absurd e (by decide))
    have TIf : H TI = none := (hf TI (by simp)).1
    have TOf : H TO = none := (hf TO (by simp)).1
    have i1f : i1 ≠ a := by
      obtain ⟨o1, e1, c1, _⟩ := h1
      refine tup_ne_obj p2 e1 fun q => ?_
      rw [c1] at q
      unfold strIterType at q
      split at q <;> (injection q with e; exact absurd e (by decide))
    have TOa : TO ≠ a := by
      intro q
      subst q
      have := (hf TO (by simp)).2.2.2
      rcases hqy with (hq | ⟨o, hq⟩) | ⟨o, its, n, hk, _⟩
      · rw [TOf] at hq; cases hq
      · rw [TOf] at hq; cases hq
      · have hb := I.ok.mod.kin TO o hk
        have h0 := I.ok.bs TO o hb
        rcases (hf TO (by simp)).2.2.2.1 with hx | hx
        · exact I.ok.noex TO o hb hx
        · exact absurd (Nat.lt_of_lt_of_le (Heap.lt_size h0.1) hx) (Nat.lt_irrefl _)
    have S : ZipSep2 z TI TO i1 i2 [i1] [i2, a] := ⟨d1, d2, d3, d4, by simp, by simp [d5], by simp [d6], d7, by simp, by simp [d8, za], by simp [d9, TOa], by simp [d10, i1f], by simp [d10.symm]⟩
    have hlt1 : i < zs.cps.size := by
      have := (Array.getElem?_eq_some_iff.mp hcx).1
      exact this
    have hlt2 : i < its2.toArray.size := by
      have := (List.getElem?_eq_some_iff.mp hu2).1
      simpa using this
    refine wpAny_pyNext_zipD2_item S (Draws.text (A := X.A.in1) (I.ok.hd hc) i1 zs t) (Draws.tuple (A := X.A.in1) (I.ok.hd hc) i2 a ai its2.toArray) hz hTI hTO h1 ⟨h2, show s.heap.IsTuple a its2.toArray from p2⟩ hlt1 hlt2 fun v1 v2 h' tk y1 y2 z' TO' h1' h2' hT hsz hk => ?_
    obtain ⟨c', tc, hc', e1⟩ := y1
    have ec : c' = c := by
      rw [hcx] at hc'
      exact (Option.some.inj hc').symm
    subst ec e1
    have ey : v2 = u2 := by
      have q1 : its2.toArray[i]? = some v2 := y2
      have q2 : its2.toArray[i]? = some u2 := by simpa using hu2
      rw [q1] at q2
      exact Option.some.inj q2
    subst ey
    refine ⟨_, rfl, wpAny_letOwnedTupleGo_zip (s := { s with heap := h', toks := tk }) z' fun h'' z'' sb => ?_⟩
    have hT2 : h''.get? s.heap.objs.size = some { cls := .type "tuple", data := .seq #[.str ⟨#[c']⟩ tc, v2] } := (sb.2 _ (Nat.ne_of_gt hzl)).trans hT
    have new : ObjOk X.prog X.w (upd H s.heap.objs.size (.tup [.str ⟨#[c']⟩, y])) h'' s.heap.objs.size (.tup [.str ⟨#[c']⟩, y]) :=
      ⟨by show 2 ≤ sizeLine; decide, [.str ⟨#[c']⟩ tc, v2], .cons ⟨_, rfl⟩ (.cons ru2 .nil), ⟨_, hT2, rfl, _, rfl⟩⟩
    have kk : ∀ b ob, b ∉ [z, TI, TO, i1, i2] → s.heap.get? b = some ob → h''.get? b = some ob := fun b ob hb q =>
      (sb.2 b (fun q' => hb (by simp [q']))).trans (hk b ob (fun q' => hb (by simp [q'])) (fun q' => hb (by simp [q'])) (fun q' => hb (by simp [q'])) (fun q' => hb (by simp [q'])) q)
    have I1 : Inv X pins σ (upd H s.heap.objs.size (.tup [.str ⟨#[c']⟩, y])) { s with heap := h'', toks := tk } :=
      I.turnedNew (t' := tk) (ch := [z, TI, TO, i1, i2]) kk hf (Nat.le_refl _) new
    refine ⟨.ref s.heap.objs.size, _, I1, rfl, ⟨_, c', y, rfl, I.hok.fresh (Nat.le_refl _), rfl, hcx, fun l hl => by rw [I.tuple_inj hl hqy]; exact hy⟩, ⟨z'', ?_, ⟨_, _, (sb.2 _ d2).trans TO'⟩, ?_, ?_⟩, fun c hcm => ?_⟩
    · exact (sb.2 _ d1).trans (hk _ _ d1 d3 d4 d7 hTI)
    · exact strIter_at h1' fun o q => (sb.2 _ d5.symm).trans q
    · exact h2'.1.at fun o q => (sb.2 _ d8.symm).trans q
    · have hlt : c < s.heap.objs.size := by
        have e' : c = z ∨ c = TI ∨ c = TO ∨ c = i1 ∨ c = i2 := by simpa using hcm
        rcases e' with q | q | q | q | q
        · rw [q]; exact hzl
        · rw [q]; exact Heap.lt_size hTI
        · rw [q]; exact Heap.lt_size hTO
        · rw [q]; obtain ⟨_, e1, _⟩ := h1; exact Heap.lt_size e1
        · rw [q]; obtain ⟨_, e2, _⟩ := h2; exact Heap.lt_size e2
      rw [upd_ne (Nat.ne_of_lt hlt)]
      exact (hf c hcm).1
  done := by
    intro X hP hw hK hc i pins s σ H E I hf st hg
    subst hP hw hK
    obtain ⟨hz, hTI, ⟨x0, y0, hTO⟩, h1, h2⟩ := st
    obtain ⟨ys, hqy, hend, hend2⟩ := hg
    obtain ⟨its2, rv2, p2, _⟩ := I.tuple hqy
    have l2 := rv2.length
    have ai : a ≠ i2 := tup_ne_iter p2 h2
    have za : z ≠ a := tup_ne_obj p2 hz (by intro q; injection q with e; exact absurd e (by decide))
    have TOf : H TO = none := (hf TO (by simp)).1
    have i1f : i1 ≠ a := by
      obtain ⟨o1, e1, c1, _⟩ := h1
      refine tup_ne_obj p2 e1 fun q => ?_
      rw [c1] at q
      unfold strIterType at q
      split at q <;> (injection q with e; exact absurd e (by decide))
    have TOa : TO ≠ a := by
      intro q
      subst q
      rcases hqy with (hq | ⟨o, hq⟩) | ⟨o, its, n, hk, _⟩
      · rw [TOf] at hq; cases hq
      · rw [TOf] at hq; cases hq
      · have hb := I.ok.mod.kin TO o hk
        have h0 := I.ok.bs TO o hb
        rcases (hf TO (by simp)).2.2.2.1 with hx | hx
        · exact I.ok.noex TO o hb hx
        · exact absurd (Nat.lt_of_lt_of_le (Heap.lt_size h0.1) hx) (Nat.lt_irrefl _)
    have S : ZipSep2 z TI TO i1 i2 [i1] [i2, a] := ⟨d1, d2, d3, d4, by simp, by simp [d5], by simp [d6], d7, by simp, by simp [d8, za], by simp [d9, TOa], by simp [d10, i1f], by simp [d10.symm]⟩
    have e2 : i = its2.toArray.size := by simp; omega
    exact wpAny_pyNext_zipD2_end S (Draws.text (A := X.A.in1) (I.ok.hd hc) i1 zs t) (Draws.tuple (A := X.A.in1) (I.ok.hd hc) i2 a ai its2.toArray) hz hTI hTO h1 ⟨h2, show s.heap.IsTuple a its2.toArray from p2⟩ (by omega) (by omega) (.inl hend) fun h' tk hk => ⟨rfl, I.turnedL (t' := tk) (ch := [z, TI, TO, i1, i2]) (fun c o hb q =>
      hk c o (fun q' => hb (by simp [q'])) (fun q' => hb (by simp [q'])) (fun q' => hb (by simp [q'])) (fun q' => hb (by simp [q'])) q) hf⟩
  self := fun A i s Q E st h => wpAny_pyIter_zip st.1 h
def iZipS (K : PySem.W.Frag) (ta : TA) : TI := fun σ H R => ta σ H fun vs H1 => ∃ z a ys, vs = [.str z, .ref a] ∧ SqT K H1 a ys ∧ R (ItzS K z a) H1
theorem pi_zipS {X : Cx} {e e2 : Expr} {ta : TA} {p pos tpos : Pos} {elts : List Expr} {kk : Nat} (hg : Gl X "zip") (hm : X.mg "zip" = none) (ha : PA X [e, e2] ta)
    (hs : starEach [e, e2] X.env = (false, eval e X.env) :: starEach [e2] X.env := by rfl) (hpl : (backTo pos (starEach [e2] X.env)).any (·.1) = false := by rfl) :
    PI X (.Tuple elts kk tpos) (.Call (.Name "zip" p) [e, e2] [] pos) (iZipS X.K ta) := by
  refine ⟨fun pins s σ H R I h => ?_⟩
  refine Call_ (ld_blt I hg hm PyProof.Rows.boot_zip (PyProof.Rows.callWith_type1 (thn (ha.run pos pins s σ H _ I h) fun us s1 ⟨vs, H1, I1, r1, q1⟩ => ?_) hs hpl))
  obtain ⟨z, a, ys, ex, hqy, q⟩ := q1
  subst ex
  cases r1 with
  | cons r rr =>
    cases rr with
    | cons r' rr =>
      cases rr
      obtain ⟨t, rfl⟩ := r
      cases r'
      obtain ⟨its2, rv2, p2, _⟩ := I1.tuple hqy
      refine zip_begins2 (begins_text z t) (begins_tuple a its2.toArray) trivial (show s1.heap.IsTuple a its2.toArray from p2) fun h' hz hTI hTO h1 h2 hsz hk => wpAny_pyIter_zip hz ?_
      have I2 : Inv X pins σ H1 { s1 with heap := h' } := I1.kept (t' := s1.toks) hk
      refine ⟨s1.heap.objs.size + 4, [s1.heap.objs.size + 4, s1.heap.objs.size + 2, s1.heap.objs.size + 3, s1.heap.objs.size, s1.heap.objs.size + 1], _, _, H1, rfl, I2, turn_zipS (t := t) ?_ ?_ ?_ ?_ ?_ ?_ ?_ ?_ ?_ ?_, ⟨hz, hTI, ⟨_, _, hTO⟩, ⟨_, h1, rfl, rfl⟩, ⟨_, h2, rfl, rfl⟩⟩, fun c hcm => ?_, q⟩
      · exact (show ∀ n : Nat, n + 2 ≠ n + 4 by intro n; omega) _
      · exact (show ∀ n : Nat, n + 3 ≠ n + 4 by intro n; omega) _
      · exact (show ∀ n : Nat, n + 2 ≠ n + 3 by intro n; omega) _
      · exact (show ∀ n : Nat, n + 2 ≠ n by intro n; omega) _
      · exact (show ∀ n : Nat, n + 4 ≠ n by intro n; omega) _
      · exact (show ∀ n : Nat, n + 3 ≠ n by intro n; omega) _
      · exact (show ∀ n : Nat, n + 2 ≠ n + 1 by intro n; omega) _
      · exact (show ∀ n : Nat, n + 4 ≠ n + 1 by intro n; omega) _
      · exact (show ∀ n : Nat, n + 3 ≠ n + 1 by intro n; omega) _
      · exact (show ∀ n : Nat, n ≠ n + 1 by intro n; omega) _
      have e' : c = s1.heap.objs.size + 4 ∨ c = s1.heap.objs.size + 2 ∨ c = s1.heap.objs.size + 3 ∨ c = s1.heap.objs.size ∨ c = s1.heap.objs.size + 1 := by simpa using hcm
      have hle : s1.heap.objs.size ≤ c := by
        rcases e' with z | z | z | z | z
        · rw [z]; exact Nat.le_add_right _ _
        · rw [z]; exact Nat.le_add_right _ _
        · rw [z]; exact Nat.le_add_right _ _
        · rw [z]; exact Nat.le_refl _
        · rw [z]; exact Nat.le_add_right _ _
      exact I1.fpOk hle (I1.hok.fresh hle)
theorem walk_zipS {K : PySem.W.Frag} {z : Str} {a : Addr} {xs : List V} (hl : z.cps.size = xs.length) : Walk (ItzS K z a) xs.length (fun H => SqT K H a xs) (YPair (fun i => (z.cps[i]?).map fun c => .str ⟨#[c]⟩) fun i => xs[i]?) where
  goes := fun i H hi g => ⟨z.cps[i]'(by omega), xs, xs[i], by simp, g, by simp [hi]⟩
  stops := fun H g => ⟨xs, g, hl.symm, rfl⟩
  yields := fun i H x H' hi g y => by
    obtain ⟨T, c, x, e1, e2, e3, e4, e5⟩ := y
    exact ⟨T, _, x, e1, e2, e3, by show Option.map _ z.cps[i]? = _; rw [e4]; rfl, e5 xs g⟩
end L2
set_option maxHeartbeats 2000000
/-! ## with an own class: both ways out -/
namespace TwN
open PySem PySem.Spec PyProof.Rows L2 L2H
/-! ### a def that may be called while an exception is handled, whatever its context -/
structure FnA (P : Program) (w : World) (K : PySem.W.Frag) (mg : Str → Option Value) (base : Heap) (k : Nat) (f : Addr) (fd : FuncData) (ps : List Str) (sp : Sp) : Prop where
  len : ∀ vs H Q E, sp vs H Q E → vs.length = ps.length
  run : ∀ (A : Around) (outer : List Env) (s : Shared) (H : Hp) (args : Args) (us : List Value) (vs : List V) (Q : VK) (E : XK), RoomH k A → Env0 P w K mg base A outer s H → BindsTo s fd args (ps.zip us) → Vals vs us → sp vs H Q E →
    codeAny (model P w) A (.call (.ref f) args) (CR C8.CX0 outer P w H s Q E) s
def cxA (P : Program) (w : World) (K : PySem.W.Frag) (mg : Str → Option Value) (base : Heap) (N : List Str) (qual : Str) (scope : Scope) (f : Addr) (cd : Value) (A : Around) (outer : List Env) (s : Shared) (H : Hp) (E : XK) : Cx :=
  { cxOf C8.CX0 P w K mg base N qual scope f cd A outer s H E with calm := false }
theorem inv_startA {P : Program} {w : World} {K : PySem.W.Frag} {mg : Str → Option Value} {base : Heap} {N ps : List Str} {qual : Str} {scope : Scope} {f : Addr} {cd : Value} {A : Around} {outer : List Env} {s s1 : Shared} {H : Hp} {E : XK} {us : List Value} {vs : List V}
    (S : FnScope N ps scope) (e0 : Env0 P w K mg base A outer s H) (hl : vs.length = ps.length) (r : Vals vs us)
    (x : InCallC s s.heap.objs.size (bindL (envOfC qual scope s.heap.objs.size f cd).kindOf (ps.zip us) fun _ => none) (cellsFrom (s.heap.objs.size + 1) scope.names []) (bindC (envOfC qual scope s.heap.objs.size f cd).kindOf (ps.zip us) fun _ => none) s1) :
    Inv (cxA P w K mg base N qual scope f cd A outer s H E) [] (L2.start N vs) H s1 := by
  have hpl : ps.length ≤ N.length := by have := congrArg List.length S.pre; rw [List.length_take] at this; omega
  obtain ⟨h1, tk, rfl, hk⟩ := x.done
  have noA : ∀ b : Addr, b ∉ (cxA P w K mg base N qual scope f cd A outer s H E).ex := fun b z => absurd (show b ∈ ([] : List Addr) from z) (by simp)
  refine ⟨⟨e0.mod, S.kind, rfl, rfl, Nat.le_refl _, fun y z c h1 h2 => ?_, fun y hy => ?_, fun y c _ h => ?_, (fun z => Bool.noConfusion (show false = true from z)), Around.frames_deeper e0.frames, .inr ⟨rfl, rfl⟩, fun b z => absurd z (noA b), e0.bs, e0.bsz, fun b _ _ => noA b, fun b z => absurd z (noA b), e0.funs, e0.frf⟩,
    rfl, e0.bare, Un.kept hk, ⟨_, x.toInCall.ns, fun i y v h1 h2 h3 => ?_⟩, fun y c h => ⟨_, x.cell y c h⟩, e0.hok.fresh (Nat.le_refl _), fun y c h => ?_, fun q hq => ?_, e0.hok.kept hk, ?_⟩
  · exact name_of_addr x.apart (PySem.mem_of_lookup h1) (PySem.mem_of_lookup h2)
  · have hy : scope.names.lookup y = some .cell ∨ scope.names.lookup y = some .free := hy
    rcases hy with hy | hy
    · exact cell_has hy
    · exact absurd rfl (S.nofree _ (PySem.mem_of_lookup hy))
  · exact Nat.le_of_lt (x.above y c (PySem.mem_of_lookup h))
  · have hi : i < vs.length := by
      unfold L2.start at h2
      by_cases hi : i < vs.length
      · exact hi
      · rw [List.getElem?_append_right (by simpa using hi)] at h2
        rw [List.getElem?_replicate] at h2
        split at h2 <;> cases h2
    have ha : vs[i]? = some v := by
      unfold L2.start at h2
      rw [List.getElem?_append_left (by simpa using hi), List.getElem?_map] at h2
      cases e : vs[i]? with
      | none => rw [e] at h2; cases h2
      | some a => rw [e] at h2; cases h2; rfl
    obtain ⟨u, hu, rv⟩ := r.get ha
    have hp : ps[i]? = some y := by
      rw [← S.pre, List.getElem?_take_of_lt (by omega)]; exact h1
    have ndP : ps.Nodup := by rw [← S.pre]; exact S.nd.sublist (List.take_sublist _ _)
    refine ⟨u, rv, ?_⟩
    rcases S.par y (List.mem_of_getElem? hp) with k | k
    · exact .inl ⟨k, bindL_get ndP hp hu k⟩
    · obtain ⟨c, e⟩ := cell_has (n := s.heap.objs.size + 1) k
      refine .inr ⟨.inl k, c, e, ?_⟩
      have q := x.cell y c e
      rw [bindC_get ndP hp hu (by show scope.names.lookup y ≠ _; rw [k]; decide)] at q
      exact q
  · exact e0.hok.fresh (Nat.le_of_lt (x.above y c (PySem.mem_of_lookup h)))
  · exact absurd (show q ∈ ([] : List (Addr × Obj)) ++ [] from hq) (by simp)
  · unfold L2.start
    show _ = N.length
    rw [List.length_append, List.length_map, List.length_replicate]
    omega
theorem fn_ofA {P : Program} {w : World} {K : PySem.W.Frag} {mg : Str → Option Value} {base : Heap} {k : Nat} {x qual : Str} {params : Arguments} {body : List Stmt} {scope : Scope} {dvs : List V} {kws : List (Str × V)} {f : Addr} {fd : FuncData} {N ps : List Str} {sp : Sp} (F : FunD K x qual params body scope dvs kws f fd) (S : FnScope N ps scope)
    (len : ∀ vs H Q E, sp vs H Q E → vs.length = ps.length)
    (hbody : ∀ (cdv : Value) (A : Around) (outer : List Env) (s : Shared) (H : Hp) (vs : List V) (Q : VK) (E : XK), RoomH k (A.deeper (envOfC qual scope s.heap.objs.size f cdv)) → sp vs H Q E →
      ∃ t, PSs (cxA P w K mg base N qual scope f cdv A outer s H E).nox body t ∧ t { nx := fun _ H' => Q .non H', rt := Q } (L2.start N vs) H) :
    FnA P w K mg base (k + 1) f fd ps sp := by
  obtain ⟨oc, od, dV, kV, doc, pm, an, cdv, ct, osl, rfl, lk, hcd, _, _⟩ := F.ex
  refine ⟨len, fun A outer s H args us vs Q E hr e0 hb r hsp => ?_⟩
  have hl := len _ _ _ _ hsp
  have KX : K.In s.heap := e0.mod.kin.keeps fun b o e => (e0.bs b o e).1
  have lim : s.heap.NoLimit := e0.mod.nolimit.keeps fun b o e => (e0.bs b o e).1
  have hkind : ∀ y ∈ ps.zip us, scope.names.lookup y.1 = some .local ∨ (scope.names.lookup y.1 = some .cell ∧ ((cellsFrom (s.heap.objs.size + 1) scope.names []).lookup y.1).isSome = true) := fun ⟨n, v⟩ hy => by
    rcases S.par n (List.of_mem_zip hy).1 with q | q
    · exact .inl q
    · exact .inr ⟨q, PySem.W.cellsFrom_some _ _ _ (.inl q)⟩
  refine codeAny_call_function hr.depth (KX _ _ lk) rfl S.co S.gen rfl (PySem.W.codeRec_of KX hcd) (hb _ _ _ _ ?_)
  refine wpAny_newFunctionEnv_cells S.kind hkind fun env he s1 x => ?_
  subst he
  refine ⟨lim.keeps x.toInCall.keep, codeAny_func ?_⟩
  obtain ⟨t, ht, hq⟩ := hbody cdv A outer s H vs Q E (hr.deeper _) hsp
  have I : Inv (cxA P w K mg base N qual scope f cdv A outer s H E) [] (L2.start N vs) H s1 := inv_startA S e0 hl r x
  refine wpAny_mono (ht.nox.run [] s1 (L2.start N vs) H _ I hq) (fun fl s' hs => ?_) fun e s' hs => hs
  have fin : ∀ {σ' : L2.St} {H' : Hp} {v : V} {u : Value}, Inv (cxA P w K mg base N qual scope f cdv A outer s H E) [] σ' H' s' → RelV v u → Q v H' → CE outer P w H s Q u s' :=
    fun {σ' H' v u} J rv q => ⟨v, H', J.os, J.bare, J.base, J.hok, rv, q⟩
  cases fl with
  | ret u =>
    obtain ⟨v, σ', H', J, rv, q⟩ := hs
    exact fin J rv q
  | next =>
    obtain ⟨σ', H', J, q⟩ := hs
    exact fin (v := V.non) (u := Value.none) J rfl q
  | brk =>
    obtain ⟨_, _, _, q⟩ := hs
    exact False.elim q
  | cont =>
    obtain ⟨_, _, _, q⟩ := hs
    exact False.elim q
theorem run_fnA {X : Cx} {k : Nat} {f : Addr} {fd : FuncData} {ps : List Str} {sp : Sp} {E : XK} {Ex : Value → Shared → Prop} {pins : List (Addr × Obj)} {σ : L2.St} {H : Hp} {s : Shared} {Q : VK} {us : List Value} {vs : List V} (F : FnA X.prog X.w X.K X.mg X.base k f fd ps sp) (hr : RoomH k X.A) (hb : Binds X.K fd ps [])
    (I : Inv X pins σ H s) (r : Vals vs us) (h : sp vs H Q E) : codeAny (model X.prog X.w) X.A (.call (.ref f) ⟨us, []⟩) (fun r s' => match r with | .ok (.ret v) => EP X pins σ Q v s' | .ok _ => False | .error e => Ex e s') s := by
  have hl : us.length = ps.length := by rw [← r.length]; exact F.len _ _ _ _ h
  have b := hb s us I.kIn (by rw [List.append_nil]; exact hl)
  rw [List.append_nil] at b
  refine codeAny_mono (F.run X.A X.stack s H ⟨us, []⟩ us vs Q E hr I.env0 b r h) fun r s' hq => ?_
  cases r with
  | error e => exact hq.elim
  | ok fl =>
    cases fl with
    | ret u => exact I.after hq
    | next => exact False.elim hq
    | brk => exact False.elim hq
    | cont => exact False.elim hq
/-! ### with: the library's road, the body may raise -/
section
variable {prog : Program} {w : World} {A : Around} {E Eb : Value → Shared → Prop} {s : Shared} {env : Env} {K : PySem.W.Frag} {x C fe fx : Addr} {ox : Obj} {od : Option Obj} {pos : Pos}
/-- behind the flight's reset: what the exit asks -/
def WRaise (prog : Program) (w : World) (A : Around) (E : Value → Shared → Prop) (env : Env) (fx x : Addr) (Q : Flow → Shared → Prop) (e : Value) (s6 : Shared) : Prop :=
  ∃ (a : Addr) (oe : Obj) (vs : Array Value) (T : Addr) (oT : Obj) (ts : Array Value) (y1 : Value), e = .ref a ∧ s6.heap.get? a = some oe ∧ oe.data = .fields vs ∧ vs[1]? = some (.ref T) ∧ s6.heap.get? T = some oT ∧ oT.data = .fields ts ∧ ts[1]? = some y1 ∧
    ∀ tb, (tb = .none ∨ tb = .ref T) → codeAny (model prog w) (A.mark (some (.ref a))) (.call (.ref fx) ⟨[.ref x, oe.cls, .ref a, tb], []⟩) (fun r s7 => match r with
      | .ok (.ret v) => v = .none ∧ wpAny (model prog w) A (PySem.passOn "with" (.ref a) env : Sem Flow) Q E s7
      | .ok _ => False
      | .error e2 => E e2 s7) s6
theorem kwx_core {b : Value → Sem Unit} {bdy : Sem Flow} {Q : Flow → Shared → Prop} (X : K.In s.heap) (I : PySem.W.InstAt s.heap x ox C od) (he : PySem.W.findIn K (.ref C) "__enter__" = some (some (.ref fe))) (hfe : PySem.W.isFn K (.ref fe) = true) (hx : PySem.W.findIn K (.ref C) "__exit__" = some (some (.ref fx))) (hfx : PySem.W.isFn K (.ref fx) = true)
    (h : wpAny (model prog w) A (call (.ref fe) [.ref x]) (fun v s₂ => wpAny (model prog w) A (b v) (fun _ s₃ => wpAny (model prog w) A bdy (fun f s₄ => wpAny (model prog w) A (call (.ref fx) [.ref x, .none, .none, .none]) (fun _ s₅ => Q f s₅) E s₄) Eb s₃) Eb s₂) E s)
    (hE : ∀ e s4, Eb e s4 → wpAny (model prog w) A (noteFrame e env) (fun _ s5 => wpAny (model prog w) A (setFlight e none) (fun _ s6 => WRaise prog w A E env fx x Q e s6) E s5) E s4) :
    wpAny (model prog w) A (withItem false pos env (pure (.ref x)) (some b) bdy) Q E s := by
  obtain ⟨cd, hcd, ae⟩ := PySem.W.kw_along he
  obtain ⟨cd', hcd', ax⟩ := PySem.W.kw_along hx
  cases hcd.symm.trans hcd'
  obtain ⟨hh, g, d, tt, os⟩ := s
  have L1 : PySem.W.Looks (model prog w) hh (specialOnItsLine (.ref x) "__enter__") (some (.ref fe), cd.mro) := PySem.W.kw_special X I hcd ae
  have L2 : PySem.W.Looks (model prog w) hh (specialOnItsLine (.ref x) "__exit__") (some (.ref fx), cd.mro) := PySem.W.kw_special X I hcd ax
  have L3 : PySem.W.Looks (model prog w) hh (bindSpecial (.ref fe) (.ref x)) (.ref fe, [.ref x]) := PySem.W.bind_fn X _ (beq_iff_eq.mp hfe)
  have L4 : PySem.W.Looks (model prog w) hh (bindSpecial (.ref fx) (.ref x)) (.ref fx, [.ref x]) := PySem.W.bind_fn X _ (beq_iff_eq.mp hfx)
  have L5 : PySem.W.Looks (model prog w) hh (aMethodOfAnotherBuiltinTypeStops (.ref fe) cd.mro) () := PySem.W.Looks.of_pure rfl
  have L6 : PySem.W.Looks (model prog w) hh (aMethodOfAnotherBuiltinTypeStops (.ref fx) cd.mro) () := PySem.W.Looks.of_pure rfl
  unfold withItem
  refine wpAny_bind (wpAny_pure ?_)
  refine wpAny_bind (wpAny_standAt ?_)
  simp only [Bool.false_eq_true, if_false]
  kw_lk
  refine wpAny_mono h (fun v s₂ h₂ => ?_) fun _ _ z => z
  kw_lk
  have err : ∀ e s4, Eb e s4 → wpAny (model prog w) A (do
      noteFrame e env
      setFlight e none
      standAt pos
      holding [e] do
      let r ← withItem.marked e (.call (.ref fx) ⟨[.ref x] ++ [← typeOf e, e, ← tracebackOf e], []⟩)
      let swallow ← match r with
        | .none => pure false
        | .bool b => pure b
        | _ => do pure ((← withItem.marked e (.call (.type "bool") ⟨[r], []⟩)) == .bool true)
      if swallow then rule "with.exit-swallows"; setFlight e none; pure Flow.next else PySem.passOn "with" e env) Q E s4 := fun e s4 h4 => by
    refine wpAny_bind (wpAny_mono (hE e s4 h4) (fun _ s5 h5 => ?_) fun _ _ z => z)
    refine wpAny_bind (wpAny_mono h5 (fun _ s6 h6 => ?_) fun _ _ z => z)
    obtain ⟨a, oe, vs, T, oT, ts, y1, rfl, g1, g2, g3, g4, g5, g6, hc⟩ := h6
    refine wpAny_bind (wpAny_standAt (wpAny_holding ?_))
    refine wpAny_bind (wpAny_typeOf_ref g1 ?_)
    have tbk : wpAny (model prog w) A (tracebackOf (.ref a)) (fun tb s7 => s7 = s6 ∧ (tb = .none ∨ tb = .ref T)) E s6 := by
      unfold tracebackOf
      refine wpAny_bind (wpAny_field g1 g2 g3 ?_)
      refine wpAny_bind (wpAny_field g4 g5 g6 ?_)
      by_cases hy : (y1 == Value.none) = true
      · simp only [hy, if_true]
        exact wpAny_pure ⟨rfl, .inl rfl⟩
      · simp only [hy, if_false]
        exact wpAny_pure ⟨rfl, .inr rfl⟩
    refine wpAny_bind (wpAny_mono tbk (fun tb s7 ⟨e7, htb⟩ => ?_) fun _ _ z => z)
    subst e7
    refine wpAny_bind ?_
    unfold withItem.marked
    refine wpAny_bind (wpAny_run (codeAny_mono (hc tb htb) fun r s8 h8 => ?_) (by intro z; cases z))
    cases r with
    | error e2 => exact h8
    | ok fl =>
      cases fl with
      | ret v =>
        obtain ⟨rfl, h9⟩ := h8
        exact wpAny_pure h9
      | next => exact h8.elim
      | brk => exact h8.elim
      | cont => exact h8.elim
  refine wpAny_attempt (PySem.W.kw_held ?_)
  show wpAny _ _ (b v >>= fun _ => bdy) _ _ _
  refine wpAny_bind (wpAny_mono h₂ (fun _ s₃ h₃ => wpAny_mono h₃ (fun f s₄ h₄ => ?_) fun e s4 z => err e s4 z) fun e s4 z => err e s4 z)
  kw_lk
  refine wpAny_mono h₄ (fun _ s₅ h₅ => ?_) fun _ _ z => z
  kw_lk
  exact h₅
end
/-! ### the rule -/
section
variable {X : Cx} {ctx : Expr} {y : Str} {py pos : Pos} {body : List Stmt} {i kE kX : Nat} {tm : TE} {tb : WX → TS} {C fe fx : Addr} {fdE fdX : FuncData} {psE psX : List Str} {spE spX : Sp} {Wout : WX}
/-- behind the block, no exception -/
def outW (spX : Sp) (a : Addr) (k : Hp → Prop) : Hp → Prop := fun H => spX [.ref a, .non, .non, .non] H (fun _ H2 => k H2) C8.E0
def outEnds (spX : Sp) (a : Addr) (D : Ends) : Ends := { nx := fun σ => outW spX a (D.nx σ), rt := fun v => outW spX a (D.rt v), bk := fun σ => outW spX a (D.bk σ), ct := fun σ => outW spX a (D.ct σ) }
/-- .. with one -/
def wWith (spX : Sp) (a : Addr) (Wout : WX) : WX := fun cls d σ H => ∃ ck, RelV ck cls ∧ ∀ (e : Addr) (tb : V), spX [.ref a, ck, .ref e, tb] H (fun v H2 => v = .non ∧ Wout cls d σ H2) C8.E0
def sWithN (C : Addr) (spE spX : Sp) (i : Nat) (Wout : WX) (tm : TE) (tb : WX → TS) : TS := fun D σ H => tm σ H fun x H1 => ∃ a dx fs, x = .ref a ∧ H1 a = some (.ins C dx fs) ∧
  spE [.ref a] H1 (fun v H2 => tb (wWith spX a Wout) (outEnds spX a D) (σ.set i (some v)) H2) C8.E0
def sWith0 (C : Addr) (spE spX : Sp) (tm : TE) (tb : TS) : TS := fun D σ H => tm σ H fun x H1 => ∃ a dx fs, x = .ref a ∧ H1 a = some (.ins C dx fs) ∧
  spE [.ref a] H1 (fun _ H2 => tb (outEnds spX a D) σ H2) C8.E0
theorem run_enter {E : XK} {pins : List (Addr × Obj)} {σ : L2.St} {H : Hp} {s : Shared} {Q : VK} {us : List Value} {vs : List V} {E' : Value → Shared → Prop} {k : Nat} {f : Addr} {fd : FuncData} {ps : List Str} {sp : Sp} (F : FnOk X.prog X.w X.K X.mg X.base C8.CX0 k f fd ps sp) (hr : Room k X.A) (hb : Binds X.K fd ps [])
    (I : Inv X pins σ H s) (r : Vals vs us) (h : sp vs H Q E) : wpAny (model X.prog X.w) X.A (call (.ref f) us) (EP X pins σ Q) E' s := by
  have hl : us.length = ps.length := by rw [← r.length]; exact F.len _ _ _ _ h
  have b := hb s us I.kIn (by rw [List.append_nil]; exact hl)
  rw [List.append_nil] at b
  refine wpAny_call (codeAny_mono (F.run X.A X.stack s H ⟨us, []⟩ us vs Q E hr I.env0 b r h) fun r s' hq => ?_)
  cases r with
  | error e => exact hq.elim
  | ok fl =>
    cases fl with
    | ret u => exact I.after hq
    | next => exact False.elim hq
    | brk => exact False.elim hq
    | cont => exact False.elim hq
/-- the exit behind the body -/
theorem with_out {a : Addr} {D : Ends} {pins : List (Addr × Obj)} {s : Shared} {f : Flow} (FX : FnA X.prog X.w X.K X.mg X.base kX fx fdX psX spX) (bX : Binds X.K fdX psX []) (hrX : RoomH kX X.A) (h : SP X pins (outEnds spX a D) f s) :
    wpAny (model X.prog X.w) X.A (call (.ref fx) [.ref a, .none, .none, .none]) (fun _ s5 => SP X pins D f s5) X.xe s := by
  have go : ∀ {σ : L2.St} {H : Hp} {k : Hp → Prop}, Inv X pins σ H s → outW spX a k H → wpAny (model X.prog X.w) X.A (call (.ref fx) [.ref a, .none, .none, .none]) (fun _ s5 => ∃ H2, Inv X pins σ H2 s5 ∧ k H2) X.xe s := fun {σ H k} I hk =>
    wpAny_call (codeAny_mono (run_fnA (Ex := X.xe) FX hrX bX I (vs := [.ref a, .non, .non, .non]) (.cons rfl (.cons rfl (.cons rfl (.cons rfl .nil)))) hk) fun r s5 hq => by
      cases r with
      | error e => exact hq
      | ok fl =>
        cases fl with
        | ret u =>
          obtain ⟨_, H2, I2, _, q⟩ := hq
          exact ⟨H2, I2, q⟩
        | next => exact hq
        | brk => exact hq
        | cont => exact hq)
  cases f with
  | next =>
    obtain ⟨σ, H, I, q⟩ := h
    exact wpAny_mono (go I q) (fun _ s5 ⟨H2, I2, q2⟩ => ⟨σ, H2, I2, q2⟩) fun _ _ z => z
  | brk =>
    obtain ⟨σ, H, I, q⟩ := h
    exact wpAny_mono (go I q) (fun _ s5 ⟨H2, I2, q2⟩ => ⟨σ, H2, I2, q2⟩) fun _ _ z => z
  | cont =>
    obtain ⟨σ, H, I, q⟩ := h
    exact wpAny_mono (go I q) (fun _ s5 ⟨H2, I2, q2⟩ => ⟨σ, H2, I2, q2⟩) fun _ _ z => z
  | ret u =>
    obtain ⟨v, σ, H, I, r, q⟩ := h
    exact wpAny_mono (go I q) (fun _ s5 ⟨H2, I2, q2⟩ => ⟨v, σ, H2, I2, r, q2⟩) fun _ _ z => z
theorem ps_with0 (hm : PE X ctx tm) (mE : Meth X.K C "__enter__" fe) (mX : Meth X.K C "__exit__" fx) (FE : FnOk X.prog X.w X.K X.mg X.base C8.CX0 kE fe fdE psE spE) (FX : FnA X.prog X.w X.K X.mg X.base kX fx fdX psX spX) (bE : Binds X.K fdE psE []) (bX : Binds X.K fdX psX [])
    (hrE : Room kE X.A) (hrX : RoomH kX X.A) {tb : TS} (hb : PSs X.nox body tb) : PS X (.With [⟨ctx, none⟩] body pos) (sWith0 C spE spX tm tb) := by
  refine ⟨fun pins s σ H D I h => PySem.W.kw_exec0 (wpAny_mono (hm.run pins s σ H _ I h) (fun v s1 h1 => ?_) fun _ _ z => z)⟩
  obtain ⟨x, H1, I1, r1, a, dx, fs, rfl, ha, q1⟩ := h1
  cases (show v = Value.ref a from r1)
  obtain ⟨mA, om, _, _, _, _⟩ := ins_get I1.hok ha
  obtain ⟨od, ia, _⟩ := om.look
  refine PySem.W.kw_core0 I1.kIn ia mE.at_ mE.fn mX.at_ mX.fn ?_
  refine wpAny_mono (run_enter (vs := [.ref a]) FE hrE bE I1 (.cons rfl .nil) q1) (fun v s2 h2 => ?_) fun _ _ z => z
  obtain ⟨x2, H2, I2, r2, q2⟩ := h2
  refine wpAny_mono (hb.run pins s2 σ H2 (outEnds spX a D) (I2.wish _) q2) (fun f s4 h4 => ?_) fun _ _ z => z.elim
  exact with_out FX bX hrX h4.unwish
theorem ps_withN (hs : X.stack = X.env :: X.outer) (hf : X.env.frame = some X.env.locals) (hex : X.ex = []) (tk : Takes X Wout)
    (hm : PE X ctx tm) (mE : Meth X.K C "__enter__" fe) (mX : Meth X.K C "__exit__" fx) (FE : FnOk X.prog X.w X.K X.mg X.base C8.CX0 kE fe fdE psE spE) (FX : FnA X.prog X.w X.K X.mg X.base kX fx fdX psX spX) (bE : Binds X.K fdE psE []) (bX : Binds X.K fdX psX [])
    (hrE : Room kE X.A) (hrX : RoomH kX X.A) (hN : X.N.Nodup) (hi : X.N[i]? = some y) (hl : X.env.kindOf y = some .local)
    (hb : ∀ (W : WX) (pn : List (Addr × Obj)) (xe : Value → Shared → Prop), Takes (X.tr pn xe) W → PassesOwn (model X.prog X.w) X.A X.env xe → PSs (X.tr pn xe) body (tb W)) :
    PS X (.With [⟨ctx, some (.Name y py)⟩] body pos) (sWithN C spE spX i Wout tm tb) := by
  refine ⟨fun pins s σ H D I h => PySem.W.kw_execN (wpAny_mono (hm.run pins s σ H _ I h) (fun v s1 h1 => ?_) fun _ _ z => z)⟩
  obtain ⟨x, H1, I1, r1, m, dx, fs, rfl, ha, q1⟩ := h1
  cases (show v = Value.ref m from r1)
  have ok := I1.ok
  have hfr : X.A.frames = some (X.env :: X.outer) := by rw [ok.frames, hs]
  obtain ⟨mA, om, _, _, _, _⟩ := ins_get I1.hok ha
  obtain ⟨od, ia, _⟩ := om.look
  refine kwx_core (b := assign (.Name y py) X.env) (Eb := fun e s₁ => wpAny (model X.prog X.w) X.A (noteFrame e X.env) (fun _ s₂ => wpAny (model X.prog X.w) X.A (setFlight e none) (fun _ s₃ => WRaise X.prog X.w X.A X.xe X.env fx m (SP X pins D) e s₃) X.xe s₂) X.xe s₁)
    I1.kIn ia mE.at_ mE.fn mX.at_ mX.fn ?_ fun e s4 h4 => h4
  refine wpAny_mono (run_enter (vs := [.ref m]) FE hrE bE I1 (.cons rfl .nil) q1) (fun v s2 h2 => ?_) fun _ _ z => z
  obtain ⟨x2, H2, I2, r2, q2⟩ := h2
  refine wpAny_assign_Name (store_ok I2 hN hi (.inl hl) r2 (fun s3 I3 => ?_) (.inr hl))
  refine wpAny_mono ((hb (wWith spX m Wout) (X.pn ++ pins) (fun e s₁ => wpAny (model X.prog X.w) X.A (noteFrame e X.env) (fun _ s₂ => wpAny (model X.prog X.w) X.A (setFlight e none) (fun _ s₃ => WRaise X.prog X.w X.A X.xe X.env fx m (SP X pins D) e s₃) X.xe s₂) X.xe s₁)
    (fun u s' xx => ?_) PassesOwn.looking).run [] s3 _ H2 (outEnds spX m D) (I3.toTry _) q2) (fun f s4 h4 => ?_) fun _ _ z => z
  · -- the exception
    obtain ⟨a, B, sI, pins', σ', H', cls, d, rfl, J', nb, up, sky, na, os, ag, hw⟩ := xx
    have J : Inv X pins σ' H' sI := J'.ofTry ok
    have sky' : Sky B (X.env :: X.outer) a (Zc cls d) X.env.locals s'.heap := by rw [← hs]; exact sky
    show wpAny (model X.prog X.w) X.A (noteFrame (.ref a) X.env) _ _ _
    refine Sky.land Zc.steady hfr hf sky' fun h3 fl3 up3 => ?_
    have J3 : Inv X pins σ' H' { s' with heap := h3 } := J.landed nb fl3.1 (up.trans up3) os ag
    obtain ⟨k1, k2, k3, oe, vs, T, oT, ts, he3, hz, hd, hv1, hnT, hTe, hT, hdT, ht3⟩ := id fl3
    have nT : H' T = none := (J.inGround nb).gone hnT
    have notFr : ∀ (b : Addr) (o : Obj) (fv : Array Value), h3.get? b = some o → o.data = .fields fv → b ∉ frs (X.env :: X.outer) := fun b o fv e dd hm => by
      obtain ⟨_, o', e', hnf⟩ := k3.mem hm
      have eo : o = o' := Option.some.inj (e.symm.trans e')
      rw [← eo] at hnf
      exact hnf _ dd
    have locF : X.env.locals ∈ frs (X.env :: X.outer) := List.mem_filterMap.mpr ⟨X.env, List.mem_cons_self, hf⟩
    have fsF : ∀ b, b ∈ X.fs → b ∈ frs (X.env :: X.outer) := fun b hm => by
      obtain ⟨e, he, q⟩ := List.mem_filterMap.mp hm
      exact List.mem_filterMap.mpr ⟨e, List.mem_cons_of_mem _ he, q⟩
    have fa := notFr a oe vs he3 hd
    have fT := notFr T oT ts hT hdT
    have S3 : Inv (X.suite a ((a, oe) :: (T, oT) :: (X.pn ++ pins))) [] σ' H' { s' with heap := h3 } :=
      ⟨J3.ok.suite _ _, J3.os, J3.bare, J3.base, J3.loc, J3.cell, J3.free, J3.freeC, fun p hp => by
        rw [List.append_nil] at hp
        rcases List.mem_cons.mp hp with z | hp
        · rw [z]
          exact ⟨he3, na, fun z2 => fa (by rw [show a = X.env.locals from z2]; exact locF), fun z2 => fa (fsF _ z2), fun v z2 => by
            have z3 : oe.data = .cell v := z2
            rw [hd] at z3
            cases z3⟩
        · rcases List.mem_cons.mp hp with z | hp
          · rw [z]
            exact ⟨hT, nT, fun z2 => fT (by rw [show T = X.env.locals from z2]; exact locF), fun z2 => fT (fsF _ z2), fun v z2 => by
              have z3 : oT.data = .cell v := z2
              rw [hdT] at z3
              cases z3⟩
          · exact J3.pin p hp, J3.hok, J3.len⟩
    have h1 : ∃ y1, ts[1]? = some y1 := by
      have : 3 < ts.size := by
        obtain ⟨h, _⟩ := Array.getElem?_eq_some_iff.mp ht3
        exact h
      exact ⟨ts[1]'(by omega), Array.getElem?_eq_getElem (by omega)⟩
    obtain ⟨y1, hy1⟩ := h1
    refine ⟨a, oe, vs, T, oT, ts, y1, rfl, he3, hd, hv1, hT, hdT, hy1, fun tb htb => ?_⟩
    obtain ⟨ck, rck, hw⟩ := hw
    have rtb : ∃ tv, RelV tv tb := by
      rcases htb with e | e
      · subst e; exact ⟨.non, rfl⟩
      · subst e; exact ⟨.ref T, rfl⟩
    obtain ⟨tv, rtb⟩ := rtb
    have rck' : RelV ck oe.cls := by rw [hz.1]; exact rck
    refine codeAny_mono (run_fnA (X := X.suite a ((a, oe) :: (T, oT) :: (X.pn ++ pins))) (Ex := fun _ _ => False) (vs := [.ref m, ck, .ref a, tv]) FX ⟨hrX.dp, hrX.un⟩ bX S3 (.cons rfl (.cons rck' (.cons rfl (.cons rtb .nil)))) (hw a tv)) fun r s6 hq => ?_
    cases r with
    | error e => exact hq.elim
    | ok fl =>
      cases fl with
      | next => exact hq
      | brk => exact hq
      | cont => exact hq
      | ret rv =>
        obtain ⟨v6, H6, S6, rv6, ev, q6⟩ := hq
        subst ev
        refine ⟨rv6, ?_⟩
        have J6 : Inv X pins σ' H6 s6 := ⟨ok, S6.os, S6.bare, S6.base, S6.loc, S6.cell, S6.free, S6.freeC, fun p hp => S6.pin p (List.mem_append_left _ (List.mem_cons_of_mem _ (List.mem_cons_of_mem _ hp))), S6.hok, S6.len⟩
        have pa := S6.pin (a, oe) (List.mem_append_left _ List.mem_cons_self)
        have pT := S6.pin (T, oT) (List.mem_append_left _ (List.mem_cons_of_mem _ List.mem_cons_self))
        have ga : s6.heap.get? a = some oe := pa.1
        have gT : s6.heap.get? T = some oT := pT.1
        have na6 : H6 a = none := pa.2.1
        have nT6 : H6 T = none := pT.2.1
        have far : ∀ b o, sI.heap.get? b = some o → b ≠ a ∧ b ≠ T := fun b o e => by
          by_cases hb : b ∈ frs X.stack
          · rw [hs] at hb
            exact ⟨fun z => fa (by rw [← z]; exact hb), fun z => fT (by rw [← z]; exact hb)⟩
          · have q := nb b o e hb
            exact ⟨fun z => by
              rw [z, k2] at q
              exact (nomatch q), fun z => by
              rw [z, hnT] at q
              cases q⟩
        have far0 : ∀ b o, X.s_0.heap.get? b = some o → b ≠ a ∧ b ≠ T := fun b o e => by
          obtain ⟨o', q⟩ := J.base.there b o e (by rw [hex]; simp)
          exact far b o' q
        have farP : ∀ p ∈ X.pn ++ pins, p.1 ≠ a ∧ p.1 ≠ T := fun p hp => far p.1 p.2 (J.pin p hp).1
        obtain ⟨G, g1, g2⟩ := restrict s6.heap fun b => !(decide (b = a) || decide (b = T))
        have gIn : ∀ b o, G.get? b = some o → s6.heap.get? b = some o ∧ b ≠ a ∧ b ≠ T := fun b o e => by
          cases q : (!(decide (b = a) || decide (b = T))) with
          | false =>
            rw [g2 b q] at e
            cases e
          | true =>
            rw [g1 b q] at e
            simp only [Bool.not_eq_true', Bool.or_eq_false_iff, decide_eq_false_iff_not] at q
            exact ⟨e, q.1, q.2⟩
        have gOf : ∀ b o, b ≠ a → b ≠ T → s6.heap.get? b = some o → G.get? b = some o := fun b o h1 h2 e => by
          rw [g1 b (by simp [h1, h2])]
          exact e
        have I6 : Inv X pins σ' H6 { s6 with heap := G } := J6.less (fun b o e => (gIn b o e).1) gOf ⟨oe, vs, ga, hd⟩ ⟨oT, ts, gT, hdT⟩ na6 nT6 far0 farP
        have B6in : ∀ b o, (PySem.W.hideAll G (frs X.stack)).get? b = some o → s6.heap.get? b = some o := fun b o e => (gIn b o (PySem.W.of_hideAll _ e)).1
        have Bno : ∀ b, (b = a ∨ b = T) → (PySem.W.hideAll G (frs X.stack)).get? b = none := fun b hb => by
          cases q : (PySem.W.hideAll G (frs X.stack)).get? b with
          | none => rfl
          | some o =>
            obtain ⟨_, n1, n2⟩ := gIn b o (PySem.W.of_hideAll _ q)
            rcases hb with z | z
            · exact absurd z n1
            · exact absurd z n2
        have fl6 : HandSPX.FlyingZ (PySem.W.hideAll G (frs X.stack)) (X.env :: X.outer) a (Zc cls d) s6.heap := by
          refine ⟨B6in, Bno a (.inl rfl), ?_, oe, vs, T, oT, ts, ga, hz, hd, hv1, Bno T (.inr rfl), hTe, gT, hdT, ht3⟩
          have ff := funFrames_none (B := PySem.W.hideAll G (frs X.stack)) J6.stack fun b hb => PySem.W.hideAll_none _ hb
          rw [← hs]
          exact ff
        show wpAny (model X.prog X.w) X.A (PySem.passOn "with" (.ref a) X.env) (SP X pins D) X.xe s6
        unfold PySem.passOn
        refine wpAny_bind (wpAny_field ga hd hv1 ?_)
        rw [if_neg (show ¬ ((Value.ref T == Value.none) = true) from by simp)]
        have goOn : wpAny (model X.prog X.w) X.A (setFlight (.ref a) X.env.frame) (fun _ s7 => wpAny (model X.prog X.w) X.A (throw (.ref a) : Sem Flow) (SP X pins D) X.xe s7) X.xe s6 := by
          rw [hf]
          refine HandSPX.setFlight_upZ fl6 fun h7 hh7 up7 => wpAny_throw (tk _ _ ?_)
          refine ⟨a, PySem.W.hideAll G (frs X.stack), { s6 with heap := G }, pins, σ', H6, cls, d, rfl, I6, fun b o e hb => PySem.W.hideAll_get _ e hb, ?_, .inr (.inr (by rw [← hs] at hh7; exact hh7)), na6, rfl, J6.bare, q6⟩
          exact Heap.UpToSlots.trans (Heap.UpToSlots.of_keeps fun b o e => (gIn b o e).1) up7
        first
          | exact wpAny_bind (wpAny_pure (wpAny_bind goOn))
          | exact wpAny_bind goOn
  · refine with_out FX bX hrX ?_
    cases f with
    | next =>
      obtain ⟨σ', H', J', q⟩ := h4
      exact ⟨σ', H', J'.ofTry ok, q⟩
    | brk =>
      obtain ⟨σ', H', J', q⟩ := h4
      exact ⟨σ', H', J'.ofTry ok, q⟩
    | cont =>
      obtain ⟨σ', H', J', q⟩ := h4
      exact ⟨σ', H', J'.ofTry ok, q⟩
    | ret v =>
      obtain ⟨x', σ', H', J', r', q⟩ := h4
      exact ⟨x', σ', H', J'.ofTry ok, r', q⟩
end
end TwN
set_option maxHeartbeats 2000000
/-! ## several clauses except X as n -/
namespace L2
open PySem PySem.Spec PyProof.Rows
def wManyAs (K : PySem.W.Frag) (i : Nat) (Wout : WX) (D : Ends) : List (Value × (Addr → Value → Option Addr → TS)) → WX
  | [] => Wout
  | (c, ts) :: r => fun cls d σ H => ∃ b, PySem.W.exmOne K cls c = some b ∧ (b = true → ∀ a, H a = none → ts a cls d { nx := fun σ' H' => D.nx (σ'.set i none) H', rt := D.rt, bk := fun σ' H' => D.bk (σ'.set i none) H', ct := fun σ' H' => D.ct (σ'.set i none) H' } (σ.set i (some (.ref a))) H) ∧
      (b = false → wManyAs K i Wout D r cls d σ H)
inductive HdsAs (X : Cx) (n : Str) : List ExceptHandler → List (Value × (Addr → Value → Option Addr → TS)) → Prop
  | nil : HdsAs X n [] []
  | cons {x : Str} {c : Value} {ts : Addr → Value → Option Addr → TS} {b₀ : Stmt} {suite : List Stmt} {np pos' : Pos} {hds : List ExceptHandler} {l : List (Value × (Addr → Value → Option Addr → TS))} (hc : Names X x c)
      (hsu : ∀ (a : Addr) (oe : Obj) (cls : Value) (d : Option Addr) (pn : List (Addr × Obj)), Zc cls d oe → (∃ vs, oe.data = .fields vs) → PSs (X.suite a ((a, oe) :: pn)) (b₀ :: suite) (ts a cls d)) (r : HdsAs X n hds l) :
      HdsAs X n (.ExceptHandler (some (.Name x np)) (some n) (b₀ :: suite) pos' :: hds) ((c, ts) :: l)
section
variable {X : Cx} {body : List Stmt} {h₀ : ExceptHandler} {hds : List ExceptHandler} {l : List (Value × (Addr → Value → Option Addr → TS))} {pos : Pos} {tb : WX → TS} {Wout : WX} {n : Str} {i : Nat}
theorem ps_try_manyAs (hs : X.stack = X.env :: X.outer) (hf : X.env.frame = some X.env.locals) (hN : X.N.Nodup) (hi : X.N[i]? = some n) (hln : X.env.kindOf n = some .local) (tk : Takes X Wout)
    (hb : ∀ (W : WX) (pn : List (Addr × Obj)) (xe : Value → Shared → Prop), Takes (X.tr pn xe) W → PassesOwn (model X.prog X.w) X.A X.env xe → PSs (X.tr pn xe) body (tb W))
    (hh : HdsAs X n (h₀ :: hds) l) : PS X (.Try body (h₀ :: hds) [] [] pos) (fun D σ H => tb (wManyAs X.K i Wout D l) D σ H) := by
  refine ⟨fun pins s σ H D I h => ?_⟩
  have ok := I.ok
  have hfr : X.A.frames = some (X.env :: X.outer) := by rw [ok.frames, hs]
  have hloc : Loc X.env.scope n := .inl hln
  refine wpAny_Try_except ?_
  refine wpAny_mono ((hb (wManyAs X.K i Wout D l) (X.pn ++ pins) (fun e s₁ => wpAny (model X.prog X.w) X.A (noteFrame e X.env) (fun _ s₂ => wpAny (model X.prog X.w) X.A (setFlight e none) (fun _ s₃ =>
    wpAny (model X.prog X.w) X.A (handleBy e X.env (h₀ :: hds)) (SP X pins D) X.xe s₃) X.xe s₂) X.xe s₁) (fun u s' xx => ?_) PassesOwn.looking).run [] s σ H D (I.toTry _) h) (fun f s1 hsp => ?_) (fun e s1 he => he)
  · -- the catch
    obtain ⟨a, B, sI, pins', σ', H', cls, d, rfl, J', nb, up, sky, na, os, ag, w⟩ := xx
    have J : Inv X pins σ' H' sI := J'.ofTry ok
    have sky' : Sky B (X.env :: X.outer) a (Zc cls d) X.env.locals s'.heap := by rw [← hs]; exact sky
    show wpAny (model X.prog X.w) X.A (noteFrame (.ref a) X.env) _ _ _
    refine Sky.land Zc.steady hfr hf sky' fun h3 fl3 up3 => ?_
    have J3 : Inv X pins σ' H' { s' with heap := h3 } := J.landed nb fl3.1 (up.trans up3) os ag
    obtain ⟨oe3, vs3, he3, hz3, hd3⟩ := fl3.there
    have notFr : ∀ {h : Heap} {o : Obj} {vs : Array Value}, h.FunFrames B (X.env :: X.outer) → h.get? a = some o → o.data = .fields vs → a ∉ frs (X.env :: X.outer) := fun {h o vs} ff e dd hm => by
      obtain ⟨_, o', e', hnf⟩ := ff.mem hm
      rw [e] at e'; cases e'
      exact hnf _ dd
    have nfr := notFr fl3.2.2.1 he3 hd3
    have nL : a ≠ X.env.locals := fun z => nfr (List.mem_filterMap.mpr ⟨X.env, List.mem_cons_self, by rw [hf, z]⟩)
    have nF : a ∉ X.fs := fun hm => by
      obtain ⟨e, he, q⟩ := List.mem_filterMap.mp hm
      exact nfr (List.mem_filterMap.mpr ⟨e, List.mem_cons_of_mem _ he, q⟩)
    have S3 := J3.suite he3 hd3 na nL nF
    have go : ∀ {hds' : List ExceptHandler} {l' : List (Value × (Addr → Value → Option Addr → TS))}, HdsAs X n hds' l' → wManyAs X.K i Wout D l' cls d σ' H' →
        wpAny (model X.prog X.w) X.A (handleBy (.ref a) X.env hds') (SP X pins D) X.xe { s' with heap := h3 } := by
      intro hds' l' hk
      induction hk with
      | nil =>
        intro w
        refine wpAny_handleBy_nil ?_
        obtain ⟨k1, k2, k3, oe, vs, T, oT, ts', he, hz, hd, h1, hr⟩ := id fl3
        unfold PySem.passOn
        refine wpAny_bind (wpAny_field he hd h1 ?_)
        rw [if_neg (show ¬ ((Value.ref T == Value.none) = true) from by simp)]
        have fin : wpAny (model X.prog X.w) X.A (setFlight (.ref a) X.env.frame) (fun _ s4 => wpAny (model X.prog X.w) X.A (throw (.ref a) : Sem Flow) (SP X pins D) X.xe s4) X.xe { s' with heap := h3 } := by
          rw [hf]
          refine HandSPX.setFlight_upZ fl3 fun h4 hh4 up4 => wpAny_throw (tk _ _ ?_)
          exact ⟨a, B, sI, pins, σ', H', cls, d, rfl, J, nb, (up.trans up3).trans up4, .inr (.inr (by rw [hs]; exact hh4)), na, os, ag, w⟩
        first
          | exact wpAny_bind (wpAny_pure (wpAny_bind fin))
          | exact wpAny_bind fin
      | @cons x c ts b₀ suite np pos' hds2 l2 hc hsu r ih =>
        intro w
        obtain ⟨b, hb1, hyes, hno⟩ := w
        refine wpAny_handleBy_cons (codeAny_handlers_test ?_) (by intro q; cases q)
        have LT : PySem.W.Looks (model X.prog X.w) h3 (typeOf (.ref a)) cls := fun A Q E s k q => wpAny_typeOf_ref (k _ _ he3) (by rw [hz3.1]; exact q)
        have LM := PySem.W.exm_one (M := model X.prog X.w) (J3.kIn) LT hb1
        have test : ∀ {Q : Value → Shared → Prop} {E : Value → Shared → Prop}, Q c { s' with heap := h3 } → wpAny (model X.prog X.w) (X.A.mark (some (.ref a))) (eval (.Name x np) X.env) Q E { s' with heap := h3 } := fun {Q E} q => by
          obtain ⟨hg, hdbg, hm | ⟨hm, hv, hnn⟩⟩ := hc
          · exact ld_glob (X := X.suite a ((a, oe3) :: (X.pn ++ pins))) S3 hg hm q hdbg
          · exact ld_blt (X := X.suite a ((a, oe3) :: (X.pn ++ pins))) S3 hg hm hv q hnn hdbg
        refine test (LM.here ?_)
        cases b with
        | true =>
          refine codeAny_handlers_suite_as ?_
          refine HandSPX.lands_againZ fl3 fun h4 fl4 up4 => ?_
          have J4 : Inv X pins σ' H' { s' with heap := h4 } := J.landed nb fl4.1 ((up.trans up3).trans up4) os ag
          obtain ⟨oe4, vs4, he4, hz4, hd4⟩ := fl4.there
          have S4 := J4.suite he4 hd4 na nL nF
          refine store_ok (X := X.suite a ((a, oe4) :: (X.pn ++ pins))) (v := .ref a) S4 hN hi hloc rfl (fun s5 S5 => ?_) (.inr hln)
          refine wpAny_mono ((hsu a oe4 cls d (X.pn ++ pins) hz4 ⟨_, hd4⟩).run [] s5 _ H' _ S5 (hyes rfl a na)) (fun f s6 hsp => ?_) (fun _ _ z => False.elim z)
          have end_ : ∀ {σ6 : St} {H6 : Hp} {Q : Shared → Prop}, Inv (X.suite a ((a, oe4) :: (X.pn ++ pins))) [] σ6 H6 s6 → (∀ s7, Inv X pins (σ6.set i none) H6 s7 → Q s7) →
              wpAny (model X.prog X.w) X.A (do bindName X.env n .none; unbindBehindTheSuite X.env n pos') (fun _ s7 => Q s7) X.xe s6 := fun {σ6 H6 Q} S6 hq => gone_ok (S6.unsuite ok) hN hi hln hq
          cases f with
          | next =>
            obtain ⟨σ6, H6, S6, q6⟩ := hsp
            exact end_ S6 fun s7 J7 => ⟨_, _, J7, q6⟩
          | brk =>
            obtain ⟨σ6, H6, S6, q6⟩ := hsp
            exact end_ S6 fun s7 J7 => ⟨_, _, J7, q6⟩
          | cont =>
            obtain ⟨σ6, H6, S6, q6⟩ := hsp
            exact end_ S6 fun s7 J7 => ⟨_, _, J7, q6⟩
          | ret u =>
            obtain ⟨v6, σ6, H6, S6, r6, q6⟩ := hsp
            exact end_ S6 fun s7 J7 => ⟨_, _, _, J7, r6, q6⟩
        | false =>
          show wpAny _ X.A (handleBy (.ref a) X.env hds2) _ _ _
          exact ih (hno rfl)
    exact go hh w
  · cases f with
    | next =>
      obtain ⟨σ', H', J', q⟩ := hsp
      exact wpAny_execs_nil ⟨σ', H', J'.ofTry ok, q⟩
    | brk =>
      obtain ⟨σ', H', J', q⟩ := hsp
      exact ⟨σ', H', J'.ofTry ok, q⟩
    | cont =>
      obtain ⟨σ', H', J', q⟩ := hsp
      exact ⟨σ', H', J'.ofTry ok, q⟩
    | ret u =>
      obtain ⟨v, σ', H', J', r, q⟩ := hsp
      exact ⟨v, σ', H', J'.ofTry ok, r, q⟩
end
end L2
set_option maxHeartbeats 2000000
/-! ## sorted, of data, at any length -/
namespace L2
open PySem PySem.Spec PyProof.Rows
open PySem.W (EachIs)
section
variable {X : Cx} {β : Type} {pins : List (Addr × Obj)} {σ : St} {H : Hp} {s : Shared}
/-- the values stand for the items -/
def DpIs (K : PySem.W.Frag) (H : Hp) (enc : β → PyData) : List V → List β → Prop := EachIs fun x b => Dp K H x (enc b)
theorem each_reads (I : Inv X pins σ H s) {enc : β → PyData} : ∀ {xs : List V} {us : List Value} {bs : List β}, Vals xs us → DpIs X.K H enc xs bs →
    EachIs (fun v b => ∃ x, RelV x v ∧ Dp X.K H x (enc b)) us bs ∧ EachIs (fun v b => ∃ as, Reads s.heap v (enc b) as) us bs
  | _, _, _, .nil, .nil => ⟨.nil, .nil⟩
  | _, _, _, .cons r rr, .cons d dd => by
    obtain ⟨h1, h2⟩ := each_reads I rr dd
    exact ⟨.cons ⟨_, r, d⟩ h1, .cons (Dp.reads I _ _ _ d r) h2⟩
theorem each_back {K : PySem.W.Frag} {enc : β → PyData} : ∀ {us : List Value} {bs : List β}, EachIs (fun v b => ∃ x, RelV x v ∧ Dp K H x (enc b)) us bs → ∃ ys, Vals ys us ∧ DpIs K H enc ys bs
  | _, _, .nil => ⟨[], .nil, .nil⟩
  | _, _, .cons ⟨x, r, d⟩ t => by
    obtain ⟨ys, h1, h2⟩ := each_back t
    exact ⟨x :: ys, .cons r h1, .cons d h2⟩
def rSortedD (K : PySem.W.Frag) (enc : β → PyData) : List V → Hp → VK → Prop := fun vs H Q => ∃ a xs bs, vs = [.ref a] ∧ SqL K H a xs ∧ DpIs K H enc xs bs ∧ bs.length ≤ sizeLine ∧
  ∀ ys p, ys.length = bs.length → DpIs K H enc ys (bs.mergeSort (PySem.W.dataLe false enc)) → H p = none → Q (.ref p) (upd H p (.lst ys))
theorem cr_sortedD (hu : X.A.units + 64 < cLine) {enc : β → PyData} (hal : ∀ b b', PySem.W.alike (enc b) (enc b') = true) (hk : (∀ b, ∃ x r, enc b = .tuple (x :: r)) ∨ ∀ b, enc b ≠ .none ∧ ∀ xs, enc b ≠ .tuple xs) (hd : ∀ b, (enc b).depth ≤ 2) :
    CallR X (.builtin "sorted") (rSortedD X.K enc) := by
  intro pins s σ H vs us Q I r h
  obtain ⟨a, xs, bs, rfl, hs, dd, hL, q⟩ := h
  obtain ⟨its, rv, hl, _⟩ := I.list hs
  rw [Vals.ref1 r]
  obtain ⟨e1, e2⟩ := each_reads I rv dd
  refine PySem.W.sorted_data hl.isList e1 e2 (PySem.W.AllAlike.of hal) (hk.elim PySem.W.Sortable.tuples PySem.W.Sortable.others) hL (fun b _ => by have := hd b; omega) fun out hlen ho => ?_
  obtain ⟨ys, rv2, d2⟩ := each_back ho
  have hn : ys.length = bs.length := by rw [rv2.length, hlen]
  obtain ⟨ep, he'⟩ := PyProof.Rows.sortedAll_at s.heap its out.toArray
  exact ⟨.ref _, upd H (s.heap.objs.size + 1) (.lst ys), I.laid (t' := s.toks) (fun _ _ => PyProof.Rows.sortedAll_old) (Nat.le_succ _) ⟨by rw [hn]; exact hL, out, ep, rv2, he'⟩, rfl, q ys _ hn d2 (I.hok.fresh (Nat.le_succ _))⟩
end
end L2
set_option maxHeartbeats 2000000
/-! ## d.get of a written dict; repr; defs that know the guards -/
namespace L2
open PySem PySem.Spec PyProof.Rows
section
variable {X : Cx}
def tKGet (K : PySem.W.Frag) (w : World) (td ty : TE) : TE := fun σ H Q => td σ H fun x H1 => ∃ a z0 v0, x = .ref a ∧ KDct K w a z0 v0 ∧ (a == sysModules) = false ∧ ty σ H1 fun y H2 => ∃ z v, y = .str z ∧ KDct K w a z v ∧ Q v H2
theorem pe_kget {o e : Expr} {apos cpos : Pos} {td ty : TE} (ho : PE X o td) (he : PE X e ty) (m : M1 X o "get" apos e cpos) : PE X (.Call (.Attribute o "get" apos) [e] [] cpos) (tKGet X.K X.w td ty) := by
  refine ⟨fun pins s σ H Q I h => ?_⟩
  refine wpAny_Call_method m.base m.few m.line PySem.F.plainAttrs_dict PySem.F.slot_dict_get PySem.F.type_dict_get (thn (ho.run pins s σ H _ I h) fun u s1 ⟨x, H1, I1, rx, a, z0, v0, ex, kd, low, q1⟩ => ?_)
  subst ex
  obtain rfl : u = Value.ref a := rx
  obtain ⟨es0, n0, u0, l0, lit0, _, _⟩ := kd
  have m0 := PySem.W.mapOf_K (prog := X.prog) I1.kIn l0 lit0
  refine ⟨m0.typeIs, fun b q => ?_, ?_⟩
  · cases q
    exact ⟨_, I1.kIn _ _ l0, rfl⟩
  rw [m.trees]
  refine Calls.callWith_builtin rfl (Calls.evalArgs_plain (Calls.spliced_cons (thn (he.run pins s1 σ H1 _ I1 q1) fun iv s2 ⟨y, H2, I2, ry, z, v, ey, kd2, q2⟩ => Calls.spliced_nil ?_)))
  subst ey
  obtain ⟨t, rfl⟩ := ry
  obtain ⟨es, n, u, l, lit, e, r⟩ := kd2
  have m2 := PySem.W.mapOf_K (prog := X.prog) I2.kIn l lit
  refine call_meetsIn PySem.F.slot_dict_get m2.typeIs PySem.F.entry_dict_get (PySem.F.args_dict_get_2 _ _) (meets_dict_get (strKind X.prog X.w) a (PySem.strKind_is X.prog X.w z t) low) ⟨_, m2, ?_⟩
  rw [PySem.W.find_K l e]
  exact ⟨v, H2, I2.tok _, r, q2⟩
/-- repr of data that lie in objects -/
def rRepr (K : PySem.W.Frag) : List V → Hp → VK → Prop := fun vs H Q => ∃ a d, vs = [.ref a] ∧ Dp K H (.ref a) d ∧ d.showable = true ∧ d.hasDict = false ∧ d.depth ≤ 60 ∧ d.shown.length ≤ sizeLine ∧ Q (.str d.shown) H
theorem call_repr (hg : X.A.guards = some []) (hu : X.A.units + 64 < cLine) : CallR X (.builtin "repr") (rRepr X.K) := by
  intro pins s σ H vs us Q I r h
  obtain ⟨a, d, rfl, hd, hs, hnd, hdep, hsz, q⟩ := h
  rw [Vals.ref1 r]
  obtain ⟨as, rd⟩ := Dp.reads I d _ _ hd rfl
  refine repr_of_reads' rd hs (fun z => by rw [hnd] at z; cases z) hg (by omega) (fun _ _ e => e) (fun h' u tk hk => ?_) hsz
  exact ⟨.str d.shown, H, I.kept hk, ⟨_, rfl⟩, q⟩
end
end L2
namespace TwN
open PySem PySem.Spec PyProof.Rows L2
/-! ### defs that know that no guard stands around them -/
structure FnG (P : Program) (w : World) (K : PySem.W.Frag) (mg : Str → Option Value) (base : Heap) (k : Nat) (f : Addr) (fd : FuncData) (ps : List Str) (sp : Sp) : Prop where
  len : ∀ vs H Q E, sp vs H Q E → vs.length = ps.length
  run : ∀ (A : Around) (outer : List Env) (s : Shared) (H : Hp) (args : Args) (us : List Value) (vs : List V) (Q : VK) (E : XK), Room k A → A.guards = some [] → Env0 P w K mg base A outer s H → BindsTo s fd args (ps.zip us) → Vals vs us → sp vs H Q E →
    codeAny (model P w) A (.call (.ref f) args) (CR C8.CX0 outer P w H s Q E) s
theorem fnG0 {P : Program} {w : World} {K : PySem.W.Frag} {mg : Str → Option Value} {base : Heap} {k : Nat} {x qual : Str} {params : Arguments} {body : List Stmt} {scope : Scope} {dvs : List V} {kws : List (Str × V)} {f : Addr} {fd : FuncData} {N ps : List Str} {sp : Sp} (F : FunD K x qual params body scope dvs kws f fd) (S : FnScope N ps scope)
    (len : ∀ vs H Q E, sp vs H Q E → vs.length = ps.length)
    (hbody : ∀ (cdv : Value) (A : Around) (outer : List Env) (s : Shared) (H : Hp) (vs : List V) (Q : VK) (E : XK), Room k (A.deeper (envOfC qual scope s.heap.objs.size f cdv)) → (A.deeper (envOfC qual scope s.heap.objs.size f cdv)).guards = some [] → sp vs H Q E →
      ∃ t, PSs (cxOf C8.CX0 P w K mg base N qual scope f cdv A outer s H E).nox body t ∧ t { nx := fun _ H' => Q .non H', rt := Q } (L2.start N vs) H) :
    FnG P w K mg base (k + 1) f fd ps sp := by
  obtain ⟨oc, od, dV, kV, doc, pm, an, cdv, ct, osl, rfl, lk, hcd, _, _⟩ := F.ex
  refine ⟨len, fun A outer s H args us vs Q E hr hgd e0 hb r hsp => ?_⟩
  have hl := len _ _ _ _ hsp
  have KX : K.In s.heap := e0.mod.kin.keeps fun b o e => (e0.bs b o e).1
  have lim : s.heap.NoLimit := e0.mod.nolimit.keeps fun b o e => (e0.bs b o e).1
  have hkind : ∀ y ∈ ps.zip us, scope.names.lookup y.1 = some .local ∨ (scope.names.lookup y.1 = some .cell ∧ ((cellsFrom (s.heap.objs.size + 1) scope.names []).lookup y.1).isSome = true) := fun ⟨n, v⟩ hy => by
    rcases S.par n (List.of_mem_zip hy).1 with q | q
    · exact .inl q
    · exact .inr ⟨q, PySem.W.cellsFrom_some _ _ _ (.inl q)⟩
  refine codeAny_call_function hr.depth (KX _ _ lk) rfl S.co S.gen rfl (PySem.W.codeRec_of KX hcd) (hb _ _ _ _ ?_)
  refine wpAny_newFunctionEnv_cells S.kind hkind fun env he s1 x => ?_
  subst he
  refine ⟨lim.keeps x.toInCall.keep, codeAny_func ?_⟩
  obtain ⟨t, ht, hq⟩ := hbody cdv A outer s H vs Q E (hr.deeper _) hgd hsp
  have I : Inv (cxOf C8.CX0 P w K mg base N qual scope f cdv A outer s H E) [] (L2.start N vs) H s1 := inv_start S hr.hd e0 hl r x
  refine wpAny_mono (ht.nox.run [] s1 (L2.start N vs) H _ I hq) (fun fl s' hs => ?_) fun e s' hs => hs
  have fin : ∀ {σ' : L2.St} {H' : Hp} {v : V} {u : Value}, Inv (cxOf C8.CX0 P w K mg base N qual scope f cdv A outer s H E) [] σ' H' s' → RelV v u → Q v H' → CE outer P w H s Q u s' :=
    fun {σ' H' v u} J rv q => ⟨v, H', J.os, J.bare, J.base, J.hok, rv, q⟩
  cases fl with
  | ret u =>
    obtain ⟨v, σ', H', J, rv, q⟩ := hs
    exact fin J rv q
  | next =>
    obtain ⟨σ', H', J, q⟩ := hs
    exact fin (v := V.non) (u := Value.none) J rfl q
  | brk =>
    obtain ⟨_, _, _, q⟩ := hs
    exact False.elim q
  | cont =>
    obtain ⟨_, _, _, q⟩ := hs
    exact False.elim q
structure CalG (P : Program) (w : World) (K : PySem.W.Frag) (mg : Str → Option Value) (base : Heap) (k : Nat) (x : Str) (sp : Sp) : Prop where
  ex : ∃ (f : Addr) (fd : FuncData) (ps : List Str), FnG P w K mg base k f fd ps sp ∧ mg x = some (.ref f) ∧ PySem.W.keepIn K (.ref f) = true ∧ Binds K fd ps []
theorem pe_cG {X : Cx} {k j : Nat} {x : Str} {sp : Sp} {p pos : Pos} {e : Expr} {es : List Expr} {t : TA} (c : CalG X.prog X.w X.K X.mg X.base k x sp) (hr : Room j X.A) (hgd : X.A.guards = some []) (hk : k ≤ j) (hg : Gl X x) (ha : PA X (e :: es) t)
    (hdb : (x == ("__debug__" : Str)) = false := by decide) (he : starEach (e :: es) X.env = (false, eval e X.env) :: starEach es X.env := by rfl) (hpl : (backTo pos (starEach es X.env)).any (·.1) = false := by rfl) :
    PE X (.Call (.Name x p) (e :: es) [] pos) (tCall sp [] C8.E0 t) := by
  obtain ⟨f, fd, ps, F, hm, kp, b⟩ := c.ex
  refine ⟨fun pins s σ H Q I h => ?_⟩
  refine wpAny_Call_Name_kw (ld_glob I hg hm ?_ hdb)
  refine PySem.W.callWith_K (h₀ := X.base) I.ok.mod.kin kp (thn (ha.run pos pins s σ H _ I h) fun us s1 ⟨vs, H1, I1, r, q⟩ => ⟨I1.kIn, ?_⟩) he hpl
  have q : sp (vs ++ []) H1 Q C8.E0 := q
  rw [List.append_nil] at q
  have hl : us.length = ps.length := by rw [← r.length]; exact F.len _ _ _ _ q
  have b2 := b s1 us I1.kIn (by rw [List.append_nil]; exact hl)
  rw [List.append_nil] at b2
  refine wpAny_call (codeAny_mono (F.run X.A X.stack s1 H1 ⟨us, []⟩ us vs Q C8.E0 (hr.mono hk) hgd I1.env0 b2 r q) fun r s' hq => ?_)
  cases r with
  | error e => exact hq.elim
  | ok fl =>
    cases fl with
    | ret u => exact I1.after hq
    | next => exact False.elim hq
    | brk => exact False.elim hq
    | cont => exact False.elim hq
end TwN
set_option maxHeartbeats 2000000
/-! ## defs as they stand, and how they are called -/
namespace TwN
open PySem PySem.Spec PyProof.Rows L2
abbrev E0 : XK := C8.E0
/-- a def without defaults -/
structure F1 (K : PySem.W.Frag) (at_ : Str × Option Str) (name qual : Str) (st : Stmt) (ps : List Str) : Prop where
  ex : ∃ fd, FunD K name qual (defArgs st) (defBody st) (defScope st) [] [] (He.fAd K at_) fd ∧ Binds K fd ps []
theorem F1.of {K : PySem.W.Frag} {at_ : Str × Option Str} {name qual : Str} {st : Stmt} {ps : List Str} (h : ∃ fd, FunD K name qual (defArgs st) (defBody st) (defScope st) [] [] (He.fAd K at_) fd)
    (hb : ∀ (kV doc pm : Value) (an : Option Addr) (cdv ct : Value) (us : List Value), us.length = ps.length → bindArgs (PySem.W.fnOf name qual (defArgs st) (defBody st) (defScope st) .none kV doc pm an cdv ct) ⟨us, []⟩ = pure (ps.zip us)) : F1 K at_ name qual st ps := by
  obtain ⟨fd, F⟩ := h
  exact ⟨fd, F, F.bindsN hb⟩
/-- what a class must have -/
structure K1 (K : PySem.W.Frag) (mg : Str → Option Value) (x : Str) : Prop where
  g : mg x = some (.ref (He.ga K x))
  cl : Cls K (He.ga K x)
section
variable {P : Program} {w : World} {K : PySem.W.Frag} {mg : Str → Option Value} {base : Heap} {x m C qual : Str} {st : Stmt} {N ps : List Str} {k : Nat} {sp : Sp}
abbrev BodyOk (CX : CXT) (P : Program) (w : World) (K : PySem.W.Frag) (mg : Str → Option Value) (base : Heap) (k : Nat) (N : List Str) (qual : Str) (st : Stmt) (f : Addr) (sp : Sp) : Prop :=
  ∀ (cdv : Value) (A : Around) (outer : List Env) (s : Shared) (H : Hp) (vs : List V) (Q : VK) (E : XK), Room k (A.deeper (envOfC qual (defScope st) s.heap.objs.size f cdv)) → sp vs H Q E →
    ∃ t, PSs (cxOf CX P w K mg base N qual (defScope st) f cdv A outer s H E) (defBody st) t ∧ t { nx := fun _ H' => Q .non H', rt := Q } (L2.start N vs) H
abbrev BodyOk0 (P : Program) (w : World) (K : PySem.W.Frag) (mg : Str → Option Value) (base : Heap) (k : Nat) (N : List Str) (qual : Str) (st : Stmt) (f : Addr) (sp : Sp) : Prop :=
  ∀ (cdv : Value) (A : Around) (outer : List Env) (s : Shared) (H : Hp) (vs : List V) (Q : VK) (E : XK), Room k (A.deeper (envOfC qual (defScope st) s.heap.objs.size f cdv)) → sp vs H Q E →
    ∃ t, PSs (cxOf C8.CX0 P w K mg base N qual (defScope st) f cdv A outer s H E).nox (defBody st) t ∧ t { nx := fun _ H' => Q .non H', rt := Q } (L2.start N vs) H
theorem BodyOk0.any {f : Addr} (h : BodyOk0 P w K mg base k N qual st f sp) : BodyOk C8.CX0 P w K mg base k N qual st f sp := fun cdv A outer s H vs Q E hr hs => by
  obtain ⟨t, h1, h2⟩ := h cdv A outer s H vs Q E hr hs
  exact ⟨t, h1.nox, h2⟩
theorem cal (F : F1 K (x, none) x x st ps) (hm : mg x = some (.ref (He.ga K x))) (S : FnScope N ps (defScope st)) (len : ∀ vs H Q E, sp vs H Q E → vs.length = ps.length) (hb : BodyOk0 P w K mg base k N x st (He.ga K x) sp) : C8.Cal P w K mg base (k + 1) x sp [] := by
  obtain ⟨fd, F, b⟩ := F.ex
  exact ⟨_, fd, ps, [], F.ok S len hb.any, hm, F.kp, b, .nil⟩
theorem met (F : F1 K (C, some m) m qual st ps) (cl : Cls K (He.ga K C)) (me : Meth K (He.ga K C) m (He.ma K (He.ga K C) m)) (S : FnScope N ps (defScope st)) (len : ∀ vs H Q E, sp vs H Q E → vs.length = ps.length)
    (hb : BodyOk0 P w K mg base k N qual st (He.ma K (He.ga K C) m) sp) : C8.Met P w K mg base (k + 1) (He.ga K C) m sp [] := by
  obtain ⟨fd, F, b⟩ := F.ex
  exact ⟨_, fd, ps, [], cl, me, F.ok S len hb.any, b, .nil⟩
theorem mak (F : F1 K (C, some "__init__") "__init__" qual st ps) (M : Mk K (He.ga K C) (He.ma K (He.ga K C) "__init__")) (hm : mg C = some (.ref (He.ga K C))) (S : FnScope N ps (defScope st)) (len : ∀ vs H Q E, sp vs H Q E → vs.length = ps.length)
    (hb : BodyOk0 P w K mg base k N qual st (He.ma K (He.ga K C) "__init__") sp) : C8.Mak P w K mg base (k + 1) C (He.ga K C) sp [] := by
  obtain ⟨fd, F, b⟩ := F.ex
  exact ⟨_, fd, ps, [], M, F.ok S len hb.any, hm, b, .nil⟩
theorem calG (F : F1 K (x, none) x x st ps) (hm : mg x = some (.ref (He.ga K x))) (S : FnScope N ps (defScope st)) (len : ∀ vs H Q E, sp vs H Q E → vs.length = ps.length)
    (hb : ∀ (cdv : Value) (A : Around) (outer : List Env) (s : Shared) (H : Hp) (vs : List V) (Q : VK) (E : XK), Room k (A.deeper (envOfC x (defScope st) s.heap.objs.size (He.ga K x) cdv)) → (A.deeper (envOfC x (defScope st) s.heap.objs.size (He.ga K x) cdv)).guards = some [] → sp vs H Q E →
      ∃ t, PSs (cxOf C8.CX0 P w K mg base N x (defScope st) (He.ga K x) cdv A outer s H E).nox (defBody st) t ∧ t { nx := fun _ H' => Q .non H', rt := Q } (L2.start N vs) H) : CalG P w K mg base (k + 1) x sp := by
  obtain ⟨fd, F, b⟩ := F.ex
  exact ⟨_, fd, ps, fnG0 F S len hb, hm, F.kp, b⟩
/-- a method that may raise -/
structure MetX (P : Program) (w : World) (K : PySem.W.Frag) (mg : Str → Option Value) (base : Heap) (k : Nat) (C : Addr) (m : Str) (sp : Sp) : Prop where
  ex : ∃ (f : Addr) (fd : FuncData) (ps : List Str), Cls K C ∧ Meth K C m f ∧ FnOk P w K mg base (L2.CX P w) k f fd ps sp ∧ Binds K fd ps []
theorem metX (F : F1 K (C, some m) m qual st ps) (cl : Cls K (He.ga K C)) (me : Meth K (He.ga K C) m (He.ma K (He.ga K C) m)) (S : FnScope N ps (defScope st)) (len : ∀ vs H Q E, sp vs H Q E → vs.length = ps.length)
    (hb : BodyOk (L2.CX P w) P w K mg base k N qual st (He.ma K (He.ga K C) m) sp) : MetX P w K mg base (k + 1) (He.ga K C) m sp := by
  obtain ⟨fd, F, b⟩ := F.ex
  exact ⟨_, fd, ps, cl, me, F.ok S len hb, b⟩
end
section
variable {X : Cx} {k j : Nat} {C : Addr} {m : Str} {sp : Sp} {W : WX} {pos apos : Pos} {e o : Expr} {es : List Expr} {ta : TE} {t : TA}
def tMethS (C : Addr) (m : Str) (sp : Sp) (W : WX) (ta : TE) (t : TA) : TE := fun σ H Q => ta σ H fun x H1 => ∃ a dx fs, x = .ref a ∧ H1 a = some (.ins C dx fs) ∧ fs.lookup m = none ∧ t σ H1 fun vs H2 => sp (x :: vs) H2 Q (fun cls d H3 => W cls d σ H3)
theorem pe_mtS {pl : Sem Bool} (c : MetX X.prog X.w X.K X.mg X.base k C m sp) (tk : Takes X W) (hr : Room j X.A) (hk : k ≤ j) (he : PE X o ta) (ha : PA X (e :: es) t)
    (hst : starEach (e :: es) X.env = (false, eval e X.env) :: starEach es X.env := by rfl) (hpl : (backTo pos (starEach es X.env)).any (·.1) = false := by rfl)
    (ht : eval (.Call (.Attribute o m apos) (e :: es) [] pos) X.env = (do
      let ov ← eval o X.env
      standAt apos.atName
      let (f, first) ← holding [ov] (getMethod ov m pl)
      callWith pos f first (backTo pos (starEach (e :: es) X.env)) (backToKw pos (keywordEach [] X.env))) := by rfl) :
    PE X (.Call (.Attribute o m apos) (e :: es) [] pos) (tMethS C m sp W ta t) := by
  obtain ⟨f, fd, ps, hc, hm, F, b⟩ := c.ex
  refine ⟨fun pins s σ H Q I h => ?_⟩
  refine PySem.W.methodCall_KW (pl := pl) (thn (he.run pins s σ H _ I h) fun u s1 ⟨x, H1, I1, rx, a, dx, fs, ex, ea, l, q⟩ => ?_) ht
  subst ex
  obtain rfl : u = Value.ref a := rx
  refine getmeth_ok I1 ea hc hm l ?_
  refine PySem.W.callWith_K (first := [.ref a]) (h₀ := X.base) I.ok.mod.kin hm.kp (thn (ha.run pos pins s1 σ H1 _ I1 q) fun us s2 ⟨vs, H2, I2, r, q2⟩ => ⟨I2.kIn, ?_⟩) hst hpl
  exact run_fnS (E := WE W) (us := .ref a :: us) (vs := .ref a :: vs) F (hr.mono hk) b (passAt tk σ) I2 (.cons rfl r) q2
end
section
variable {X : Cx}
theorem op_mul_str : OpR X (binaryOp .Mult) (fun x y H Q => ∃ z k, x = .str z ∧ y = .int k ∧ MulOk z k ∧ Q (.str (Txt.mul z k)) H) := by
  intro pins s σ H x y v u Q I rx ry h
  obtain ⟨z, k, rfl, rfl, ok, q⟩ := h
  obtain ⟨t, rfl⟩ := rx
  obtain ⟨t2, rfl⟩ := ry
  exact SB.mul ok fun t' k' => ⟨.str (Txt.mul z k), H, I.tok _, ⟨_, rfl⟩, q⟩
end
end TwN
namespace TW
open PySem PySem.Spec PyProof.Rows L2 TwN
def top (i : Nat) : Stmt := PySem.Challenge.pw_thawedwrites_k38_whole_attempt_all_or_no.main.body.getD i (.Pass ⟨0, 0, 0, 0⟩)
abbrev s_RunError_init : Stmt := inClass (top 6) 0
abbrev s_is_integer : Stmt := top 12
abbrev s_is_word : Stmt := top 13
abbrev s_is_word_list : Stmt := top 14
abbrev s_is_number_below : Stmt := top 15
abbrev s_is_object : Stmt := top 19
abbrev s_check_objects : Stmt := top 20
abbrev s_check_names : Stmt := top 21
abbrev s_meeting_numbers : Stmt := top 22
abbrev s_renumbered : Stmt := top 23
abbrev s_Heap_init : Stmt := inClass (top 24) 0
abbrev s_Heap_reckoned_shape : Stmt := inClass (top 24) 1
abbrev s_Heap_eq : Stmt := inClass (top 24) 2
abbrev s_Heap_len : Stmt := inClass (top 24) 6
abbrev s_Heap_objects : Stmt := inClass (top 24) 7
abbrev s_Heap_names : Stmt := inClass (top 24) 8
abbrev s_Heap_normal : Stmt := inClass (top 24) 12
abbrev s_shape_of : Stmt := top 29
abbrev s_branches : Stmt := top 30
abbrev s_is_good_part : Stmt := top 31
abbrev s_row_fault : Stmt := top 32
abbrev s_is_plain : Stmt := top 33
abbrev s_Store_init : Stmt := inClass (top 35) 0
abbrev s_Store_twin : Stmt := inClass (top 35) 1
abbrev s_Store_held_by : Stmt := inClass (top 35) 2
abbrev s_Store_is_frozen : Stmt := inClass (top 35) 3
abbrev s_Store_perform : Stmt := inClass (top 35) 4
abbrev s_Store_add_object : Stmt := inClass (top 35) 5
abbrev s_Store_look : Stmt := inClass (top 35) 6
abbrev s_Store_put : Stmt := inClass (top 35) 7
abbrev s_Store_in_sight : Stmt := inClass (top 35) 8
abbrev s_Store_copy_of : Stmt := inClass (top 35) 9
abbrev s_Store_told_value : Stmt := inClass (top 35) 10
abbrev s_Store_shown : Stmt := inClass (top 35) 11
abbrev s_Store_heap_of : Stmt := inClass (top 35) 12
abbrev s_start_value : Stmt := top 36
abbrev s_Kept_init : Stmt := inClass (top 39) 0
abbrev s_Kept_enter : Stmt := inClass (top 39) 1
abbrev s_Kept_exit : Stmt := inClass (top 39) 2
abbrev s_Live_init : Stmt := inClass (top 40) 0
abbrev s_Live_takes : Stmt := inClass (top 40) 1
abbrev s_Live_readers_told : Stmt := inClass (top 40) 2
abbrev s_Live_do : Stmt := inClass (top 40) 3
abbrev s_Live_value : Stmt := inClass (top 40) 10
abbrev s_Live_made : Stmt := inClass (top 40) 12
abbrev s_Live_reached : Stmt := inClass (top 40) 13
abbrev s_Live_behind : Stmt := inClass (top 40) 14
abbrev s_Live_check_plain_rows : Stmt := inClass (top 40) 15
abbrev s_Live_trial : Stmt := inClass (top 40) 16
abbrev s_Live_attempt : Stmt := inClass (top 40) 17
abbrev s_law_draw : Stmt := top 42
abbrev s_law_pick : Stmt := top 43
abbrev s_law_word : Stmt := top 44
abbrev s_law_words : Stmt := top 45
abbrev s_law_value : Stmt := top 46
abbrev s_law_objects : Stmt := top 47
abbrev s_law_names : Stmt := top 48
abbrev s_law_plain : Stmt := top 49
abbrev s_law_exact : Stmt := top 50
abbrev s_law_do : Stmt := top 51
abbrev s_law_state : Stmt := top 52
abbrev s_law_is_state : Stmt := top 53
abbrev s_law_attempt : Stmt := top 54
abbrev s_law_name : Stmt := top 55
abbrev s_law_round : Stmt := top 56
abbrev s_law : Stmt := top 57
def dd (x : Str) (m : Option Str) (name qual : Str) (st : Stmt) : He.DefD := ⟨(x, m), name, qual, defArgs st, defBody st, defScope st, [], []⟩
def fn0 : List He.DefD := [dd "RunError" (some "__init__") "__init__" "RunError.__init__" s_RunError_init,
  dd "is_integer" none "is_integer" "is_integer" s_is_integer,
  dd "is_word" none "is_word" "is_word" s_is_word,
  dd "is_word_list" none "is_word_list" "is_word_list" s_is_word_list,
  dd "is_number_below" none "is_number_below" "is_number_below" s_is_number_below,
  dd "is_object" none "is_object" "is_object" s_is_object,
  dd "check_objects" none "check_objects" "check_objects" s_check_objects,
  dd "check_names" none "check_names" "check_names" s_check_names,
  dd "meeting_numbers" none "meeting_numbers" "meeting_numbers" s_meeting_numbers,
  dd "renumbered" none "renumbered" "renumbered" s_renumbered,
  dd "Heap" (some "__init__") "__init__" "Heap.__init__" s_Heap_init,
  dd "Heap" (some "reckoned_shape") "reckoned_shape" "Heap.reckoned_shape" s_Heap_reckoned_shape,
  dd "Heap" (some "__eq__") "__eq__" "Heap.__eq__" s_Heap_eq,
  dd "Heap" (some "__len__") "__len__" "Heap.__len__" s_Heap_len,
  dd "Heap" (some "objects") "objects" "Heap.objects" s_Heap_objects,
  dd "Heap" (some "names") "names" "Heap.names" s_Heap_names,
  dd "Heap" (some "normal") "normal" "Heap.normal" s_Heap_normal,
  dd "shape_of" none "shape_of" "shape_of" s_shape_of,
  dd "branches" none "branches" "branches" s_branches,
  dd "is_good_part" none "is_good_part" "is_good_part" s_is_good_part,
  dd "row_fault" none "row_fault" "row_fault" s_row_fault,
  dd "is_plain" none "is_plain" "is_plain" s_is_plain,
  dd "Store" (some "__init__") "__init__" "Store.__init__" s_Store_init,
  dd "Store" (some "twin") "twin" "Store.twin" s_Store_twin,
  dd "Store" (some "held_by") "held_by" "Store.held_by" s_Store_held_by]
def fn1 : List He.DefD := [dd "Store" (some "is_frozen") "is_frozen" "Store.is_frozen" s_Store_is_frozen,
  dd "Store" (some "perform") "perform" "Store.perform" s_Store_perform,
  dd "Store" (some "add_object") "add_object" "Store.add_object" s_Store_add_object,
  dd "Store" (some "look") "look" "Store.look" s_Store_look,
  dd "Store" (some "put") "put" "Store.put" s_Store_put,
  dd "Store" (some "in_sight") "in_sight" "Store.in_sight" s_Store_in_sight,
  dd "Store" (some "copy_of") "copy_of" "Store.copy_of" s_Store_copy_of,
  dd "Store" (some "told_value") "told_value" "Store.told_value" s_Store_told_value,
  dd "Store" (some "shown") "shown" "Store.shown" s_Store_shown,
  dd "Store" (some "heap_of") "heap_of" "Store.heap_of" s_Store_heap_of,
  dd "start_value" none "start_value" "start_value" s_start_value,
  dd "Kept" (some "__init__") "__init__" "Kept.__init__" s_Kept_init,
  dd "Kept" (some "__enter__") "__enter__" "Kept.__enter__" s_Kept_enter,
  dd "Kept" (some "__exit__") "__exit__" "Kept.__exit__" s_Kept_exit,
  dd "Live" (some "__init__") "__init__" "Live.__init__" s_Live_init,
  dd "Live" (some "takes") "takes" "Live.takes" s_Live_takes,
  dd "Live" (some "readers_told") "readers_told" "Live.readers_told" s_Live_readers_told,
  dd "Live" (some "do") "do" "Live.do" s_Live_do,
  dd "Live" (some "value") "value" "Live.value" s_Live_value,
  dd "Live" (some "made") "made" "Live.made" s_Live_made,
  dd "Live" (some "reached") "reached" "Live.reached" s_Live_reached,
  dd "Live" (some "behind") "behind" "Live.behind" s_Live_behind,
  dd "Live" (some "check_plain_rows") "check_plain_rows" "Live.check_plain_rows" s_Live_check_plain_rows,
  dd "Live" (some "trial") "trial" "Live.trial" s_Live_trial,
  dd "Live" (some "attempt") "attempt" "Live.attempt" s_Live_attempt]
def fn2 : List He.DefD := [dd "_law_draw" none "_law_draw" "_law_draw" s_law_draw,
  dd "_law_pick" none "_law_pick" "_law_pick" s_law_pick,
  dd "_law_word" none "_law_word" "_law_word" s_law_word,
  dd "_law_words" none "_law_words" "_law_words" s_law_words,
  dd "_law_value" none "_law_value" "_law_value" s_law_value,
  dd "_law_objects" none "_law_objects" "_law_objects" s_law_objects,
  dd "_law_names" none "_law_names" "_law_names" s_law_names,
  dd "_law_plain" none "_law_plain" "_law_plain" s_law_plain,
  dd "_law_exact" none "_law_exact" "_law_exact" s_law_exact,
  dd "_law_do" none "_law_do" "_law_do" s_law_do,
  dd "_law_state" none "_law_state" "_law_state" s_law_state,
  dd "_law_is_state" none "_law_is_state" "_law_is_state" s_law_is_state,
  dd "_law_attempt" none "_law_attempt" "_law_attempt" s_law_attempt,
  dd "_law_name" none "_law_name" "_law_name" s_law_name,
  dd "_law_round" none "_law_round" "_law_round" s_law_round,
  dd "law" none "law" "law" s_law]
def fn : List He.DefD := fn0 ++ fn1 ++ fn2
def fa0 : List He.Fa := [.glo "ThawError",
  .glo "InvalidHeap",
  .glo "InvalidArgument",
  .glo "LimitExceeded",
  .glo "RunError",
  .glo "Hollow",
  .glo "Refused",
  .glo "is_integer",
  .glo "is_word",
  .glo "is_word_list",
  .glo "is_number_below",
  .glo "is_object",
  .glo "check_objects",
  .glo "check_names",
  .glo "meeting_numbers",
  .glo "renumbered",
  .glo "Heap",
  .glo "shape_of",
  .glo "branches",
  .glo "is_good_part",
  .glo "row_fault",
  .glo "is_plain",
  .glo "Store",
  .glo "start_value",
  .glo "Kept"]
def fa1 : List He.Fa := [.glo "Live",
  .glo "_law_draw",
  .glo "_law_pick",
  .glo "_law_word",
  .glo "_law_words",
  .glo "_law_value",
  .glo "_law_objects",
  .glo "_law_names",
  .glo "_law_plain",
  .glo "_law_exact",
  .glo "_law_do",
  .glo "_law_state",
  .glo "_law_is_state",
  .glo "_law_attempt",
  .glo "_law_name",
  .glo "_law_round",
  .glo "law",
  .glo "SHAPES",
  .glo "KINDS",
  .free "len",
  .free "range",
  .free "isinstance",
  .free "str",
  .free "int",
  .free "bool"]
def fa2 : List He.Fa := [.free "list",
  .free "tuple",
  .free "dict",
  .free "sorted",
  .free "enumerate",
  .free "zip",
  .free "repr",
  .int "LONGEST" 8,
  .int "MOST_OBJECTS" 200,
  .int "MOST_NAMES" 6,
  .int "DEPTHS" 5,
  .int "MOST_START_OBJECTS" 100,
  .str "LETTERS" "abcdefghijklmnopqrstuvwxyz",
  .cls "Heap",
  .mkr "Heap",
  .noat "Heap" "fields",
  .noat "Heap" "held",
  .noat "Heap" "holders",
  .noat "Heap" "shape",
  .cls "Store",
  .mkr "Store",
  .noat "Store" "fields",
  .noat "Store" "cells",
  .noat "Store" "holding",
  .noat "Store" "frosts"]
def fa3 : List He.Fa := [.noat "Store" "watchers",
  .noat "Store" "hits",
  .noat "Store" "seen",
  .noat "Store" "puts",
  .cls "Kept",
  .mkr "Kept",
  .noat "Kept" "live",
  .noat "Kept" "saved",
  .cls "Live",
  .mkr "Live",
  .noat "Live" "store",
  .meth "Heap" "__init__",
  .meth "Heap" "reckoned_shape",
  .meth "Heap" "__eq__",
  .meth "Heap" "__len__",
  .meth "Heap" "objects",
  .meth "Heap" "names",
  .meth "Heap" "normal",
  .meth "Store" "__init__",
  .meth "Store" "twin",
  .meth "Store" "held_by",
  .meth "Store" "is_frozen",
  .meth "Store" "perform",
  .meth "Store" "add_object",
  .meth "Store" "look"]
def fa4 : List He.Fa := [.meth "Store" "put",
  .meth "Store" "in_sight",
  .meth "Store" "copy_of",
  .meth "Store" "told_value",
  .meth "Store" "shown",
  .meth "Store" "heap_of",
  .meth "Kept" "__init__",
  .meth "Kept" "__enter__",
  .meth "Kept" "__exit__",
  .meth "Live" "__init__",
  .meth "Live" "takes",
  .meth "Live" "readers_told",
  .meth "Live" "do",
  .meth "Live" "value",
  .meth "Live" "made",
  .meth "Live" "reached",
  .meth "Live" "behind",
  .meth "Live" "check_plain_rows",
  .meth "Live" "trial",
  .meth "Live" "attempt",
  .exm "Hollow" "Hollow" true,
  .exm "Hollow" "Refused" false,
  .exm "Refused" "Hollow" false,
  .exm "Refused" "Refused" true]
def fa : List He.Fa := fa0 ++ fa1 ++ fa2 ++ fa3 ++ fa4
def tabSh : He.Tab := (fun K => He.ga K "SHAPES", ["move", "none", "new", "look", "put", "copy", "watch", "same", "empty"])
def shKV : List (Str × He.Dv) := [("move", .str "vv"), ("none", .str "v"), ("new", .str "v"), ("look", .str "vvf"), ("put", .str "vfv"), ("copy", .str "vvkd"), ("watch", .str "rvd"), ("same", .str "vvbb"), ("empty", .str "vbb")]
/-- an exception class made by an __init__ that it has from RunError -/
def oexB (K : PySem.W.Frag) (C : Addr) : Bool := match K.lookup C with
    | some ⟨.type t, _, .cls cd, sl⟩ => (match cd.mro, sl.toList with
      | .ref C' :: bm, [_, _, _, _, some (.builtin n), _] => decide (t = "type") && (decide (C' = C) && (decide (n = "ValueError.__new__") && (!cd.hasDel && (cd.hasDict && PySem.HandSPX.refsVE bm))))
      | _, _ => false)
    | _ => false
def exB (K : PySem.W.Frag) (x : Str) : Bool := oexB K (He.ga K x) &&
  (He.eqO (PySem.W.findIn K (.ref (He.ga K x)) "__setattr__") (some (some (.builtin "object.__setattr__"))) &&
  (decide (PySem.W.subIn K (.ref (He.ga K x)) (.type "BaseException") = some true) && (decide (PySem.W.typeIn K (.ref (He.ga K x)) = some (.type "type")) && (PySem.W.keepIn K (.ref (He.ga K x)) &&
  (He.eqO (PySem.W.findIn K (.ref (He.ga K x)) "__init__") (some (some (.ref (He.ma K (He.ga K "RunError") "__init__")))) && (decide (PySem.W.typeIn K (.ref (He.ma K (He.ga K "RunError") "__init__")) = some (.type "function")) &&
  (He.eqO (PySem.W.findIn K (.ref (He.ga K x)) "name") (some none) && xfB K (He.ga K x))))))))
/-- what isinstance asks of an own class -/
def isB (K : PySem.W.Frag) (C : Addr) : Bool := He.eqO (PySem.W.findIn K (.ref C) "__class__") (some (some (.builtin "object.__class__"))) &&
  (He.eqO (PySem.W.specialIn K (.builtin "object.__class__") "__get__") (some (some (.builtin "getset_descriptor.__get__"))) && (decide (PySem.W.takesIn K (.builtin "object.__class__") = some true) &&
  (decide (PySem.W.mroIn K C (.type "object") = some true) && decide (PySem.W.kitOne K (.ref C) (.ref C) = some true))))
def exX (K : PySem.W.Frag) : Bool := exB K "Hollow" && (exB K "Refused" && (He.tupB K "KINDS" [.str "freeze", .str "thaw"] && (He.valsB K (He.ga K "SHAPES") shKV && isB K (He.ga K "Heap"))))
/-! ### the facts -/
structure Tx (w : World) (K : PySem.W.Frag) (mg : Str → Option Value) (h : Heap) : Prop where
  kin : K.In h
  ns : h.Ns mainGlobals mg
  t : He.SaysT fa fn [tabSh] w K
  ex : exX K = true
namespace Tx
variable {w : World} {K : PySem.W.Frag} {mg : Str → Option Value} {h : Heap} (T : Tx w K mg h)
include T
theorem g_ThawError : mg "ThawError" = some (.ref (He.ga K "ThawError")) := He.glo_ok T.kin T.ns (T.t.d.fact 0)
theorem g_InvalidHeap : mg "InvalidHeap" = some (.ref (He.ga K "InvalidHeap")) := He.glo_ok T.kin T.ns (T.t.d.fact 1)
theorem g_InvalidArgument : mg "InvalidArgument" = some (.ref (He.ga K "InvalidArgument")) := He.glo_ok T.kin T.ns (T.t.d.fact 2)
theorem g_LimitExceeded : mg "LimitExceeded" = some (.ref (He.ga K "LimitExceeded")) := He.glo_ok T.kin T.ns (T.t.d.fact 3)
theorem g_RunError : mg "RunError" = some (.ref (He.ga K "RunError")) := He.glo_ok T.kin T.ns (T.t.d.fact 4)
theorem g_Hollow : mg "Hollow" = some (.ref (He.ga K "Hollow")) := He.glo_ok T.kin T.ns (T.t.d.fact 5)
theorem g_Refused : mg "Refused" = some (.ref (He.ga K "Refused")) := He.glo_ok T.kin T.ns (T.t.d.fact 6)
theorem g_is_integer : mg "is_integer" = some (.ref (He.ga K "is_integer")) := He.glo_ok T.kin T.ns (T.t.d.fact 7)
theorem g_is_word : mg "is_word" = some (.ref (He.ga K "is_word")) := He.glo_ok T.kin T.ns (T.t.d.fact 8)
theorem g_is_word_list : mg "is_word_list" = some (.ref (He.ga K "is_word_list")) := He.glo_ok T.kin T.ns (T.t.d.fact 9)
theorem g_is_number_below : mg "is_number_below" = some (.ref (He.ga K "is_number_below")) := He.glo_ok T.kin T.ns (T.t.d.fact 10)
theorem g_is_object : mg "is_object" = some (.ref (He.ga K "is_object")) := He.glo_ok T.kin T.ns (T.t.d.fact 11)
theorem g_check_objects : mg "check_objects" = some (.ref (He.ga K "check_objects")) := He.glo_ok T.kin T.ns (T.t.d.fact 12)
theorem g_check_names : mg "check_names" = some (.ref (He.ga K "check_names")) := He.glo_ok T.kin T.ns (T.t.d.fact 13)
theorem g_meeting_numbers : mg "meeting_numbers" = some (.ref (He.ga K "meeting_numbers")) := He.glo_ok T.kin T.ns (T.t.d.fact 14)
theorem g_renumbered : mg "renumbered" = some (.ref (He.ga K "renumbered")) := He.glo_ok T.kin T.ns (T.t.d.fact 15)
theorem g_Heap : mg "Heap" = some (.ref (He.ga K "Heap")) := He.glo_ok T.kin T.ns (T.t.d.fact 16)
theorem g_shape_of : mg "shape_of" = some (.ref (He.ga K "shape_of")) := He.glo_ok T.kin T.ns (T.t.d.fact 17)
theorem g_branches : mg "branches" = some (.ref (He.ga K "branches")) := He.glo_ok T.kin T.ns (T.t.d.fact 18)
theorem g_is_good_part : mg "is_good_part" = some (.ref (He.ga K "is_good_part")) := He.glo_ok T.kin T.ns (T.t.d.fact 19)
theorem g_row_fault : mg "row_fault" = some (.ref (He.ga K "row_fault")) := He.glo_ok T.kin T.ns (T.t.d.fact 20)
theorem g_is_plain : mg "is_plain" = some (.ref (He.ga K "is_plain")) := He.glo_ok T.kin T.ns (T.t.d.fact 21)
theorem g_Store : mg "Store" = some (.ref (He.ga K "Store")) := He.glo_ok T.kin T.ns (T.t.d.fact 22)
theorem g_start_value : mg "start_value" = some (.ref (He.ga K "start_value")) := He.glo_ok T.kin T.ns (T.t.d.fact 23)
theorem g_Kept : mg "Kept" = some (.ref (He.ga K "Kept")) := He.glo_ok T.kin T.ns (T.t.d.fact 24)
theorem g_Live : mg "Live" = some (.ref (He.ga K "Live")) := He.glo_ok T.kin T.ns (T.t.d.fact 25)
theorem g_law_draw : mg "_law_draw" = some (.ref (He.ga K "_law_draw")) := He.glo_ok T.kin T.ns (T.t.d.fact 26)
theorem g_law_pick : mg "_law_pick" = some (.ref (He.ga K "_law_pick")) := He.glo_ok T.kin T.ns (T.t.d.fact 27)
theorem g_law_word : mg "_law_word" = some (.ref (He.ga K "_law_word")) := He.glo_ok T.kin T.ns (T.t.d.fact 28)
theorem g_law_words : mg "_law_words" = some (.ref (He.ga K "_law_words")) := He.glo_ok T.kin T.ns (T.t.d.fact 29)
theorem g_law_value : mg "_law_value" = some (.ref (He.ga K "_law_value")) := He.glo_ok T.kin T.ns (T.t.d.fact 30)
theorem g_law_objects : mg "_law_objects" = some (.ref (He.ga K "_law_objects")) := He.glo_ok T.kin T.ns (T.t.d.fact 31)
theorem g_law_names : mg "_law_names" = some (.ref (He.ga K "_law_names")) := He.glo_ok T.kin T.ns (T.t.d.fact 32)
theorem g_law_plain : mg "_law_plain" = some (.ref (He.ga K "_law_plain")) := He.glo_ok T.kin T.ns (T.t.d.fact 33)
theorem g_law_exact : mg "_law_exact" = some (.ref (He.ga K "_law_exact")) := He.glo_ok T.kin T.ns (T.t.d.fact 34)
theorem g_law_do : mg "_law_do" = some (.ref (He.ga K "_law_do")) := He.glo_ok T.kin T.ns (T.t.d.fact 35)
theorem g_law_state : mg "_law_state" = some (.ref (He.ga K "_law_state")) := He.glo_ok T.kin T.ns (T.t.d.fact 36)
theorem g_law_is_state : mg "_law_is_state" = some (.ref (He.ga K "_law_is_state")) := He.glo_ok T.kin T.ns (T.t.d.fact 37)
theorem g_law_attempt : mg "_law_attempt" = some (.ref (He.ga K "_law_attempt")) := He.glo_ok T.kin T.ns (T.t.d.fact 38)
theorem g_law_name : mg "_law_name" = some (.ref (He.ga K "_law_name")) := He.glo_ok T.kin T.ns (T.t.d.fact 39)
theorem g_law_round : mg "_law_round" = some (.ref (He.ga K "_law_round")) := He.glo_ok T.kin T.ns (T.t.d.fact 40)
theorem g_law : mg "law" = some (.ref (He.ga K "law")) := He.glo_ok T.kin T.ns (T.t.d.fact 41)
theorem g_SHAPES : mg "SHAPES" = some (.ref (He.ga K "SHAPES")) := He.glo_ok T.kin T.ns (T.t.d.fact 42)
theorem g_KINDS : mg "KINDS" = some (.ref (He.ga K "KINDS")) := He.glo_ok T.kin T.ns (T.t.d.fact 43)
theorem z_len : mg "len" = none := He.free_ok T.kin T.ns (T.t.d.fact 44)
theorem z_range : mg "range" = none := He.free_ok T.kin T.ns (T.t.d.fact 45)
theorem z_isinstance : mg "isinstance" = none := He.free_ok T.kin T.ns (T.t.d.fact 46)
theorem z_str : mg "str" = none := He.free_ok T.kin T.ns (T.t.d.fact 47)
theorem z_int : mg "int" = none := He.free_ok T.kin T.ns (T.t.d.fact 48)
theorem z_bool : mg "bool" = none := He.free_ok T.kin T.ns (T.t.d.fact 49)
theorem z_list : mg "list" = none := He.free_ok T.kin T.ns (T.t.d.fact 50)
theorem z_tuple : mg "tuple" = none := He.free_ok T.kin T.ns (T.t.d.fact 51)
theorem z_dict : mg "dict" = none := He.free_ok T.kin T.ns (T.t.d.fact 52)
theorem z_sorted : mg "sorted" = none := He.free_ok T.kin T.ns (T.t.d.fact 53)
theorem z_enumerate : mg "enumerate" = none := He.free_ok T.kin T.ns (T.t.d.fact 54)
theorem z_zip : mg "zip" = none := He.free_ok T.kin T.ns (T.t.d.fact 55)
theorem z_repr : mg "repr" = none := He.free_ok T.kin T.ns (T.t.d.fact 56)
theorem i_LONGEST : ∃ t, mg "LONGEST" = some (.int 8 t) := He.int_ok T.kin T.ns (T.t.d.fact 57)
theorem i_MOST_OBJECTS : ∃ t, mg "MOST_OBJECTS" = some (.int 200 t) := He.int_ok T.kin T.ns (T.t.d.fact 58)
theorem i_MOST_NAMES : ∃ t, mg "MOST_NAMES" = some (.int 6 t) := He.int_ok T.kin T.ns (T.t.d.fact 59)
theorem i_DEPTHS : ∃ t, mg "DEPTHS" = some (.int 5 t) := He.int_ok T.kin T.ns (T.t.d.fact 60)
theorem i_MOST_START_OBJECTS : ∃ t, mg "MOST_START_OBJECTS" = some (.int 100 t) := He.int_ok T.kin T.ns (T.t.d.fact 61)
theorem s_LETTERS : ∃ t, mg "LETTERS" = some (.str "abcdefghijklmnopqrstuvwxyz" t) := He.str_ok T.kin T.ns (T.t.d.fact 62)
theorem c_Heap : Cls K (He.ga K "Heap") := He.cls_ok (T.t.d.fact 63)
theorem mk_Heap : Mk K (He.ga K "Heap") (He.ma K (He.ga K "Heap") "__init__") := He.mkr_ok (T.t.d.fact 64)
theorem n_Heap_fields : NoAttr K (He.ga K "Heap") "fields" := He.noat_ok (T.t.d.fact 65)
theorem n_Heap_held : NoAttr K (He.ga K "Heap") "held" := He.noat_ok (T.t.d.fact 66)
theorem n_Heap_holders : NoAttr K (He.ga K "Heap") "holders" := He.noat_ok (T.t.d.fact 67)
theorem n_Heap_shape : NoAttr K (He.ga K "Heap") "shape" := He.noat_ok (T.t.d.fact 68)
theorem c_Store : Cls K (He.ga K "Store") := He.cls_ok (T.t.d.fact 69)
theorem mk_Store : Mk K (He.ga K "Store") (He.ma K (He.ga K "Store") "__init__") := He.mkr_ok (T.t.d.fact 70)
theorem n_Store_fields : NoAttr K (He.ga K "Store") "fields" := He.noat_ok (T.t.d.fact 71)
theorem n_Store_cells : NoAttr K (He.ga K "Store") "cells" := He.noat_ok (T.t.d.fact 72)
theorem n_Store_holding : NoAttr K (He.ga K "Store") "holding" := He.noat_ok (T.t.d.fact 73)
theorem n_Store_frosts : NoAttr K (He.ga K "Store") "frosts" := He.noat_ok (T.t.d.fact 74)
theorem n_Store_watchers : NoAttr K (He.ga K "Store") "watchers" := He.noat_ok (T.t.d.fact 75)
theorem n_Store_hits : NoAttr K (He.ga K "Store") "hits" := He.noat_ok (T.t.d.fact 76)
theorem n_Store_seen : NoAttr K (He.ga K "Store") "seen" := He.noat_ok (T.t.d.fact 77)
theorem n_Store_puts : NoAttr K (He.ga K "Store") "puts" := He.noat_ok (T.t.d.fact 78)
theorem c_Kept : Cls K (He.ga K "Kept") := He.cls_ok (T.t.d.fact 79)
theorem mk_Kept : Mk K (He.ga K "Kept") (He.ma K (He.ga K "Kept") "__init__") := He.mkr_ok (T.t.d.fact 80)
theorem n_Kept_live : NoAttr K (He.ga K "Kept") "live" := He.noat_ok (T.t.d.fact 81)
theorem n_Kept_saved : NoAttr K (He.ga K "Kept") "saved" := He.noat_ok (T.t.d.fact 82)
theorem c_Live : Cls K (He.ga K "Live") := He.cls_ok (T.t.d.fact 83)
theorem mk_Live : Mk K (He.ga K "Live") (He.ma K (He.ga K "Live") "__init__") := He.mkr_ok (T.t.d.fact 84)
theorem n_Live_store : NoAttr K (He.ga K "Live") "store" := He.noat_ok (T.t.d.fact 85)
theorem m_Heap_init : Meth K (He.ga K "Heap") "__init__" (He.ma K (He.ga K "Heap") "__init__") := He.meth_ok (T.t.d.fact 86)
theorem m_Heap_reckoned_shape : Meth K (He.ga K "Heap") "reckoned_shape" (He.ma K (He.ga K "Heap") "reckoned_shape") := He.meth_ok (T.t.d.fact 87)
theorem m_Heap_eq : Meth K (He.ga K "Heap") "__eq__" (He.ma K (He.ga K "Heap") "__eq__") := He.meth_ok (T.t.d.fact 88)
theorem m_Heap_len : Meth K (He.ga K "Heap") "__len__" (He.ma K (He.ga K "Heap") "__len__") := He.meth_ok (T.t.d.fact 89)
theorem m_Heap_objects : Meth K (He.ga K "Heap") "objects" (He.ma K (He.ga K "Heap") "objects") := He.meth_ok (T.t.d.fact 90)
theorem m_Heap_names : Meth K (He.ga K "Heap") "names" (He.ma K (He.ga K "Heap") "names") := He.meth_ok (T.t.d.fact 91)
theorem m_Heap_normal : Meth K (He.ga K "Heap") "normal" (He.ma K (He.ga K "Heap") "normal") := He.meth_ok (T.t.d.fact 92)
theorem m_Store_init : Meth K (He.ga K "Store") "__init__" (He.ma K (He.ga K "Store") "__init__") := He.meth_ok (T.t.d.fact 93)
theorem m_Store_twin : Meth K (He.ga K "Store") "twin" (He.ma K (He.ga K "Store") "twin") := He.meth_ok (T.t.d.fact 94)
theorem m_Store_held_by : Meth K (He.ga K "Store") "held_by" (He.ma K (He.ga K "Store") "held_by") := He.meth_ok (T.t.d.fact 95)
theorem m_Store_is_frozen : Meth K (He.ga K "Store") "is_frozen" (He.ma K (He.ga K "Store") "is_frozen") := He.meth_ok (T.t.d.fact 96)
theorem m_Store_perform : Meth K (He.ga K "Store") "perform" (He.ma K (He.ga K "Store") "perform") := He.meth_ok (T.t.d.fact 97)
theorem m_Store_add_object : Meth K (He.ga K "Store") "add_object" (He.ma K (He.ga K "Store") "add_object") := He.meth_ok (T.t.d.fact 98)
theorem m_Store_look : Meth K (He.ga K "Store") "look" (He.ma K (He.ga K "Store") "look") := He.meth_ok (T.t.d.fact 99)
theorem m_Store_put : Meth K (He.ga K "Store") "put" (He.ma K (He.ga K "Store") "put") := He.meth_ok (T.t.d.fact 100)
theorem m_Store_in_sight : Meth K (He.ga K "Store") "in_sight" (He.ma K (He.ga K "Store") "in_sight") := He.meth_ok (T.t.d.fact 101)
theorem m_Store_copy_of : Meth K (He.ga K "Store") "copy_of" (He.ma K (He.ga K "Store") "copy_of") := He.meth_ok (T.t.d.fact 102)
theorem m_Store_told_value : Meth K (He.ga K "Store") "told_value" (He.ma K (He.ga K "Store") "told_value") := He.meth_ok (T.t.d.fact 103)
theorem m_Store_shown : Meth K (He.ga K "Store") "shown" (He.ma K (He.ga K "Store") "shown") := He.meth_ok (T.t.d.fact 104)
theorem m_Store_heap_of : Meth K (He.ga K "Store") "heap_of" (He.ma K (He.ga K "Store") "heap_of") := He.meth_ok (T.t.d.fact 105)
theorem m_Kept_init : Meth K (He.ga K "Kept") "__init__" (He.ma K (He.ga K "Kept") "__init__") := He.meth_ok (T.t.d.fact 106)
theorem m_Kept_enter : Meth K (He.ga K "Kept") "__enter__" (He.ma K (He.ga K "Kept") "__enter__") := He.meth_ok (T.t.d.fact 107)
theorem m_Kept_exit : Meth K (He.ga K "Kept") "__exit__" (He.ma K (He.ga K "Kept") "__exit__") := He.meth_ok (T.t.d.fact 108)
theorem m_Live_init : Meth K (He.ga K "Live") "__init__" (He.ma K (He.ga K "Live") "__init__") := He.meth_ok (T.t.d.fact 109)
theorem m_Live_takes : Meth K (He.ga K "Live") "takes" (He.ma K (He.ga K "Live") "takes") := He.meth_ok (T.t.d.fact 110)
theorem m_Live_readers_told : Meth K (He.ga K "Live") "readers_told" (He.ma K (He.ga K "Live") "readers_told") := He.meth_ok (T.t.d.fact 111)
theorem m_Live_do : Meth K (He.ga K "Live") "do" (He.ma K (He.ga K "Live") "do") := He.meth_ok (T.t.d.fact 112)
theorem m_Live_value : Meth K (He.ga K "Live") "value" (He.ma K (He.ga K "Live") "value") := He.meth_ok (T.t.d.fact 113)
theorem m_Live_made : Meth K (He.ga K "Live") "made" (He.ma K (He.ga K "Live") "made") := He.meth_ok (T.t.d.fact 114)
theorem m_Live_reached : Meth K (He.ga K "Live") "reached" (He.ma K (He.ga K "Live") "reached") := He.meth_ok (T.t.d.fact 115)
theorem m_Live_behind : Meth K (He.ga K "Live") "behind" (He.ma K (He.ga K "Live") "behind") := He.meth_ok (T.t.d.fact 116)
theorem m_Live_check_plain_rows : Meth K (He.ga K "Live") "check_plain_rows" (He.ma K (He.ga K "Live") "check_plain_rows") := He.meth_ok (T.t.d.fact 117)
theorem m_Live_trial : Meth K (He.ga K "Live") "trial" (He.ma K (He.ga K "Live") "trial") := He.meth_ok (T.t.d.fact 118)
theorem m_Live_attempt : Meth K (He.ga K "Live") "attempt" (He.ma K (He.ga K "Live") "attempt") := He.meth_ok (T.t.d.fact 119)
theorem x_Hollow_Hollow : PySem.W.exmOne K (.ref (He.ga K "Hollow")) (.ref (He.ga K "Hollow")) = some true := He.exm_ok (T.t.d.fact 120)
theorem x_Hollow_Refused : PySem.W.exmOne K (.ref (He.ga K "Hollow")) (.ref (He.ga K "Refused")) = some false := He.exm_ok (T.t.d.fact 121)
theorem x_Refused_Hollow : PySem.W.exmOne K (.ref (He.ga K "Refused")) (.ref (He.ga K "Hollow")) = some false := He.exm_ok (T.t.d.fact 122)
theorem x_Refused_Refused : PySem.W.exmOne K (.ref (He.ga K "Refused")) (.ref (He.ga K "Refused")) = some true := He.exm_ok (T.t.d.fact 123)
theorem f_RunError_init : F1 K ("RunError", some "__init__") "__init__" "RunError.__init__" s_RunError_init ["self", "name"] := F1.of (T.t.d.def_ 0) fun _ _ _ _ _ _ us hl => match us, hl with | [_, _], _ => rfl
theorem f_is_integer : F1 K ("is_integer", none) "is_integer" "is_integer" s_is_integer ["value"] := F1.of (T.t.d.def_ 1) fun _ _ _ _ _ _ us hl => match us, hl with | [_], _ => rfl
theorem f_is_word : F1 K ("is_word", none) "is_word" "is_word" s_is_word ["value"] := F1.of (T.t.d.def_ 2) fun _ _ _ _ _ _ us hl => match us, hl with | [_], _ => rfl
theorem f_is_word_list : F1 K ("is_word_list", none) "is_word_list" "is_word_list" s_is_word_list ["values", "least", "most"] := F1.of (T.t.d.def_ 3) fun _ _ _ _ _ _ us hl => match us, hl with | [_, _, _], _ => rfl
theorem f_is_number_below : F1 K ("is_number_below", none) "is_number_below" "is_number_below" s_is_number_below ["value", "count"] := F1.of (T.t.d.def_ 4) fun _ _ _ _ _ _ us hl => match us, hl with | [_, _], _ => rfl
theorem f_is_object : F1 K ("is_object", none) "is_object" "is_object" s_is_object ["item", "fields", "count"] := F1.of (T.t.d.def_ 5) fun _ _ _ _ _ _ us hl => match us, hl with | [_, _, _], _ => rfl
theorem f_check_objects : F1 K ("check_objects", none) "check_objects" "check_objects" s_check_objects ["objects", "fields"] := F1.of (T.t.d.def_ 6) fun _ _ _ _ _ _ us hl => match us, hl with | [_, _], _ => rfl
theorem f_check_names : F1 K ("check_names", none) "check_names" "check_names" s_check_names ["names", "count"] := F1.of (T.t.d.def_ 7) fun _ _ _ _ _ _ us hl => match us, hl with | [_, _], _ => rfl
theorem f_meeting_numbers : F1 K ("meeting_numbers", none) "meeting_numbers" "meeting_numbers" s_meeting_numbers ["objects", "fields", "roots"] := F1.of (T.t.d.def_ 8) fun _ _ _ _ _ _ us hl => match us, hl with | [_, _, _], _ => rfl
theorem f_renumbered : F1 K ("renumbered", none) "renumbered" "renumbered" s_renumbered ["value", "numbers"] := F1.of (T.t.d.def_ 9) fun _ _ _ _ _ _ us hl => match us, hl with | [_, _], _ => rfl
theorem f_Heap_init : F1 K ("Heap", some "__init__") "__init__" "Heap.__init__" s_Heap_init ["self", "fields", "objects", "names"] := F1.of (T.t.d.def_ 10) fun _ _ _ _ _ _ us hl => match us, hl with | [_, _, _, _], _ => rfl
theorem f_Heap_reckoned_shape : F1 K ("Heap", some "reckoned_shape") "reckoned_shape" "Heap.reckoned_shape" s_Heap_reckoned_shape ["self"] := F1.of (T.t.d.def_ 11) fun _ _ _ _ _ _ us hl => match us, hl with | [_], _ => rfl
theorem f_Heap_eq : F1 K ("Heap", some "__eq__") "__eq__" "Heap.__eq__" s_Heap_eq ["self", "other"] := F1.of (T.t.d.def_ 12) fun _ _ _ _ _ _ us hl => match us, hl with | [_, _], _ => rfl
theorem f_Heap_len : F1 K ("Heap", some "__len__") "__len__" "Heap.__len__" s_Heap_len ["self"] := F1.of (T.t.d.def_ 13) fun _ _ _ _ _ _ us hl => match us, hl with | [_], _ => rfl
theorem f_Heap_objects : F1 K ("Heap", some "objects") "objects" "Heap.objects" s_Heap_objects ["self"] := F1.of (T.t.d.def_ 14) fun _ _ _ _ _ _ us hl => match us, hl with | [_], _ => rfl
theorem f_Heap_names : F1 K ("Heap", some "names") "names" "Heap.names" s_Heap_names ["self"] := F1.of (T.t.d.def_ 15) fun _ _ _ _ _ _ us hl => match us, hl with | [_], _ => rfl
theorem f_Heap_normal : F1 K ("Heap", some "normal") "normal" "Heap.normal" s_Heap_normal ["self"] := F1.of (T.t.d.def_ 16) fun _ _ _ _ _ _ us hl => match us, hl with | [_], _ => rfl
theorem f_shape_of : F1 K ("shape_of", none) "shape_of" "shape_of" s_shape_of ["row"] := F1.of (T.t.d.def_ 17) fun _ _ _ _ _ _ us hl => match us, hl with | [_], _ => rfl
theorem f_branches : F1 K ("branches", none) "branches" "branches" s_branches ["row"] := F1.of (T.t.d.def_ 18) fun _ _ _ _ _ _ us hl => match us, hl with | [_], _ => rfl
theorem f_is_good_part : F1 K ("is_good_part", none) "is_good_part" "is_good_part" s_is_good_part ["letter", "part", "fields"] := F1.of (T.t.d.def_ 19) fun _ _ _ _ _ _ us hl => match us, hl with | [_, _, _], _ => rfl
theorem f_row_fault : F1 K ("row_fault", none) "row_fault" "row_fault" s_row_fault ["row", "fields"] := F1.of (T.t.d.def_ 20) fun _ _ _ _ _ _ us hl => match us, hl with | [_, _], _ => rfl
theorem f_is_plain : F1 K ("is_plain", none) "is_plain" "is_plain" s_is_plain ["row", "fields"] := F1.of (T.t.d.def_ 21) fun _ _ _ _ _ _ us hl => match us, hl with | [_, _], _ => rfl
theorem f_Store_init : F1 K ("Store", some "__init__") "__init__" "Store.__init__" s_Store_init ["self", "heap"] := F1.of (T.t.d.def_ 22) fun _ _ _ _ _ _ us hl => match us, hl with | [_, _], _ => rfl
theorem f_Store_twin : F1 K ("Store", some "twin") "twin" "Store.twin" s_Store_twin ["self"] := F1.of (T.t.d.def_ 23) fun _ _ _ _ _ _ us hl => match us, hl with | [_], _ => rfl
theorem f_Store_held_by : F1 K ("Store", some "held_by") "held_by" "Store.held_by" s_Store_held_by ["self", "name"] := F1.of (T.t.d.def_ 24) fun _ _ _ _ _ _ us hl => match us, hl with | [_, _], _ => rfl
theorem f_Store_is_frozen : F1 K ("Store", some "is_frozen") "is_frozen" "Store.is_frozen" s_Store_is_frozen ["self", "thing"] := F1.of (T.t.d.def_ 25) fun _ _ _ _ _ _ us hl => match us, hl with | [_, _], _ => rfl
theorem f_Store_perform : F1 K ("Store", some "perform") "perform" "Store.perform" s_Store_perform ["self", "row"] := F1.of (T.t.d.def_ 26) fun _ _ _ _ _ _ us hl => match us, hl with | [_, _], _ => rfl
theorem f_Store_add_object : F1 K ("Store", some "add_object") "add_object" "Store.add_object" s_Store_add_object ["self", "cell", "frozen"] := F1.of (T.t.d.def_ 27) fun _ _ _ _ _ _ us hl => match us, hl with | [_, _, _], _ => rfl
theorem f_Store_look : F1 K ("Store", some "look") "look" "Store.look" s_Store_look ["self", "x", "y", "field"] := F1.of (T.t.d.def_ 28) fun _ _ _ _ _ _ us hl => match us, hl with | [_, _, _, _], _ => rfl
theorem f_Store_put : F1 K ("Store", some "put") "put" "Store.put" s_Store_put ["self", "x", "field", "y"] := F1.of (T.t.d.def_ 29) fun _ _ _ _ _ _ us hl => match us, hl with | [_, _, _, _], _ => rfl
theorem f_Store_in_sight : F1 K ("Store", some "in_sight") "in_sight" "Store.in_sight" s_Store_in_sight ["self", "root", "depth"] := F1.of (T.t.d.def_ 30) fun _ _ _ _ _ _ us hl => match us, hl with | [_, _, _], _ => rfl
theorem f_Store_copy_of : F1 K ("Store", some "copy_of") "copy_of" "Store.copy_of" s_Store_copy_of ["self", "root", "frozen", "depth"] := F1.of (T.t.d.def_ 31) fun _ _ _ _ _ _ us hl => match us, hl with | [_, _, _, _], _ => rfl
theorem f_Store_told_value : F1 K ("Store", some "told_value") "told_value" "Store.told_value" s_Store_told_value ["self", "name"] := F1.of (T.t.d.def_ 32) fun _ _ _ _ _ _ us hl => match us, hl with | [_, _], _ => rfl
theorem f_Store_shown : F1 K ("Store", some "shown") "shown" "Store.shown" s_Store_shown ["self", "thing"] := F1.of (T.t.d.def_ 33) fun _ _ _ _ _ _ us hl => match us, hl with | [_, _], _ => rfl
theorem f_Store_heap_of : F1 K ("Store", some "heap_of") "heap_of" "Store.heap_of" s_Store_heap_of ["self", "names"] := F1.of (T.t.d.def_ 34) fun _ _ _ _ _ _ us hl => match us, hl with | [_, _], _ => rfl
theorem f_start_value : F1 K ("start_value", none) "start_value" "start_value" s_start_value ["number"] := F1.of (T.t.d.def_ 35) fun _ _ _ _ _ _ us hl => match us, hl with | [_], _ => rfl
theorem f_Kept_init : F1 K ("Kept", some "__init__") "__init__" "Kept.__init__" s_Kept_init ["self", "live"] := F1.of (T.t.d.def_ 36) fun _ _ _ _ _ _ us hl => match us, hl with | [_, _], _ => rfl
theorem f_Kept_enter : F1 K ("Kept", some "__enter__") "__enter__" "Kept.__enter__" s_Kept_enter ["self"] := F1.of (T.t.d.def_ 37) fun _ _ _ _ _ _ us hl => match us, hl with | [_], _ => rfl
theorem f_Kept_exit : F1 K ("Kept", some "__exit__") "__exit__" "Kept.__exit__" s_Kept_exit ["self", "kind", "value", "trace"] := F1.of (T.t.d.def_ 38) fun _ _ _ _ _ _ us hl => match us, hl with | [_, _, _, _], _ => rfl
theorem f_Live_init : F1 K ("Live", some "__init__") "__init__" "Live.__init__" s_Live_init ["self", "heap"] := F1.of (T.t.d.def_ 39) fun _ _ _ _ _ _ us hl => match us, hl with | [_, _], _ => rfl
theorem f_Live_takes : F1 K ("Live", some "takes") "takes" "Live.takes" s_Live_takes ["self", "row", "readers"] := F1.of (T.t.d.def_ 40) fun _ _ _ _ _ _ us hl => match us, hl with | [_, _, _], _ => rfl
theorem f_Live_readers_told : F1 K ("Live", some "readers_told") "readers_told" "Live.readers_told" s_Live_readers_told ["self"] := F1.of (T.t.d.def_ 41) fun _ _ _ _ _ _ us hl => match us, hl with | [_], _ => rfl
theorem f_Live_do : F1 K ("Live", some "do") "do" "Live.do" s_Live_do ["self", "row"] := F1.of (T.t.d.def_ 42) fun _ _ _ _ _ _ us hl => match us, hl with | [_, _], _ => rfl
theorem f_Live_value : F1 K ("Live", some "value") "value" "Live.value" s_Live_value ["self", "name"] := F1.of (T.t.d.def_ 43) fun _ _ _ _ _ _ us hl => match us, hl with | [_, _], _ => rfl
theorem f_Live_made : F1 K ("Live", some "made") "made" "Live.made" s_Live_made ["self"] := F1.of (T.t.d.def_ 44) fun _ _ _ _ _ _ us hl => match us, hl with | [_], _ => rfl
theorem f_Live_reached : F1 K ("Live", some "reached") "reached" "Live.reached" s_Live_reached ["self"] := F1.of (T.t.d.def_ 45) fun _ _ _ _ _ _ us hl => match us, hl with | [_], _ => rfl
theorem f_Live_behind : F1 K ("Live", some "behind") "behind" "Live.behind" s_Live_behind ["self", "names"] := F1.of (T.t.d.def_ 46) fun _ _ _ _ _ _ us hl => match us, hl with | [_, _], _ => rfl
theorem f_Live_check_plain_rows : F1 K ("Live", some "check_plain_rows") "check_plain_rows" "Live.check_plain_rows" s_Live_check_plain_rows ["self", "rows"] := F1.of (T.t.d.def_ 47) fun _ _ _ _ _ _ us hl => match us, hl with | [_, _], _ => rfl
theorem f_Live_trial : F1 K ("Live", some "trial") "trial" "Live.trial" s_Live_trial ["self", "rows"] := F1.of (T.t.d.def_ 48) fun _ _ _ _ _ _ us hl => match us, hl with | [_, _], _ => rfl
theorem f_Live_attempt : F1 K ("Live", some "attempt") "attempt" "Live.attempt" s_Live_attempt ["self", "rows"] := F1.of (T.t.d.def_ 49) fun _ _ _ _ _ _ us hl => match us, hl with | [_, _], _ => rfl
theorem f_law_draw : F1 K ("_law_draw", none) "_law_draw" "_law_draw" s_law_draw ["_law_pool", "_law_limit"] := F1.of (T.t.d.def_ 50) fun _ _ _ _ _ _ us hl => match us, hl with | [_, _], _ => rfl
theorem f_law_pick : F1 K ("_law_pick", none) "_law_pick" "_law_pick" s_law_pick ["_law_pool", "_law_row"] := F1.of (T.t.d.def_ 51) fun _ _ _ _ _ _ us hl => match us, hl with | [_, _], _ => rfl
theorem f_law_word : F1 K ("_law_word", none) "_law_word" "_law_word" s_law_word ["_law_pool", "_law_taken"] := F1.of (T.t.d.def_ 52) fun _ _ _ _ _ _ us hl => match us, hl with | [_, _], _ => rfl
theorem f_law_words : F1 K ("_law_words", none) "_law_words" "_law_words" s_law_words ["_law_pool", "_law_least", "_law_most"] := F1.of (T.t.d.def_ 53) fun _ _ _ _ _ _ us hl => match us, hl with | [_, _, _], _ => rfl
theorem f_law_value : F1 K ("_law_value", none) "_law_value" "_law_value" s_law_value ["_law_pool", "_law_count"] := F1.of (T.t.d.def_ 54) fun _ _ _ _ _ _ us hl => match us, hl with | [_, _], _ => rfl
theorem f_law_objects : F1 K ("_law_objects", none) "_law_objects" "_law_objects" s_law_objects ["_law_pool", "_law_fields", "_law_count"] := F1.of (T.t.d.def_ 55) fun _ _ _ _ _ _ us hl => match us, hl with | [_, _, _], _ => rfl
theorem f_law_names : F1 K ("_law_names", none) "_law_names" "_law_names" s_law_names ["_law_pool", "_law_names_here", "_law_count"] := F1.of (T.t.d.def_ 56) fun _ _ _ _ _ _ us hl => match us, hl with | [_, _, _], _ => rfl
theorem f_law_plain : F1 K ("_law_plain", none) "_law_plain" "_law_plain" s_law_plain ["_law_pool", "_law_words_here", "_law_fields", "_law_room"] := F1.of (T.t.d.def_ 57) fun _ _ _ _ _ _ us hl => match us, hl with | [_, _, _, _], _ => rfl
theorem f_law_exact : F1 K ("_law_exact", none) "_law_exact" "_law_exact" s_law_exact ["_law_actual", "_law_due"] := F1.of (T.t.d.def_ 58) fun _ _ _ _ _ _ us hl => match us, hl with | [_, _], _ => rfl
theorem f_law_do : F1 K ("_law_do", none) "_law_do" "_law_do" s_law_do ["_law_live", "_law_row"] := F1.of (T.t.d.def_ 59) fun _ _ _ _ _ _ us hl => match us, hl with | [_, _], _ => rfl
theorem f_law_state : F1 K ("_law_state", none) "_law_state" "_law_state" s_law_state ["_law_live", "_law_words_here"] := F1.of (T.t.d.def_ 60) fun _ _ _ _ _ _ us hl => match us, hl with | [_, _], _ => rfl
theorem f_law_is_state : F1 K ("_law_is_state", none) "_law_is_state" "_law_is_state" s_law_is_state ["_law_live", "_law_words_here", "_law_due"] := F1.of (T.t.d.def_ 61) fun _ _ _ _ _ _ us hl => match us, hl with | [_, _, _], _ => rfl
theorem f_law_attempt : F1 K ("_law_attempt", none) "_law_attempt" "_law_attempt" s_law_attempt ["_law_live", "_law_rows"] := F1.of (T.t.d.def_ 62) fun _ _ _ _ _ _ us hl => match us, hl with | [_, _], _ => rfl
theorem f_law_name : F1 K ("_law_name", none) "_law_name" "_law_name" s_law_name ["_law_row"] := F1.of (T.t.d.def_ 63) fun _ _ _ _ _ _ us hl => match us, hl with | [_], _ => rfl
theorem f_law_round : F1 K ("_law_round", none) "_law_round" "_law_round" s_law_round ["_law_pool", "_law_one", "_law_two", "_law_words_here", "_law_fields", "_law_readers"] := F1.of (T.t.d.def_ 64) fun _ _ _ _ _ _ us hl => match us, hl with | [_, _, _, _, _, _], _ => rfl
theorem f_law : F1 K ("law", none) "law" "law" s_law ["_law_script"] := F1.of (T.t.d.def_ 65) fun _ _ _ _ _ _ us hl => match us, hl with | [_], _ => rfl
end Tx
theorem sc_RunError_init : FnScope ["self", "name"] ["self", "name"] (defScope s_RunError_init) := ⟨rfl, rfl, rfl, by decide +kernel, rfl, by decide +kernel, by decide +kernel⟩
theorem sc_is_integer : FnScope ["value"] ["value"] (defScope s_is_integer) := ⟨rfl, rfl, rfl, by decide +kernel, rfl, by decide +kernel, by decide +kernel⟩
theorem sc_is_word : FnScope ["value", "letter"] ["value"] (defScope s_is_word) := ⟨rfl, rfl, rfl, by decide +kernel, rfl, by decide +kernel, by decide +kernel⟩
theorem sc_is_word_list : FnScope ["values", "least", "most", "seen", "value"] ["values", "least", "most"] (defScope s_is_word_list) := ⟨rfl, rfl, rfl, by decide +kernel, rfl, by decide +kernel, by decide +kernel⟩
theorem sc_is_number_below : FnScope ["value", "count"] ["value", "count"] (defScope s_is_number_below) := ⟨rfl, rfl, rfl, by decide +kernel, rfl, by decide +kernel, by decide +kernel⟩
theorem sc_is_object : FnScope ["item", "fields", "count", "field", "value"] ["item", "fields", "count"] (defScope s_is_object) := ⟨rfl, rfl, rfl, by decide +kernel, rfl, by decide +kernel, by decide +kernel⟩
theorem sc_check_objects : FnScope ["objects", "fields", "at", "item"] ["objects", "fields"] (defScope s_check_objects) := ⟨rfl, rfl, rfl, by decide +kernel, rfl, by decide +kernel, by decide +kernel⟩
theorem sc_check_names : FnScope ["names", "count", "name", "value"] ["names", "count"] (defScope s_check_names) := ⟨rfl, rfl, rfl, by decide +kernel, rfl, by decide +kernel, by decide +kernel⟩
theorem sc_meeting_numbers : FnScope ["objects", "fields", "roots", "numbers", "order", "root", "at", "field", "value"] ["objects", "fields", "roots"] (defScope s_meeting_numbers) := ⟨rfl, rfl, rfl, by decide +kernel, rfl, by decide +kernel, by decide +kernel⟩
theorem sc_renumbered : FnScope ["value", "numbers"] ["value", "numbers"] (defScope s_renumbered) := ⟨rfl, rfl, rfl, by decide +kernel, rfl, by decide +kernel, by decide +kernel⟩
theorem sc_Heap_init : FnScope ["self", "fields", "objects", "names", "item"] ["self", "fields", "objects", "names"] (defScope s_Heap_init) := ⟨rfl, rfl, rfl, by decide +kernel, rfl, by decide +kernel, by decide +kernel⟩
theorem sc_Heap_reckoned_shape : FnScope ["self", "ordered", "numbers", "name", "names", "objects", "number", "item", "field"] ["self"] (defScope s_Heap_reckoned_shape) := ⟨rfl, rfl, rfl, by decide +kernel, rfl, by decide +kernel, by decide +kernel⟩
theorem sc_Heap_eq : FnScope ["self", "other"] ["self", "other"] (defScope s_Heap_eq) := ⟨rfl, rfl, rfl, by decide +kernel, rfl, by decide +kernel, by decide +kernel⟩
theorem sc_Heap_len : FnScope ["self"] ["self"] (defScope s_Heap_len) := ⟨rfl, rfl, rfl, by decide +kernel, rfl, by decide +kernel, by decide +kernel⟩
theorem sc_Heap_objects : FnScope ["self", "item"] ["self"] (defScope s_Heap_objects) := ⟨rfl, rfl, rfl, by decide +kernel, rfl, by decide +kernel, by decide +kernel⟩
theorem sc_Heap_names : FnScope ["self"] ["self"] (defScope s_Heap_names) := ⟨rfl, rfl, rfl, by decide +kernel, rfl, by decide +kernel, by decide +kernel⟩
theorem sc_Heap_normal : FnScope ["self", "fields", "names", "objects", "items", "k", "field", "row"] ["self"] (defScope s_Heap_normal) := ⟨rfl, rfl, rfl, by decide +kernel, rfl, by decide +kernel, by decide +kernel⟩
theorem sc_shape_of : FnScope ["row"] ["row"] (defScope s_shape_of) := ⟨rfl, rfl, rfl, by decide +kernel, rfl, by decide +kernel, by decide +kernel⟩
theorem sc_branches : FnScope ["row"] ["row"] (defScope s_branches) := ⟨rfl, rfl, rfl, by decide +kernel, rfl, by decide +kernel, by decide +kernel⟩
theorem sc_is_good_part : FnScope ["letter", "part", "fields"] ["letter", "part", "fields"] (defScope s_is_good_part) := ⟨rfl, rfl, rfl, by decide +kernel, rfl, by decide +kernel, by decide +kernel⟩
theorem sc_row_fault : FnScope ["row", "fields", "shape", "letter", "part"] ["row", "fields"] (defScope s_row_fault) := ⟨rfl, rfl, rfl, by decide +kernel, rfl, by decide +kernel, by decide +kernel⟩
theorem sc_is_plain : FnScope ["row", "fields"] ["row", "fields"] (defScope s_is_plain) := ⟨rfl, rfl, rfl, by decide +kernel, rfl, by decide +kernel, by decide +kernel⟩
theorem sc_Store_init : FnScope ["self", "heap", "number", "item", "field", "name"] ["self", "heap"] (defScope s_Store_init) := ⟨rfl, rfl, rfl, by decide +kernel, rfl, by decide +kernel, by decide +kernel⟩
theorem sc_Store_twin : FnScope ["self", "result", "thing", "cell"] ["self"] (defScope s_Store_twin) := ⟨rfl, rfl, rfl, by decide +kernel, rfl, by decide +kernel, by decide +kernel⟩
theorem sc_Store_held_by : FnScope ["self", "name"] ["self", "name"] (defScope s_Store_held_by) := ⟨rfl, rfl, rfl, by decide +kernel, rfl, by decide +kernel, by decide +kernel⟩
theorem sc_Store_is_frozen : FnScope ["self", "thing"] ["self", "thing"] (defScope s_Store_is_frozen) := ⟨rfl, rfl, rfl, by decide +kernel, rfl, by decide +kernel, by decide +kernel⟩
theorem sc_Store_perform : FnScope ["self", "row", "field"] ["self", "row"] (defScope s_Store_perform) := ⟨rfl, rfl, rfl, by decide +kernel, rfl, by decide +kernel, by decide +kernel⟩
theorem sc_Store_add_object : FnScope ["self", "cell", "frozen", "thing"] ["self", "cell", "frozen"] (defScope s_Store_add_object) := ⟨rfl, rfl, rfl, by decide +kernel, rfl, by decide +kernel, by decide +kernel⟩
theorem sc_Store_look : FnScope ["self", "x", "y", "field", "thing", "value", "source"] ["self", "x", "y", "field"] (defScope s_Store_look) := ⟨rfl, rfl, rfl, by decide +kernel, rfl, by decide +kernel, by decide +kernel⟩
theorem sc_Store_put : FnScope ["self", "x", "field", "y", "thing", "reader", "root", "depth", "cell"] ["self", "x", "field", "y"] (defScope s_Store_put) := ⟨rfl, rfl, rfl, by decide +kernel, rfl, by decide +kernel, by decide +kernel⟩
theorem sc_Store_in_sight : FnScope ["self", "root", "depth", "found", "ends", "away", "thing", "value", "source"] ["self", "root", "depth"] (defScope s_Store_in_sight) := ⟨rfl, rfl, rfl, by decide +kernel, rfl, by decide +kernel, by decide +kernel⟩
theorem sc_Store_copy_of : FnScope ["self", "root", "frozen", "depth", "ways", "made", "at", "way", "origin", "field", "value", "fresh", "cell", "source"] ["self", "root", "frozen", "depth"] (defScope s_Store_copy_of) := ⟨rfl, rfl, rfl, by decide +kernel, rfl, by decide +kernel, by decide +kernel⟩
theorem sc_Store_told_value : FnScope ["self", "name", "thing"] ["self", "name"] (defScope s_Store_told_value) := ⟨rfl, rfl, rfl, by decide +kernel, rfl, by decide +kernel, by decide +kernel⟩
theorem sc_Store_shown : FnScope ["self", "thing"] ["self", "thing"] (defScope s_Store_shown) := ⟨rfl, rfl, rfl, by decide +kernel, rfl, by decide +kernel, by decide +kernel⟩
theorem sc_Store_heap_of : FnScope ["self", "names", "numbers", "order", "name", "root", "at", "field", "value", "objects", "thing", "cell"] ["self", "names"] (defScope s_Store_heap_of) := ⟨rfl, rfl, rfl, by decide +kernel, rfl, by decide +kernel, by decide +kernel⟩
theorem sc_start_value : FnScope ["number"] ["number"] (defScope s_start_value) := ⟨rfl, rfl, rfl, by decide +kernel, rfl, by decide +kernel, by decide +kernel⟩
theorem sc_Kept_init : FnScope ["self", "live"] ["self", "live"] (defScope s_Kept_init) := ⟨rfl, rfl, rfl, by decide +kernel, rfl, by decide +kernel, by decide +kernel⟩
theorem sc_Kept_enter : FnScope ["self"] ["self"] (defScope s_Kept_enter) := ⟨rfl, rfl, rfl, by decide +kernel, rfl, by decide +kernel, by decide +kernel⟩
theorem sc_Kept_exit : FnScope ["self", "kind", "value", "trace"] ["self", "kind", "value", "trace"] (defScope s_Kept_exit) := ⟨rfl, rfl, rfl, by decide +kernel, rfl, by decide +kernel, by decide +kernel⟩
theorem sc_Live_init : FnScope ["self", "heap"] ["self", "heap"] (defScope s_Live_init) := ⟨rfl, rfl, rfl, by decide +kernel, rfl, by decide +kernel, by decide +kernel⟩
theorem sc_Live_takes : FnScope ["self", "row", "readers"] ["self", "row", "readers"] (defScope s_Live_takes) := ⟨rfl, rfl, rfl, by decide +kernel, rfl, by decide +kernel, by decide +kernel⟩
theorem sc_Live_readers_told : FnScope ["self", "reader", "root", "depth"] ["self"] (defScope s_Live_readers_told) := ⟨rfl, rfl, rfl, by decide +kernel, rfl, by decide +kernel, by decide +kernel⟩
theorem sc_Live_do : FnScope ["self", "row"] ["self", "row"] (defScope s_Live_do) := ⟨rfl, rfl, rfl, by decide +kernel, rfl, by decide +kernel, by decide +kernel⟩
theorem sc_Live_value : FnScope ["self", "name"] ["self", "name"] (defScope s_Live_value) := ⟨rfl, rfl, rfl, by decide +kernel, rfl, by decide +kernel, by decide +kernel⟩
theorem sc_Live_made : FnScope ["self"] ["self"] (defScope s_Live_made) := ⟨rfl, rfl, rfl, by decide +kernel, rfl, by decide +kernel, by decide +kernel⟩
theorem sc_Live_reached : FnScope ["self"] ["self"] (defScope s_Live_reached) := ⟨rfl, rfl, rfl, by decide +kernel, rfl, by decide +kernel, by decide +kernel⟩
theorem sc_Live_behind : FnScope ["self", "names"] ["self", "names"] (defScope s_Live_behind) := ⟨rfl, rfl, rfl, by decide +kernel, rfl, by decide +kernel, by decide +kernel⟩
theorem sc_Live_check_plain_rows : FnScope ["self", "rows", "readers", "row"] ["self", "rows"] (defScope s_Live_check_plain_rows) := ⟨rfl, rfl, rfl, by decide +kernel, rfl, by decide +kernel, by decide +kernel⟩
theorem sc_Live_trial : FnScope ["self", "rows", "word", "stopped", "index", "row", "hits"] ["self", "rows"] (defScope s_Live_trial) := ⟨rfl, rfl, rfl, by decide +kernel, rfl, by decide +kernel, by decide +kernel⟩
theorem sc_Live_attempt : FnScope ["self", "rows", "kept", "row"] ["self", "rows"] (defScope s_Live_attempt) := ⟨rfl, rfl, rfl, by decide +kernel, rfl, by decide +kernel, by decide +kernel⟩
theorem sc_law_draw : FnScope ["_law_pool", "_law_limit", "_law_cells", "_law_at", "_law_digit", "_law_cell", "_law_number"] ["_law_pool", "_law_limit"] (defScope s_law_draw) := ⟨rfl, rfl, rfl, by decide +kernel, rfl, by decide +kernel, by decide +kernel⟩
theorem sc_law_pick : FnScope ["_law_pool", "_law_row"] ["_law_pool", "_law_row"] (defScope s_law_pick) := ⟨rfl, rfl, rfl, by decide +kernel, rfl, by decide +kernel, by decide +kernel⟩
theorem sc_law_word : FnScope ["_law_pool", "_law_taken", "_law_letters", "_law_size", "_law_word_here", "_law_k", "_law_letter"] ["_law_pool", "_law_taken"] (defScope s_law_word) := ⟨rfl, rfl, rfl, by decide +kernel, rfl, by decide +kernel, by decide +kernel⟩
theorem sc_law_words : FnScope ["_law_pool", "_law_least", "_law_most", "_law_words_here", "_law_k"] ["_law_pool", "_law_least", "_law_most"] (defScope s_law_words) := ⟨rfl, rfl, rfl, by decide +kernel, rfl, by decide +kernel, by decide +kernel⟩
theorem sc_law_value : FnScope ["_law_pool", "_law_count", "_law_value_here"] ["_law_pool", "_law_count"] (defScope s_law_value) := ⟨rfl, rfl, rfl, by decide +kernel, rfl, by decide +kernel, by decide +kernel⟩
theorem sc_law_objects : FnScope ["_law_pool", "_law_fields", "_law_count", "_law_objects_here", "_law_k", "_law_item", "_law_field"] ["_law_pool", "_law_fields", "_law_count"] (defScope s_law_objects) := ⟨rfl, rfl, rfl, by decide +kernel, rfl, by decide +kernel, by decide +kernel⟩
theorem sc_law_names : FnScope ["_law_pool", "_law_names_here", "_law_count", "_law_holders", "_law_name_here", "_law_number"] ["_law_pool", "_law_names_here", "_law_count"] (defScope s_law_names) := ⟨rfl, rfl, rfl, by decide +kernel, rfl, by decide +kernel, by decide +kernel⟩
theorem sc_law_plain : FnScope ["_law_pool", "_law_words_here", "_law_fields", "_law_room", "_law_kind", "_law_x", "_law_y"] ["_law_pool", "_law_words_here", "_law_fields", "_law_room"] (defScope s_law_plain) := ⟨rfl, rfl, rfl, by decide +kernel, rfl, by decide +kernel, by decide +kernel⟩
theorem sc_law_exact : FnScope ["_law_actual", "_law_due"] ["_law_actual", "_law_due"] (defScope s_law_exact) := ⟨rfl, rfl, rfl, by decide +kernel, rfl, by decide +kernel, by decide +kernel⟩
theorem sc_law_do : FnScope ["_law_live", "_law_row", "_law_told", "e"] ["_law_live", "_law_row"] (defScope s_law_do) := ⟨rfl, rfl, rfl, by decide +kernel, rfl, by decide +kernel, by decide +kernel⟩
theorem sc_law_state : FnScope ["_law_live", "_law_words_here", "_law_told", "_law_word_here"] ["_law_live", "_law_words_here"] (defScope s_law_state) := ⟨rfl, rfl, rfl, by decide +kernel, rfl, by decide +kernel, by decide +kernel⟩
theorem sc_law_is_state : FnScope ["_law_live", "_law_words_here", "_law_due", "_law_told"] ["_law_live", "_law_words_here", "_law_due"] (defScope s_law_is_state) := ⟨rfl, rfl, rfl, by decide +kernel, rfl, by decide +kernel, by decide +kernel⟩
theorem sc_law_attempt : FnScope ["_law_live", "_law_rows", "_law_number", "e"] ["_law_live", "_law_rows"] (defScope s_law_attempt) := ⟨rfl, rfl, rfl, by decide +kernel, rfl, by decide +kernel, by decide +kernel⟩
theorem sc_law_name : FnScope ["_law_row"] ["_law_row"] (defScope s_law_name) := ⟨rfl, rfl, rfl, by decide +kernel, rfl, by decide +kernel, by decide +kernel⟩
theorem sc_law_round : FnScope ["_law_pool", "_law_one", "_law_two", "_law_words_here", "_law_fields", "_law_readers", "_law_spare", "_law_room", "_law_rows", "_law_k", "_law_before", "_law_tried", "_law_passed", "_law_told", "_law_row"] ["_law_pool", "_law_one", "_law_two", "_law_words_here", "_law_fields", "_law_readers"] (defScope s_law_round) := ⟨rfl, rfl, rfl, by decide +kernel, rfl, by decide +kernel, by decide +kernel⟩
theorem sc_law : FnScope ["_law_script", "_law_pool", "_law_words_here", "_law_fields", "_law_readers", "_law_count", "_law_objects_here", "_law_names_here", "_law_one", "_law_two", "_law_k"] ["_law_script"] (defScope s_law) := ⟨rfl, rfl, rfl, by decide +kernel, rfl, by decide +kernel, by decide +kernel⟩
end TW
set_option maxHeartbeats 0
namespace TW
open PySem PySem.Spec PyProof.Rows L2
/-! ### the head -/
def ads0 : List Addr := [3, 30, 31, 104, 105, 107, 108, 119, 120, 131, 132, 140, 141, 147, 148, 154, 155, 161, 162, 168, 169, 175, 176, 182, 183, 189, 190, 196, 197, 208, 209, 213, 214, 220, 221, 248, 249, 253, 254, 260]
def ads1 : List Addr := [261, 286, 287, 289, 290, 295, 296, 302, 303, 309, 310, 314, 315, 321, 322, 328, 329, 340, 341, 347, 348, 354, 355, 361, 362, 366, 367, 373, 374, 380, 381, 387, 388, 394, 395, 401, 402, 408, 409, 415]
def ads2 : List Addr := [416, 420, 421, 423, 424, 434, 435, 448, 449, 455, 456, 462, 463, 465, 466, 483, 484, 490, 491, 495, 496, 502, 503, 553, 554, 567, 568, 574, 575, 581, 582, 588, 589, 595, 596, 602, 603, 605, 606, 616]
def ads3 : List Addr := [617, 623, 624, 628, 629, 635, 636, 642, 643, 649, 650, 656, 657, 663, 664, 670, 671, 677, 678, 682, 683, 689, 690, 696, 697, 703, 704, 708, 709, 715, 716]
def ads : List Addr := ads0 ++ ads1 ++ ads2 ++ ads3
def obsL (g : Addr → Option Obj) : He.AlX := (He.obsT fa fn [tabSh] (He.frG g ads), exX (He.frG g ads))
def hk : PySem.W.Hook where
  α := He.AlX
  obs := fun s => obsL s.heap.get?
  val := fun w => (He.valT fn [tabSh] w, true)
  says := fun w h => ∃ K : PySem.W.Frag, K.In h ∧ He.SaysT fa fn [tabSh] w K ∧ exX K = true
  of := fun _ _ e => ⟨_, He.frG_in, congrArg (fun z : He.AlX => z.1) e, congrArg (fun z : He.AlX => z.2) e⟩
  keeps := fun _ _ _ ⟨K, hK, c⟩ k => ⟨K, PySem.W.Frag.In.keeps hK k, c⟩
abbrev R : PySem.W.OpenRow := PySem.W.OpenLaw.row PySem.Challenge.rw_thawedwrites_k38_whole_attempt_all_or_no
def ob (s : PySem.W.SharedT) : He.AlX := obsL (HandSHeadRun.getT s)
theorem ob_eq (s : PySem.W.SharedT) : ob s = hk.obs s.abs := by
  have e : HandSHeadRun.getT s = s.abs.heap.get? := funext (HandSHeadRun.getT_eq s)
  unfold ob
  rw [e]
  rfl
def loose1 : List Str := ["_wall", "ThawError", "InvalidHeap", "InvalidArgument", "LimitExceeded", "RunError", "Hollow", "Refused", "LETTERS", "LONGEST", "is_integer", "is_word", "is_word_list", "is_number_below", "MOST_OBJECTS", "MOST_NAMES", "is_object", "check_objects", "check_names", "meeting_numbers", "renumbered", "Heap", "SHAPES", "KINDS", "DEPTHS", "shape_of", "branches", "is_good_part", "row_fault", "is_plain"]
def loose2 : List Str := ["Store", "start_value", "MOST_START_OBJECTS", "Kept", "Live", "_law_draw", "_law_pick", "_law_word", "_law_words", "_law_value", "_law_objects", "_law_names", "_law_plain", "_law_exact", "_law_do", "_law_state", "_law_is_state", "_law_attempt", "_law_name", "_law_round"]
def looseL : List Str := loose1 ++ loose2
theorem run0 (w : World) : HandSHeadRun.RunEq R (PySem.W.view R.prog [57]) hk ob 9000 looseL (w.withFollow "special-get-raises" false) := fun os => by kernel_rfl
theorem run1 (w : World) : HandSHeadRun.RunEq R (PySem.W.view R.prog [57]) hk ob 9000 looseL (w.withFollow "special-get-raises" true) := fun os => by kernel_rfl
theorem run (w : World) : HandSHeadRun.RunEq R (PySem.W.view R.prog [57]) hk ob 9000 looseL w :=
  PySem.W.byRow2 "special-get-raises" (P := fun w => HandSHeadRun.RunEq R (PySem.W.view R.prog [57]) hk ob 9000 looseL w) run0 run1 w
end TW
namespace TW
/-! ## lists met one by one -/
section visit
variable {A : Type} [DecidableEq A]
/-- x is met: None is passed over, what stands already is passed over -/
def vis (o : List A) : Option A → List A
  | none => o
  | some x => if x ∈ o then o else o ++ [x]
def visL (o : List A) (vs : List (Option A)) : List A := vs.foldl vis o
theorem vis_none (o : List A) : vis o none = o := rfl
theorem vis_old {o : List A} {x : A} (h : x ∈ o) : vis o (some x) = o := if_pos h
theorem vis_new {o : List A} {x : A} (h : x ∉ o) : vis o (some x) = o ++ [x] := if_neg h
theorem visL_nil (o : List A) : visL o [] = o := rfl
theorem visL_cons (o : List A) (v : Option A) (vs : List (Option A)) : visL o (v :: vs) = visL (vis o v) vs := rfl
theorem visL_snoc (o : List A) (v : Option A) (vs : List (Option A)) : visL o (vs ++ [v]) = vis (visL o vs) v := by
  unfold visL; rw [List.foldl_append]; rfl
theorem visL_take {o : List A} {vs : List (Option A)} {j : Nat} {v : Option A} (h : vs[j]? = some v) : visL o (vs.take (j + 1)) = vis (visL o (vs.take j)) v := by
  rw [List.take_add_one, h]
  exact visL_snoc _ _ _
theorem vis_pre (o : List A) (v : Option A) : o <+: vis o v := by
  cases v with
  | none => exact List.prefix_refl _
  | some x =>
    by_cases h : x ∈ o
    · rw [vis_old h]; exact List.prefix_refl _
    · rw [vis_new h]; exact List.prefix_append _ _
theorem visL_pre (vs : List (Option A)) : ∀ o : List A, o <+: visL o vs := by
  induction vs with
  | nil => intro o; exact List.prefix_refl _
  | cons v vs ih => intro o; exact (vis_pre o v).trans (ih _)
theorem vis_mem {o : List A} {x : A} : x ∈ vis o (some x) := by
  by_cases h : x ∈ o
  · rw [vis_old h]; exact h
  · rw [vis_new h]; simp
theorem visL_mem {x : A} : ∀ {vs : List (Option A)} {o : List A}, some x ∈ vs → x ∈ visL o vs
  | v :: vs, o, h => by
    rcases List.mem_cons.mp h with e | h
    · subst e
      exact (visL_pre vs _).subset vis_mem
    · show x ∈ visL (vis o v) vs
      exact visL_mem h
theorem vis_sub {o : List A} {v : Option A} {y : A} (h : y ∈ vis o v) : y ∈ o ∨ v = some y := by
  cases v with
  | none => exact .inl h
  | some x =>
    by_cases hx : x ∈ o
    · rw [vis_old hx] at h; exact .inl h
    · rw [vis_new hx] at h
      rcases List.mem_append.mp h with h | h
      · exact .inl h
      · exact .inr (by rw [List.mem_singleton.mp h])
theorem visL_sub {y : A} : ∀ {vs : List (Option A)} {o : List A}, y ∈ visL o vs → y ∈ o ∨ some y ∈ vs
  | [], _, h => .inl h
  | v :: vs, o, h => by
    rcases visL_sub (vs := vs) h with h | h
    · rcases vis_sub h with h | h
      · exact .inl h
      · exact .inr (by rw [h]; exact List.mem_cons_self)
    · exact .inr (List.mem_cons_of_mem _ h)
theorem vis_nodup {o : List A} {v : Option A} (h : o.Nodup) : (vis o v).Nodup := by
  cases v with
  | none => exact h
  | some x =>
    by_cases hx : x ∈ o
    · rw [vis_old hx]; exact h
    · rw [vis_new hx, List.nodup_append]
      refine ⟨h, by simp, fun a ha b hb e => ?_⟩
      rw [List.mem_singleton.mp hb] at e
      exact hx (e ▸ ha)
theorem visL_nodup : ∀ {vs : List (Option A)} {o : List A}, o.Nodup → (visL o vs).Nodup
  | [], _, h => h
  | v :: vs, o, h => by
    show (visL (vis o v) vs).Nodup
    exact visL_nodup (vis_nodup h)
theorem nodup_le : ∀ {l d : List A}, l.Nodup → (∀ x ∈ l, x ∈ d) → l.length ≤ d.length
  | [], _, _, _ => Nat.zero_le _
  | x :: l, d, h, hs => by
    have hx : x ∈ d := hs x List.mem_cons_self
    have hn := List.nodup_cons.mp h
    have := nodup_le (l := l) (d := d.erase x) hn.2 fun y hy => by
      have hne : y ≠ x := fun e => hn.1 (e ▸ hy)
      exact (List.mem_erase_of_ne hne).mpr (hs y (List.mem_cons_of_mem _ hy))
    have e := List.length_erase_of_mem hx
    have : 0 < d.length := List.length_pos_of_mem hx
    simp only [List.length_cons]
    omega
/-! ## breadth first: behind i turns -/
def bfs (succ : A → List (Option A)) (o : List A) : Nat → List A
  | 0 => o
  | i + 1 => match (bfs succ o i)[i]? with
    | none => bfs succ o i
    | some x => visL (bfs succ o i) (succ x)
variable {succ : A → List (Option A)} {o : List A}
theorem bfs_turn {i : Nat} {x : A} (h : (bfs succ o i)[i]? = some x) : bfs succ o (i + 1) = visL (bfs succ o i) (succ x) := by
  show (match (bfs succ o i)[i]? with | none => bfs succ o i | some x => visL (bfs succ o i) (succ x)) = _
  rw [h]
theorem bfs_stay {i : Nat} (h : (bfs succ o i).length ≤ i) : bfs succ o (i + 1) = bfs succ o i := by
  show (match (bfs succ o i)[i]? with | none => bfs succ o i | some x => visL (bfs succ o i) (succ x)) = _
  rw [List.getElem?_eq_none_iff.mpr h]
theorem bfs_pre1 (i : Nat) : bfs succ o i <+: bfs succ o (i + 1) := by
  cases h : (bfs succ o i)[i]? with
  | none => rw [bfs_stay (List.getElem?_eq_none_iff.mp h)]; exact List.prefix_refl _
  | some x => rw [bfs_turn h]; exact visL_pre _ _
theorem bfs_pre (i : Nat) : ∀ k : Nat, bfs succ o i <+: bfs succ o (i + k)
  | 0 => List.prefix_refl _
  | k + 1 => (bfs_pre i k).trans (bfs_pre1 (i + k))
theorem bfs_end {i : Nat} (h : (bfs succ o i).length ≤ i) : ∀ k : Nat, bfs succ o (i + k) = bfs succ o i
  | 0 => rfl
  | k + 1 => by
    have e := bfs_end h k
    have : bfs succ o (i + k + 1) = bfs succ o (i + k) := bfs_stay (by rw [e]; omega)
    exact this.trans e
theorem bfs_nodup (h : o.Nodup) : ∀ i : Nat, (bfs succ o i).Nodup
  | 0 => h
  | i + 1 => by
    cases e : (bfs succ o i)[i]? with
    | none => rw [bfs_stay (List.getElem?_eq_none_iff.mp e)]; exact bfs_nodup h i
    | some x => rw [bfs_turn e]; exact visL_nodup (bfs_nodup h i)
theorem bfs_all {P : A → Prop} (h0 : ∀ x ∈ o, P x) (hs : ∀ x, P x → ∀ y, some y ∈ succ x → P y) : ∀ i : Nat, ∀ x ∈ bfs succ o i, P x
  | 0 => h0
  | i + 1 => by
    intro x hx
    cases e : (bfs succ o i)[i]? with
    | none => rw [bfs_stay (List.getElem?_eq_none_iff.mp e)] at hx; exact bfs_all h0 hs i x hx
    | some y =>
      rw [bfs_turn e] at hx
      rcases visL_sub hx with hx | hx
      · exact bfs_all h0 hs i x hx
      · exact hs y (bfs_all h0 hs i y (List.mem_of_getElem? e)) x hx
/-- what is met at the end is closed -/
theorem bfs_closed {n : Nat} (hn : (bfs succ o n).length ≤ n) {x y : A} (hx : x ∈ bfs succ o n) (hy : some y ∈ succ x) : y ∈ bfs succ o n := by
  obtain ⟨i, hi, e⟩ := List.getElem_of_mem hx
  have hin : i < n := Nat.lt_of_lt_of_le hi hn
  have hii : i < (bfs succ o i).length := by
    apply Nat.lt_of_not_le
    intro hc
    have := bfs_end hc (n - i)
    rw [show i + (n - i) = n by omega] at this
    rw [this] at hi
    omega
  have hp : bfs succ o i <+: bfs succ o n := by
    have := bfs_pre (succ := succ) (o := o) i (n - i)
    rwa [show i + (n - i) = n by omega] at this
  have hp1 : bfs succ o (i + 1) <+: bfs succ o n := by
    have := bfs_pre (succ := succ) (o := o) (i + 1) (n - (i + 1))
    rwa [show i + 1 + (n - (i + 1)) = n by omega] at this
  have ei : (bfs succ o i)[i]? = some x := by
    rw [List.getElem?_eq_getElem hii]
    have := hp.getElem hii
    rw [this, e]
  have : y ∈ bfs succ o (i + 1) := by rw [bfs_turn ei]; exact visL_mem hy
  exact hp1.subset this
/-! ## places -/
def pos : List A → A → Option Nat
  | [], _ => none
  | y :: r, x => if y = x then some 0 else (pos r x).map (· + 1)
theorem pos_lt : ∀ {l : List A} {x : A} {i : Nat}, pos l x = some i → i < l.length
  | y :: r, x, i, h => by
    unfold pos at h
    split at h
    · cases h; simp
    · cases e : pos r x with
      | none => rw [e] at h; cases h
      | some j =>
        rw [e] at h
        have hj := pos_lt e
        have : j + 1 = i := Option.some.inj h
        simp only [List.length_cons]
        omega
theorem pos_mem : ∀ {l : List A} {x : A}, x ∈ l → ∃ i, pos l x = some i
  | y :: r, x, h => by
    unfold pos
    split
    · exact ⟨0, rfl⟩
    · rename_i hne
      rcases List.mem_cons.mp h with e | h
      · exact absurd e.symm hne
      · obtain ⟨i, e⟩ := pos_mem h
        exact ⟨i + 1, by rw [e]; rfl⟩
theorem pos_none {l : List A} {x : A} (h : x ∉ l) : pos l x = none := by
  induction l with
  | nil => rfl
  | cons y r ih =>
    unfold pos
    rw [if_neg fun e => h (by rw [e]; exact List.mem_cons_self), ih fun e => h (List.mem_cons_of_mem _ e)]
    rfl
theorem pos_at : ∀ {l : List A} {k : Nat} {x : A}, l.Nodup → l[k]? = some x → pos l x = some k
  | y :: r, 0, x, _, h => by
    have : y = x := by simpa using h
    unfold pos
    rw [if_pos this]
  | y :: r, k + 1, x, hn, h => by
    have h' : r[k]? = some x := by simpa using h
    have hn' := List.nodup_cons.mp hn
    have hne : y ≠ x := fun e => hn'.1 (e ▸ List.mem_of_getElem? h')
    unfold pos
    rw [if_neg hne, pos_at hn'.2 h']
    rfl
theorem pos_snoc {l : List A} {x y : A} : pos (l ++ [y]) x = match pos l x with | some i => some i | none => if y = x then some l.length else none := by
  induction l with
  | nil => unfold pos; simp [pos]
  | cons z r ih =>
    show (if z = x then some 0 else (pos (r ++ [y]) x).map (· + 1)) = (match (if z = x then some 0 else (pos r x).map (· + 1)) with | some i => some i | none => if y = x then some (z :: r).length else none)
    by_cases h : z = x
    · simp [h]
    · rw [if_neg h, if_neg h, ih]
      cases pos r x with
      | some i => rfl
      | none =>
        by_cases h2 : y = x
        · simp [h2]
        · simp [h2]
/-- the place of a value that may be None -/
def idx (o : List A) (v : Option A) : Option Nat := v.bind (pos o)
theorem idx_lt {o : List A} {v : Option A} {i : Nat} (h : idx o v = some i) : i < o.length := by
  cases v with
  | none => cases h
  | some x => exact pos_lt h
/-! ## what lies within d fields: found, and where the last layer begins -/
def sgt (nb : A → List (Option A)) (r : A) : Nat → List A × Nat
  | 0 => ([r], 0)
  | d + 1 => (((sgt nb r d).1.drop (sgt nb r d).2).foldl (fun o t => visL o (nb t)) (sgt nb r d).1, (sgt nb r d).1.length)
variable {nb : A → List (Option A)}
theorem layer_all {P : A → Prop} (hs : ∀ x, P x → ∀ y, some y ∈ nb x → P y) : ∀ {ts o : List A}, (∀ x ∈ ts, P x) → (∀ x ∈ o, P x) → ∀ x ∈ ts.foldl (fun o t => visL o (nb t)) o, P x
  | [], _, _, ho => ho
  | t :: ts, o, ht, ho => layer_all hs (ts := ts) (fun x hx => ht x (List.mem_cons_of_mem _ hx)) fun x hx => by
    rcases visL_sub hx with hx | hx
    · exact ho x hx
    · exact hs t (ht t List.mem_cons_self) x hx
theorem layer_nodup : ∀ {ts o : List A}, o.Nodup → (ts.foldl (fun o t => visL o (nb t)) o).Nodup
  | [], _, ho => ho
  | _ :: ts, _, ho => layer_nodup (ts := ts) (visL_nodup ho)
theorem sgt_all {P : A → Prop} {r : A} (h0 : P r) (hs : ∀ x, P x → ∀ y, some y ∈ nb x → P y) : ∀ d : Nat, ∀ x ∈ (sgt nb r d).1, P x
  | 0 => by
    intro x hx
    rw [show x = r by simpa [sgt] using hx]
    exact h0
  | d + 1 => layer_all hs (fun x hx => sgt_all h0 hs d x (List.drop_subset _ _ hx)) (sgt_all h0 hs d)
theorem sgt_nodup {r : A} : ∀ d : Nat, (sgt nb r d).1.Nodup
  | 0 => by simp [sgt]
  | d + 1 => layer_nodup (sgt_nodup d)
end visit
/-! ## ways: a queue of (way, origin) -/
section ways
variable {N A : Type} [DecidableEq N]
def kids (fs : List N) (val : A → N → Option A) (w : List N) (o : A) : List (List N × A) := fs.filterMap fun f => (val o f).map fun v => (w ++ [f], v)
def wst (fs : List N) (val : A → N → Option A) (d : Nat) (ws : List (List N × A)) (i : Nat) : List (List N × A) :=
  match ws[i]? with
  | none => ws
  | some (w, o) => if w.length + 1 < d then ws ++ kids fs val w o else ws
def wys (fs : List N) (val : A → N → Option A) (d : Nat) (r : A) : Nat → List (List N × A)
  | 0 => [([], r)]
  | i + 1 => wst fs val d (wys fs val d r i) i
variable {fs : List N} {val : A → N → Option A} {d : Nat} {r : A}
theorem wys_turn {i : Nat} {w : List N} {o : A} (h : (wys fs val d r i)[i]? = some (w, o)) : wys fs val d r (i + 1) = if w.length + 1 < d then wys fs val d r i ++ kids fs val w o else wys fs val d r i := by
  show wst fs val d (wys fs val d r i) i = _
  unfold wst
  rw [h]
theorem wys_stay {i : Nat} (h : (wys fs val d r i).length ≤ i) : wys fs val d r (i + 1) = wys fs val d r i := by
  show wst fs val d (wys fs val d r i) i = _
  unfold wst
  rw [List.getElem?_eq_none_iff.mpr h]
theorem wys_pre1 (i : Nat) : wys fs val d r i <+: wys fs val d r (i + 1) := by
  cases h : (wys fs val d r i)[i]? with
  | none => rw [wys_stay (List.getElem?_eq_none_iff.mp h)]; exact List.prefix_refl _
  | some p =>
    obtain ⟨w, o⟩ := p
    rw [wys_turn h]
    split
    · exact List.prefix_append _ _
    · exact List.prefix_refl _
theorem wys_pre (i : Nat) : ∀ k : Nat, wys fs val d r i <+: wys fs val d r (i + k)
  | 0 => List.prefix_refl _
  | k + 1 => (wys_pre i k).trans (wys_pre1 (i + k))
theorem wys_end {i : Nat} (h : (wys fs val d r i).length ≤ i) : ∀ k : Nat, wys fs val d r (i + k) = wys fs val d r i
  | 0 => rfl
  | k + 1 => by
    have e := wys_end h k
    have : wys fs val d r (i + k + 1) = wys fs val d r (i + k) := wys_stay (by rw [e]; omega)
    exact this.trans e
theorem wys_all {P : A → Prop} (h0 : P r) (hs : ∀ x, P x → ∀ f ∈ fs, ∀ y, val x f = some y → P y) : ∀ i : Nat, ∀ p ∈ wys fs val d r i, P p.2
  | 0 => by
    intro p hp
    rw [show p = ([], r) by simpa [wys] using hp]
    exact h0
  | i + 1 => by
    intro p hp
    cases e : (wys fs val d r i)[i]? with
    | none => rw [wys_stay (List.getElem?_eq_none_iff.mp e)] at hp; exact wys_all h0 hs i p hp
    | some q =>
      obtain ⟨w, o⟩ := q
      rw [wys_turn e] at hp
      split at hp
      · rcases List.mem_append.mp hp with hp | hp
        · exact wys_all h0 hs i p hp
        · obtain ⟨f, hf, ef⟩ := List.mem_filterMap.mp hp
          cases ev : val o f with
          | none => rw [ev] at ef; cases ef
          | some v =>
            rw [ev] at ef
            have : (w ++ [f], v) = p := Option.some.inj ef
            rw [← this]
            exact hs o (wys_all h0 hs i (w, o) (List.mem_of_getElem? e)) f hf v ev
      · exact wys_all h0 hs i p hp
theorem wys_head : ∀ i : Nat, (wys fs val d r i)[0]? = some ([], r)
  | 0 => rfl
  | i + 1 => by
    obtain ⟨t, e⟩ := wys_pre1 (fs := fs) (val := val) (d := d) (r := r) i
    have h := wys_head i
    rw [← e]
    rw [List.getElem?_append_left (List.getElem?_eq_some_iff.mp h).1]
    exact h
/-- the most that a way of this length can lead to, itself included -/
def wt (d n : Nat) : Nat := 2 ^ (d - n) - 1
def pot (d : Nat) : List (List N × A) → Nat
  | [] => 0
  | p :: r => wt d p.1.length + pot d r
theorem pot_app (d : Nat) : ∀ a b : List (List N × A), pot d (a ++ b) = pot d a + pot d b
  | [], b => by simp [pot]
  | p :: a, b => by
    show wt d p.1.length + pot d (a ++ b) = wt d p.1.length + pot d a + pot d b
    rw [pot_app d a b]
    omega
theorem pot_le {d n : Nat} : ∀ {l : List (List N × A)}, (∀ p ∈ l, p.1.length = n) → pot d l = l.length * wt d n
  | [], _ => by simp [pot]
  | p :: r, h => by
    show wt d p.1.length + pot d r = (r.length + 1) * wt d n
    rw [h p List.mem_cons_self, pot_le fun q hq => h q (List.mem_cons_of_mem _ hq), Nat.add_mul]
    omega
theorem wt_pos {d n : Nat} (h : n < d) : 1 ≤ wt d n := by
  unfold wt
  have : 2 ^ 1 ≤ 2 ^ (d - n) := Nat.pow_le_pow_right (by decide) (by omega)
  omega
theorem wt_two {d n : Nat} (h : n + 1 < d) : 1 + 2 * wt d (n + 1) = wt d n := by
  unfold wt
  have e : d - n = (d - (n + 1)) + 1 := by omega
  have : 2 ^ 1 ≤ 2 ^ (d - (n + 1)) := Nat.pow_le_pow_right (by decide) (by omega)
  rw [e, Nat.pow_succ]
  omega
theorem pot_ge {d : Nat} : ∀ {l : List (List N × A)}, (∀ p ∈ l, p.1.length < d) → l.length ≤ pot d l
  | [], _ => Nat.zero_le _
  | p :: r, h => by
    have h1 := wt_pos (h p List.mem_cons_self)
    have h2 := pot_ge (l := r) fun q hq => h q (List.mem_cons_of_mem _ hq)
    show r.length + 1 ≤ wt d p.1.length + pot d r
    omega
theorem kids_len {w : List N} {o : A} : ∀ p ∈ kids fs val w o, p.1.length = w.length + 1 := by
  intro p hp
  obtain ⟨f, _, ef⟩ := List.mem_filterMap.mp hp
  cases ev : val o f with
  | none => rw [ev] at ef; cases ef
  | some v =>
    rw [ev] at ef
    rw [← Option.some.inj ef]
    simp
theorem kids_two {w : List N} {o : A} (hf : fs.length ≤ 2) : (kids fs val w o).length ≤ 2 :=
  Nat.le_trans (List.length_filterMap_le _ _) hf
theorem wys_pot (hf : fs.length ≤ 2) (hd : 0 < d) : ∀ i : Nat, (∀ p ∈ wys fs val d r i, p.1.length < d) ∧ (i ≤ (wys fs val d r i).length → i + pot d ((wys fs val d r i).drop i) ≤ wt d 0)
  | 0 => by
    refine ⟨fun p hp => ?_, fun _ => ?_⟩
    · rw [show p = ([], r) by simpa [wys] using hp]
      exact hd
    · show 0 + (wt d 0 + 0) ≤ wt d 0
      omega
  | i + 1 => by
    obtain ⟨h1, h2⟩ := wys_pot hf hd i
    cases e : (wys fs val d r i)[i]? with
    | none =>
      have hl := List.getElem?_eq_none_iff.mp e
      rw [wys_stay hl]
      exact ⟨h1, fun h => absurd h (by omega)⟩
    | some q =>
      obtain ⟨w, o⟩ := q
      have hil := (List.getElem?_eq_some_iff.mp e).1
      have hw : w.length < d := h1 (w, o) (List.mem_of_getElem? e)
      have h3 := h2 (Nat.le_of_lt hil)
      have hdrop : (wys fs val d r i).drop i = (w, o) :: (wys fs val d r i).drop (i + 1) := by
        rw [List.drop_eq_getElem_cons hil]
        congr 1
        exact (List.getElem?_eq_some_iff.mp e).2
      rw [hdrop] at h3
      have h3' : i + (wt d w.length + pot d ((wys fs val d r i).drop (i + 1))) ≤ wt d 0 := h3
      rw [wys_turn e]
      split
      · rename_i hlt
        refine ⟨fun p hp => ?_, fun _ => ?_⟩
        · rcases List.mem_append.mp hp with hp | hp
          · exact h1 p hp
          · rw [kids_len p hp]; exact hlt
        · rw [List.drop_append_of_le_length (by omega), pot_app, pot_le kids_len]
          have hk := kids_two (fs := fs) (val := val) (w := w) (o := o) hf
          have := Nat.mul_le_mul_right (wt d (w.length + 1)) hk
          have := wt_two hlt
          omega
      · refine ⟨h1, fun _ => ?_⟩
        have := wt_pos hw
        omega
theorem wys_len (hf : fs.length ≤ 2) (hd : 0 < d) (hd4 : d ≤ 4) : ∀ i : Nat, (wys fs val d r i).length ≤ 15 := by
  have hw : wt d 0 ≤ 15 := by
    unfold wt
    have : 2 ^ (d - 0) ≤ 2 ^ 4 := Nat.pow_le_pow_right (by decide) (by omega)
    omega
  have key : ∀ i : Nat, i ≤ (wys fs val d r i).length → (wys fs val d r i).length ≤ 15 := fun i hi => by
    obtain ⟨h1, h2⟩ := wys_pot (r := r) (val := val) hf hd i
    have h3 := h2 hi
    have h4 := pot_ge (l := (wys fs val d r i).drop i) fun p hp => h1 p (List.mem_of_mem_drop hp)
    rw [List.length_drop] at h4
    omega
  intro i
  induction i with
  | zero => show 1 ≤ 15; decide
  | succ i ih =>
    by_cases h : i + 1 ≤ (wys fs val d r (i + 1)).length
    · exact key _ h
    · cases e : (wys fs val d r i)[i]? with
      | none => rw [wys_stay (List.getElem?_eq_none_iff.mp e)]; exact ih
      | some q =>
        have := (List.getElem?_eq_some_iff.mp e).1
        have := (wys_pre1 (fs := fs) (val := val) (d := d) (r := r) i).length_le
        omega
/-- the last place of a way among the first n -/
def mad (ws : List (List N × A)) (w : List N) : Nat → Option Nat
  | 0 => none
  | i + 1 => if (ws[i]?).map (·.1) = some w then some i else mad ws w i
theorem mad_pre {ws ws' : List (List N × A)} (h : ws <+: ws') {w : List N} : ∀ {n : Nat}, n ≤ ws.length → mad ws' w n = mad ws w n
  | 0, _ => rfl
  | i + 1, hn => by
    have e : ws'[i]? = ws[i]? := by
      obtain ⟨t, e⟩ := h
      rw [← e, List.getElem?_append_left hn]
    show (if (ws'[i]?).map (·.1) = some w then some i else mad ws' w i) = (if (ws[i]?).map (·.1) = some w then some i else mad ws w i)
    rw [e, mad_pre h (Nat.le_of_lt hn)]
theorem mad_lt {ws : List (List N × A)} {w : List N} : ∀ {n i : Nat}, mad ws w n = some i → i < n
  | n + 1, i, h => by
    unfold mad at h
    split at h
    · cases h; exact Nat.lt_succ_self _
    · exact Nat.lt_succ_of_lt (mad_lt h)
theorem mad_has {ws : List (List N × A)} {w : List N} {j : Nat} (h : (ws[j]?).map (·.1) = some w) : ∀ {n : Nat}, j < n → ∃ i, mad ws w n = some i
  | n + 1, hn => by
    unfold mad
    split
    · exact ⟨_, rfl⟩
    · rename_i hne
      have : j ≠ n := fun e => hne (e ▸ h)
      exact mad_has h (by omega)
end ways
/-! ## the store -/
/-- an object: a start object, an own object -/
inductive Tg where
  | st (n : Nat) | ow (k : Nat)
  deriving DecidableEq
section store
variable {N : Type} [DecidableEq N]
structure S (N : Type) where
  nst : Nat
  now : Nat
  val : Tg → N → Option Tg
  src : Tg → N → Option (Nat × N)
  hold : N → Option Tg
  fro : List Bool
  wat : List (N × Option Tg × Nat)
  hits : List (Nat × N)
  seen : List (Nat × N)
  puts : Nat
def S.inn (s : S N) : Tg → Prop
  | .st n => n < s.nst
  | .ow k => k < s.now
instance (s : S N) (t : Tg) : Decidable (s.inn t) := by cases t <;> (unfold S.inn; infer_instance)
/-- the objects in the order of the dict -/
def dom (a b : Nat) : List Tg := (List.range a).map .st ++ (List.range b).map .ow
theorem dom_len (a b : Nat) : (dom a b).length = a + b := by simp [dom]
theorem dom_mem {s : S N} {t : Tg} : t ∈ dom s.nst s.now ↔ s.inn t := by
  cases t <;> simp [dom, S.inn]
theorem dom_succ (a b : Nat) : dom a (b + 1) = dom a b ++ [.ow b] := by
  unfold dom
  rw [List.range_succ, List.map_append, ← List.append_assoc]
  rfl
theorem dom_start (a : Nat) : dom (a + 1) 0 = dom a 0 ++ [.st a] := by
  unfold dom
  rw [List.range_succ, List.map_append]
  simp
/-- every value is an object that stands -/
structure WF (fs : List N) (s : S N) : Prop where
  val : ∀ t f u, s.inn t → f ∈ fs → s.val t f = some u → s.inn u
  hold : ∀ x u, s.hold x = some u → s.inn u
  wat : ∀ w ∈ s.wat, ∀ u, w.2.1 = some u → s.inn u
def nbs (fs : List N) (s : S N) (t : Tg) : List (Option Tg) := fs.map (s.val t)
theorem WF.nbs {fs : List N} {s : S N} (h : WF fs s) : ∀ t, s.inn t → ∀ u, some u ∈ nbs fs s t → s.inn u := fun t ht u hu => by
  obtain ⟨f, hf, e⟩ := List.mem_map.mp hu
  exact h.val t f u ht hf e
def set1 {B : Type} (g : N → B) (x : N) (v : B) : N → B := fun y => if y = x then v else g y
inductive Row (N : Type) where
  | move (x y : N) | none (x : N) | new (x : N) | look (x y f : N) | put (x f y : N) | copy (x y : N) (frz : Bool) (d : Nat) | watch (r x : N) (d : Nat)
inductive Res (N : Type) where
  | ok (s : S N) | hollow (x : N) | refused (x : N)
def sees (fs : List N) (s : S N) : Option Tg → Nat → List Tg
  | none, _ => []
  | some r, d => (sgt (nbs fs s) r d).1
def hit1 (fs : List N) (s : S N) (t : Tg) (h : List (Nat × N)) (w : N × Option Tg × Nat) : List (Nat × N) := if t ∈ sees fs s w.2.1 w.2.2 then h ++ [(s.puts, w.1)] else h
def isFro (s : S N) : Tg → Bool
  | .st _ => false
  | .ow k => s.fro.getD k false
abbrev Cell (N : Type) := (N → Option Tg) × (N → Option (Nat × N))
def addObj (s : S N) (c : Cell N) (b : Bool) : S N :=
  { s with now := s.now + 1, val := fun t f => if t = .ow s.now then c.1 f else s.val t f, src := fun t f => if t = .ow s.now then c.2 f else s.src t f, fro := s.fro ++ [b] }
def addAll (b : Bool) : List (Cell N) → S N → S N
  | [], s => s
  | c :: r, s => addAll b r (addObj s c b)
@[irreducible] def wmax : Nat := 15
theorem wmax_eq : wmax = 15 := by unfold wmax; rfl
def wysOf (fs : List N) (s : S N) (d : Nat) (r : Tg) : List (List N × Tg) := wys fs s.val d r wmax
def cell1 (s : S N) (ws : List (List N × Tg)) (p : List N × Tg) : Cell N :=
  (fun f => match mad ws (p.1 ++ [f]) ws.length with | some i => some (.ow (s.now + i)) | none => s.val p.2 f, s.src p.2)
def copyOf (fs : List N) (s : S N) (frz : Bool) : Option Tg → Nat → S N × Option Tg
  | none, _ => (s, none)
  | some r, 0 => (s, some r)
  | some r, d + 1 => (addAll frz ((wysOf fs s (d + 1) r).map (cell1 s (wysOf fs s (d + 1) r))) s, (mad (wysOf fs s (d + 1) r) [] (wysOf fs s (d + 1) r).length).map fun i => .ow (s.now + i))
def lookP (s : S N) (x y f : N) : Res N := match s.hold y with
  | none => .hollow y
  | some t => .ok { s with seen := vis s.seen (s.src t f), hold := set1 s.hold x (s.val t f) }
def putD (fs : List N) (s : S N) (t : Tg) (f y : N) : S N :=
  { s with hits := s.wat.foldl (hit1 fs s t) s.hits, puts := s.puts + 1, val := fun u g => if u = t ∧ g = f then s.hold y else s.val u g, src := fun u g => if u = t ∧ g = f then none else s.src u g }
def putP (fs : List N) (s : S N) (x f y : N) : Res N := match s.hold x with
  | none => .hollow x
  | some t => if isFro s t = true then .refused x else .ok (putD fs s t f y)
def newP (s : S N) (x : N) : S N := { addObj s (fun _ => none, fun _ => none) false with hold := set1 s.hold x (some (.ow s.now)) }
def copyP (fs : List N) (s : S N) (x y : N) (frz : Bool) (d : Nat) : S N := { (copyOf fs s frz (s.hold y) d).1 with hold := set1 s.hold x (copyOf fs s frz (s.hold y) d).2 }
def perf (fs : List N) (s : S N) : Row N → Res N
  | .move x y => .ok { s with hold := set1 s.hold x (s.hold y) }
  | .none x => .ok { s with hold := set1 s.hold x none }
  | .new x => .ok (newP s x)
  | .look x y f => lookP s x y f
  | .put x f y => putP fs s x f y
  | .copy x y frz d => .ok (copyP fs s x y frz d)
  | .watch r x d => .ok { s with wat := s.wat ++ [(r, s.hold x, d)] }
theorem lookP_none {s : S N} {x y f : N} (h : s.hold y = none) : lookP s x y f = .hollow y := by unfold lookP; rw [h]
theorem lookP_some {s : S N} {x y f : N} {t : Tg} (h : s.hold y = some t) : lookP s x y f = .ok { s with seen := vis s.seen (s.src t f), hold := set1 s.hold x (s.val t f) } := by unfold lookP; rw [h]
theorem putP_none {fs : List N} {s : S N} {x f y : N} (h : s.hold x = none) : putP fs s x f y = .hollow x := by unfold putP; rw [h]
theorem putP_fro {fs : List N} {s : S N} {x f y : N} {t : Tg} (h : s.hold x = some t) (hf : isFro s t = true) : putP fs s x f y = .refused x := by unfold putP; rw [h]; exact if_pos hf
theorem putP_some {fs : List N} {s : S N} {x f y : N} {t : Tg} (h : s.hold x = some t) (hf : isFro s t = false) : putP fs s x f y = .ok (putD fs s t f y) := by unfold putP; rw [h]; exact if_neg (by rw [hf]; exact Bool.false_ne_true)
/-! ### validity -/
theorem inn_mono {s s' : S N} (h1 : s.nst ≤ s'.nst) (h2 : s.now ≤ s'.now) {t : Tg} (h : s.inn t) : s'.inn t := by
  cases t with
  | st n => exact Nat.lt_of_lt_of_le h h1
  | ow k => exact Nat.lt_of_lt_of_le h h2
theorem addAll_facts (b : Bool) : ∀ (cs : List (Cell N)) (s : S N), (addAll b cs s).nst = s.nst ∧ (addAll b cs s).now = s.now + cs.length ∧ (addAll b cs s).hold = s.hold ∧ (addAll b cs s).wat = s.wat ∧
    (addAll b cs s).hits = s.hits ∧ (addAll b cs s).seen = s.seen ∧ (addAll b cs s).puts = s.puts ∧ (addAll b cs s).fro.length = s.fro.length + cs.length
  | [], s => ⟨rfl, rfl, rfl, rfl, rfl, rfl, rfl, rfl⟩
  | c :: r, s => by
    obtain ⟨h1, h2, h3, h4, h5, h6, h7, h8⟩ := addAll_facts b r (addObj s c b)
    refine ⟨h1, ?_, h3, h4, h5, h6, h7, ?_⟩
    · show (addAll b r (addObj s c b)).now = _
      rw [h2]
      show s.now + 1 + r.length = s.now + (r.length + 1)
      omega
    · show (addAll b r (addObj s c b)).fro.length = _
      rw [h8]
      show (s.fro ++ [b]).length + r.length = s.fro.length + (r.length + 1)
      simp
      omega
/-- what stands keeps its fields; the new ones have theirs -/
theorem addAll_val (b : Bool) : ∀ (cs : List (Cell N)) (s : S N) (t : Tg) (f : N), (addAll b cs s).val t f = match t with
    | .st n => s.val (.st n) f
    | .ow k => if k < s.now then s.val (.ow k) f else match cs[k - s.now]? with | some c => c.1 f | none => s.val (.ow k) f
  | [], s, t, f => by
    cases t with
    | st n => rfl
    | ow k => simp [addAll]
  | c :: r, s, t, f => by
    have ih := addAll_val b r (addObj s c b) t f
    show (addAll b r (addObj s c b)).val t f = _
    rw [ih]
    cases t with
    | st n => simp [addObj]
    | ow k =>
      show (if k < s.now + 1 then (if Tg.ow k = Tg.ow s.now then c.1 f else s.val (.ow k) f) else match r[k - (s.now + 1)]? with | some c => c.1 f | none => (if Tg.ow k = Tg.ow s.now then c.1 f else s.val (.ow k) f)) = _
      by_cases h1 : k < s.now
      · rw [if_pos (by omega), if_neg (by intro e; injection e; omega)]
        simp [h1]
      · by_cases h2 : k = s.now
        · subst h2
          rw [if_pos (by omega), if_pos rfl]
          simp
        · rw [if_neg (by omega), if_neg (by intro e; injection e; omega)]
          simp only [h1, if_false]
          obtain ⟨j, rfl⟩ : ∃ j, k = s.now + 1 + j := ⟨k - (s.now + 1), by omega⟩
          rw [show s.now + 1 + j - (s.now + 1) = j by omega, show s.now + 1 + j - s.now = j + 1 by omega]
          rfl
theorem wysOf_len {fs : List N} {s : S N} {d : Nat} {r : Tg} (hf : fs.length ≤ 2) (hd : d + 1 ≤ 4) : (wysOf fs s (d + 1) r).length ≤ 15 := wys_len hf (Nat.succ_pos d) hd wmax
theorem copyOf_succ (fs : List N) (s : S N) (frz : Bool) (r : Tg) (d : Nat) : copyOf fs s frz (some r) (d + 1) = (addAll frz ((wysOf fs s (d + 1) r).map (cell1 s (wysOf fs s (d + 1) r))) s, (mad (wysOf fs s (d + 1) r) [] (wysOf fs s (d + 1) r).length).map fun i => .ow (s.now + i)) := rfl
theorem copyOf_facts (fs : List N) (s : S N) (frz : Bool) (v : Option Tg) (d : Nat) : ∃ n, (copyOf fs s frz v d).1.nst = s.nst ∧ (copyOf fs s frz v d).1.now = s.now + n ∧ (copyOf fs s frz v d).1.hold = s.hold ∧ (copyOf fs s frz v d).1.wat = s.wat ∧
    (copyOf fs s frz v d).1.hits = s.hits ∧ (copyOf fs s frz v d).1.seen = s.seen ∧ (copyOf fs s frz v d).1.puts = s.puts ∧ (copyOf fs s frz v d).1.fro.length = s.fro.length + n ∧ (fs.length ≤ 2 → d ≤ 4 → n ≤ 15) := by
  cases v with
  | none => exact ⟨0, rfl, rfl, rfl, rfl, rfl, rfl, rfl, rfl, fun _ _ => Nat.zero_le _⟩
  | some r =>
    cases d with
    | zero => exact ⟨0, rfl, rfl, rfl, rfl, rfl, rfl, rfl, rfl, fun _ _ => Nat.zero_le _⟩
    | succ d =>
      have hl : fs.length ≤ 2 → d + 1 ≤ 4 → (wysOf fs s (d + 1) r).length ≤ 15 := fun hf hd => wysOf_len hf hd
      rw [copyOf_succ]
      generalize wysOf fs s (d + 1) r = ws at hl
      obtain ⟨h1, h2, h3, h4, h5, h6, h7, h8⟩ := addAll_facts frz (ws.map (cell1 s ws)) s
      rw [List.length_map] at h2 h8
      exact ⟨ws.length, h1, h2, h3, h4, h5, h6, h7, h8, hl⟩
theorem addAll_old {b : Bool} {cs : List (Cell N)} {s : S N} {t : Tg} (h : s.inn t) : (addAll b cs s).inn t :=
  inn_mono (Nat.le_of_eq (addAll_facts b cs s).1.symm) (by rw [(addAll_facts b cs s).2.1]; omega) h
theorem addAll_new {b : Bool} {cs : List (Cell N)} {s : S N} {i : Nat} (h : i < cs.length) : (addAll b cs s).inn (.ow (s.now + i)) := by
  show s.now + i < (addAll b cs s).now
  rw [(addAll_facts b cs s).2.1]
  omega
theorem WF.of_add {fs : List N} {s : S N} {b : Bool} {cs : List (Cell N)} (h : WF fs s) (hc : ∀ c ∈ cs, ∀ f ∈ fs, ∀ u, c.1 f = some u → (addAll b cs s).inn u) : WF fs (addAll b cs s) := by
  obtain ⟨h1, h2, h3, h4, _⟩ := addAll_facts b cs s
  refine ⟨fun t f u ht hf e => ?_, fun x u e => ?_, fun w hw u e => ?_⟩
  · rw [addAll_val] at e
    cases t with
    | st n =>
      have hn : n < (addAll b cs s).nst := ht
      rw [h1] at hn
      exact addAll_old (h.val (.st n) f u hn hf e)
    | ow k =>
      have hk : k < (addAll b cs s).now := ht
      rw [h2] at hk
      simp only at e
      by_cases hlt : k < s.now
      · rw [if_pos hlt] at e
        exact addAll_old (h.val (.ow k) f u hlt hf e)
      · rw [if_neg hlt, List.getElem?_eq_getElem (show k - s.now < cs.length by omega)] at e
        exact hc _ (List.getElem_mem _) f hf u e
  · rw [h3] at e
    exact addAll_old (h.hold x u e)
  · rw [h4] at hw
    exact addAll_old (h.wat w hw u e)
theorem WF.of_copy {fs : List N} {s : S N} (h : WF fs s) (frz : Bool) {v : Option Tg} (hv : ∀ u, v = some u → s.inn u) (d : Nat) :
    WF fs (copyOf fs s frz v d).1 ∧ ∀ u, (copyOf fs s frz v d).2 = some u → (copyOf fs s frz v d).1.inn u := by
  cases v with
  | none => exact ⟨h, hv⟩
  | some r =>
    cases d with
    | zero => exact ⟨h, hv⟩
    | succ d =>
      have wsn : ∀ p ∈ wysOf fs s (d + 1) r, s.inn p.2 := wys_all (hv r rfl) (fun x hx f hf y e => h.val x f y hx hf e) wmax
      rw [copyOf_succ]
      generalize wysOf fs s (d + 1) r = ws at wsn
      refine ⟨h.of_add fun c hc f hf u e => ?_, fun u e => ?_⟩
      · obtain ⟨p, hp, rfl⟩ := List.mem_map.mp hc
        have e' : (match mad ws (p.1 ++ [f]) ws.length with | some i => some (.ow (s.now + i)) | none => s.val p.2 f) = some u := e
        cases em : mad ws (p.1 ++ [f]) ws.length with
        | some i =>
          rw [em] at e'
          rw [← Option.some.inj e']
          exact addAll_new (by rw [List.length_map]; exact mad_lt em)
        | none =>
          rw [em] at e'
          exact addAll_old (h.val _ f u (wsn p hp) hf e')
      · cases em : mad ws [] ws.length with
        | none => rw [em] at e; cases e
        | some i =>
          rw [em] at e
          rw [← Option.some.inj e]
          exact addAll_new (by rw [List.length_map]; exact mad_lt em)
theorem copyOf_some {fs : List N} {s : S N} {frz : Bool} {r : Tg} {d : Nat} : ∃ i, mad (wysOf fs s (d + 1) r) [] (wysOf fs s (d + 1) r).length = some i ∧ i < (wysOf fs s (d + 1) r).length := by
  have h0 : (wysOf fs s (d + 1) r)[0]? = some ([], r) := wys_head wmax
  obtain ⟨i, e⟩ := mad_has (ws := wysOf fs s (d + 1) r) (w := []) (j := 0) (by rw [h0]; rfl) (List.getElem?_eq_some_iff.mp h0).1
  exact ⟨i, e, mad_lt e⟩
theorem set1_some {g : N → Option Tg} {P : Tg → Prop} (h : ∀ x u, g x = some u → P u) {x : N} {v : Option Tg} (hv : ∀ u, v = some u → P u) : ∀ y u, set1 g x v y = some u → P u := fun y u e => by
  unfold set1 at e
  split at e
  · exact hv u e
  · exact h y u e
/-- one row leaves every value valid -/
theorem WF.perf {fs : List N} {s s' : S N} (h : WF fs s) {r : Row N} (e : perf fs s r = .ok s') (hf : ∀ x y f, r = .look x y f → f ∈ fs) : WF fs s' := by
  cases r with
  | move x y => cases e; exact ⟨h.val, set1_some h.hold (h.hold y), h.wat⟩
  | none x => cases e; exact ⟨h.val, set1_some h.hold (fun _ z => nomatch z), h.wat⟩
  | new x =>
    have e' : newP s x = s' := by injection e
    subst e'
    have w : WF fs (addAll false [((fun _ => none, fun _ => none) : Cell N)] s) := h.of_add fun c hc f _ u q => by
      rw [List.mem_singleton.mp hc] at q
      cases q
    exact ⟨w.val, set1_some (P := (newP s x).inn) (fun y u q => w.hold y u q) (fun u q => by
      rw [← Option.some.inj q]
      exact Nat.lt_succ_self _), w.wat⟩
  | look x y f =>
    have e : lookP s x y f = .ok s' := e
    cases hy : s.hold y with
    | none => rw [lookP_none hy] at e; cases e
    | some t =>
      rw [lookP_some hy] at e
      cases e
      exact ⟨h.val, set1_some h.hold (fun u e => h.val t f u (h.hold y t hy) (hf x y f rfl) e), h.wat⟩
  | put x f y =>
    have e : putP fs s x f y = .ok s' := e
    cases hx : s.hold x with
    | none => rw [putP_none hx] at e; cases e
    | some t =>
      cases hfr : isFro s t with
      | true => rw [putP_fro hx hfr] at e; cases e
      | false =>
        rw [putP_some hx hfr] at e
        cases e
        refine ⟨fun u g v hu hg e => ?_, h.hold, h.wat⟩
        have e' : (if u = t ∧ g = f then s.hold y else s.val u g) = some v := e
        split at e'
        · exact h.hold y v e'
        · exact h.val u g v hu hg e'
  | copy x y frz d =>
    have e' : copyP fs s x y frz d = s' := by injection e
    subst e'
    obtain ⟨w1, w2⟩ := h.of_copy frz (h.hold y) d
    obtain ⟨n, f1, f2, f3, _⟩ := copyOf_facts fs s frz (s.hold y) d
    exact ⟨w1.val, set1_some (P := (copyOf fs s frz (s.hold y) d).1.inn) (fun z u e => w1.hold z u (by rw [f3]; exact e)) w2, w1.wat⟩
  | watch r x d =>
    cases e
    refine ⟨h.val, h.hold, fun w hw u e => ?_⟩
    rcases List.mem_append.mp hw with hw | hw
    · exact h.wat w hw u e
    · rw [List.mem_singleton.mp hw] at e
      exact h.hold x u e
/-- how large it is behind c copies and r rows -/
structure Bnd (s : S N) (c r : Nat) : Prop where
  nst : s.nst ≤ 7
  now : s.now ≤ 15 * c + r
  fro : s.fro.length = s.now
  wat : s.wat.length ≤ r
  hits : s.hits.length ≤ r * 24
  seen : s.seen.length ≤ r
  puts : s.puts ≤ r
def cps : Row N → Nat
  | .copy _ _ _ _ => 1
  | _ => 0
theorem hits_len (fs : List N) (s : S N) (t : Tg) : ∀ (ws : List (N × Option Tg × Nat)) (h : List (Nat × N)), (ws.foldl (hit1 fs s t) h).length ≤ h.length + ws.length
  | [], h => Nat.le_refl _
  | w :: ws, h => by
    have ih := hits_len fs s t ws (hit1 fs s t h w)
    have : (hit1 fs s t h w).length ≤ h.length + 1 := by
      unfold hit1
      split
      · simp
      · omega
    show (ws.foldl (hit1 fs s t) (hit1 fs s t h w)).length ≤ h.length + (ws.length + 1)
    omega
theorem vis_len {A : Type} [DecidableEq A] (o : List A) (v : Option A) : (vis o v).length ≤ o.length + 1 := by
  cases v with
  | none => exact Nat.le_succ _
  | some x =>
    by_cases h : x ∈ o
    · rw [vis_old h]; exact Nat.le_succ _
    · rw [vis_new h]; simp
theorem Bnd.perf {fs : List N} {s s' : S N} {c n : Nat} (h : Bnd s c n) (hf : fs.length ≤ 2) {r : Row N} (hn : n < 24) (hd : ∀ x y z d, r = .copy x y z d → d ≤ 4) (e : perf fs s r = .ok s') : Bnd s' (c + cps r) (n + 1) := by
  obtain ⟨h1, h2, h3, h4, h5, h6, h7⟩ := h
  cases r with
  | move x y => cases e; exact ⟨h1, by simp only [cps]; omega, h3, by simp only; omega, by simp only; omega, by simp only; omega, by simp only; omega⟩
  | none x => cases e; exact ⟨h1, by simp only [cps]; omega, h3, by simp only; omega, by simp only; omega, by simp only; omega, by simp only; omega⟩
  | new x =>
    have e' : newP s x = s' := by injection e
    subst e'
    exact ⟨h1, by simp only [cps, newP, addObj]; omega, by simp [newP, addObj, h3], by simp only [newP, addObj]; omega, by simp only [newP, addObj]; omega, by simp only [newP, addObj]; omega, by simp only [newP, addObj]; omega⟩
  | look x y f =>
    have e : lookP s x y f = .ok s' := e
    cases hy : s.hold y with
    | none => rw [lookP_none hy] at e; cases e
    | some t =>
      rw [lookP_some hy] at e
      cases e
      have := vis_len s.seen (s.src t f)
      exact ⟨h1, by simp only [cps]; omega, h3, by simp only; omega, by simp only; omega, by simp only; omega, by simp only; omega⟩
  | put x f y =>
    have e : putP fs s x f y = .ok s' := e
    cases hx : s.hold x with
    | none => rw [putP_none hx] at e; cases e
    | some t =>
      cases hfr : isFro s t with
      | true => rw [putP_fro hx hfr] at e; cases e
      | false =>
        rw [putP_some hx hfr] at e
        cases e
        have := hits_len fs s t s.wat s.hits
        exact ⟨h1, by simp only [cps, putD]; omega, h3, by simp only [putD]; omega, by simp only [putD]; omega, by simp only [putD]; omega, by simp only [putD]; omega⟩
  | copy x y frz d =>
    have e' : copyP fs s x y frz d = s' := by injection e
    subst e'
    obtain ⟨m, f1, f2, f3, f4, f5, f6, f7, f8, f9⟩ := copyOf_facts fs s frz (s.hold y) d
    have := f9 hf (hd x y frz d rfl)
    exact ⟨by simp only [copyP]; omega, by simp only [cps, copyP]; omega, by simp only [copyP]; omega, by simp only [copyP]; rw [f4]; omega, by simp only [copyP]; rw [f5]; omega, by simp only [copyP]; rw [f6]; omega, by simp only [copyP]; omega⟩
  | watch r x d =>
    cases e
    exact ⟨h1, by simp only [cps]; omega, h3, by simp; omega, by simp only; omega, by simp only; omega, by simp only; omega⟩
/-! ### rows one after the other -/
inductive Out (N : Type) where
  | done (s : S N) | stop (i : Nat) (r : Res N)
/-- behind the first i rows, if they can be done -/
def runTo (fs : List N) (rs : List (Row N)) (s : S N) : Nat → Option (S N)
  | 0 => some s
  | i + 1 => match runTo fs rs s i, rs[i]? with
    | some s1, some r => match perf fs s1 r with | .ok s' => some s' | _ => none
    | _, _ => none
theorem runTo_ok {fs : List N} {rs : List (Row N)} {s s1 s2 : S N} {i : Nat} {r : Row N} (h : runTo fs rs s i = some s1) (hr : rs[i]? = some r) (e : perf fs s1 r = .ok s2) : runTo fs rs s (i + 1) = some s2 := by
  unfold runTo
  rw [h, hr]
  simp only [e]
/-- the readers that rows tell -/
def rdr : Row N → List N
  | .watch r _ _ => [r]
  | _ => []
def rdrs (rs : List (Row N)) : List N := rs.flatMap rdr
/-- the rows' own bounds -/
def rowOk (fs : List N) : Row N → Prop
  | .look _ _ f => f ∈ fs
  | .put _ f _ => f ∈ fs
  | .copy _ _ _ d => d ≤ 4
  | .watch _ _ d => d ≤ 4
  | _ => True
def cpsL (rs : List (Row N)) : Nat := (rs.map cps).sum
theorem cpsL_snoc (l : List (Row N)) (r : Row N) : cpsL (l ++ [r]) = cpsL l + cps r := by
  unfold cpsL
  rw [List.map_append, List.sum_append]
  simp
theorem rdrs_snoc (l : List (Row N)) (r : Row N) : rdrs (l ++ [r]) = rdrs l ++ rdr r := by
  unfold rdrs
  rw [List.flatMap_append]
  simp
theorem perf_wat {fs : List N} {s s' : S N} {r : Row N} (e : perf fs s r = .ok s') : s'.wat.map (·.1) = s.wat.map (·.1) ++ rdr r := by
  cases r with
  | move x y => cases e; simp [rdr]
  | none x => cases e; simp [rdr]
  | new x =>
    have e' : newP s x = s' := by injection e
    subst e'
    simp [rdr, newP, addObj]
  | look x y f =>
    have e : lookP s x y f = .ok s' := e
    cases hy : s.hold y with
    | none => rw [lookP_none hy] at e; cases e
    | some t => rw [lookP_some hy] at e; cases e; simp [rdr]
  | put x f y =>
    have e : putP fs s x f y = .ok s' := e
    cases hx : s.hold x with
    | none => rw [putP_none hx] at e; cases e
    | some t =>
      cases hfr : isFro s t with
      | true => rw [putP_fro hx hfr] at e; cases e
      | false => rw [putP_some hx hfr] at e; cases e; simp [rdr, putD]
  | copy x y frz d =>
    have e' : copyP fs s x y frz d = s' := by injection e
    subst e'
    obtain ⟨m, f1, f2, f3, f4, _⟩ := copyOf_facts fs s frz (s.hold y) d
    simp [rdr, copyP, f4]
  | watch r x d => cases e; simp [rdr]
/-- the state behind i rows is valid, bounded, and its readers are told -/
theorem runTo_facts {fs : List N} {rs : List (Row N)} {s : S N} {c n : Nat} (hf : fs.length ≤ 2) (h : WF fs s) (hb : Bnd s c n) (hr : ∀ r ∈ rs, rowOk fs r) (hn : n + rs.length ≤ 24) : ∀ (i : Nat) (s1 : S N), i ≤ rs.length → runTo fs rs s i = some s1 →
    WF fs s1 ∧ Bnd s1 (c + cpsL (rs.take i)) (n + i) ∧ s1.wat.map (·.1) = s.wat.map (·.1) ++ rdrs (rs.take i)
  | 0, s1, _, e => by
    cases e
    exact ⟨h, by simpa [cpsL] using hb, by simp [rdrs]⟩
  | i + 1, s1, hi, e => by
    have hil : i < rs.length := hi
    cases e0 : runTo fs rs s i with
    | none => unfold runTo at e; rw [e0] at e; cases e
    | some s0 =>
      obtain ⟨w, b, r⟩ := runTo_facts hf h hb hr hn i s0 (Nat.le_of_lt hil) e0
      have er : rs[i]? = some rs[i] := List.getElem?_eq_getElem hil
      have ok := hr rs[i] (List.getElem_mem _)
      cases ep : perf fs s0 rs[i] with
      | ok s2 =>
        have := runTo_ok e0 er ep
        rw [this] at e
        cases e
        refine ⟨w.perf ep fun x y f q => by rw [q] at ok; exact ok, ?_, ?_⟩
        · have := b.perf hf (by omega) (fun x y z d q => by rw [q] at ok; exact ok) ep
          rw [List.take_add_one, er, show (some rs[i]).toList = [rs[i]] from rfl, cpsL_snoc, ← Nat.add_assoc]
          exact this
        · rw [perf_wat ep, r, List.take_add_one, er, show (some rs[i]).toList = [rs[i]] from rfl, rdrs_snoc, List.append_assoc]
      | hollow x => unfold runTo at e; rw [e0, er] at e; simp only [ep] at e; cases e
      | refused x => unfold runTo at e; rw [e0, er] at e; simp only [ep] at e; cases e
/-- how the rows end: all are done, or row i can't be -/
inductive Ends (fs : List N) (rs : List (Row N)) (s : S N) : Out N → Prop
  | done {s' : S N} (h : runTo fs rs s rs.length = some s') : Ends fs rs s (.done s')
  | stop {i : Nat} {s1 : S N} {r : Row N} {e : Res N} (hi : i < rs.length) (h : runTo fs rs s i = some s1) (hr : rs[i]? = some r) (he : perf fs s1 r = e) (hne : ∀ s', e ≠ .ok s') : Ends fs rs s (.stop i e)
theorem runTo_mono {fs : List N} {rs : List (Row N)} {s : S N} : ∀ {k i : Nat} {s1 : S N}, runTo fs rs s (i + k) = some s1 → ∃ s0, runTo fs rs s i = some s0
  | 0, _, s1, h => ⟨s1, h⟩
  | k + 1, i, s1, h => by
    cases e : runTo fs rs s (i + k) with
    | none => rw [show i + (k + 1) = i + k + 1 by omega] at h; unfold runTo at h; rw [e] at h; cases h
    | some s0 => exact runTo_mono e
/-- there is one end -/
theorem Ends.uniq {fs : List N} {rs : List (Row N)} {s : S N} {a b : Out N} (h : Ends fs rs s a) (h' : Ends fs rs s b) : a = b := by
  have key : ∀ {i : Nat} {s1 : S N} {r : Row N} {e : Res N}, runTo fs rs s i = some s1 → rs[i]? = some r → perf fs s1 r = e → (∀ s', e ≠ .ok s') → ∀ k, runTo fs rs s (i + 1 + k) = none := fun {i s1 r e} h hr he hne k => by
    cases q : runTo fs rs s (i + 1 + k) with
    | none => rfl
    | some s2 =>
      obtain ⟨s0, q0⟩ := runTo_mono q
      unfold runTo at q0
      rw [h, hr] at q0
      simp only [he] at q0
      cases e with
      | ok s' => exact absurd rfl (hne s')
      | hollow x => cases q0
      | refused x => cases q0
  cases h with
  | done h =>
    cases h' with
    | done h' => rw [h] at h'; cases h'; rfl
    | @stop i s1 r e hi h2 hr he hne =>
      have := key h2 hr he hne (rs.length - (i + 1))
      rw [show i + 1 + (rs.length - (i + 1)) = rs.length by omega, h] at this
      cases this
  | @stop i s1 r e hi h2 hr he hne =>
    cases h' with
    | done h' =>
      have := key h2 hr he hne (rs.length - (i + 1))
      rw [show i + 1 + (rs.length - (i + 1)) = rs.length by omega, h'] at this
      cases this
    | @stop j s3 r3 e3 hj h3 hr3 he3 hne3 =>
      have hij : i = j := by
        rcases Nat.lt_trichotomy i j with q | q | q
        · have := key h2 hr he hne (j - (i + 1))
          rw [show i + 1 + (j - (i + 1)) = j by omega, h3] at this
          cases this
        · exact q
        · have := key h3 hr3 he3 hne3 (i - (j + 1))
          rw [show j + 1 + (i - (j + 1)) = i by omega, h2] at this
          cases this
      subst hij
      rw [h2] at h3
      cases h3
      rw [hr] at hr3
      cases hr3
      rw [← he, ← he3]
/-- the name of the variable that is at fault -/
def nameOf : Row N → Option N
  | .look _ y _ => some y
  | .put x _ _ => some x
  | _ => none
theorem perf_hollow {fs : List N} {s : S N} {r : Row N} {x : N} (e : perf fs s r = .hollow x) : nameOf r = some x := by
  cases r with
  | look a b f =>
    have e : lookP s a b f = .hollow x := e
    cases hy : s.hold b with
    | none => rw [lookP_none hy] at e; cases e; rfl
    | some t => rw [lookP_some hy] at e; cases e
  | put a f b =>
    have e : putP fs s a f b = .hollow x := e
    cases hx : s.hold a with
    | none => rw [putP_none hx] at e; cases e; rfl
    | some t =>
      cases hfr : isFro s t with
      | true => rw [putP_fro hx hfr] at e; cases e
      | false => rw [putP_some hx hfr] at e; cases e
  | move a b => cases e
  | none a => cases e
  | new a => cases e
  | copy a b z d => cases e
  | watch a b d => cases e
theorem perf_refused {fs : List N} {s : S N} {r : Row N} {x : N} (e : perf fs s r = .refused x) : nameOf r = some x := by
  cases r with
  | look a b f =>
    have e : lookP s a b f = .refused x := e
    cases hy : s.hold b with
    | none => rw [lookP_none hy] at e; cases e
    | some t => rw [lookP_some hy] at e; cases e
  | put a f b =>
    have e : putP fs s a f b = .refused x := e
    cases hx : s.hold a with
    | none => rw [putP_none hx] at e; cases e
    | some t =>
      cases hfr : isFro s t with
      | true => rw [putP_fro hx hfr] at e; cases e; rfl
      | false => rw [putP_some hx hfr] at e; cases e
  | move a b => cases e
  | none a => cases e
  | new a => cases e
  | copy a b z d => cases e
  | watch a b d => cases e
end store
/-! ## heaps -/
section heaps
variable {N : Type} [DecidableEq N]
/-- what a heap is made of: n objects, their fields, the names in the dict's order -/
structure HD (N : Type) where
  n : Nat
  ob : Nat → N → Option Nat
  nm : List (N × Option Nat)
structure HV (fs : List N) (h : HD N) : Prop where
  ob : ∀ i f j, i < h.n → f ∈ fs → h.ob i f = some j → j < h.n
  nm : ∀ p ∈ h.nm, ∀ j, p.2 = some j → j < h.n
  nd : (h.nm.map (·.1)).Nodup
  nl : h.nm.length ≤ 6
  le : h.n ≤ 200
def HD.at_ (h : HD N) (x : N) : Option Nat := (h.nm.lookup x).getD none
/-- breadth first to the end -/
@[irreducible] def lots : Nat := 200
theorem lots_eq : lots = 200 := by unfold lots; rfl
def fin {A : Type} [DecidableEq A] (succ : A → List (Option A)) (roots : List (Option A)) : List A := bfs succ (visL [] roots) lots
theorem fin_all {A : Type} [DecidableEq A] {succ : A → List (Option A)} {roots : List (Option A)} {P : A → Prop} (h0 : ∀ x, some x ∈ roots → P x) (hs : ∀ x, P x → ∀ y, some y ∈ succ x → P y) : ∀ i, ∀ x ∈ bfs succ (visL [] roots) i, P x :=
  bfs_all (fun x hx => (visL_sub hx).elim (fun z => nomatch z) (h0 x)) hs
theorem fin_nodup {A : Type} [DecidableEq A] {succ : A → List (Option A)} {roots : List (Option A)} (i : Nat) : (bfs succ (visL [] roots) i).Nodup := bfs_nodup (visL_nodup List.nodup_nil) i
theorem fin_len {A : Type} [DecidableEq A] {succ : A → List (Option A)} {roots : List (Option A)} {d : List A} (h0 : ∀ x, some x ∈ roots → x ∈ d) (hs : ∀ x, x ∈ d → ∀ y, some y ∈ succ x → y ∈ d) (i : Nat) : (bfs succ (visL [] roots) i).length ≤ d.length :=
  nodup_le (fin_nodup i) (fin_all h0 hs i)
theorem fin_roots {A : Type} [DecidableEq A] {succ : A → List (Option A)} {roots : List (Option A)} {x : A} (h : some x ∈ roots) : x ∈ fin succ roots :=
  (show bfs succ (visL [] roots) 0 <+: bfs succ (visL [] roots) lots by simpa using bfs_pre (succ := succ) (o := visL [] roots) 0 lots).subset (visL_mem h)
/-- at the turn where the loop ends -/
theorem fin_at {A : Type} [DecidableEq A] {succ : A → List (Option A)} {roots : List (Option A)} {i : Nat} (h : (bfs succ (visL [] roots) i).length ≤ i) (hi : i ≤ 200) : bfs succ (visL [] roots) i = fin succ roots := by
  have := bfs_end h (lots - i)
  rw [show i + (lots - i) = lots by rw [lots_eq]; omega] at this
  exact this.symm
variable (srt : List N → List N)
def HD.succ (fs : List N) (h : HD N) (i : Nat) : List (Option Nat) := fs.map (h.ob i)
def HD.ord (h : HD N) : List N := srt (h.nm.map (·.1))
def HD.met (fs : List N) (h : HD N) : List Nat := fin (h.succ fs) ((h.ord srt).map h.at_)
def HD.names' (fs : List N) (h : HD N) : List (N × Option Nat) := (h.ord srt).map fun x => (x, idx (h.met srt fs) (h.at_ x))
def HD.objs' (fs : List N) (h : HD N) : List (List (Option Nat)) := (h.met srt fs).map fun i => fs.map fun f => idx (h.met srt fs) (h.ob i f)
/-- the normal form -/
def HD.nrm (fs : List N) (h : HD N) : HD N := ⟨(h.objs' srt fs).length, fun i f => (pos fs f).bind fun k => ((h.objs' srt fs).getD i []).getD k none, h.names' srt fs⟩
theorem lookup_mem {B : Type} {l : List (N × B)} {x : N} {v : B} (h : l.lookup x = some v) : (x, v) ∈ l := by
  induction l with
  | nil => cases h
  | cons p r ih =>
    obtain ⟨y, w⟩ := p
    rw [List.lookup_cons] at h
    by_cases e : x = y
    · subst e
      simp at h
      rw [h]
      exact List.mem_cons_self
    · have : (x == y) = false := by simp [e]
      rw [this] at h
      exact List.mem_cons_of_mem _ (ih h)
theorem HV.at_ {fs : List N} {h : HD N} (v : HV fs h) {x : N} {j : Nat} (e : h.at_ x = some j) : j < h.n := by
  unfold HD.at_ at e
  cases q : h.nm.lookup x with
  | none => rw [q] at e; cases e
  | some w =>
    rw [q] at e
    exact v.nm (x, w) (lookup_mem q) j e
theorem HV.met_lt {fs : List N} {h : HD N} (v : HV fs h) (i : Nat) : ∀ x ∈ bfs (h.succ fs) (visL [] ((h.ord srt).map h.at_)) i, x < h.n :=
  fin_all (P := fun x => x < h.n) (fun x hx => by
    obtain ⟨y, _, e⟩ := List.mem_map.mp hx
    exact v.at_ e) (fun x hx y hy => by
    obtain ⟨f, hf, e⟩ := List.mem_map.mp hy
    exact v.ob x f y hx hf e) i
theorem HV.met_len {fs : List N} {h : HD N} (v : HV fs h) (i : Nat) : (bfs (h.succ fs) (visL [] ((h.ord srt).map h.at_)) i).length ≤ 200 := by
  have := nodup_le (d := List.range h.n) (fin_nodup (succ := h.succ fs) (roots := (h.ord srt).map h.at_) i) fun x hx => List.mem_range.mpr (v.met_lt srt i x hx)
  rw [List.length_range] at this
  exact Nat.le_trans this v.le
/-- what is met is closed under the fields -/
theorem HV.closed {fs : List N} {h : HD N} (v : HV fs h) {x y : Nat} {f : N} (hx : x ∈ h.met srt fs) (hf : f ∈ fs) (e : h.ob x f = some y) : y ∈ h.met srt fs :=
  bfs_closed (n := lots) (by rw [lots_eq]; exact lots_eq ▸ v.met_len srt lots) hx (List.mem_map.mpr ⟨f, hf, e⟩)
theorem HV.nrm {fs : List N} {h : HD N} (v : HV fs h) (hp : ∀ l : List N, (srt l).Perm l) : HV fs (h.nrm srt fs) := by
  have hl : (h.objs' srt fs).length = (h.met srt fs).length := by unfold HD.objs'; rw [List.length_map]
  refine ⟨fun i f j hi hf e => ?_, fun p hp' j e => ?_, ?_, ?_, ?_⟩
  · show j < (h.objs' srt fs).length
    rw [hl]
    have hi' : i < (h.met srt fs).length := by rw [← hl]; exact hi
    have e' : ((pos fs f).bind fun k => ((h.objs' srt fs).getD i []).getD k none) = some j := e
    cases ek : pos fs f with
    | none => rw [ek] at e'; cases e'
    | some k =>
      rw [ek] at e'
      have e2 : ((h.objs' srt fs).getD i []).getD k none = some j := e'
      have e3 : (h.objs' srt fs).getD i [] = fs.map fun f => idx (h.met srt fs) (h.ob ((h.met srt fs)[i]'hi') f) := by
        unfold HD.objs'
        rw [List.getD_eq_getElem?_getD, List.getElem?_map, List.getElem?_eq_getElem hi']
        rfl
      rw [e3, List.getD_eq_getElem?_getD, List.getElem?_map] at e2
      cases eq : fs[k]? with
      | none => rw [eq] at e2; cases e2
      | some g =>
        rw [eq] at e2
        exact idx_lt e2
  · obtain ⟨x, _, rfl⟩ := List.mem_map.mp hp'
    show j < (h.objs' srt fs).length
    rw [hl]
    exact idx_lt e
  · show ((h.names' srt fs).map (·.1)).Nodup
    unfold HD.names'
    rw [List.map_map]
    have : ((fun p : N × Option Nat => p.1) ∘ fun x => (x, idx (h.met srt fs) (h.at_ x))) = id := rfl
    rw [this, List.map_id]
    exact (hp _).nodup_iff.mpr v.nd
  · show (h.names' srt fs).length ≤ 6
    unfold HD.names' HD.ord
    rw [List.length_map, (hp _).length_eq, List.length_map]
    exact v.nl
  · show (h.objs' srt fs).length ≤ 200
    rw [hl]
    exact v.met_len srt lots
/-- the heap of all that the variables come to, as the store hands it on -/
def smet (fs : List N) (s : S N) (ns : List N) : List Tg := fin (nbs fs s) (ns.map s.hold)
def hdOf (fs : List N) (s : S N) (ns : List N) : HD N := ⟨(smet fs s ns).length, fun i f => ((smet fs s ns)[i]?).bind fun t => idx (smet fs s ns) (s.val t f), ns.map fun x => (x, idx (smet fs s ns) (s.hold x))⟩
theorem smet_inn {fs : List N} {s : S N} (w : WF fs s) (ns : List N) (i : Nat) : ∀ t ∈ bfs (nbs fs s) (visL [] (ns.map s.hold)) i, s.inn t :=
  fin_all (fun x hx => by
    obtain ⟨y, _, e⟩ := List.mem_map.mp hx
    exact w.hold y x e) w.nbs i
theorem smet_len {fs : List N} {s : S N} (w : WF fs s) (ns : List N) (hb : s.nst + s.now ≤ 200) (i : Nat) : (bfs (nbs fs s) (visL [] (ns.map s.hold)) i).length ≤ 200 := by
  have := nodup_le (d := dom s.nst s.now) (fin_nodup (succ := nbs fs s) (roots := ns.map s.hold) i) fun t ht => dom_mem.mpr (smet_inn w ns i t ht)
  rw [dom_len] at this
  omega
theorem hdOf_ok {fs : List N} {s : S N} (w : WF fs s) {ns : List N} (hb : s.nst + s.now ≤ 200) (hn : ns.Nodup) (hl : ns.length ≤ 6) : HV fs (hdOf fs s ns) := by
  refine ⟨fun i f j hi hf e => ?_, fun p hp j e => ?_, ?_, ?_, ?_⟩
  · have e' : ((smet fs s ns)[i]?).bind (fun t => idx (smet fs s ns) (s.val t f)) = some j := e
    cases q : (smet fs s ns)[i]? with
    | none => rw [q] at e'; cases e'
    | some t => rw [q] at e'; exact idx_lt e'
  · obtain ⟨x, _, rfl⟩ := List.mem_map.mp hp
    exact idx_lt e
  · show ((ns.map fun x => (x, idx (smet fs s ns) (s.hold x))).map (·.1)).Nodup
    rw [List.map_map]
    have : ((fun p : N × Option Nat => p.1) ∘ fun x => (x, idx (smet fs s ns) (s.hold x))) = id := rfl
    rw [this, List.map_id]
    exact hn
  · show (ns.map fun x => (x, idx (smet fs s ns) (s.hold x))).length ≤ 6
    rw [List.length_map]
    exact hl
  · exact smet_len w ns hb lots
end heaps
end TW
namespace TW
section good
variable {N : Type} [DecidableEq N]
/-- the texts that a store bears -/
structure SGd (G : N → Prop) (fs : List N) (s : S N) : Prop where
  src : ∀ t f p, s.src t f = some p → p.2 ∈ fs
  seen : ∀ p ∈ s.seen, p.2 ∈ fs
  hits : ∀ p ∈ s.hits, G p.2
  wat : ∀ w ∈ s.wat, G w.1
theorem addAll_src {fs : List N} (b : Bool) : ∀ (cs : List (Cell N)) (s : S N), (∀ t f p, s.src t f = some p → p.2 ∈ fs) → (∀ c ∈ cs, ∀ f p, c.2 f = some p → p.2 ∈ fs) → ∀ t f p, (addAll b cs s).src t f = some p → p.2 ∈ fs
  | [], s, h, _ => h
  | c :: r, s, h, hc => addAll_src b r (addObj s c b) (fun t f p e => by
      have e' : (if t = .ow s.now then c.2 f else s.src t f) = some p := e
      split at e'
      · exact hc c List.mem_cons_self f p e'
      · exact h t f p e') fun c' hc' => hc c' (List.mem_cons_of_mem _ hc')
theorem hits_good {G : N → Prop} {fs : List N} {s : S N} {t : Tg} : ∀ {ws : List (N × Option Tg × Nat)} {h : List (Nat × N)}, (∀ w ∈ ws, G w.1) → (∀ p ∈ h, G p.2) → ∀ p ∈ ws.foldl (hit1 fs s t) h, G p.2
  | [], _, _, hh => hh
  | w :: ws, h, hw, hh => hits_good (ws := ws) (fun x hx => hw x (List.mem_cons_of_mem _ hx)) fun p hp => by
    unfold hit1 at hp
    split at hp
    · rcases List.mem_append.mp hp with hp | hp
      · exact hh p hp
      · rw [List.mem_singleton.mp hp]
        exact hw w List.mem_cons_self
    · exact hh p hp
theorem vis_all {A : Type} [DecidableEq A] {P : A → Prop} {o : List A} {v : Option A} (ho : ∀ x ∈ o, P x) (hv : ∀ x, v = some x → P x) : ∀ x ∈ vis o v, P x := fun x hx => (vis_sub hx).elim (ho x) (hv x)
def rowG (G : N → Prop) : Row N → Prop
  | .watch r _ _ => G r
  | _ => True
theorem SGd.perf {G : N → Prop} {fs : List N} {s s' : S N} (h : SGd G fs s) {r : Row N} (hr : rowG G r) (e : perf fs s r = .ok s') : SGd G fs s' := by
  cases r with
  | move x y => cases e; exact ⟨h.src, h.seen, h.hits, h.wat⟩
  | none x => cases e; exact ⟨h.src, h.seen, h.hits, h.wat⟩
  | new x =>
    have e' : newP s x = s' := by injection e
    subst e'
    exact ⟨addAll_src (fs := fs) false [((fun _ => none, fun _ => none) : Cell N)] s h.src (fun c hc f p z => by rw [List.mem_singleton.mp hc] at z; cases z), h.seen, h.hits, h.wat⟩
  | look x y f =>
    have e : lookP s x y f = .ok s' := e
    cases hy : s.hold y with
    | none => rw [lookP_none hy] at e; cases e
    | some t =>
      rw [lookP_some hy] at e
      cases e
      exact ⟨h.src, vis_all h.seen fun p z => h.src t f p z, h.hits, h.wat⟩
  | put x f y =>
    have e : putP fs s x f y = .ok s' := e
    cases hx : s.hold x with
    | none => rw [putP_none hx] at e; cases e
    | some t =>
      cases hfr : isFro s t with
      | true => rw [putP_fro hx hfr] at e; cases e
      | false =>
        rw [putP_some hx hfr] at e
        cases e
        refine ⟨fun u g p z => ?_, h.seen, hits_good h.wat h.hits, h.wat⟩
        have z' : (if u = t ∧ g = f then none else s.src u g) = some p := z
        split at z'
        · cases z'
        · exact h.src u g p z'
  | copy x y frz d =>
    have e' : copyP fs s x y frz d = s' := by injection e
    subst e'
    have key : ∀ (v : Option Tg) (d : Nat), (∀ t f p, (copyOf fs s frz v d).1.src t f = some p → p.2 ∈ fs) := fun v d => by
      cases v with
      | none => exact h.src
      | some r =>
        cases d with
        | zero => exact h.src
        | succ d =>
          rw [copyOf_succ]
          refine addAll_src frz _ s h.src fun c hc f p z => ?_
          obtain ⟨q, _, rfl⟩ := List.mem_map.mp hc
          exact h.src q.2 f p z
    obtain ⟨n, f1, f2, f3, f4, f5, f6, f7, f8, f9⟩ := copyOf_facts fs s frz (s.hold y) d
    exact ⟨key _ _, fun p hp => h.seen p (by rw [← f6]; exact hp), fun p hp => h.hits p (by rw [← f5]; exact hp), fun w hw => h.wat w (by rw [← f4]; exact hw)⟩
  | watch r x d =>
    cases e
    refine ⟨h.src, h.seen, h.hits, fun w hw => ?_⟩
    rcases List.mem_append.mp hw with hw | hw
    · exact h.wat w hw
    · rw [List.mem_singleton.mp hw]
      exact hr
end good
end TW
set_option maxHeartbeats 4000000
/-! ## small things for the walks -/
namespace TW
open PySem PySem.Spec PyProof.Rows L2 TwN
/-- a list or a tuple -/
def SqW (H : Hp) (a : Addr) (xs : List V) : Prop := H a = some (.lst xs) ∨ H a = some (.tup xs)
theorem SqW.seq {K : PySem.W.Frag} {H : Hp} {a : Addr} {xs : List V} (h : SqW H a xs) : SqL K H a xs ∨ SqT K H a xs := h.imp (fun h => SqL.of h) fun h => SqT.of h
theorem SqW.ext {H H' : Hp} {a : Addr} {xs : List V} (h : SqW H a xs) (e : Ext H H') : SqW H' a xs := h.imp (e _ _) (e _ _)
theorem SqW.some {H : Hp} {a : Addr} {xs : List V} (h : SqW H a xs) : ∃ o, H a = some o := h.elim (fun h => ⟨_, h⟩) fun h => ⟨_, h⟩
theorem SqW.same {H H' : Hp} {a : Addr} {xs : List V} (h : SqW H a xs) (e : Ext H H') : H' a = H a := by
  obtain ⟨o, q⟩ := h.some
  rw [q, e a o q]
def iSeq (tl : TE) : TI := fun σ H R => tl σ H fun x H1 => ∃ a xs, x = .ref a ∧ SqW H1 a xs ∧ ∀ J, Walk J xs.length (fun H' => H' a = H1 a) (YAt xs) → R J H1
theorem pi_seq {X : Cx} {tg l : Expr} {tl : TE} (hl : PE X l tl) : PI X tg l (iSeq tl) := by
  refine ⟨fun pins s σ H R I h => ?_⟩
  refine thn (hl.run pins s σ H _ I h) fun v s1 ⟨x, H1, I1, r1, q1⟩ => ?_
  obtain ⟨a, xs, e, hq, q⟩ := q1
  subst e
  cases r1
  have fp : ∀ b ∈ [s1.heap.objs.size], FpOk X pins H1 b := fun b hb => by
    have e : b = s1.heap.objs.size := by simpa using hb
    subst e
    exact I1.fpOk (Nat.le_refl _) (I1.hok.fresh (Nat.le_refl _))
  rcases hq with hq | hq
  · obtain ⟨its, rv, p, hz⟩ := I1.list (SqL.of hq)
    refine wpAny_pyIter_list p.isList ?_
    exact ⟨s1.heap.objs.size, [s1.heap.objs.size], _, _, H1, rfl, I1.kept (t' := s1.toks) fun b o e => Heap.get?_push_of_some _ e, turn_list a _, ⟨_, Heap.get?_push_size _ rfl, rfl, rfl⟩, fp,
      q _ ((walk_list (K := X.K) (a := a) (xs := xs)).mono (fun H' e => SqL.of (e.trans hq)) fun _ _ _ _ _ _ y => y)⟩
  · obtain ⟨its, rv, p, hz⟩ := I1.tuple (SqT.of hq)
    refine wpAny_pyIter_tuple (show s1.heap.IsTuple a its.toArray from p) ?_
    exact ⟨s1.heap.objs.size, [s1.heap.objs.size], _, _, H1, rfl, I1.kept (t' := s1.toks) fun b o e => Heap.get?_push_of_some _ e, turn_tuple a _, ⟨_, Heap.get?_push_size _ rfl, rfl, rfl⟩, fp,
      q _ ((walk_tup (K := X.K) (a := a) (xs := xs)).mono (fun H' e => SqT.of (e.trans hq)) fun _ _ _ _ _ _ y => y)⟩
theorem hu65 {k : Nat} {A : Around} (hr : Room k A) : A.units + 65 < cLine := by have := hr.un; omega
section
variable {X : Cx} {K : PySem.W.Frag} {o : Expr} {ta : TE} {f : Str} {pos : Pos}
theorem pe_fldK (hK : X.K = K) (he : PE X o ta) (hb : attributeBase o f X.env (eval o X.env) = eval o X.env) : PE X (.Attribute o f pos) (tFld K ta f) := by subst hK; exact pe_fld he hb
theorem ix_tupK (hK : X.K = K) : IxR X (rIxT K) := by subst hK; exact ix_tup
theorem pg_tupK {es : List Expr} {k : Nat} {t : TGs} {n : Nat} (hK : X.K = K) (hc : X.calm = true) (h : PGs X es t)
    (hn : (assignEach es X.env).length = n := by rfl) (hst : (assignEach es X.env).findIdx? (·.1) = none := by rfl) : PG X (.Tuple es k pos) (gTup K n t) := by subst hK; exact pg_tup hc h hn hst
theorem pi_enumTK {e : Expr} {ta : TA} {p pos tpos : Pos} {elts : List Expr} {kk : Nat} (hK : X.K = K) (hg : Gl X "enumerate") (hm : X.mg "enumerate" = none) (ha : PA X [e] ta) (hs : starEach [e] X.env = [(false, eval e X.env)] := by rfl) :
    PI X (.Tuple elts kk tpos) (.Call (.Name "enumerate" p) [e] [] pos) (iEnumT K ta) := by subst hK; exact pi_enumT hg hm ha hs
theorem pi_listK {tg l : Expr} {tl : TE} (hK : X.K = K) (hl : PE X l tl) : PI X tg l (iList K tl) := by subst hK; exact pi_list hl
theorem pi_tupK {tg l : Expr} {tl : TE} (hK : X.K = K) (hl : PE X l tl) : PI X tg l (iTup K tl) := by subst hK; exact pi_tup hl
theorem ix_listK (hK : X.K = K) : IxR X (rIxL K) := by subst hK; exact ix_list
end
/-- a dict comprehension over a walk -/
theorem dc_it {J : It} {n : Nat} {G : Hp → Prop} {Y : Nat → Hp → V → Hp → Prop} (w : Walk J n G Y) {g : TG} {tt : TT} {tk tv : TE} {vs : List Nat} {σ : L2.St} {H1 : Hp} {D : Addr} {Qd : Hp → Prop} (Pv : Nat → Hp → Prop) (h0 : Pv 0 (upd H1 D (.dK []))) (hG : ∀ i H, i ≤ n → Pv i H → G H)
    (hs : ∀ i x H H', i < n → Pv i H → Y i H x H' → g x (wipe σ vs) H' fun σ2 H2 => wipe σ2 vs = wipe σ vs ∧ tt σ2 H2 fun b H3 =>
      if b = true then tk σ2 H3 fun y H4 => tv σ2 H4 fun z H5 => ∃ kvs k, y = kV k ∧ H5 D = some (.dK kvs) ∧ kvs.length < sizeLine ∧ Pv (i + 1) (upd H5 D (.dK (putK kvs k z))) else Pv (i + 1) H3) (hd : ∀ H, Pv n H → Qd H) :
    ∃ W : Nat → Nat → Hp → Prop, (∃ m, W 0 m (upd H1 D (.dK []))) ∧ ∀ i m H, W i m H →
      (J.stop i H ∧ Qd H) ∨ (J.go i H ∧ ∃ Nx : Hp → Prop, (∀ H', Nx H' → ∃ m', m' < m ∧ W (i + 1) m' H') ∧ ∀ x H', J.yld i H x H' → g x (wipe σ vs) H' fun σ2 H2 => wipe σ2 vs = wipe σ vs ∧ tt σ2 H2 fun b H3 =>
        if b = true then tk σ2 H3 fun y H4 => tv σ2 H4 fun z H5 => ∃ kvs k, y = kV k ∧ H5 D = some (.dK kvs) ∧ kvs.length < sizeLine ∧ Nx (upd H5 D (.dK (putK kvs k z))) else Nx H3) := by
  refine ⟨fun i m H => m = n - i ∧ i ≤ n ∧ Pv i H, ⟨n, by simp, Nat.zero_le _, h0⟩, ?_⟩
  rintro i m H ⟨rfl, hi, p⟩
  have q := hG i H hi p
  by_cases hlt : i < n
  · refine .inr ⟨w.goes i H hlt q, Pv (i + 1), fun H' p' => ⟨n - (i + 1), by omega, rfl, hlt, p'⟩, fun x H' y => hs i x H H' hlt p (w.yields i H x H' hlt q y)⟩
  · have e : i = n := by omega
    subst e
    exact .inl ⟨w.stops H q, hd H p⟩
/-! ### data that are sorted -/
theorem alike_str (b b' : Str) : PySem.W.alike (PyData.str b) (PyData.str b') = true := rfl
theorem ne_str (b : Str) : PyData.str b ≠ .none ∧ ∀ xs, PyData.str b ≠ .tuple xs := ⟨(fun z => by cases z), (fun _ z => by cases z)⟩
theorem dep_str (b : Str) : (PyData.str b).depth ≤ 2 := by simp [PyData.depth]
def hitD (p : Nat × Str) : PyData := .tuple [.int p.1, .str p.2]
theorem alike_hit (b b' : Nat × Str) : PySem.W.alike (hitD b) (hitD b') = true := rfl
theorem hit_tup (b : Nat × Str) : ∃ x r, hitD b = .tuple (x :: r) := ⟨_, _, rfl⟩
theorem dep_hit (b : Nat × Str) : (hitD b).depth ≤ 2 := by simp [hitD, PyData.depth, PyData.depthAll]
/-! ### tests -/
theorem or_no {P : Prop} (h : P) : if false = true then False else P := by rw [if_neg Bool.false_ne_true]; exact h
theorem bl_t {p : Prop} [Decidable p] (h : p) : V.bl (decide p) = V.bl true := by rw [decide_eq_true h]
theorem bl_f {p : Prop} [Decidable p] (h : ¬ p) : V.bl (decide p) = V.bl false := by rw [decide_eq_false h]
theorem q_t {Q : VK} {H : Hp} {p : Prop} [Decidable p] (h : p) (q : Q (.bl true) H) : Q (.bl (decide p)) H := by rw [decide_eq_true h]; exact q
theorem q_f {Q : VK} {H : Hp} {p : Prop} [Decidable p] (h : ¬ p) (q : Q (.bl false) H) : Q (.bl (decide p)) H := by rw [decide_eq_false h]; exact q
theorem bl_nt {p : Prop} [Decidable p] (h : p) : V.bl (!decide p) = V.bl false := by rw [decide_eq_true h]; rfl
theorem bl_nf {p : Prop} [Decidable p] (h : ¬ p) : V.bl (!decide p) = V.bl true := by rw [decide_eq_false h]; rfl
theorem extSet {H H' : Hp} {p : Addr} {o : HO} (e : Ext H H') (hp : H p = none) : Ext H (upd H' p o) := fun b u hb => by rw [upd_ne (ne_of_none hb hp)]; exact e b u hb
theorem ext_none {H H' : Hp} {p : Addr} (e : Ext H H') (hp : H' p = none) : H p = none := by
  cases q : H p with
  | none => rfl
  | some o => rw [e p o q] at hp; cases hp
theorem small_lt {n : Nat} (h : n ≤ 100000) : n < sizeLine := Nat.lt_of_le_of_lt h (by decide)
theorem small_le {n : Nat} (h : n ≤ 100000) : n ≤ sizeLine := Nat.le_of_lt (small_lt h)
theorem take_snoc {α : Type} {l : List α} {i : Nat} {x : α} (h : l[i]? = some x) : l.take i ++ [x] = l.take (i + 1) := by rw [List.take_add_one, h]; rfl
/-! ### words -/
structure GoodW (x : Str) : Prop where
  lo : 1 ≤ x.length
  hi : x.length ≤ 8
  az : ∀ c ∈ x.cps.toList, 97 ≤ c ∧ c ≤ 122
theorem in_letters {c : Nat} (h : 97 ≤ c ∧ c ≤ 122) : c ∈ (Str.ofString "abcdefghijklmnopqrstuvwxyz").cps.toList := by
  obtain ⟨k, rfl⟩ : ∃ k, c = 97 + k := ⟨c - 97, by omega⟩
  have : ∀ k : Fin 26, 97 + k.val ∈ (Str.ofString "abcdefghijklmnopqrstuvwxyz").cps.toList := by decide +kernel
  exact this ⟨k, by omega⟩
section
variable {P : Program} {w : World} {K : PySem.W.Frag} {mg : Str → Option Value} {base h : Heap}
theorem kit_lt {K : PySem.W.Frag} (l : String) (hl : l = "list" ∨ l = "tuple") : PySem.W.kitAny K (.type l) [.type "list", .type "tuple"] = some true := by
  rcases hl with rfl | rfl
  · exact kitAny_cons (b := true) (kit_ty (by decide +kernel)) (fun z => by cases z) fun _ => rfl
  · exact kitAny_cons (b := false) (kit_ty (by decide +kernel)) (fun _ => kitAny_cons (b := true) (kit_ty (by decide +kernel)) (fun z => by cases z) fun _ => rfl) fun z => by cases z
end
end TW
set_option maxHeartbeats 4000000
/-! ## words -/
namespace TW
open PySem PySem.Spec PyProof.Rows L2 TwN
section
variable {P : Program} {w : World} {K : PySem.W.Frag} {mg : Str → Option Value} {base h : Heap}
def sp_is_integer : Sp := fun vs H Q _ => ∃ i, vs = [.int i] ∧ Q (.bl true) H
theorem p_is_integer (T : Tx w K mg h) : C8.Cal P w K mg base 1 "is_integer" sp_is_integer [] :=
  cal T.f_is_integer T.g_is_integer sc_is_integer (fun vs H Q E ⟨i, e, _⟩ => by rw [e]; rfl) fun cdv A outer s H vs Q E hr ⟨i, e, q⟩ => by
    subst e
    refine ⟨_, (pss_one (ps_ret (pe_and (pe_callB call_isi (by rfl) T.z_isinstance (by decide +kernel) (pa_cons (pv 0) (pa_cons (pe_bltn (v := .ty "int") (by rfl) T.z_int (by decide +kernel) rfl) pa_nil))) (pe_one (pe_not (pe_callB call_isi (by rfl) T.z_isinstance (by decide +kernel) (pa_cons (pv 0) (pa_cons (pe_bltn (v := .ty "bool") (by rfl) T.z_bool (by decide +kernel) rfl) pa_nil)))))))), ?_⟩
    refine ⟨_, rfl, _, _, _, _, _, rfl, .ty _, .base (.int i), kit_ty (by decide +kernel), true, rfl, iteT ?_⟩
    exact ⟨_, rfl, _, _, _, _, _, rfl, .ty _, .base (.int i), kit_ty (by decide +kernel), false, rfl, q⟩
def sp_is_number_below : Sp := fun vs H Q _ => ∃ i n : Int, vs = [.int i, .int n] ∧ 0 ≤ i ∧ i < n ∧ Q (.bl true) H
theorem p_is_number_below (T : Tx w K mg h) : C8.Cal P w K mg base 2 "is_number_below" sp_is_number_below [] :=
  cal T.f_is_number_below T.g_is_number_below sc_is_number_below (fun vs H Q E ⟨i, n, e, _⟩ => by rw [e]; rfl) fun cdv A outer s H vs Q E hr ⟨i, n, e, h0, h1, q⟩ => by
    subst e
    refine ⟨_, (pss_one (ps_ret (pe_and (C8.pe_c (p_is_integer T) hr (by decide) (by rfl) (pa_cons (pv 0) pa_nil)) (pe_one (pe_chain op_le op_lt pe_int (pv 0) (pv 1)))))), ?_⟩
    refine ⟨_, rfl, i, rfl, true, rfl, iteT ?_⟩
    refine ⟨_, rfl, _, _, rfl, rfl, true, bl_t h0, iteT ?_⟩
    exact ⟨_, rfl, _, _, rfl, rfl, q_t h1 q⟩
def sp_is_word : Sp := fun vs H Q _ => ∃ x, vs = [.str x] ∧ GoodW x ∧ Q (.bl true) H
theorem p_is_word (T : Tx w K mg h) : C8.Cal P w K mg base 1 "is_word" sp_is_word [] :=
  cal T.f_is_word T.g_is_word sc_is_word (fun vs H Q E ⟨i, e, _⟩ => by rw [e]; rfl) fun cdv A outer s H vs Q E hr ⟨x, e, g, q⟩ => by
    subst e
    have hz : x.length ≤ sizeLine := Nat.le_trans g.hi (by decide)
    refine ⟨_, (pss_cons (ps_if (PW.pt (pw_or (pt_not (pt_val (pe_callB call_isi (by rfl) T.z_isinstance (by decide +kernel) (pa_cons (pv 0) (pa_cons (pe_bltn (v := .ty "str") (by rfl) T.z_str (by decide +kernel) rfl) pa_nil))))) (pw_or1 (pt_not (pt_chain op_le op_le pe_int (pe_callB call_len (by rfl) T.z_len (by decide +kernel) (pa_cons (pv 0) pa_nil)) (pe_glob (v := .int 8) (by rfl) (Classical.choose_spec T.i_LONGEST) ⟨_, rfl⟩)))))) (pss_one (ps_ret pe_bl)) pss_nil)
  (pss_cons (ps_for PassesOwn.never (by rfl) (pi_str (pv 0)) (pg_name (i := 1) sc_is_word.nd rfl (by first | exact Or.inl rfl | exact Or.inr rfl))
  (pss_one (ps_if (pt_cmpR op_notIn_sign (pv 1) (pe_glob (v := .str "abcdefghijklmnopqrstuvwxyz") (by rfl) (Classical.choose_spec T.s_LETTERS) ⟨_, rfl⟩) (by with_unfolding_all rfl)) (pss_one (ps_ret pe_bl)) pss_nil)))
  (pss_one (ps_ret pe_bl)))), ?_⟩
    refine ⟨_, rfl, _, _, _, _, _, rfl, .ty _, .base (.str x), kit_ty (by decide +kernel), true, rfl, iteF ?_⟩
    refine ⟨_, rfl, _, x.length, rfl, ⟨hz, rfl⟩, _, _, rfl, rfl, true, bl_t (by have := g.lo; omega), iteT ⟨_, _, rfl, rfl, true, bl_t (by have := g.hi; omega), iteF ?_⟩⟩
    refine ⟨_, rfl, x, rfl, for_it walk_str (fun _ σ' H' => ∃ l, σ' = [some (.str x), l] ∧ H' = H) ⟨_, rfl, rfl⟩ (fun _ _ _ _ _ => trivial) (fun i v σ' H1 H2 hi ⟨l, e1, e2⟩ ⟨e3, c, hc, e4⟩ => ?_) fun σ' H' ⟨l, e1, e2⟩ => ?_⟩
    · subst e1 e2 e3 e4
      refine ⟨_, rfl, c, _, rfl, rfl, false, bl_nt (in_letters (g.az c (Array.mem_toList_iff.mpr (Array.mem_of_getElem? hc)))), iteF ⟨_, rfl, rfl⟩⟩
    · subst e2
      exact q
def sp_is_word_list : Sp := fun vs H Q _ => ∃ (a : Addr) (xs : List Str) (i j : Int), vs = [.ref a, .int i, .int j] ∧ SqW H a (xs.map .str) ∧ (∀ x ∈ xs, GoodW x) ∧ xs.Nodup ∧ i ≤ xs.length ∧ xs.length ≤ j ∧ xs.length ≤ 6 ∧
  ∀ H', Ext H H' → Q (.bl true) H'
theorem inV_no {x : Str} {l : List Str} (h : x ∉ l) : inV (.str x) (l.map .str) = false := by
  unfold inV
  rw [List.any_eq_false]
  intro v hv
  obtain ⟨y, hy, rfl⟩ := List.mem_map.mp hv
  simp only [eqV]
  simp
  intro e
  exact h (e ▸ hy)
theorem all_flat (l : List Str) : (l.map V.str).all flatV = true := by
  rw [List.all_eq_true]
  intro v hv
  obtain ⟨y, _, rfl⟩ := List.mem_map.mp hv
  rfl
theorem p_is_word_list (T : Tx w K mg h) : C8.Cal P w K mg base 2 "is_word_list" sp_is_word_list [] :=
  cal T.f_is_word_list T.g_is_word_list sc_is_word_list (fun vs H Q E ⟨_, _, _, _, e, _⟩ => by rw [e]; rfl) fun cdv A outer s H vs Q E hr ⟨a, xs, i, j, e, hs, hg, hn, hi, hj, h6, q⟩ => by
    subst e
    refine ⟨_, (pss_cons (ps_if (PW.pt (pw_or (pt_not (pt_val (pe_callB call_isiT (by rfl) T.z_isinstance (by decide +kernel) (pa_cons (pv 0) (pa_cons (pe_tup (pa_cons (pe_bltn (v := .ty "list") (by rfl) T.z_list (by decide +kernel) rfl) (pa_cons (pe_bltn (v := .ty "tuple") (by rfl) T.z_tuple (by decide +kernel) rfl) pa_nil))) pa_nil))))) (pw_or1 (pt_not (pt_chain op_le op_le (pv 1) (pe_callB call_len_seq (by rfl) T.z_len (by decide +kernel) (pa_cons (pv 0) pa_nil)) (pv 2)))))) (pss_one (ps_ret pe_bl)) pss_nil)
  (pss_cons (ps_set (i := 3) sc_is_word_list.nd rfl (by first | exact Or.inl rfl | exact Or.inr rfl) (pe_lst pa_nil))
  (pss_cons (ps_for PassesOwn.never (by rfl) (pi_seq (pv 0)) (pg_name (i := 4) sc_is_word_list.nd rfl (by first | exact Or.inl rfl | exact Or.inr rfl))
  (pss_cons (ps_if (PW.pt (pw_or (pt_not (pt_val (C8.pe_c (p_is_word T) hr (by decide) (by rfl) (pa_cons (pv 4) pa_nil)))) (pw_or1 (pt_cmpR op_in_seq (pv 4) (pv 3) (by with_unfolding_all rfl))))) (pss_one (ps_ret pe_bl)) pss_nil)
  (pss_one (ps_expr (pe_bm PySem.F.plainAttrs_list PySem.F.slot_list_append PySem.F.type_list_append mt_append (pv 3) (pa_cons (pv 4) pa_nil))))))
  (pss_one (ps_ret pe_bl))))), ?_⟩
    have ht : ∀ tp, H tp = none → ∃ l, (l = "list" ∨ l = "tuple") ∧ TyX K (upd H tp (.tup [.ty "list", .ty "tuple"])) (.ref a) (.type l) := fun tp ntp => by
      rcases hs with hs | hs
      · exact ⟨"list", .inl rfl, .base (.lst (Ext.upd ntp _ _ hs))⟩
      · exact ⟨"tuple", .inr rfl, .base (.tup (Ext.upd ntp _ _ hs))⟩
    refine ⟨_, rfl, by decide, fun tp ntp => ?_⟩
    obtain ⟨l, hl, ty⟩ := ht tp ntp
    have e1 : Ext H (upd H tp (.tup [.ty "list", .ty "tuple"])) := Ext.upd ntp
    refine ⟨_, tp, [.ty "list", .ty "tuple"], .type l, _, true, rfl, upd_same, .cons (.ty _) (.cons (.ty _) .nil), ty, kit_lt l hl, true, rfl, iteF ?_⟩
    have hl2 : (((xs.map V.str).length : Nat) : Int) = (xs.length : Nat) := by rw [List.length_map]
    refine ⟨_, rfl, _, rfl, a, _, rfl, (hs.ext e1).seq, _, _, rfl, rfl, true, bl_t (by rw [hl2]; exact hi), iteT ⟨_, rfl, _, _, rfl, rfl, true, bl_t (by rw [hl2]; exact hj), iteF ?_⟩⟩
    refine ⟨by decide, fun sn nsn => ?_⟩
    have e2 : Ext H (upd (upd H tp (.tup [.ty "list", .ty "tuple"])) sn (.lst [])) := e1.trans (Ext.upd nsn)
    have nsn0 : H sn = none := ext_none e1 nsn
    refine ⟨_, rfl, a, _, rfl, hs.ext e2, fun J wk => for_it wk (fun i' σ' H' => ∃ l, σ' = [some (.ref a), some (.int i), some (.int j), some (.ref sn), l] ∧ H' sn = some (.lst ((xs.take i').map .str)) ∧ Ext H H')
      ⟨none, rfl, upd_same, e2⟩ (fun i' σ' H' _ ⟨l, _, _, e⟩ => by rw [hs.same e, hs.same e2]) (fun i' v σ' H1 H2 hi' ⟨l, e3, e4, e5⟩ ⟨e6, ev⟩ => ?_) fun σ' H' ⟨l, e3, e4, e5⟩ => q H' e5⟩
    subst e3 e6
    rw [List.getElem?_map] at ev
    cases ex : xs[i']? with
    | none => rw [ex] at ev; cases ev
    | some x =>
      rw [ex] at ev
      cases ev
      have hx : x ∈ xs := List.mem_of_getElem? ex
      have hlen : (xs.take i').length ≤ 6 := by rw [List.length_take]; omega
      refine ⟨_, rfl, x, rfl, hg x hx, true, rfl, iteF ⟨_, rfl, _, rfl, sn, _, rfl, .inl (SqL.of e4), rfl, all_flat _, false, ?_, iteF ?_⟩⟩
      · show V.bl (inV (.str x) ((xs.take i').map .str)) = _
        rw [inV_no fun hm => ?_]
        have h1 : (xs.take i' ++ [x]).Nodup := by rw [take_snoc ex]; exact hn.sublist (List.take_sublist _ _)
        exact (List.nodup_append.mp h1).2.2 x hm x (List.mem_singleton.mpr rfl) rfl
      · refine ⟨_, rfl, .inl ⟨rfl, _, SqL.of e4⟩, _, rfl, sn, _, _, rfl, rfl, e4, ?_, _, rfl, ?_, ?_⟩
        · rw [List.length_map]; exact small_lt (by omega)
        · rw [upd_same, ← take_snoc ex, List.map_append]; rfl
        · exact extSet e5 nsn0
end
end TW
set_option maxHeartbeats 4000000
/-! ## dicts by functions -/
namespace TW
open PySem PySem.Spec PyProof.Rows L2 TwN
section
variable {α κ : Type} [DecidableEq α] [DecidableEq κ]
def kvF (k : α → κ) (v : α → V) (l : List α) : List (κ × V) := l.map fun x => (k x, v x)
theorem kvF_len (k : α → κ) (v : α → V) (l : List α) : (kvF k v l).length = l.length := by unfold kvF; rw [List.length_map]
theorem kvF_at {k : α → κ} {v : α → V} (hk : ∀ x y, k x = k y → x = y) {x : α} : ∀ {l : List α}, x ∈ l → valV (kvF k v l) (k x) = some (v x)
  | y :: r, h => by
    by_cases e : k y = k x
    · rw [show kvF k v (y :: r) = (k y, v y) :: kvF k v r from rfl, valV_pos e, hk _ _ e]
    · rw [show kvF k v (y :: r) = (k y, v y) :: kvF k v r from rfl, valV_neg e]
      rcases List.mem_cons.mp h with rfl | h
      · exact absurd rfl e
      · exact kvF_at hk h
theorem kvF_no {k : α → κ} {v : α → V} {j : κ} : ∀ {l : List α}, (∀ y ∈ l, k y ≠ j) → valV (kvF k v l) j = none
  | [], _ => valV_nil
  | y :: r, h => by
    rw [show kvF k v (y :: r) = (k y, v y) :: kvF k v r from rfl, valV_neg (h y List.mem_cons_self)]
    exact kvF_no fun z hz => h z (List.mem_cons_of_mem _ hz)
theorem kvF_snoc (k : α → κ) (v : α → V) (l : List α) (x : α) : kvF k v (l ++ [x]) = kvF k v l ++ [(k x, v x)] := by unfold kvF; rw [List.map_append]; rfl
theorem kvF_congr {k : α → κ} {v v' : α → V} {l : List α} (h : ∀ x ∈ l, v x = v' x) : kvF k v l = kvF k v' l := by
  unfold kvF
  exact List.map_congr_left fun x hx => by rw [h x hx]
/-- what was met, each with its number -/
def numKV (k : α → κ) (l : List α) : List (κ × V) := l.zipIdx.map fun p => (k p.1, .int (p.2 : Nat))
theorem numKV_len (k : α → κ) (l : List α) : (numKV k l).length = l.length := by unfold numKV; rw [List.length_map, List.length_zipIdx]
theorem numKV_snoc (k : α → κ) (l : List α) (x : α) : numKV k (l ++ [x]) = numKV k l ++ [(k x, .int (l.length : Nat))] := by
  unfold numKV
  rw [List.zipIdx_append, List.map_append]
  simp
theorem numKV_aux {k : α → κ} (hk : ∀ x y, k x = k y → x = y) (x : α) : ∀ (l : List α) (n : Nat), valV ((l.zipIdx n).map fun p => (k p.1, V.int (p.2 : Nat))) (k x) = (pos l x).map fun i => V.int ((i + n : Nat) : Int)
  | [], n => rfl
  | y :: r, n => by
    rw [List.zipIdx_cons, List.map_cons]
    unfold pos
    by_cases e : y = x
    · rw [if_pos e, valV_pos (by rw [e])]
      simp
    · rw [if_neg e, valV_neg (fun z => e (hk _ _ z)), numKV_aux hk x r (n + 1)]
      cases pos r x with
      | none => rfl
      | some i => simp; omega
theorem numKV_at {k : α → κ} (hk : ∀ x y, k x = k y → x = y) (l : List α) (x : α) : valV (numKV k l) (k x) = (pos l x).map fun i => V.int (i : Nat) := by
  have := numKV_aux hk x l 0
  simpa [numKV] using this
end
theorem dgetK {H : Hp} {a : Addr} {kvs : List (Key × V)} {k : Key} {r : Option V} (e : H a = some (.dK kvs)) (h : valV kvs k = r) : DGet H a (kV k) r := .inl ⟨kvs, k, .of e, rfl, h.symm⟩
theorem dgetT {H : Hp} {a b : Addr} {kvs : List (List Key × V)} {k : List Key} {r : Option V} (e : H a = some (.dT kvs)) (eb : H b = some (.tup (k.map kV))) (h : valV kvs k = r) : DGet H a (.ref b) r := .inr ⟨kvs, k, b, .of e, rfl, eb, h.symm⟩
theorem dgetF {H : Hp} {a : Addr} {o : Obj} {kvs : List (Key × V)} {k : Key} {r : Option V} (e : H a = some (.frz o (.dK kvs))) (h : valV kvs k = r) : DGet H a (kV k) r := .inl ⟨kvs, k, .inr ⟨o, e⟩, rfl, h.symm⟩
theorem dgetR {H : Hp} {a : Addr} {kvs : List (Key × V)} {k : Key} {r : Option V} (e : Rd H a (.dK kvs)) (h : valV kvs k = r) : DGet H a (kV k) r := .inl ⟨kvs, k, e, rfl, h.symm⟩
theorem inr_inj (x y : Str) (h : (Sum.inr x : Key) = Sum.inr y) : x = y := by injection h
theorem inl_inj (x y : Nat) (h : (Sum.inl (x : Int) : Key) = Sum.inl (y : Int)) : x = y := by injection h with h; omega
/-! ### numbers that may be None -/
def oV : Option Nat → V
  | none => .non
  | some n => .int (n : Nat)
def strK (x : Str) : Key := .inr x
def natK (n : Nat) : Key := .inl (n : Int)
theorem strK_inj (x y : Str) (h : strK x = strK y) : x = y := inr_inj x y h
theorem natK_inj (x y : Nat) (h : natK x = natK y) : x = y := inl_inj x y h
def itemKV (fs : List Str) (g : Str → Option Nat) : List (Key × V) := kvF strK (fun f => oV (g f)) fs
theorem itemKV_at {fs : List Str} {g : Str → Option Nat} {f : Str} (h : f ∈ fs) : valV (itemKV fs g) (.inr f) = some (oV (g f)) := kvF_at strK_inj h
def nmKV (nm : List (Str × Option Nat)) : List (Key × V) := nm.map fun p => (strK p.1, oV p.2)
theorem nmKV_at : ∀ {nm : List (Str × Option Nat)} {x : Str} {v : Option Nat}, nm.lookup x = some v → valV (nmKV nm) (.inr x) = some (oV v)
  | (y, u) :: r, x, v, h => by
    rw [List.lookup_cons] at h
    by_cases e : x = y
    · subst e
      simp at h
      subst h
      exact valV_pos rfl
    · rw [show (x == y) = false by simp [e]] at h
      rw [show nmKV ((y, u) :: r) = (strK y, oV u) :: nmKV r from rfl, valV_neg fun z => e (strK_inj _ _ z).symm]
      exact nmKV_at h
theorem lookup_mem_fst {nm : List (Str × Option Nat)} {x : Str} (h : x ∈ nm.map (·.1)) : ∃ v, nm.lookup x = some v ∧ (x, v) ∈ nm := by
  induction nm with
  | nil => cases h
  | cons p r ih =>
    obtain ⟨y, u⟩ := p
    rw [List.lookup_cons]
    by_cases e : x = y
    · subst e
      exact ⟨u, by simp, List.mem_cons_self⟩
    · rw [show (x == y) = false by simp [e]]
      rcases List.mem_cons.mp h with h | h
      · exact absurd h e
      · obtain ⟨v, h1, h2⟩ := ih h
        exact ⟨v, h1, List.mem_cons_of_mem _ h2⟩
/-! ### a heap's parts as they lie -/
/-- the objects, each its own dict -/
def ObjsOk (H : Hp) (fs : List Str) (n : Nat) (ob : Nat → Str → Option Nat) (os : List V) : Prop := os.length = n ∧ ∀ i, i < n → ∃ a, os[i]? = some (.ref a) ∧ H a = some (.dK (itemKV fs (ob i)))
theorem ObjsOk.ext {H H' : Hp} {fs : List Str} {n : Nat} {ob : Nat → Str → Option Nat} {os : List V} (h : ObjsOk H fs n ob os) (e : Ext H H') : ObjsOk H' fs n ob os :=
  ⟨h.1, fun i hi => by
    obtain ⟨a, h1, h2⟩ := h.2 i hi
    exact ⟨a, h1, e _ _ h2⟩⟩
end TW
set_option maxHeartbeats 4000000
/-! ## heaps: the checks, the numbers in the order of meeting -/
namespace TW
open PySem PySem.Spec PyProof.Rows L2 TwN
section
variable {P : Program} {w : World} {K : PySem.W.Frag} {mg : Str → Option Value} {base h : Heap}
theorem int_nn {a b : Nat} (h : a = b) : V.int (a : Int) = V.int (b : Int) := by rw [h]
theorem q_nt {Q : VK} {H : Hp} {p : Prop} [Decidable p] (h : p) (q : Q (.bl false) H) : Q (.bl (!decide p)) H := by rw [decide_eq_true h]; exact q
theorem map_at {α β : Type} {f : α → β} {l : List α} {i : Nat} {v : β} (h : (l.map f)[i]? = some v) : ∃ x, l[i]? = some x ∧ v = f x := by
  rw [List.getElem?_map] at h
  cases e : l[i]? with
  | none => rw [e] at h; cases h
  | some x => rw [e] at h; cases h; exact ⟨x, rfl, rfl⟩
def sp_is_object : Sp := fun vs H Q _ => ∃ (it fa : Addr) (fs : List Str) (g : Str → Option Nat) (n : Nat), vs = [.ref it, .ref fa, .int n] ∧ H it = some (.dK (itemKV fs g)) ∧ SqW H fa (fs.map .str) ∧ (∀ f ∈ fs, ∀ j, g f = some j → j < n) ∧ Q (.bl true) H
theorem p_is_object (T : Tx w K mg h) : C8.Cal P w K mg base 3 "is_object" sp_is_object [] :=
  cal T.f_is_object T.g_is_object sc_is_object (fun vs H Q E ⟨_, _, _, _, _, e, _⟩ => by rw [e]; rfl) fun cdv A outer s H vs Q E hr ⟨it, fa, fs, g, n, e, hit, hfa, hg, q⟩ => by
    subst e
    refine ⟨_, (pss_cons (ps_if (PW.pt (pw_or (pt_not (pt_val (pe_callB call_isi (by rfl) T.z_isinstance (by decide +kernel) (pa_cons (pv 0) (pa_cons (pe_bltn (v := .ty "dict") (by rfl) T.z_dict (by decide +kernel) rfl) pa_nil))))) (pw_or1 (pt_cmpR op_ne (pe_callB call_lenD (by rfl) T.z_len (by decide +kernel) (pa_cons (pv 0) pa_nil)) (pe_callB call_len_seq (by rfl) T.z_len (by decide +kernel) (pa_cons (pv 1) pa_nil)) (nomark _))))) (pss_one (ps_ret pe_bl)) pss_nil)
  (pss_cons (ps_for PassesOwn.never (by rfl) (pi_seq (pv 1)) (pg_name (i := 3) sc_is_object.nd rfl (by first | exact Or.inl rfl | exact Or.inr rfl))
  (pss_cons (ps_if (pt_cmp (pc_dnotin (hu_of hr) (pv 3) (pv 0))) (pss_one (ps_ret pe_bl)) pss_nil)
  (pss_cons (ps_set (i := 4) sc_is_object.nd rfl (by first | exact Or.inl rfl | exact Or.inr rfl) (pe_dget (hu_of hr) (pv 0) (pv 3) (fun _ _ => rfl)))
  (pss_one (ps_if (PW.pt (pw_and (pt_cmp (pc_notN (pv 4))) (pw_and1 (pt_not (pt_val (C8.pe_c (p_is_number_below T) hr (by decide) (by rfl) (pa_cons (pv 4) (pa_cons (pv 2) pa_nil)))))))) (pss_one (ps_ret pe_bl)) pss_nil)))))
  (pss_one (ps_ret pe_bl)))), ?_⟩
    refine ⟨_, rfl, _, _, _, _, _, rfl, .ty _, .base (.dK hit), kit_ty (by decide +kernel), true, rfl, iteF ?_⟩
    refine ⟨_, rfl, it, _, rfl, hit, _, rfl, fa, _, rfl, hfa.seq, rfl, false, bl_nt (int_nn (by rw [itemKV, kvF_len, List.length_map])), iteF ?_⟩
    refine ⟨_, rfl, fa, _, rfl, hfa, fun J wk => for_it wk (fun _ σ' H' => ∃ a b, σ' = [some (.ref it), some (.ref fa), some (.int n), a, b] ∧ H' = H) ⟨_, _, rfl, rfl⟩ (fun _ _ _ _ ⟨_, _, _, e⟩ => by rw [e]) (fun i v σ' H1 H2 hi ⟨a, b, e1, e2⟩ ⟨e3, ev⟩ => ?_) fun σ' H' ⟨_, _, _, e⟩ => by subst e; exact q⟩
    subst e1 e3 e2
    obtain ⟨f, hf, rfl⟩ := map_at ev
    have hm : f ∈ fs := List.mem_of_getElem? hf
    refine ⟨_, rfl, _, rfl, it, some (oV (g f)), rfl, dgetK (k := .inr f) hit (itemKV_at hm), false, rfl, iteF ?_⟩
    refine ⟨_, rfl, _, rfl, it, oV (g f), rfl, dgetK (k := .inr f) hit (itemKV_at hm), ?_⟩
    cases eg : g f with
    | none => exact ⟨_, rfl, false, rfl, iteF (iteF ⟨_, _, rfl, rfl⟩)⟩
    | some j => exact ⟨_, rfl, true, rfl, iteT ⟨_, rfl, _, rfl, (j : Int), (n : Int), rfl, by omega, by have := hg f hm j eg; omega, true, rfl, iteF ⟨_, _, rfl, rfl⟩⟩⟩
def sp_check_objects : Sp := fun vs H Q _ => ∃ (oa fa : Addr) (fs : List Str) (ob : Nat → Str → Option Nat) (os : List V) (n : Nat), vs = [.ref oa, .ref fa] ∧ H oa = some (.lst os) ∧ ObjsOk H fs n ob os ∧ SqW H fa (fs.map .str) ∧ n ≤ 200 ∧
  (∀ i, i < n → ∀ f ∈ fs, ∀ j, ob i f = some j → j < n) ∧ ∀ H', Ext H H' → Q .non H'
theorem p_check_objects (T : Tx w K mg h) : C8.Cal P w K mg base 4 "check_objects" sp_check_objects [] :=
  cal T.f_check_objects T.g_check_objects sc_check_objects (fun vs H Q E ⟨_, _, _, _, _, _, e, _⟩ => by rw [e]; rfl) fun cdv A outer s H vs Q E hr ⟨oa, fa, fs, ob, os, n, e, hoa, hos, hfa, hn, hv, q⟩ => by
    subst e
    have hlen := hos.1
    refine ⟨_, (pss_cons (ps_if (PW.pt (pw_or (pt_not (pt_val (pe_callB call_isi (by rfl) T.z_isinstance (by decide +kernel) (pa_cons (pv 0) (pa_cons (pe_bltn (v := .ty "list") (by rfl) T.z_list (by decide +kernel) rfl) pa_nil))))) (pw_or1 (pt_cmpR op_gt (pe_callB call_len_seq (by rfl) T.z_len (by decide +kernel) (pa_cons (pv 0) pa_nil)) (pe_glob (v := .int 200) (by rfl) (Classical.choose_spec T.i_MOST_OBJECTS) ⟨_, rfl⟩) (nomark _))))) (pss_one ps_never) pss_nil)
  (pss_one (ps_for PassesOwn.never (by rfl) (pi_enum (by rfl) T.z_enumerate (pa_cons (pv 0) pa_nil)) (pg_tup (by rfl) (pgs_cons (pg_name (i := 2) sc_check_objects.nd rfl (by first | exact Or.inl rfl | exact Or.inr rfl)) (pgs_cons (pg_name (i := 3) sc_check_objects.nd rfl (by first | exact Or.inl rfl | exact Or.inr rfl)) pgs_nil)))
  (pss_one (ps_if (pt_not (pt_val (C8.pe_c (p_is_object T) hr (by decide) (by rfl) (pa_cons (pv 3) (pa_cons (pv 1) (pa_cons (pe_callB call_len_seq (by rfl) T.z_len (by decide +kernel) (pa_cons (pv 0) pa_nil)) pa_nil)))))) (pss_one ps_never) pss_nil))))), ?_⟩
    refine ⟨_, rfl, _, _, _, _, _, rfl, .ty _, .base (.lst hoa), kit_ty (by decide +kernel), true, rfl, iteF ?_⟩
    refine ⟨_, rfl, oa, _, rfl, .inl (SqL.of hoa), _, _, rfl, rfl, false, bl_f (by rw [hlen]; omega), iteF ?_⟩
    refine ⟨_, rfl, oa, os, rfl, SqL.of hoa, for_it walk_enum (fun _ σ' H' => ∃ a b, σ' = [some (.ref oa), some (.ref fa), a, b] ∧ Ext H H') ⟨_, _, rfl, Ext.rfl'⟩ (fun _ _ _ _ ⟨_, _, _, e⟩ => SqL.of (e _ _ hoa)) (fun i v σ' H1 H2 hi ⟨a, b, e1, e2⟩ ⟨T1, x, y, ev, nT, eH, ex, ey⟩ => ?_) fun σ' H' ⟨_, _, _, e⟩ => q H' e⟩
    subst e1 eH ev
    have ex : x = .int (i : Nat) := (Option.some.inj ex).symm
    subst ex
    obtain ⟨ad, h1, h2⟩ := hos.2 i (by rw [← hlen]; exact hi)
    have ey2 : y = .ref ad := Option.some.inj (ey.symm.trans h1)
    subst ey2
    have e3 : Ext H (upd H1 T1 (.tup [.int (i : Nat), .ref ad])) := e2.trans (Ext.upd nT)
    refine ⟨T1, _, rfl, SqT.of upd_same, rfl, _, _, rfl, _, _, rfl, rfl, ?_⟩
    refine ⟨_, rfl, _, rfl, _, rfl, oa, _, rfl, .inl (SqL.of (e3 _ _ hoa)), ad, fa, fs, ob i, n, by rw [← hlen]; rfl, e3 _ _ h2, hfa.ext e3, hv i (by rw [← hlen]; exact hi), true, rfl, iteF ⟨_, _, rfl, e3⟩⟩
theorem upd_self {H : Hp} {d : Addr} {u : HO} (h : H d = some u) : upd H d u = H := by
  funext b
  unfold upd
  by_cases e : b = d
  · rw [if_pos e, e, h]
  · rw [if_neg e]
theorem dp_strs {K : PySem.W.Frag} {H : Hp} : ∀ {ys : List V} {bs : List Str}, DpIs K H PyData.str ys bs → ys = bs.map .str
  | _, _, .nil => rfl
  | _, _, .cons h t => by
    cases h
    rw [dp_strs t]
    rfl
theorem strs_dp {K : PySem.W.Frag} {H : Hp} : ∀ bs : List Str, DpIs K H PyData.str (bs.map .str) bs
  | [] => .nil
  | b :: r => .cons (.str b) (strs_dp r)
def srt (l : List Str) : List Str := l.mergeSort (PySem.W.dataLe false PyData.str)
theorem srt_perm (l : List Str) : (srt l).Perm l := List.mergeSort_perm _ _
theorem nmKV_keys (nm : List (Str × Option Nat)) : (nmKV nm).map (fun kv => kV kv.1) = (nm.map (·.1)).map .str := by
  unfold nmKV
  rw [List.map_map, List.map_map]
  rfl
theorem nmKV_len (nm : List (Str × Option Nat)) : (nmKV nm).length = nm.length := by unfold nmKV; rw [List.length_map]
def sp_check_names : Sp := fun vs H Q _ => ∃ (na : Addr) (nm : List (Str × Option Nat)) (n : Nat), vs = [.ref na, .int n] ∧ H na = some (.dK (nmKV nm)) ∧ nm.length ≤ 6 ∧ (∀ p ∈ nm, GoodW p.1) ∧ (∀ p ∈ nm, ∀ j, p.2 = some j → j < n) ∧ ∀ H', Ext H H' → Q .non H'
theorem p_check_names (T : Tx w K mg h) : C8.Cal P w K mg base 3 "check_names" sp_check_names [] :=
  cal T.f_check_names T.g_check_names sc_check_names (fun vs H Q E ⟨_, _, _, e, _⟩ => by rw [e]; rfl) fun cdv A outer s H vs Q E hr ⟨na, nm, n, e, hna, h6, hg, hv, q⟩ => by
    subst e
    refine ⟨_, (pss_cons (ps_if (PW.pt (pw_or (pt_not (pt_val (pe_callB call_isi (by rfl) T.z_isinstance (by decide +kernel) (pa_cons (pv 0) (pa_cons (pe_bltn (v := .ty "dict") (by rfl) T.z_dict (by decide +kernel) rfl) pa_nil))))) (pw_or1 (pt_cmpR op_gt (pe_callB call_lenD (by rfl) T.z_len (by decide +kernel) (pa_cons (pv 0) pa_nil)) (pe_glob (v := .int 6) (by rfl) (Classical.choose_spec T.i_MOST_NAMES) ⟨_, rfl⟩) (nomark _))))) (pss_one ps_never) pss_nil)
  (pss_cons (ps_lock (ps_for PassesOwn.never (by rfl) (pi_keys (pv 0)) (pg_name (i := 2) sc_check_names.nd rfl (by first | exact Or.inl rfl | exact Or.inr rfl))
  (pss_one (ps_if (pt_not (pt_val (C8.pe_c (p_is_word T) hr (by decide) (by rfl) (pa_cons (pv 2) pa_nil)))) (pss_one ps_never) pss_nil))))
  (pss_one (ps_for PassesOwn.never (by rfl) (pi_list (pe_callB (cr_sortedD hr.units (enc := PyData.str) alike_str (.inr ne_str) dep_str) (by rfl) T.z_sorted (by decide +kernel) (pa_cons (pe_callTy (call_list_dK (by rfl)) (by rfl) T.z_list (by decide +kernel) (pa_cons (pv 0) pa_nil)) pa_nil))) (pg_name (i := 2) sc_check_names.nd rfl (by first | exact Or.inl rfl | exact Or.inr rfl))
  (pss_cons (ps_set (i := 3) sc_check_names.nd rfl (by first | exact Or.inl rfl | exact Or.inr rfl) (pe_dget (hu_of hr) (pv 0) (pv 2) (fun _ _ => rfl)))
  (pss_one (ps_if (PW.pt (pw_and (pt_cmp (pc_notN (pv 3))) (pw_and1 (pt_not (pt_val (C8.pe_c (p_is_number_below T) hr (by decide) (by rfl) (pa_cons (pv 3) (pa_cons (pv 1) pa_nil)))))))) (pss_one ps_never) pss_nil))))))), ?_⟩
    refine ⟨_, rfl, _, _, _, _, _, rfl, .ty _, .base (.dK hna), kit_ty (by decide +kernel), true, rfl, iteF ?_⟩
    refine ⟨_, rfl, na, _, rfl, hna, _, _, rfl, rfl, false, bl_f (by rw [nmKV_len]; omega), iteF ?_⟩
    refine ⟨na, _, hna, trivial, fun od => ⟨_, rfl, na, od, rfl, .inl ⟨_, upd_same, for_it walk_keys (fun _ σ' H' => ∃ a b, σ' = [some (.ref na), some (.int n), a, b] ∧ H' = upd H na (.frz od (.dK (nmKV nm)))) ⟨_, _, rfl, rfl⟩ (fun _ _ _ _ ⟨_, _, _, e⟩ => by rw [e]; exact upd_same)
      (fun i v σ' H1 H2 hi ⟨a, b, e1, e2⟩ ⟨e3, k, u, ek, ev⟩ => ?_) fun σ' H' ⟨a, b, e1, e2⟩ => ?_⟩⟩⟩
    · subst e1 e3 ev
      obtain ⟨p, hp, ep⟩ := map_at ek
      cases ep
      exact ⟨_, rfl, p.1, rfl, hg p (List.mem_of_getElem? hp), true, rfl, iteF ⟨_, _, rfl, e2⟩⟩
    · subst e1 e2
      refine ⟨upd_same, ?_⟩
      rw [upd_upd, upd_self hna]
      refine ⟨_, rfl, na, _, rfl, hna, fun l0 nl0 => ?_⟩
      rw [nmKV_keys]
      have x0 : Ext H (upd H l0 (.lst ((nm.map (·.1)).map .str))) := Ext.upd nl0
      refine ⟨l0, _, nm.map (·.1), rfl, SqL.of upd_same, strs_dp _, by rw [List.length_map]; exact small_le (by omega), fun ys l1 _ hys nl1 => ?_⟩
      have ey : ys = (srt (nm.map (·.1))).map .str := dp_strs hys
      subst ey
      have x1 : Ext H (upd (upd H l0 (.lst ((nm.map (·.1)).map .str))) l1 (.lst ((srt (nm.map (·.1))).map .str))) := x0.trans (Ext.upd nl1)
      refine ⟨l1, rfl, ⟨_, SqL.of upd_same⟩, for_it (walk_list (xs := (srt (nm.map (·.1))).map .str)) (fun _ σ' H' => ∃ a b, σ' = [some (.ref na), some (.int n), a, b] ∧ H' = upd (upd H l0 (.lst ((nm.map (·.1)).map .str))) l1 (.lst ((srt (nm.map (·.1))).map .str)))
        ⟨_, _, rfl, rfl⟩ (fun _ _ _ _ ⟨_, _, _, e⟩ => by rw [e]; exact SqL.of upd_same) (fun i v σ' H1 H2 hi ⟨a, b, e1, e2⟩ ⟨e3, ev⟩ => ?_) fun σ' H' ⟨a, b, e1, e2⟩ => by subst e2; exact q _ x1⟩
      subst e1 e3 e2
      obtain ⟨x, hx, rfl⟩ := map_at ev
      have hm : x ∈ nm.map (·.1) := (srt_perm _).subset (List.mem_of_getElem? hx)
      obtain ⟨u, hu, hum⟩ := lookup_mem_fst hm
      refine ⟨_, rfl, _, rfl, na, oV u, rfl, dgetK (k := .inr x) (x1 _ _ hna) (nmKV_at hu), ?_⟩
      cases u with
      | none => exact ⟨_, rfl, false, rfl, iteF (iteF ⟨_, _, rfl, rfl⟩)⟩
      | some j => exact ⟨_, rfl, true, rfl, iteT ⟨_, rfl, _, rfl, (j : Int), (n : Int), rfl, by omega, by have := hv _ hum j rfl; omega, true, rfl, iteF ⟨_, _, rfl, rfl⟩⟩⟩
def sp_renumbered : Sp := fun vs H Q _ => ∃ (v : Option Nat) (d : Addr) (o : List Nat) , vs = [oV v, .ref d] ∧ Rd H d (.dK (numKV natK o)) ∧ (∀ j, v = some j → j ∈ o) ∧ Q (oV (idx o v)) H
theorem p_renumbered (T : Tx w K mg h) : C8.Cal P w K mg base 1 "renumbered" sp_renumbered [] :=
  cal T.f_renumbered T.g_renumbered sc_renumbered (fun vs H Q E ⟨_, _, _, e, _⟩ => by rw [e]; rfl) fun cdv A outer s H vs Q E hr ⟨v, d, o, e, hd, hv, q⟩ => by
    subst e
    refine ⟨_, (pss_cons (ps_if (pt_cmp (pc_isN (pv 0))) (pss_one (ps_ret pe_non)) pss_nil)
  (pss_one (ps_ret (pe_dget (hu_of hr) (pv 1) (pv 0) (fun _ _ => rfl))))), ?_⟩
    cases v with
    | none => exact ⟨_, rfl, true, rfl, iteT q⟩
    | some j =>
      obtain ⟨i, hi⟩ := pos_mem (hv j rfl)
      refine ⟨_, rfl, false, rfl, iteF ⟨_, rfl, _, rfl, d, .int (i : Nat), rfl, dgetR (k := natK j) hd (by rw [numKV_at natK_inj, hi]; rfl), ?_⟩⟩
      have : idx o (some j) = some i := hi
      rw [this] at q
      exact q
end
end TW
set_option maxHeartbeats 4000000
/-! ## the numbers in the order of meeting -/
namespace TW
open PySem PySem.Spec PyProof.Rows L2 TwN
section
variable {P : Program} {w : World} {K : PySem.W.Frag} {mg : Str → Option Value} {base h : Heap}
/-- what was met, at the dict d and the list l -/
structure Met (H : Hp) (d l : Addr) (o : List Nat) : Prop where
  d : H d = some (.dK (numKV natK o))
  l : H l = some (.lst (o.map fun n => .int (n : Nat)))
theorem Met.ne {H : Hp} {d l : Addr} {o : List Nat} (m : Met H d l o) : d ≠ l := ne_of m.d m.l (by intro z; cases z)
theorem Met.push {H : Hp} {d l : Addr} {o : List Nat} (m : Met H d l o) {x : Nat} (hx : x ∉ o) : Met (upd (upd H d (.dK (putK (numKV natK o) (natK x) (.int (o.length : Nat))))) l (.lst (o.map (fun n => V.int (n : Nat)) ++ [.int (x : Nat)]))) d l (o ++ [x]) := by
  refine ⟨?_, ?_⟩
  · rw [upd_ne m.ne, upd_same, putK_new _ (by rw [numKV_at natK_inj, pos_none hx]; rfl), ← numKV_snoc]
  · rw [upd_same, List.map_append]
    rfl
abbrev rLen (K : PySem.W.Frag) : List V → Hp → VK → Prop := fun xs H Q => ∃ p ys, xs = [.ref p] ∧ (SqL K H p ys ∨ SqT K H p ys) ∧ Q (.int ys.length) H
/-- if v is not None and v not in numbers: numbers[v] = len(order); order.append(v) -/
theorem meet_step {d l : Addr} {o : List Nat} {v : Option Nat} {i di li : Nat} {σ : L2.St} {H : Hp} {D : L2.Ends} (hi : σ[i]? = some (some (oV v))) (hd : σ[di]? = some (some (.ref d))) (hl : σ[li]? = some (some (.ref l))) (m : Met H d l o) (hb : o.length ≤ 300)
    (q : ∀ H', Met H' d l (vis o v) → (∀ b u, b ≠ d → b ≠ l → H b = some u → H' b = some u) → D.nx σ H') :
    tIfS (tAnd (tB (tNotN (tVar i))) (tB (tDNotIn (tVar i) (tVar di)))) (tSeq (sDPut (tVar di) (tVar i) (tCB (rLen K) (tCons (tVar li) tNil))) (tDrop (tBM K "list" rAppend (tVar li) (tCons (tVar i) tNil)))) tNext D σ H := by
  cases v with
  | none => exact ⟨_, hi, false, rfl, iteF (iteF (q H m fun _ _ _ _ h => h))⟩
  | some x =>
    refine ⟨_, hi, true, rfl, iteT ?_⟩
    by_cases hx : x ∈ o
    · obtain ⟨j, hj⟩ := pos_mem hx
      refine ⟨_, hi, _, hd, d, some (.int (j : Nat)), rfl, dgetK (k := natK x) m.d (by rw [numKV_at natK_inj, hj]; rfl), false, rfl, iteF (q H ?_ fun _ _ _ _ h => h)⟩
      rw [vis_old hx]
      exact m
    · refine ⟨_, hi, _, hd, d, none, rfl, dgetK (k := natK x) m.d (by rw [numKV_at natK_inj, pos_none hx]; rfl), true, rfl, iteT ?_⟩
      refine ⟨_, hl, l, _, rfl, .inl (SqL.of m.l), _, hd, _, hi, d, _, rfl, DPut.k (k := natK x) m.d (by rw [numKV_len]; exact small_lt (by omega)), ?_⟩
      have h2 : upd H d (.dK (putK (numKV natK o) (natK x) (.int (o.length : Nat)))) l = some (.lst (o.map fun n => .int (n : Nat))) := by rw [upd_ne m.ne.symm]; exact m.l
      have el : ((o.map fun n => V.int (n : Nat)).length : Int) = (o.length : Nat) := by rw [List.length_map]
      rw [el]
      refine ⟨_, hl, .inl ⟨rfl, _, SqL.of h2⟩, _, hi, l, _, _, rfl, rfl, h2, by rw [List.length_map]; exact small_lt (by omega), q _ ?_ fun b u h3 h4 h5 => ?_⟩
      · rw [vis_new hx]
        exact m.push hx
      · rw [upd_ne h4, upd_ne h3]
        exact h5
theorem ObjsOk.of {H H' : Hp} {fs : List Str} {n : Nat} {ob : Nat → Str → Option Nat} {os : List V} (h : ObjsOk H fs n ob os) (e : ∀ i a, i < n → os[i]? = some (.ref a) → H' a = H a) : ObjsOk H' fs n ob os :=
  ⟨h.1, fun i hi => by
    obtain ⟨a, h1, h2⟩ := h.2 i hi
    exact ⟨a, h1, by rw [e i a hi h1]; exact h2⟩⟩
def turnsOf (k : Nat) (σ : L2.St) (_ : Hp) : Nat := match σ[k]? with
  | some (some (.int i)) => 1000 - i.toNat
  | _ => 0
def sp_meeting_numbers : Sp := fun vs H Q _ => ∃ (oa fa ra : Addr) (fs : List Str) (ob : Nat → Str → Option Nat) (os : List V) (n : Nat) (rs : List (Option Nat)), vs = [.ref oa, .ref fa, .ref ra] ∧ H oa = some (.lst os) ∧ ObjsOk H fs n ob os ∧ H fa = some (.tup (fs.map .str)) ∧
  H ra = some (.lst (rs.map oV)) ∧ n ≤ 200 ∧ (∀ i, i < n → ∀ f ∈ fs, ∀ j, ob i f = some j → j < n) ∧ (∀ j, some j ∈ rs → j < n) ∧
  ∀ H' d, Ext H H' → H d = none → H' d = some (.dK (numKV natK (fin (fun i => fs.map (ob i)) rs))) → Q (.ref d) H'
theorem p_meeting_numbers (T : Tx w K mg h) : C8.Cal P w K mg base 1 "meeting_numbers" sp_meeting_numbers [] :=
  cal T.f_meeting_numbers T.g_meeting_numbers sc_meeting_numbers (fun vs H Q E ⟨_, _, _, _, _, _, _, _, e, _⟩ => by rw [e]; rfl) fun cdv A outer s H vs Q E hr ⟨oa, fa, ra, fs, ob, os, n, rs, e, hoa, hos, hfa, hra, hn, hv, hrs, q⟩ => by
    subst e
    have all : ∀ i, ∀ x ∈ bfs (fun i => fs.map (ob i)) (visL [] rs) i, x < n := fin_all (P := fun x => x < n) (fun x hx => hrs x hx) fun x hx y hy => by
      obtain ⟨f, hf, e⟩ := List.mem_map.mp hy
      exact hv x hx f hf y e
    have lens : ∀ i, (bfs (fun i => fs.map (ob i)) (visL [] rs) i).length ≤ 200 := fun i => by
      have := nodup_le (d := List.range n) (fin_nodup (succ := fun i => fs.map (ob i)) (roots := rs) i) fun x hx => List.mem_range.mpr (all i x hx)
      rw [List.length_range] at this
      omega
    have len0 : ∀ i, (visL [] (rs.take i)).length ≤ 200 := fun i => by
      have h1 := nodup_le (d := List.range n) (visL_nodup (vs := rs.take i) List.nodup_nil) fun x hx => List.mem_range.mpr (by
        rcases visL_sub hx with z | z
        · cases z
        · exact hrs x (List.mem_of_mem_take z))
      rw [List.length_range] at h1
      omega
    refine ⟨_, (pss_cons (ps_set (i := 3) sc_meeting_numbers.nd rfl (by first | exact Or.inl rfl | exact Or.inr rfl) pe_dnewK)
  (pss_cons (ps_set (i := 4) sc_meeting_numbers.nd rfl (by first | exact Or.inl rfl | exact Or.inr rfl) (pe_lst pa_nil))
  (pss_cons (ps_for PassesOwn.never (by rfl) (pi_list (pv 2)) (pg_name (i := 5) sc_meeting_numbers.nd rfl (by first | exact Or.inl rfl | exact Or.inr rfl))
  (pss_one (ps_if (PW.pt (pw_and (pt_cmp (pc_notN (pv 5))) (pw_and1 (pt_cmp (pc_dnotin (hu_of hr) (pv 5) (pv 3)))))) (pss_cons (ps_dput (hu_of hr) (pv 3) (pv 5) (pe_callB call_len_seq (by rfl) T.z_len (by decide +kernel) (pa_cons (pv 4) pa_nil)) (by rfl))
  (pss_one (ps_expr (pe_bm PySem.F.plainAttrs_list PySem.F.slot_list_append PySem.F.type_list_append mt_append (pv 4) (pa_cons (pv 5) pa_nil))))) pss_nil)))
  (pss_cons (ps_set (i := 6) sc_meeting_numbers.nd rfl (by first | exact Or.inl rfl | exact Or.inr rfl) pe_int)
  (pss_cons (ps_while PassesOwn.never (pt_cmpR op_lt (pv 6) (pe_callB call_len_seq (by rfl) T.z_len (by decide +kernel) (pa_cons (pv 4) pa_nil)) (nomark _))
  (pss_cons (ps_for PassesOwn.never (by rfl) (pi_tup (pv 1)) (pg_name (i := 7) sc_meeting_numbers.nd rfl (by first | exact Or.inl rfl | exact Or.inr rfl))
  (pss_cons (ps_set (i := 8) sc_meeting_numbers.nd rfl (by first | exact Or.inl rfl | exact Or.inr rfl) (pe_dget (hu_of hr) (pe_ix ix_list (pv 0) (pe_ix ix_list (pv 4) (pv 6) (fun _ _ => rfl)) (fun _ _ => rfl)) (pv 7) (fun _ _ => rfl)))
  (pss_one (ps_if (PW.pt (pw_and (pt_cmp (pc_notN (pv 8))) (pw_and1 (pt_cmp (pc_dnotin (hu_of hr) (pv 8) (pv 3)))))) (pss_cons (ps_dput (hu_of hr) (pv 3) (pv 8) (pe_callB call_len_seq (by rfl) T.z_len (by decide +kernel) (pa_cons (pv 4) pa_nil)) (by rfl))
  (pss_one (ps_expr (pe_bm PySem.F.plainAttrs_list PySem.F.slot_list_append PySem.F.type_list_append mt_append (pv 4) (pa_cons (pv 8) pa_nil))))) pss_nil))))
  (pss_one (ps_aug (i := 6) sc_meeting_numbers.nd rfl (by first | exact Or.inl rfl | exact Or.inr rfl) pe_int ip_add))))
  (pss_one (ps_ret (pv 3)))))))), ?_⟩
    refine fun d nd => ⟨by decide, fun l nl => ?_⟩
    have nl0 : H l = none := ext_none (Ext.upd nd) nl
    have x0 : Ext H (upd (upd H d (.dK [])) l (.lst [])) := (Ext.upd nd).trans (Ext.upd nl)
    have m0 : Met (upd (upd H d (.dK [])) l (.lst [])) d l [] := by
      have ne : d ≠ l := fun z => by rw [z, upd_same] at nl; cases nl
      exact ⟨by rw [upd_ne ne, upd_same]; rfl, upd_same⟩
    have keep : ∀ {H1 H2 : Hp}, Ext H H1 → (∀ b u, b ≠ d → b ≠ l → H1 b = some u → H2 b = some u) → Ext H H2 := fun {H1 H2} x k b u hb => k b u (fun z => by rw [z, nd] at hb; cases hb) (fun z => by rw [z, nl0] at hb; cases hb) (x b u hb)
    refine ⟨_, rfl, ra, rfl, ⟨_, SqL.of (x0 _ _ hra)⟩, for_it (walk_list (xs := rs.map oV)) (fun i σ' H' => ∃ a b c e, σ' = [some (.ref oa), some (.ref fa), some (.ref ra), some (.ref d), some (.ref l), a, b, c, e] ∧ Met H' d l (visL [] (rs.take i)) ∧ Ext H H')
      ⟨_, _, _, _, rfl, m0, x0⟩ (fun _ _ _ _ ⟨_, _, _, _, _, _, x⟩ => SqL.of (x _ _ hra)) (fun i v σ' H1 H2 hi ⟨a, b, c, e, e1, m1, x1⟩ ⟨e3, ev⟩ => ?_) fun σ' H' ⟨a, b, c, e, e1, m1, x1⟩ => ?_⟩
    · subst e1 e3
      obtain ⟨r, hr1, rfl⟩ := map_at ev
      refine meet_step (v := r) rfl rfl rfl m1 (by have := len0 i; omega) fun H' m2 k => ⟨_, _, _, _, rfl, ?_, keep x1 k⟩
      rw [visL_take hr1]
      exact m2
    · subst e1
      rw [List.length_map, List.take_length] at m1
      refine while_by (fun σ'' H'' => ∃ (i : Nat) (a c e : Option V), σ'' = [some (.ref oa), some (.ref fa), some (.ref ra), some (.ref d), some (.ref l), a, some (.int (i : Nat)), c, e] ∧ Met H'' d l (bfs (fun i => fs.map (ob i)) (visL [] rs) i) ∧ i ≤ (bfs (fun i => fs.map (ob i)) (visL [] rs) i).length ∧ Ext H H'')
        (turnsOf 6) ⟨0, _, _, _, rfl, m1, Nat.zero_le _, x1⟩ (fun σ3 H3 ⟨i, a3, c3, e3, es, m3, hi3, x3⟩ => ?_) (fun σ3 H3 Q3 Q3' hq ⟨v1, h1, v2, h2, p, ys, h3, h4, i1, j1, h5, h6, k1, h7, q3⟩ => ⟨v1, h1, v2, h2, p, ys, h3, h4, i1, j1, h5, h6, k1, h7, hq _ _ q3⟩)
      subst es
      refine ⟨_, rfl, _, rfl, l, _, rfl, .inl (SqL.of m3.l), _, _, rfl, rfl, _, rfl, ?_⟩
      rw [List.length_map]
      have h200 := lens i
      by_cases hlt : i < (bfs (fun i => fs.map (ob i)) (visL [] rs) i).length
      · rw [decide_eq_true (show ((i : Nat) : Int) < ((bfs (fun i => fs.map (ob i)) (visL [] rs) i).length : Nat) by omega)]
        obtain ⟨x, hx⟩ : ∃ x, (bfs (fun i => fs.map (ob i)) (visL [] rs) i)[i]? = some x := ⟨_, List.getElem?_eq_getElem hlt⟩
        have hxn : x < n := all i x (List.mem_of_getElem? hx)
        obtain ⟨ad, ha1, ha2⟩ := hos.2 x hxn
        refine iteT ⟨_, rfl, fa, rfl, ⟨_, SqT.of (x3 _ _ hfa)⟩, for_it (walk_tup (xs := fs.map .str)) (fun j σ' H' => ∃ c e, σ' = [some (.ref oa), some (.ref fa), some (.ref ra), some (.ref d), some (.ref l), a3, some (.int (i : Nat)), c, e] ∧ Met H' d l (visL (bfs (fun i => fs.map (ob i)) (visL [] rs) i) ((fs.map (ob x)).take j)) ∧ Ext H H')
          ⟨_, _, rfl, m3, x3⟩ (fun _ _ _ _ ⟨_, _, _, _, x⟩ => SqT.of (x _ _ hfa)) (fun j v σ' H1 H2 hj ⟨c, e, e1, m4, x4⟩ ⟨e4, ev⟩ => ?_) fun σ' H' ⟨c, e, e1, m4, x4⟩ => ?_⟩
        · subst e1 e4
          obtain ⟨f, hf, rfl⟩ := map_at ev
          have hfm : f ∈ fs := List.mem_of_getElem? hf
          have hpre : (bfs (fun i => fs.map (ob i)) (visL [] rs) i) <+: visL (bfs (fun i => fs.map (ob i)) (visL [] rs) i) ((fs.map (ob x)).take j) := visL_pre _ _
          have hx2 : (visL (bfs (fun i => fs.map (ob i)) (visL [] rs) i) ((fs.map (ob x)).take j))[i]? = some x := by
            obtain ⟨t, et⟩ := hpre
            rw [← et, List.getElem?_append_left hlt]
            exact hx
          refine ⟨_, rfl, _, rfl, _, rfl, l, _, (i : Int), .int (x : Nat), rfl, rfl, SqL.of m4.l, atI_nat (by rw [List.getElem?_map, hx2]; rfl), oa, os, (x : Int), .ref ad, rfl, rfl, SqL.of (x4 _ _ hoa), atI_nat ha1, _, rfl, ad, oV (ob x f), rfl, dgetK (k := .inr f) (x4 _ _ ha2) (itemKV_at hfm), ?_⟩
          have hlen4 : (visL (bfs (fun i => fs.map (ob i)) (visL [] rs) i) ((fs.map (ob x)).take j)).length ≤ 300 := by
            have h5 : (visL (bfs (fun i => fs.map (ob i)) (visL [] rs) i) ((fs.map (ob x)).take j)) <+: bfs (fun i => fs.map (ob i)) (visL [] rs) (i + 1) := by
              rw [bfs_turn hx]
              have e6 : visL (bfs (fun i => fs.map (ob i)) (visL [] rs) i) (fs.map (ob x)) = visL (visL (bfs (fun i => fs.map (ob i)) (visL [] rs) i) ((fs.map (ob x)).take j)) ((fs.map (ob x)).drop j) := by
                unfold visL
                rw [← List.foldl_append, List.take_append_drop]
              rw [e6]
              exact visL_pre _ _
            have := h5.length_le
            have := lens (i + 1)
            omega
          have hj' : (fs.map (ob x))[j]? = some (ob x f) := by rw [List.getElem?_map, hf]; rfl
          refine meet_step (v := ob x f) rfl rfl rfl m4 hlen4 fun H' m5 k => ⟨_, _, rfl, ?_, keep x4 k⟩
          rw [visL_take hj']
          exact m5
        · subst e1
          rw [List.length_map] at m4
          have e5 : (fs.map (ob x)).take fs.length = fs.map (ob x) := List.take_of_length_le (by rw [List.length_map]; exact Nat.le_refl _)
          rw [e5] at m4
          have e6 := bfs_turn (succ := fun i => fs.map (ob i)) hx
          refine ⟨_, rfl, _, _, rfl, rfl, ⟨i + 1, _, _, _, rfl, by rw [e6]; exact m4, ?_, x4⟩, ?_⟩
          · have := (bfs_pre1 (succ := fun i => fs.map (ob i)) (o := visL [] rs) i).length_le
            omega
          · show 1000 - ((i : Int) + 1).toNat < 1000 - ((i : Nat) : Int).toNat
            omega
      · rw [decide_eq_false (show ¬ ((i : Nat) : Int) < ((bfs (fun i => fs.map (ob i)) (visL [] rs) i).length : Nat) by omega)]
        refine iteF ⟨_, rfl, q _ d x3 nd ?_⟩
        rw [← fin_at (i := i) (by omega) (by omega)]
        exact m3.d
end
end TW
set_option maxHeartbeats 4000000
/-! ## data of tuples: they stay -/
namespace TW
open PySem PySem.Spec PyProof.Rows L2 TwN
def KeepT (H H' : Hp) : Prop := ∀ b xs, H b = some (.tup xs) → H' b = some (.tup xs)
theorem KeepT.rfl' {H : Hp} : KeepT H H := fun _ _ h => h
theorem KeepT.trans {H H1 H2 : Hp} (a : KeepT H H1) (b : KeepT H1 H2) : KeepT H H2 := fun c o h => b c o (a c o h)
theorem ext_keep {H H' : Hp} (e : Ext H H') : KeepT H H' := fun b xs h => e b _ h
theorem KeepT.put {H : Hp} {p : Addr} {o : HO} (h : ∀ xs, H p ≠ some (.tup xs)) : KeepT H (upd H p o) := fun b xs hb => by
  rw [upd_ne fun z => h xs (by rw [← z]; exact hb)]
  exact hb
theorem KeepT.at_ {H : Hp} {p : Addr} {o u : HO} (h : H p = some u) (hu : ∀ xs, u ≠ .tup xs) : KeepT H (upd H p o) := KeepT.put fun xs z => hu xs (Option.some.inj (h.symm.trans z))
theorem KeepT.new {H : Hp} {p : Addr} {o : HO} (h : H p = none) : KeepT H (upd H p o) := KeepT.put fun xs z => by rw [h] at z; cases z
mutual
inductive Dt (H : Hp) : V → PyData → Prop
  | non : Dt H .non .none
  | bl (b : Bool) : Dt H (.bl b) (.bool b)
  | int (i : Int) : Dt H (.int i) (.int i)
  | str (x : Str) : Dt H (.str x) (.str x)
  | tup {a : Addr} {xs : List V} {ds : List PyData} : H a = some (.tup xs) → DtAll H xs ds → Dt H (.ref a) (.tuple ds)
inductive DtAll (H : Hp) : List V → List PyData → Prop
  | nil : DtAll H [] []
  | cons {v : V} {vs : List V} {d : PyData} {ds : List PyData} : Dt H v d → DtAll H vs ds → DtAll H (v :: vs) (d :: ds)
end
mutual
theorem Dt.keep {H H' : Hp} (k : KeepT H H') : ∀ {v : V} {d : PyData}, Dt H v d → Dt H' v d
  | _, _, .non => .non
  | _, _, .bl b => .bl b
  | _, _, .int i => .int i
  | _, _, .str x => .str x
  | _, _, .tup h a => .tup (k _ _ h) (DtAll.keep k a)
theorem DtAll.keep {H H' : Hp} (k : KeepT H H') : ∀ {vs : List V} {ds : List PyData}, DtAll H vs ds → DtAll H' vs ds
  | _, _, .nil => .nil
  | _, _, .cons h t => .cons (Dt.keep k h) (DtAll.keep k t)
end
mutual
theorem Dt.dp {K : PySem.W.Frag} {H : Hp} : ∀ {v : V} {d : PyData}, Dt H v d → Dp K H v d
  | _, _, .non => .non
  | _, _, .bl b => .bl b
  | _, _, .int i => .int i
  | _, _, .str x => .str x
  | _, _, .tup h a => .tup (SqT.of h) (DtAll.dp a)
theorem DtAll.dp {K : PySem.W.Frag} {H : Hp} : ∀ {vs : List V} {ds : List PyData}, DtAll H vs ds → DpAll K H vs ds
  | _, _, .nil => .nil
  | _, _, .cons h t => .cons (Dt.dp h) (DtAll.dp t)
end
theorem DtAll.len {H : Hp} : ∀ {vs : List V} {ds : List PyData}, DtAll H vs ds → vs.length = ds.length
  | _, _, .nil => rfl
  | _, _, .cons _ t => congrArg Nat.succ t.len
theorem DtAll.snoc {H : Hp} : ∀ {vs : List V} {ds : List PyData} {v : V} {d : PyData}, DtAll H vs ds → Dt H v d → DtAll H (vs ++ [v]) (ds ++ [d])
  | _, _, _, _, .nil, h => .cons h .nil
  | _, _, _, _, .cons a t, h => .cons a (t.snoc h)
theorem DtAll.strs {H : Hp} : ∀ l : List Str, DtAll H (l.map .str) (l.map .str)
  | [] => .nil
  | x :: r => .cons (.str x) (DtAll.strs r)
/-! ### numbers that may be None -/
def oD : Option Nat → PyData
  | none => .none
  | some n => .int (n : Nat)
theorem Dt.o {H : Hp} : ∀ v : Option Nat, Dt H (oV v) (oD v)
  | none => .non
  | some n => .int _
theorem dtall_o {H : Hp} : ∀ l : List (Option Nat), DtAll H (l.map oV) (l.map oD)
  | [] => .nil
  | v :: r => .cons (.o v) (dtall_o r)
theorem oV_inj : ∀ {a b : Option Nat}, oV a = oV b → a = b
  | none, none, _ => rfl
  | some a, some b, h => by injection h with h; congr 1; omega
/-! ### the heap's shape -/
def shapeD (fs : List Str) (h : HD Str) : PyData := .tuple [.tuple (fs.map .str), .tuple ((h.names' srt fs).map fun p => .tuple [.str p.1, oD p.2]), .tuple ((h.objs' srt fs).map fun l => .tuple (l.map oD))]
structure Fields (fs : List Str) : Prop where
  good : ∀ f ∈ fs, GoodW f
  nd : fs.Nodup
  lo : 1 ≤ fs.length
  hi : fs.length ≤ 2
structure HeapAt (K : PySem.W.Frag) (H : Hp) (x : Addr) (fs : List Str) (h : HD Str) : Prop where
  ex : ∃ (dx fa ha na sa : Addr) (os : List V), H x = some (.ins (He.ga K "Heap") dx [("fields", .ref fa), ("held", .ref ha), ("holders", .ref na), ("shape", .ref sa)]) ∧ H fa = some (.tup (fs.map .str)) ∧ H ha = some (.lst os) ∧ ObjsOk H fs h.n h.ob os ∧
    H na = some (.dK (nmKV h.nm)) ∧ Dt H (.ref sa) (shapeD fs h)
theorem HeapAt.ext {K : PySem.W.Frag} {H H' : Hp} {x : Addr} {fs : List Str} {h : HD Str} (a : HeapAt K H x fs h) (e : Ext H H') : HeapAt K H' x fs h := by
  obtain ⟨dx, fa, ha, na, sa, os, h1, h2, h3, h4, h5, h6⟩ := a.ex
  exact ⟨dx, fa, ha, na, sa, os, e _ _ h1, e _ _ h2, e _ _ h3, h4.ext e, e _ _ h5, h6.keep (ext_keep e)⟩
end TW
set_option maxHeartbeats 4000000
/-! ## a heap's shape -/
namespace TW
open PySem PySem.Spec PyProof.Rows L2 TwN
section
variable {P : Program} {w : World} {K : PySem.W.Frag} {mg : Str → Option Value} {base h : Heap}
theorem at_of_lookup {h : HD Str} {x : Str} {u : Option Nat} (e : h.nm.lookup x = some u) : h.at_ x = u := by unfold HD.at_; rw [e]; rfl
theorem numKV_get {α κ : Type} [DecidableEq α] [DecidableEq κ] {k : α → κ} {l : List α} {i : Nat} {p : κ × V} (h : (numKV k l)[i]? = some p) : ∃ x, l[i]? = some x ∧ p.1 = k x := by
  unfold numKV at h
  obtain ⟨q, hq, rfl⟩ := map_at h
  rw [List.getElem?_zipIdx] at hq
  cases e : l[i]? with
  | none => rw [e] at hq; cases hq
  | some x => rw [e] at hq; cases hq; exact ⟨x, rfl, rfl⟩
theorem take_map_snoc {α β : Type} {f : α → β} {l : List α} {i : Nat} {x : α} (h : l[i]? = some x) : (l.take i).map f ++ [f x] = (l.take (i + 1)).map f := by rw [← take_snoc h, List.map_append]; rfl
def sp_reckoned : PySem.W.Frag → Sp := fun K vs H Q _ => ∃ (x dx fa ha na : Addr) (fx : List (Str × V)) (fs : List Str) (os : List V) (h : HD Str), vs = [.ref x] ∧ H x = some (.ins (He.ga K "Heap") dx fx) ∧ List.lookup ("fields" : Str) fx = some (.ref fa) ∧ List.lookup ("held" : Str) fx = some (.ref ha) ∧ List.lookup ("holders" : Str) fx = some (.ref na) ∧
  H fa = some (.tup (fs.map .str)) ∧ fs.length ≤ 2 ∧ H ha = some (.lst os) ∧ ObjsOk H fs h.n h.ob os ∧ H na = some (.dK (nmKV h.nm)) ∧ HV fs h ∧ ∀ H' sa, Ext H H' → Dt H' (.ref sa) (shapeD fs h) → Q (.ref sa) H'
theorem p_Heap_reckoned_shape (T : Tx w K mg h) : C8.Met P w K mg base 2 (He.ga K "Heap") "reckoned_shape" (sp_reckoned K) [] :=
  met T.f_Heap_reckoned_shape T.c_Heap T.m_Heap_reckoned_shape sc_Heap_reckoned_shape (fun vs H Q E ⟨_, _, _, _, _, _, _, _, _, e, _⟩ => by rw [e]; rfl) fun cdv A outer s H vs Q E hr ⟨x, dx, fa, ha, na, fx, fs, os, h, e, hx, l1, l2, l3, hfa, hf2, hha, hos, hna, hv, q⟩ => by
    subst e
    have cl := T.c_Heap
    have n1 := T.n_Heap_fields
    have n2 := T.n_Heap_held
    have n3 := T.n_Heap_holders
    have nm6 := hv.nl
    have ordl : (h.ord srt).length ≤ 6 := by unfold HD.ord; rw [(srt_perm _).length_eq, List.length_map]; exact nm6
    have ordm : ∀ y, y ∈ h.ord srt → ∃ u, h.nm.lookup y = some u := fun y hy => by
      obtain ⟨u, hu, _⟩ := lookup_mem_fst ((srt_perm _).subset hy)
      exact ⟨u, hu⟩
    refine ⟨_, (pss_cons (ps_set (i := 1) sc_Heap_reckoned_shape.nd rfl (by first | exact Or.inl rfl | exact Or.inr rfl) (pe_callB (cr_sortedD hr.units (enc := PyData.str) alike_str (.inr ne_str) dep_str) (by rfl) T.z_sorted (by decide +kernel) (pa_cons (pe_callTy (call_list_dK (by rfl)) (by rfl) T.z_list (by decide +kernel) (pa_cons (pe_fld (pv 0) (by rfl)) pa_nil)) pa_nil)))
  (pss_cons (ps_set (i := 2) sc_Heap_reckoned_shape.nd rfl (by first | exact Or.inl rfl | exact Or.inr rfl) (C8.pe_c (p_meeting_numbers T) hr (by decide) (by rfl) (pa_cons (pe_fld (pv 0) (by rfl)) (pa_cons (pe_fld (pv 0) (by rfl)) (pa_cons (by exact (pe_lc (own := [("name", 3)]) (g := gName 3) (by rfl) sc_Heap_reckoned_shape.nd (pi_list (pv 1)) (blkOk_by (own := [("name", 3)]) (N := ["self", "ordered", "numbers", "name", "names", "objects", "number", "item", "field"]) (sc := defScope s_Heap_reckoned_shape) (by decide +kernel)) (fun _ _ _ _ _ => (pg_name (i := 3) sc_Heap_reckoned_shape.nd rfl (by first | exact Or.inl rfl | exact Or.inr rfl))) (fun _ _ _ _ _ => pts_nil) (fun _ _ _ _ _ => (by exact (pe_dget (hu_of hr) (pe_fldK (K := K) rfl (pv 0) (by rfl)) (pv 3) (fun _ _ => rfl)))))) pa_nil)))))
  (pss_cons (ps_set (i := 4) sc_Heap_reckoned_shape.nd rfl (by first | exact Or.inl rfl | exact Or.inr rfl) (pe_callTy call_tuple_of (by rfl) T.z_tuple (by decide +kernel) (pa_cons (by exact (pe_lc (own := [("name", 3)]) (g := gName 3) (by rfl) sc_Heap_reckoned_shape.nd (pi_list (pv 1)) (blkOk_by (own := [("name", 3)]) (N := ["self", "ordered", "numbers", "name", "names", "objects", "number", "item", "field"]) (sc := defScope s_Heap_reckoned_shape) (by decide +kernel)) (fun _ _ _ _ _ => (pg_name (i := 3) sc_Heap_reckoned_shape.nd rfl (by first | exact Or.inl rfl | exact Or.inr rfl))) (fun _ _ _ _ _ => pts_nil) (fun _ _ _ _ _ => (by exact (pe_tup (pa_cons (pv 3) (pa_cons (C8.pe_c (p_renumbered T) hr (by decide) (by rfl) (pa_cons (pe_dget (hu_of hr) (pe_fldK (K := K) rfl (pv 0) (by rfl)) (pv 3) (fun _ _ => rfl)) (pa_cons (pv 2) pa_nil))) pa_nil))))))) pa_nil)))
  (pss_cons (ps_set (i := 5) sc_Heap_reckoned_shape.nd rfl (by first | exact Or.inl rfl | exact Or.inr rfl) (pe_lst pa_nil))
  (pss_cons (ps_lock (ps_for PassesOwn.never (by rfl) (pi_keys (pv 2)) (pg_name (i := 6) sc_Heap_reckoned_shape.nd rfl (by first | exact Or.inl rfl | exact Or.inr rfl))
  (pss_cons (ps_set (i := 7) sc_Heap_reckoned_shape.nd rfl (by first | exact Or.inl rfl | exact Or.inr rfl) (pe_ix ix_list (pe_fld (pv 0) (by rfl)) (pv 6) (fun _ _ => rfl)))
  (pss_one (ps_expr (pe_bm PySem.F.plainAttrs_list PySem.F.slot_list_append PySem.F.type_list_append mt_append (pv 5) (pa_cons (pe_callTy call_tuple_of (by rfl) T.z_tuple (by decide +kernel) (pa_cons (by exact (pe_lc (own := [("field", 8)]) (g := gName 8) (by rfl) sc_Heap_reckoned_shape.nd (pi_tup (pe_fld (pv 0) (by rfl))) (blkOk_by (own := [("field", 8)]) (N := ["self", "ordered", "numbers", "name", "names", "objects", "number", "item", "field"]) (sc := defScope s_Heap_reckoned_shape) (by decide +kernel)) (fun _ _ _ _ _ => (pg_name (i := 8) sc_Heap_reckoned_shape.nd rfl (by first | exact Or.inl rfl | exact Or.inr rfl))) (fun _ _ _ _ _ => pts_nil) (fun _ _ _ _ _ => (by exact (C8.pe_c (p_renumbered T) hr (by decide) (by rfl) (pa_cons (pe_dget (hu_of hr) (pv 7) (pv 8) (fun _ _ => rfl)) (pa_cons (pv 2) pa_nil))))))) pa_nil)) pa_nil)))))))
  (pss_one (ps_ret (pe_tup (pa_cons (pe_fld (pv 0) (by rfl)) (pa_cons (pv 4) (pa_cons (pe_callTy call_tuple_of (by rfl) T.z_tuple (by decide +kernel) (pa_cons (pv 5) pa_nil)) pa_nil))))))))))), ?_⟩
    refine ⟨_, rfl, x, _, dx, _, _, rfl, hx, cl, n3, l3, na, _, rfl, hna, fun b0 nb0 => ?_⟩
    rw [nmKV_keys]
    have x0 : Ext H (upd H b0 (.lst ((h.nm.map (·.1)).map .str))) := Ext.upd nb0
    refine ⟨b0, _, h.nm.map (·.1), rfl, SqL.of upd_same, strs_dp _, by rw [List.length_map]; exact small_le (by omega), fun ys b1 _ hys nb1 => ?_⟩
    have ey : ys = (h.ord srt).map .str := dp_strs hys
    subst ey
    generalize hH1 : upd (upd H b0 (.lst ((h.nm.map (·.1)).map .str))) b1 (.lst ((h.ord srt).map .str)) = H1
    have x1 : Ext H H1 := by rw [← hH1]; exact x0.trans (Ext.upd nb1)
    have hb1 : H1 b1 = some (.lst ((h.ord srt).map .str)) := by rw [← hH1]; exact upd_same
    -- the roots
    refine ⟨_, rfl, x, _, dx, _, _, rfl, x1 _ _ hx, cl, n2, l2, _, rfl, x, _, dx, _, _, rfl, x1 _ _ hx, cl, n1, l1, ?_⟩
    refine ⟨_, rfl, b1, rfl, ⟨_, SqL.of hb1⟩, fun D nD => lc_it (walk_list (xs := (h.ord srt).map .str)) (fun i H' => H' D = some (.lst ((((h.ord srt).take i).map h.at_).map oV)) ∧ Ext H1 H') ⟨upd_same, Ext.upd nD⟩ (fun i H' _ ⟨_, e⟩ => SqL.of (e _ _ hb1))
      (fun i v H2 H3 hi ⟨hD, e2⟩ ⟨e3, ev⟩ => ?_) fun H2 ⟨hD, e2⟩ => ?_⟩
    · subst e3
      obtain ⟨y, hy, rfl⟩ := map_at ev
      obtain ⟨u, hu⟩ := ordm y (List.mem_of_getElem? hy)
      have xx := x1.trans e2
      refine ⟨rfl, _, rfl, x, _, dx, _, _, rfl, xx _ _ hx, cl, n3, l3, _, rfl, na, oV u, rfl, dgetK (k := .inr y) (xx _ _ hna) (nmKV_at hu), _, hD, ?_, ?_, extSet e2 nD⟩
      · rw [List.length_map, List.length_map, List.length_take]; exact small_lt (by omega)
      · rw [upd_same, ← at_of_lookup hu, ← take_map_snoc (f := h.at_) hy, List.map_append]
        rfl
    rw [List.length_map, List.take_length] at hD
    have x2 : Ext H H2 := x1.trans e2
    refine ⟨ha, fa, D, fs, h.ob, os, h.n, (h.ord srt).map h.at_, rfl, x2 _ _ hha, hos.ext x2, x2 _ _ hfa, hD, hv.le, fun i hi f hf j e => hv.ob i f j hi hf e, fun j hj => ?_, fun H3 d x3 nd hd => ?_⟩
    · obtain ⟨y, _, e⟩ := List.mem_map.mp hj
      exact hv.at_ e
    have hd : H3 d = some (.dK (numKV natK (h.met srt fs))) := hd
    have x3' : Ext H H3 := x2.trans x3
    have nd0 : H d = none := ext_none x2 nd
    have hb3 := x3 _ _ (e2 _ _ hb1)
    have rootm : ∀ y, y ∈ h.ord srt → ∀ j, h.at_ y = some j → j ∈ h.met srt fs := fun y hy j e => fin_roots (List.mem_map.mpr ⟨y, hy, e⟩)
    -- the names
    refine ⟨_, rfl, b1, rfl, ⟨_, SqL.of hb3⟩, fun D2 nD2 => lc_it (walk_list (xs := (h.ord srt).map .str)) (fun i H' => ∃ acc, H' D2 = some (.lst acc) ∧ DtAll H' acc (((h.ord srt).take i).map fun y => .tuple [.str y, oD (idx (h.met srt fs) (h.at_ y))]) ∧ Ext H3 H') ⟨[], upd_same, .nil, Ext.upd nD2⟩
      (fun i H' _ ⟨_, _, _, e⟩ => SqL.of (e _ _ hb3)) (fun i v H4 H5 hi ⟨acc, hD2, da, e4⟩ ⟨e5, ev⟩ => ?_) fun H4 ⟨acc, hD2, da, e4⟩ => ?_⟩
    · subst e5
      obtain ⟨y, hy, rfl⟩ := map_at ev
      have hym := List.mem_of_getElem? hy
      obtain ⟨u, hu⟩ := ordm y hym
      have xx := x3'.trans e4
      refine ⟨rfl, _, rfl, _, rfl, x, _, dx, _, _, rfl, xx _ _ hx, cl, n3, l3, _, rfl, na, oV u, rfl, dgetK (k := .inr y) (xx _ _ hna) (nmKV_at hu), _, rfl, u, d, h.met srt fs, rfl, .of (e4 _ _ hd), fun j hj => rootm y hym j (by rw [at_of_lookup hu, hj]), by show 2 ≤ sizeLine; decide, fun tp ntp => ?_⟩
      have hacc : acc.length ≤ 6 := by rw [da.len, List.length_map, List.length_take]; omega
      have ne : D2 ≠ tp := ne_of_none hD2 ntp
      refine ⟨acc, by rw [upd_ne ne]; exact hD2, small_lt (by omega), acc ++ [.ref tp], upd_same, ?_, extSet (e4.trans (Ext.upd ntp)) nD2⟩
      rw [← take_map_snoc (f := fun y => PyData.tuple [.str y, oD (idx (h.met srt fs) (h.at_ y))]) hy]
      have kt : KeepT H5 (upd (upd H5 tp (.tup [.str y, oV (idx (h.met srt fs) u)])) D2 (.lst (acc ++ [.ref tp]))) := (KeepT.new ntp).trans (KeepT.at_ (u := .lst acc) (by rw [upd_ne ne]; exact hD2) fun _ z => by cases z)
      refine (da.keep kt).snoc (.tup (xs := [.str y, oV (idx (h.met srt fs) u)]) ?_ ?_)
      · rw [upd_ne ne.symm, upd_same]
      · rw [at_of_lookup hu]
        exact .cons (.str y) (.cons (.o _) .nil)
    rw [List.length_map, List.take_length] at da
    refine ⟨D2, acc, rfl, .inl ⟨SqL.of hD2, fun tn ntn => ?_⟩⟩
    have x4 : Ext H3 (upd H4 tn (.tup acc)) := e4.trans (Ext.upd ntn)
    have dn : Dt (upd H4 tn (.tup acc)) (.ref tn) (.tuple ((h.names' srt fs).map fun p => .tuple [.str p.1, oD p.2])) := by
      refine .tup upd_same ?_
      unfold HD.names'
      rw [List.map_map]
      exact da.keep (KeepT.new ntn)
    generalize upd H4 tn (.tup acc) = H5 at x4 dn
    -- the objects
    refine ⟨by decide, fun b5 nb5 => ?_⟩
    have x5 : Ext H5 (upd H5 b5 (.lst [])) := Ext.upd nb5
    have x50 : Ext H (upd H5 b5 (.lst [])) := (x3'.trans x4).trans x5
    have nb50 : H b5 = none := ext_none (x3'.trans x4) nb5
    have hd5 : upd H5 b5 (.lst []) d = some (.dK (numKV natK (h.met srt fs))) := x5 _ _ (x4 _ _ hd)
    have ned : d ≠ b5 := ne_of_none (x4 _ _ hd) nb5
    have ktd : ∀ od, KeepT H5 (upd (upd H5 b5 (.lst [])) d (.frz od (.dK (numKV natK (h.met srt fs))))) := fun od => (KeepT.new nb5).trans (KeepT.at_ hd5 fun _ z => by cases z)
    refine ⟨d, _, hd5, trivial, fun od => ⟨_, rfl, d, od, rfl, .inl ⟨_, upd_same, for_it walk_keys (fun i σ' H' => ∃ (a b c : Option V) (acc : List V), σ' = [some (.ref x), some (.ref b1), some (.ref d), none, some (.ref tn), some (.ref b5), a, b, c] ∧ H' d = some (.frz od (.dK (numKV natK (h.met srt fs)))) ∧ H' b5 = some (.lst acc) ∧
      DtAll H' acc (((h.met srt fs).take i).map fun m => .tuple ((fs.map fun f => idx (h.met srt fs) (h.ob m f)).map oD)) ∧ Ext H H' ∧ KeepT H5 H')
      ⟨_, _, _, [], rfl, upd_same, by rw [upd_ne ned.symm, upd_same], .nil, extSet x50 nd0, ktd od⟩ (fun _ _ _ _ ⟨_, _, _, _, _, e, _⟩ => e) (fun i v σ' H6 H7 hi ⟨a, b, c, acc, es, hd6, hb6, da6, x6, k6⟩ ⟨e7, k, u, ek, ev⟩ => ?_) fun σ' H6 ⟨a, b, c, acc, es, hd6, hb6, da6, x6, k6⟩ => ?_⟩⟩⟩
    · subst es e7 ev
      obtain ⟨m, hm, em⟩ := numKV_get ek
      have em : k = natK m := em
      subst em
      have hmm : m ∈ h.met srt fs := List.mem_of_getElem? hm
      have hmn : m < h.n := hv.met_lt srt lots m hmm
      obtain ⟨ad, ha1, ha2⟩ := hos.2 m hmn
      refine ⟨_, rfl, x, _, dx, _, _, rfl, x6 _ _ hx, cl, n2, l2, _, rfl, ha, os, (m : Int), .ref ad, rfl, rfl, SqL.of (x6 _ _ hha), atI_nat ha1, ?_⟩
      refine ⟨_, rfl, .inl ⟨rfl, _, SqL.of hb6⟩, _, rfl, x, _, dx, _, _, rfl, x6 _ _ hx, cl, n1, l1, fa, rfl, ⟨_, SqT.of (x6 _ _ hfa)⟩, fun D3 nD3 => lc_it (walk_tup (xs := fs.map .str)) (fun j H' => H' D3 = some (.lst (((fs.take j).map fun f => idx (h.met srt fs) (h.ob m f)).map oV)) ∧ Ext H7 H') ⟨upd_same, Ext.upd nD3⟩
        (fun _ _ _ ⟨_, e⟩ => SqT.of (e _ _ (x6 _ _ hfa))) (fun j v H8 H9 hj ⟨hD3, x8⟩ ⟨e9, ev⟩ => ?_) fun H8 ⟨hD3, x8⟩ => ?_⟩
      · subst e9
        obtain ⟨f, hf, rfl⟩ := map_at ev
        have hfm : f ∈ fs := List.mem_of_getElem? hf
        refine ⟨rfl, _, rfl, _, rfl, ad, oV (h.ob m f), rfl, dgetK (k := .inr f) (x8 _ _ (x6 _ _ ha2)) (itemKV_at hfm), _, rfl, h.ob m f, d, h.met srt fs, rfl, .inr ⟨od, x8 _ _ hd6⟩, fun j' hj' => hv.closed srt hmm hfm hj', _, hD3, ?_, ?_, extSet x8 nD3⟩
        · rw [List.length_map, List.length_map, List.length_take]; exact small_lt (by omega)
        · rw [upd_same, ← take_map_snoc (f := fun f => idx (h.met srt fs) (h.ob m f)) hf, List.map_append]
          rfl
      · rw [List.length_map, List.take_length] at hD3
        refine ⟨D3, _, rfl, .inl ⟨SqL.of hD3, fun tp ntp => ?_⟩⟩
        have x9 : Ext H7 (upd H8 tp (.tup ((fs.map fun f => idx (h.met srt fs) (h.ob m f)).map oV))) := x8.trans (Ext.upd ntp)
        have hacc : acc.length ≤ 200 := by
          rw [da6.len, List.length_map, List.length_take]
          have h1 : (h.met srt fs).length ≤ 200 := hv.met_len srt lots
          omega
        refine ⟨b5, acc, .ref tp, rfl, rfl, x9 _ _ hb6, small_lt (by omega), _, _, _, acc ++ [.ref tp], rfl, ?_, upd_same, ?_, extSet (x6.trans x9) nb50, ?_⟩
        · rw [upd_ne (ne_of (x9 _ _ hd6) (x9 _ _ hb6) (by intro z; cases z))]
          exact x9 _ _ hd6
        · rw [← take_map_snoc (f := fun m => PyData.tuple ((fs.map fun f => idx (h.met srt fs) (h.ob m f)).map oD)) hm]
          have kt := KeepT.at_ (o := .lst (acc ++ [.ref tp])) (x9 _ _ hb6) (fun _ z => by cases z)
          refine (da6.keep ((ext_keep x9).trans kt)).snoc (.tup (kt _ _ upd_same) ?_)
          exact dtall_o _
        · exact k6.trans ((ext_keep x9).trans (KeepT.at_ (x9 _ _ hb6) fun _ z => by cases z))
    · subst es
      rw [numKV_len, List.take_length] at da6
      refine ⟨hd6, ?_⟩
      have hb7 : upd H6 d (.dK (numKV natK (h.met srt fs))) b5 = some (.lst acc) := by rw [upd_ne (ne_of hd6 hb6 (by intro z; cases z)).symm]; exact hb6
      have x7 : Ext H (upd H6 d (.dK (numKV natK (h.met srt fs)))) := extSet x6 nd0
      have k7 : KeepT H6 (upd H6 d (.dK (numKV natK (h.met srt fs)))) := KeepT.at_ hd6 fun _ z => by cases z
      refine ⟨_, rfl, x, _, dx, _, _, rfl, x7 _ _ hx, cl, n1, l1, _, rfl, _, rfl, b5, acc, rfl, .inl ⟨SqL.of hb7, fun t2 nt2 => ⟨by show 3 ≤ sizeLine; decide, fun t3 nt3 => ?_⟩⟩⟩
      have x9 := x7.trans ((Ext.upd nt2).trans (Ext.upd (o := .tup [.ref fa, .ref tn, .ref t2]) nt3))
      refine q _ t3 x9 (.tup upd_same ?_)
      have k3 : KeepT (upd (upd H6 d (.dK (numKV natK (h.met srt fs)))) t2 (.tup acc)) _ := KeepT.new (o := .tup [.ref fa, .ref tn, .ref t2]) nt3
      have kk := (k7.trans (KeepT.new nt2)).trans k3
      refine .cons (.tup (x9 _ _ hfa) (.strs fs)) (.cons ((dn.keep k6).keep kk) (.cons (.tup (xs := acc) (k3 _ _ upd_same) ?_) .nil))
      have e1 : ((h.objs' srt fs).map fun l => PyData.tuple (l.map oD)) = (h.met srt fs).map fun m => PyData.tuple ((fs.map fun f => idx (h.met srt fs) (h.ob m f)).map oD) := by
        unfold HD.objs'
        rw [List.map_map]
        rfl
      rw [e1]
      exact da6.keep kk
end
end TW
set_option maxHeartbeats 4000000
/-! ## heaps: the class -/
namespace TW
open PySem PySem.Spec PyProof.Rows L2 TwN
theorem call_tuple_seq {X : Cx} : CallR X (.type "tuple") (fun xs H Q => ∃ a ys, xs = [.ref a] ∧ SqW H a ys ∧ ∀ q H', Ext H H' → H' q = some (.tup ys) → Q (.ref q) H') := by
  intro pins s σ H xs us Q I r h
  obtain ⟨a, ys, e, hs, q⟩ := h
  refine call_tuple_of (X := X) pins s σ H xs us Q I r ⟨a, ys, e, ?_⟩
  rcases hs with hs | hs
  · exact .inl ⟨SqL.of hs, fun l hl => q l _ (Ext.upd hl) upd_same⟩
  · exact .inr ⟨SqT.of hs, q a H Ext.rfl' hs⟩
theorem ObjsOk.push {H : Hp} {fs : List Str} {i : Nat} {ob : Nat → Str → Option Nat} {acc : List V} {p : Addr} (h : ObjsOk H fs i ob acc) (hp : H p = some (.dK (itemKV fs (ob i)))) : ObjsOk H fs (i + 1) ob (acc ++ [.ref p]) := by
  refine ⟨by rw [List.length_append, h.1]; rfl, fun k hk => ?_⟩
  by_cases e : k = i
  · subst e
    exact ⟨p, by rw [List.getElem?_append_right (by rw [h.1]; exact Nat.le_refl _), h.1]; simp, hp⟩
  · obtain ⟨a, h1, h2⟩ := h.2 k (by omega)
    exact ⟨a, by rw [List.getElem?_append_left (by rw [h.1]; omega)]; exact h1, h2⟩
theorem ObjsOk.keepL {H : Hp} {fs : List Str} {n : Nat} {ob : Nat → Str → Option Nat} {os xs ys : List V} {D : Addr} (h : ObjsOk H fs n ob os) (hD : H D = some (.lst xs)) : ObjsOk (upd H D (.lst ys)) fs n ob os :=
  ⟨h.1, fun i hi => by
    obtain ⟨a, h1, h2⟩ := h.2 i hi
    exact ⟨a, h1, by rw [upd_ne (ne_of h2 hD (by intro z; cases z))]; exact h2⟩⟩
section
variable {P : Program} {w : World} {K : PySem.W.Frag} {mg : Str → Option Value} {base h : Heap}
def sp_Heap_init : PySem.W.Frag → Sp := fun K vs H Q _ => ∃ (x dx fa oa na : Addr) (fs : List Str) (os : List V) (h : HD Str), vs = [.ref x, .ref fa, .ref oa, .ref na] ∧ H x = some (.ins (He.ga K "Heap") dx []) ∧ SqW H fa (fs.map .str) ∧ Fields fs ∧ H oa = some (.lst os) ∧ ObjsOk H fs h.n h.ob os ∧
  H na = some (.dK (nmKV h.nm)) ∧ HV fs h ∧ (∀ p ∈ h.nm, GoodW p.1) ∧ ∀ H', HeapAt K H' x fs h → (∀ b o, b ≠ x → H b = some o → H' b = some o) → Q .non H'
theorem p_Heap_init (T : Tx w K mg h) : C8.Mak P w K mg base 5 "Heap" (He.ga K "Heap") (sp_Heap_init K) [] :=
  mak T.f_Heap_init T.mk_Heap T.g_Heap sc_Heap_init (fun vs H Q E ⟨_, _, _, _, _, _, _, _, e, _⟩ => by rw [e]; rfl) fun cdv A outer s H vs Q E hr ⟨x, dx, fa, oa, na, fs, os, h, e, hx, hfa, hf, hoa, hos, hna, hv, hg, q⟩ => by
    subst e
    have cl := T.c_Heap
    refine ⟨_, (pss_cons (ps_if (pt_not (pt_val (C8.pe_c (p_is_word_list T) hr (by decide) (by rfl) (pa_cons (pv 1) (pa_cons pe_int (pa_cons pe_int pa_nil)))))) (pss_one ps_never) pss_nil)
  (pss_cons (ps_expr (C8.pe_c (p_check_objects T) hr (by decide) (by rfl) (pa_cons (pv 2) (pa_cons (pv 1) pa_nil))))
  (pss_cons (ps_expr (C8.pe_c (p_check_names T) hr (by decide) (by rfl) (pa_cons (pv 3) (pa_cons (pe_callB call_len_seq (by rfl) T.z_len (by decide +kernel) (pa_cons (pv 2) pa_nil)) pa_nil))))
  (pss_cons (ps_fld (pv 0) (pe_callTy call_tuple_seq (by rfl) T.z_tuple (by decide +kernel) (pa_cons (pv 1) pa_nil)) (by rfl))
  (pss_cons (ps_fld (pv 0) (by exact (pe_lc (own := [("item", 4)]) (g := gName 4) (by rfl) sc_Heap_init.nd (pi_list (pv 2)) (blkOk_by (own := [("item", 4)]) (N := ["self", "fields", "objects", "names", "item"]) (sc := defScope s_Heap_init) (by decide +kernel)) (fun _ _ _ _ _ => (pg_name (i := 4) sc_Heap_init.nd rfl (by first | exact Or.inl rfl | exact Or.inr rfl))) (fun _ _ _ _ _ => pts_nil) (fun _ _ _ _ _ => (by exact (pe_callTy call_dictD (by rfl) T.z_dict (by decide +kernel) (pa_cons (pv 4) pa_nil)))))) (by rfl))
  (pss_cons (ps_fld (pv 0) (pe_callTy call_dictD (by rfl) T.z_dict (by decide +kernel) (pa_cons (pv 3) pa_nil)) (by rfl))
  (pss_one (ps_fld (pv 0) (C8.pe_mt0 (p_Heap_reckoned_shape T) hr (by decide) (pv 0)) (by rfl))))))))), ?_⟩
    refine ⟨_, rfl, fa, fs, 1, 2, rfl, hfa, hf.good, hf.nd, by have := hf.lo; omega, by have := hf.hi; omega, by have := hf.hi; omega, fun H1 x1 => ⟨true, rfl, iteF ?_⟩⟩
    refine ⟨_, rfl, _, rfl, oa, fa, fs, h.ob, os, h.n, rfl, x1 _ _ hoa, hos.ext x1, hfa.ext x1, hv.le, fun i hi f hf j e => hv.ob i f j hi hf e, fun H2 x2 => ?_⟩
    have x2' := x1.trans x2
    refine ⟨_, rfl, _, rfl, oa, _, rfl, .inl (SqL.of (x2' _ _ hoa)), na, h.nm, h.n, by rw [hos.1]; rfl, x2' _ _ hna, hv.nl, hg, hv.nm, fun H3 x3 => ?_⟩
    have x3' := x2'.trans x3
    refine ⟨_, rfl, fa, _, rfl, hfa.ext x3', fun ft H4 x4 hft => ⟨_, rfl, x, _, dx, [], rfl, (x3'.trans x4) _ _ hx, cl, T.n_Heap_fields, by decide, ?_⟩⟩
    -- the frame: all but x
    have F4 : ∀ b o, b ≠ x → H b = some o → upd H4 x (.ins (He.ga K "Heap") dx (putF "fields" (.ref ft) [])) b = some o := fun b o hb e => by rw [upd_ne hb]; exact (x3'.trans x4) b o e
    have hx5 : upd H4 x (.ins (He.ga K "Heap") dx (putF "fields" (.ref ft) [])) x = some (.ins (He.ga K "Heap") dx [("fields", .ref ft)]) := upd_same
    have hft5 : upd H4 x (.ins (He.ga K "Heap") dx (putF "fields" (.ref ft) [])) ft = some (.tup (fs.map .str)) := by rw [upd_ne (ne_of hft ((x3'.trans x4) _ _ hx) (by intro z; cases z))]; exact hft
    have nox : oa ≠ x := ne_of hoa hx (by intro z; cases z)
    have nnx : na ≠ x := ne_of hna hx (by intro z; cases z)
    have nax : ∀ k a, k < h.n → os[k]? = some (.ref a) → a ≠ x := fun k a hk e => by
      obtain ⟨a', h1, h2⟩ := hos.2 k hk
      have : a = a' := by have := e.symm.trans h1; injection this with this; injection this
      subst this
      exact ne_of h2 hx (by intro z; cases z)
    generalize upd H4 x (.ins (He.ga K "Heap") dx (putF "fields" (.ref ft) [])) = H5 at F4 hx5 hft5
    have hos5 : ObjsOk H5 fs h.n h.ob os := ⟨hos.1, fun k hk => by
      obtain ⟨a, h1, h2⟩ := hos.2 k hk
      exact ⟨a, h1, F4 _ _ (nax k a hk h1) h2⟩⟩
    refine ⟨_, rfl, oa, rfl, ⟨_, SqL.of (F4 _ _ nox hoa)⟩, fun D nD => lc_it (walk_list (xs := os)) (fun i H' => ∃ acc, H' D = some (.lst acc) ∧ ObjsOk H' fs i h.ob acc ∧ Ext H5 H') ⟨[], upd_same, ⟨rfl, fun _ z => absurd z (Nat.not_lt_zero _)⟩, Ext.upd nD⟩
      (fun i H' _ ⟨_, _, _, e⟩ => SqL.of (e _ _ (F4 _ _ nox hoa))) (fun i v H6 H7 hi ⟨acc, hD, ho, e6⟩ ⟨e7, ev⟩ => ?_) fun H6 ⟨acc, hD, ho, e6⟩ => ?_⟩
    · subst e7
      obtain ⟨a, h1, h2⟩ := hos5.2 i (by rw [← hos.1]; exact hi)
      have ev : v = .ref a := Option.some.inj (ev.symm.trans h1)
      subst ev
      refine ⟨rfl, _, rfl, a, _, rfl, .of (e6 _ _ h2), fun p np => ⟨acc, by rw [upd_ne (ne_of_none hD np)]; exact hD, ?_, acc ++ [.ref p], upd_same, ?_, ?_⟩⟩
      · have h3 := hv.le
        rw [ho.1]
        exact small_lt (by have := hos.1; omega)
      · exact ((ho.ext (Ext.upd np)).push upd_same).keepL (xs := acc) (by rw [upd_ne (ne_of_none hD np)]; exact hD)
      · exact extSet (e6.trans (Ext.upd np)) nD
    rw [hos.1] at ho
    refine ⟨_, rfl, x, _, dx, _, rfl, e6 _ _ hx5, cl, T.n_Heap_held, (show 1 < 1000 by decide), ?_⟩
    have F6 : ∀ b o, b ≠ x → H5 b = some o → upd H6 x (.ins (He.ga K "Heap") dx (putF "held" (.ref D) [("fields", .ref ft)])) b = some o := fun b o hb e => by rw [upd_ne hb]; exact e6 _ _ e
    have hx7 : upd H6 x (.ins (He.ga K "Heap") dx (putF "held" (.ref D) [("fields", .ref ft)])) x = some (.ins (He.ga K "Heap") dx [("fields", .ref ft), ("held", .ref D)]) := upd_same
    have nDx : D ≠ x := ne_of hD (e6 _ _ hx5) (by intro z; cases z)
    have hD7 : upd H6 x (.ins (He.ga K "Heap") dx (putF "held" (.ref D) [("fields", .ref ft)])) D = some (.lst acc) := by rw [upd_ne nDx]; exact hD
    have ho7 : ObjsOk (upd H6 x (.ins (He.ga K "Heap") dx (putF "held" (.ref D) [("fields", .ref ft)]))) fs h.n h.ob acc := ⟨ho.1, fun k hk => by
      obtain ⟨a, h1, h2⟩ := ho.2 k hk
      exact ⟨a, h1, by rw [upd_ne (ne_of h2 (e6 _ _ hx5) (by intro z; cases z))]; exact h2⟩⟩
    have nftx : ft ≠ x := ne_of hft5 hx5 (by intro z; cases z)
    generalize upd H6 x (.ins (He.ga K "Heap") dx (putF "held" (.ref D) [("fields", .ref ft)])) = H7 at F6 hx7 hD7 ho7
    refine ⟨_, rfl, na, _, rfl, .of (F6 _ _ nnx (F4 _ _ nnx hna)), fun nd nnd => ⟨_, rfl, x, _, dx, _, rfl, Ext.upd nnd _ _ hx7, cl, T.n_Heap_holders, (show 2 < 1000 by decide), ?_⟩⟩
    have F8 : ∀ b o, b ≠ x → H7 b = some o → upd (upd H7 nd (.dK (nmKV h.nm))) x (.ins (He.ga K "Heap") dx (putF "holders" (.ref nd) [("fields", .ref ft), ("held", .ref D)])) b = some o := fun b o hb e => by rw [upd_ne hb]; exact Ext.upd nnd _ _ e
    have hx9 : upd (upd H7 nd (.dK (nmKV h.nm))) x (.ins (He.ga K "Heap") dx (putF "holders" (.ref nd) [("fields", .ref ft), ("held", .ref D)])) x = some (.ins (He.ga K "Heap") dx [("fields", .ref ft), ("held", .ref D), ("holders", .ref nd)]) := upd_same
    have hnd9 : upd (upd H7 nd (.dK (nmKV h.nm))) x (.ins (He.ga K "Heap") dx (putF "holders" (.ref nd) [("fields", .ref ft), ("held", .ref D)])) nd = some (.dK (nmKV h.nm)) := by rw [upd_ne (ne_of_none hx7 nnd).symm, upd_same]
    have ho9 : ObjsOk (upd (upd H7 nd (.dK (nmKV h.nm))) x (.ins (He.ga K "Heap") dx (putF "holders" (.ref nd) [("fields", .ref ft), ("held", .ref D)]))) fs h.n h.ob acc := ⟨ho7.1, fun k hk => by
      obtain ⟨a, h1, h2⟩ := ho7.2 k hk
      exact ⟨a, h1, F8 _ _ (ne_of h2 hx7 (by intro z; cases z)) h2⟩⟩
    generalize upd (upd H7 nd (.dK (nmKV h.nm))) x (.ins (He.ga K "Heap") dx (putF "holders" (.ref nd) [("fields", .ref ft), ("held", .ref D)])) = H9 at F8 hx9 hnd9 ho9
    have hft9 := F8 _ _ nftx (F6 _ _ nftx hft5)
    have hD9 := F8 _ _ nDx hD7
    refine ⟨_, rfl, x, dx, _, rfl, hx9, rfl, x, dx, ft, D, nd, _, fs, acc, h, rfl, hx9, rfl, rfl, rfl, hft9, hf.hi, hD9, ho9, hnd9, hv, fun H10 sa x10 dsa => ⟨_, rfl, x, _, dx, _, rfl, x10 _ _ hx9, cl, T.n_Heap_shape, (show 3 < 1000 by decide), ?_⟩⟩
    have hx10 := x10 _ _ hx9
    have F11 : ∀ b o, b ≠ x → H9 b = some o → upd H10 x (.ins (He.ga K "Heap") dx (putF "shape" (.ref sa) [("fields", .ref ft), ("held", .ref D), ("holders", .ref nd)])) b = some o := fun b o hb e => by rw [upd_ne hb]; exact x10 _ _ e
    refine q _ ⟨dx, ft, D, nd, sa, acc, upd_same, F11 _ _ nftx hft9, F11 _ _ nDx hD9, ⟨ho9.1, fun k hk => ?_⟩, F11 _ _ (ne_of hnd9 hx9 (by intro z; cases z)) hnd9, dsa.keep (KeepT.at_ hx10 fun _ z => by cases z)⟩ fun b o hb e => F11 _ _ hb (F8 _ _ hb (F6 _ _ hb (F4 _ _ hb e)))
    obtain ⟨a, h1, h2⟩ := ho9.2 k hk
    exact ⟨a, h1, F11 _ _ (ne_of h2 hx9 (by intro z; cases z)) h2⟩
def sp_Heap_len : PySem.W.Frag → Sp := fun K vs H Q _ => ∃ (x : Addr) (fs : List Str) (h : HD Str), vs = [.ref x] ∧ HeapAt K H x fs h ∧ Q (.int h.n) H
theorem p_Heap_len (T : Tx w K mg h) : C8.Met P w K mg base 1 (He.ga K "Heap") "__len__" (sp_Heap_len K) [] :=
  met T.f_Heap_len T.c_Heap T.m_Heap_len sc_Heap_len (fun vs H Q E ⟨_, _, _, e, _⟩ => by rw [e]; rfl) fun cdv A outer s H vs Q E hr ⟨x, fs, h, e, ha, q⟩ => by
    subst e
    obtain ⟨dx, fa, oa, na, sa, os, h1, h2, h3, h4, h5, h6⟩ := ha.ex
    refine ⟨_, (pss_one (ps_ret (pe_callB call_len_seq (by rfl) T.z_len (by decide +kernel) (pa_cons (pe_fld (pv 0) (by rfl)) pa_nil)))), ?_⟩
    refine ⟨_, rfl, x, _, dx, _, _, rfl, h1, T.c_Heap, T.n_Heap_held, rfl, oa, _, rfl, .inl (SqL.of h3), ?_⟩
    rw [h4.1]
    exact q
def sp_Heap_objects : PySem.W.Frag → Sp := fun K vs H Q _ => ∃ (x : Addr) (fs : List Str) (h : HD Str), vs = [.ref x] ∧ HeapAt K H x fs h ∧ h.n ≤ 200 ∧ ∀ H' D os, Ext H H' → H D = none → H' D = some (.lst os) → ObjsOk H' fs h.n h.ob os → Q (.ref D) H'
theorem p_Heap_objects (T : Tx w K mg h) : C8.Met P w K mg base 1 (He.ga K "Heap") "objects" (sp_Heap_objects K) [] :=
  met T.f_Heap_objects T.c_Heap T.m_Heap_objects sc_Heap_objects (fun vs H Q E ⟨_, _, _, e, _⟩ => by rw [e]; rfl) fun cdv A outer s H vs Q E hr ⟨x, fs, h, e, ha, hn, q⟩ => by
    subst e
    obtain ⟨dx, fa, oa, na, sa, os, h1, h2, h3, h4, h5, h6⟩ := ha.ex
    refine ⟨_, (pss_one (ps_ret (by exact (pe_lc (own := [("item", 1)]) (g := gName 1) (by rfl) sc_Heap_objects.nd (pi_list (pe_fld (pv 0) (by rfl))) (blkOk_by (own := [("item", 1)]) (N := ["self", "item"]) (sc := defScope s_Heap_objects) (by decide +kernel)) (fun _ _ _ _ _ => (pg_name (i := 1) sc_Heap_objects.nd rfl (by first | exact Or.inl rfl | exact Or.inr rfl))) (fun _ _ _ _ _ => pts_nil) (fun _ _ _ _ _ => (by exact (pe_callTy call_dictD (by rfl) T.z_dict (by decide +kernel) (pa_cons (pv 1) pa_nil)))))))), ?_⟩
    refine ⟨_, rfl, x, _, dx, _, _, rfl, h1, T.c_Heap, T.n_Heap_held, rfl, oa, rfl, ⟨_, SqL.of h3⟩, fun D nD => lc_it (walk_list (xs := os)) (fun i H' => ∃ acc, H' D = some (.lst acc) ∧ ObjsOk H' fs i h.ob acc ∧ Ext H H') ⟨[], upd_same, ⟨rfl, fun _ z => absurd z (Nat.not_lt_zero _)⟩, Ext.upd nD⟩
      (fun i H' _ ⟨_, _, _, e⟩ => SqL.of (e _ _ h3)) (fun i v H6 H7 hi ⟨acc, hD, ho, e6⟩ ⟨e7, ev⟩ => ?_) fun H6 ⟨acc, hD, ho, e6⟩ => by rw [h4.1] at ho; exact q H6 D acc e6 nD hD ho⟩
    subst e7
    obtain ⟨a, h7, h8⟩ := h4.2 i (by rw [← h4.1]; exact hi)
    have ev : v = .ref a := Option.some.inj (ev.symm.trans h7)
    subst ev
    refine ⟨rfl, _, rfl, a, _, rfl, .of (e6 _ _ h8), fun p np => ⟨acc, by rw [upd_ne (ne_of_none hD np)]; exact hD, ?_, acc ++ [.ref p], upd_same, ?_, extSet (e6.trans (Ext.upd np)) nD⟩⟩
    · rw [ho.1]
      exact small_lt (by have := h4.1; omega)
    · exact ((ho.ext (Ext.upd np)).push upd_same).keepL (xs := acc) (by rw [upd_ne (ne_of_none hD np)]; exact hD)
def sp_Heap_names : PySem.W.Frag → Sp := fun K vs H Q _ => ∃ (x : Addr) (fs : List Str) (h : HD Str), vs = [.ref x] ∧ HeapAt K H x fs h ∧ ∀ H' D, Ext H H' → H D = none → H' D = some (.dK (nmKV h.nm)) → Q (.ref D) H'
theorem p_Heap_names (T : Tx w K mg h) : C8.Met P w K mg base 1 (He.ga K "Heap") "names" (sp_Heap_names K) [] :=
  met T.f_Heap_names T.c_Heap T.m_Heap_names sc_Heap_names (fun vs H Q E ⟨_, _, _, e, _⟩ => by rw [e]; rfl) fun cdv A outer s H vs Q E hr ⟨x, fs, h, e, ha, q⟩ => by
    subst e
    obtain ⟨dx, fa, oa, na, sa, os, h1, h2, h3, h4, h5, h6⟩ := ha.ex
    refine ⟨_, (pss_one (ps_ret (pe_callTy call_dictD (by rfl) T.z_dict (by decide +kernel) (pa_cons (pe_fld (pv 0) (by rfl)) pa_nil)))), ?_⟩
    exact ⟨_, rfl, x, _, dx, _, _, rfl, h1, T.c_Heap, T.n_Heap_holders, rfl, na, _, rfl, .of h5, fun D nD => q _ D (Ext.upd nD) nD upd_same⟩
end
end TW
set_option maxHeartbeats 4000000
/-! ## heaps: ==, the normal form -/
namespace TW
open PySem PySem.Spec PyProof.Rows L2 TwN
theorem can_all {l : List PyData} (h : ∀ d ∈ l, d.canLay0 = true) : PyData.canLayAll0 l = true := by
  induction l with
  | nil => rfl
  | cons d r ih =>
    show (d.canLay0 && PyData.canLayAll0 r) = true
    rw [h d List.mem_cons_self, ih fun x hx => h x (List.mem_cons_of_mem _ hx)]
    rfl
theorem dep_all {l : List PyData} {k : Nat} (h : ∀ d ∈ l, d.depth ≤ k) : PyData.depthAll l ≤ k := by
  induction l with
  | nil => simp [PyData.depthAll]
  | cons d r ih =>
    have h1 := h d List.mem_cons_self
    have h2 := ih fun x hx => h x (List.mem_cons_of_mem _ hx)
    simp only [PyData.depthAll]
    omega
theorem good_ok {x : Str} (h : GoodW x) : PyData.strOk x = true := by
  unfold PyData.strOk
  rw [← Array.all_toList, List.all_eq_true]
  exact fun c hc => decide_eq_true (by have := (h.az c hc).2; omega)
theorem can_o (v : Option Nat) : (oD v).canLay0 = true := by cases v <;> rfl
theorem dep_o (v : Option Nat) : (oD v).depth ≤ 0 := by cases v <;> simp [oD, PyData.depth]
/-- depth at most k, can be laid -/
def Lay (k : Nat) (d : PyData) : Prop := d.canLay0 = true ∧ d.depth ≤ k
theorem Lay.tup {k : Nat} {l : List PyData} (h : ∀ d ∈ l, Lay k d) : Lay (k + 1) (.tuple l) := by
  refine ⟨can_all fun d hd => (h d hd).1, ?_⟩
  have := dep_all fun d hd => (h d hd).2
  simp only [PyData.depth]
  omega
theorem Lay.lst {k : Nat} {l : List PyData} (h : ∀ d ∈ l, Lay k d) : Lay (k + 1) (.list l) := by
  refine ⟨can_all fun d hd => (h d hd).1, ?_⟩
  have := dep_all fun d hd => (h d hd).2
  simp only [PyData.depth]
  omega
theorem Lay.mono {k j : Nat} {d : PyData} (h : Lay k d) (hj : k ≤ j) : Lay j d := ⟨h.1, Nat.le_trans h.2 hj⟩
theorem Lay.str {x : Str} (h : GoodW x) : Lay 0 (.str x) := ⟨by simp only [PyData.canLay0]; exact good_ok h, by simp [PyData.depth]⟩
theorem Lay.o (v : Option Nat) : Lay 0 (oD v) := ⟨can_o v, dep_o v⟩
theorem Lay.shaped {k : Nat} {d : PyData} (h : Lay k d) (hk : k ≤ 64) : SeqAt.shaped d = true := by
  unfold SeqAt.shaped
  rw [h.1, decide_eq_true (Nat.le_trans h.2 hk)]
  rfl
theorem lay_shape {fs : List Str} {h : HD Str} (hf : ∀ f ∈ fs, GoodW f) (hn : ∀ p ∈ h.nm, GoodW p.1) : Lay 3 (shapeD fs h) := by
  unfold shapeD
  refine Lay.tup fun d hd => ?_
  rcases List.mem_cons.mp hd with rfl | hd
  · refine (Lay.tup (k := 0) fun e he => ?_).mono (by omega)
    obtain ⟨f, hfm, rfl⟩ := List.mem_map.mp he
    exact .str (hf f hfm)
  rcases List.mem_cons.mp hd with rfl | hd
  · refine Lay.tup fun e he => ?_
    obtain ⟨p, hp, rfl⟩ := List.mem_map.mp he
    refine Lay.tup fun u hu => ?_
    rcases List.mem_cons.mp hu with rfl | hu
    · unfold HD.names' at hp
      obtain ⟨x, hx, rfl⟩ := List.mem_map.mp hp
      obtain ⟨q, hq, e⟩ := List.mem_map.mp ((srt_perm _).subset hx)
      show Lay 0 (.str x)
      rw [← e]
      exact .str (hn q hq)
    · rw [List.mem_singleton.mp hu]
      exact .o _
  · rw [List.mem_singleton.mp hd]
    refine Lay.tup fun e he => ?_
    obtain ⟨l, _, rfl⟩ := List.mem_map.mp he
    refine Lay.tup fun u hu => ?_
    obtain ⟨v, _, rfl⟩ := List.mem_map.mp hu
    exact .o v
theorem Tx.is_heap {w : World} {K : PySem.W.Frag} {mg : Str → Option Value} {h : Heap} (T : Tx w K mg h) : isB K (He.ga K "Heap") = true := (He.ba (He.ba (He.ba (He.ba T.ex).2).2).2).2
theorem Tx.ty_heap {w : World} {K : PySem.W.Frag} {mg : Str → Option Value} {h : Heap} (T : Tx w K mg h) {H : Hp} {a dx : Addr} {fs : List (Str × V)} (e : H a = some (.ins (He.ga K "Heap") dx fs)) : TyX K H (.ref a) (.ref (He.ga K "Heap")) := by
  obtain ⟨h1, r⟩ := He.ba T.is_heap
  obtain ⟨h2, r⟩ := He.ba r
  obtain ⟨h3, r⟩ := He.ba r
  obtain ⟨h4, h5⟩ := He.ba r
  exact .base (.ins e T.c_Heap (He.eqO_ok h1) (He.eqO_ok h2) (of_decide_eq_true h3) (of_decide_eq_true h4))
theorem Tx.kit_heap {w : World} {K : PySem.W.Frag} {mg : Str → Option Value} {h : Heap} (T : Tx w K mg h) : PySem.W.kitOne K (.ref (He.ga K "Heap")) (.ref (He.ga K "Heap")) = some true := by
  obtain ⟨_, r⟩ := He.ba T.is_heap
  obtain ⟨_, r⟩ := He.ba r
  obtain ⟨_, r⟩ := He.ba r
  obtain ⟨_, h5⟩ := He.ba r
  exact of_decide_eq_true h5
/-- two heaps of the same data -/
def HeapEq (K : PySem.W.Frag) (a b : Addr) (H : Hp) : Prop := ∃ fs h, HeapAt K H a fs h ∧ HeapAt K H b fs h ∧ Fields fs ∧ ∀ p ∈ h.nm, GoodW p.1
section
variable {P : Program} {w : World} {K : PySem.W.Frag} {mg : Str → Option Value} {base h : Heap}
theorem p_Heap_eq (T : Tx w K mg h) : C8.Met P w K mg base 1 (He.ga K "Heap") "__eq__" (spEq (HeapEq K)) [] :=
  met T.f_Heap_eq T.c_Heap T.m_Heap_eq sc_Heap_eq (fun vs H Q E ⟨_, _, e, _⟩ => by rw [e]; rfl) fun cdv A outer s H vs Q E hr ⟨a, b, e, ⟨fs, h, ha, hb, hf, hg⟩, q⟩ => by
    subst e
    obtain ⟨dx, fa, oa, na, sa, os, h1, h2, h3, h4, h5, h6⟩ := ha.ex
    obtain ⟨dy, fb, ob, nb, sb, ps, g1, g2, g3, g4, g5, g6⟩ := hb.ex
    have l := lay_shape (h := h) hf.good hg
    refine ⟨_, (pss_one (ps_ret (pe_and (pe_callB call_isi (by rfl) T.z_isinstance (by decide +kernel) (pa_cons (pv 1) (pa_cons (pe_glob (v := .ref (He.ga K "Heap")) (by rfl) T.g_Heap rfl) pa_nil))) (pe_one (pe_cmpR (op_eqD hr.units) (pe_fld (pv 0) (by rfl)) (pe_fld (pv 1) (by rfl)) (nomark _)))))), ?_⟩
    refine ⟨_, rfl, _, _, _, _, _, rfl, .own _, T.ty_heap g1, T.kit_heap, true, rfl, iteT ?_⟩
    refine ⟨_, rfl, a, _, dx, _, _, rfl, h1, T.c_Heap, T.n_Heap_shape, rfl, _, rfl, b, _, dy, _, _, rfl, g1, T.c_Heap, T.n_Heap_shape, rfl, _, _, h6.dp, g6.dp, l.shaped (by decide), l.shaped (by decide), ?_⟩
    rw [SeqAt.eqv_refl _ l.1]
    exact q H Ext.rfl'
theorem rcG_heap {X : Cx} (T : Tx X.w X.K X.mg h) : RcG X 1 (DIns (He.ga X.K "Heap") (HeapEq X.K)) := by
  obtain ⟨f, fd, ps, ds, hc, hm, F, b, d⟩ := (p_Heap_eq (P := X.prog) (base := X.base) T).ex
  cases d
  exact rcG_ins (E := C8.E0) F hm.at_ hm.fn b C8.pass0
theorem p_lenHeap {X : Cx} {k : Nat} (T : Tx X.w X.K X.mg h) (hr : Room k X.A) (hk : 2 ≤ k := by decide) : CallR X (.builtin "len") (fun xs H Q => ∃ (x : Addr) (fs : List Str) (h : HD Str), xs = [.ref x] ∧ HeapAt X.K H x fs h ∧ h.n ≤ 200 ∧ Q (.int h.n) H) := by
  intro pins s σ H xs us Q I r hh
  obtain ⟨x, fs, hd, e, ha, hn, q⟩ := hh
  subst e
  rw [Vals.ref1 r]
  obtain ⟨f, fd, ps, ds, hc, hm, F, b, d⟩ := (p_Heap_len (P := X.prog) (base := X.base) T).ex
  cases d
  obtain ⟨dx, fa, oa, na, sa, os, h1, h2, h3, h4, h5, h6⟩ := ha.ex
  obtain ⟨mA, om, _, _, _, _⟩ := ins_get I.hok h1
  obtain ⟨od, ia, _⟩ := om.look
  obtain ⟨m, hF⟩ := I.fr
  refine PySem.W.len_K hF I.ok.mod.kin ia hm.at_ hm.fn ?_
  have sp : sp_Heap_len X.K [.ref x] H (fun v H' => v = .int hd.n ∧ H' = H) C8.E0 := ⟨x, fs, hd, rfl, ha, rfl, rfl⟩
  have hr1 : Room 1 X.A.in1 := (hr.mono hk).in1
  have hl := F.len _ _ _ _ sp
  have b2 := b s [.ref x] I.kIn (by simpa using hl)
  refine wpAny_call (codeAny_mono (F.run X.A.in1 X.stack s H ⟨[.ref x], []⟩ [.ref x] [.ref x] _ C8.E0 hr1 I.env0.in1 (by simpa using b2) (.cons rfl .nil) sp) fun r s' hq => ?_)
  cases r with
  | error e => exact hq.elim
  | ok fl =>
    cases fl with
    | ret u =>
      obtain ⟨v, H', I', rv, ev, eH⟩ := I.after hq
      subst ev eH
      obtain ⟨t, rfl⟩ := rv
      exact ⟨⟨by omega, by omega⟩, .int hd.n, _, I'.tok _, ⟨_, rfl⟩, q⟩
    | next => exact False.elim hq
    | brk => exact False.elim hq
    | cont => exact False.elim hq
end
end TW
set_option maxHeartbeats 4000000
/-! ## the normal form of a heap -/
namespace TW
open PySem PySem.Spec PyProof.Rows L2 TwN
theorem DtAll.strs_inv {H : Hp} : ∀ {fs : List Str} {ys : List V}, DtAll H ys (fs.map .str) → ys = fs.map .str
  | [], _, .nil => rfl
  | _ :: r, _, .cons (.str _) t => by rw [DtAll.strs_inv t]; rfl
theorem DtAll.at_ {H : Hp} : ∀ {ds : List PyData} {ys : List V} {i : Nat} {d : PyData}, DtAll H ys ds → ds[i]? = some d → ∃ v, ys[i]? = some v ∧ Dt H v d
  | _, _, 0, _, .cons h _, e => by
    have e := Option.some.inj e
    subst e
    exact ⟨_, rfl, h⟩
  | _, _, i + 1, _, .cons _ t, e => DtAll.at_ (i := i) t e
theorem Dt.tup_inv {H : Hp} {v : V} {ds : List PyData} (h : Dt H v (.tuple ds)) : ∃ a xs, v = .ref a ∧ H a = some (.tup xs) ∧ DtAll H xs ds := by
  cases h with
  | tup h1 h2 => exact ⟨_, _, rfl, h1, h2⟩
theorem Dt.o_inv {H : Hp} {v : V} {o : Option Nat} (h : Dt H v (oD o)) : v = oV o := by
  cases o with
  | none => cases h; rfl
  | some n => cases h; rfl
theorem dtall_o_inv {H : Hp} : ∀ {l : List (Option Nat)} {ys : List V}, DtAll H ys (l.map oD) → ys = l.map oV
  | [], _, .nil => rfl
  | _ :: r, _, .cons h t => by rw [h.o_inv, dtall_o_inv t]; rfl
theorem DtAll.three {H : Hp} {xs : List V} {a b c : PyData} (h : DtAll H xs [a, b, c]) : ∃ x y z, xs = [x, y, z] ∧ Dt H x a ∧ Dt H y b ∧ Dt H z c := by
  cases h with
  | cons h1 t => cases t with
    | cons h2 t => cases t with
      | cons h3 t => cases t; exact ⟨_, _, _, rfl, h1, h2, h3⟩
theorem DtAll.two {H : Hp} {xs : List V} {a b : PyData} (h : DtAll H xs [a, b]) : ∃ x y, xs = [x, y] ∧ Dt H x a ∧ Dt H y b := by
  cases h with
  | cons h1 t => cases t with
    | cons h2 t => cases t; exact ⟨_, _, rfl, h1, h2⟩
theorem shape_inv {H : Hp} {sa : Addr} {fs : List Str} {h : HD Str} (d : Dt H (.ref sa) (shapeD fs h)) : ∃ a1 a2 a3 zs rs, H sa = some (.tup [.ref a1, .ref a2, .ref a3]) ∧ H a1 = some (.tup (fs.map .str)) ∧
    H a2 = some (.tup zs) ∧ DtAll H zs ((h.names' srt fs).map fun p => .tuple [.str p.1, oD p.2]) ∧ H a3 = some (.tup rs) ∧ DtAll H rs ((h.objs' srt fs).map fun l => .tuple (l.map oD)) := by
  obtain ⟨a, xs, e, h1, h2⟩ := d.tup_inv
  cases e
  obtain ⟨x, y, z, rfl, d1, d2, d3⟩ := h2.three
  obtain ⟨a1, ys, rfl, h3, h4⟩ := d1.tup_inv
  obtain ⟨a2, zs, rfl, h5, h6⟩ := d2.tup_inv
  obtain ⟨a3, rs, rfl, h7, h8⟩ := d3.tup_inv
  rw [h4.strs_inv] at h3
  exact ⟨a1, a2, a3, zs, rs, h1, h3, h5, h6, h7, h8⟩
theorem putK_kvF {α κ : Type} [DecidableEq α] [DecidableEq κ] {k : α → κ} (hk : ∀ x y, k x = k y → x = y) {v : α → V} {l : List α} {x : α} (h : x ∉ l) : putK (kvF k v l) (k x) (v x) = kvF k v (l ++ [x]) := by
  rw [putK_new _ (kvF_no fun y hy e => h (by rw [← hk y x e]; exact hy)), kvF_snoc]
theorem merge_nm : ∀ {nm acc : List (Str × Option Nat)}, ((acc ++ nm).map (·.1)).Nodup → mergeK (nmKV acc) (nmKV nm) = nmKV (acc ++ nm)
  | [], acc, _ => by rw [List.append_nil]; rfl
  | p :: r, acc, h => by
    have e1 : putK (nmKV acc) (strK p.1) (oV p.2) = nmKV (acc ++ [p]) := by
      have hn : valV (nmKV acc) (strK p.1) = none := by
        have : p.1 ∉ acc.map (·.1) := by
          rw [List.map_append, List.map_cons] at h
          exact fun z => (List.nodup_append.mp h).2.2 _ z _ List.mem_cons_self rfl
        clear h
        induction acc with
        | nil => rfl
        | cons q s ih =>
          rw [show nmKV (q :: s) = (strK q.1, oV q.2) :: nmKV s from rfl, valV_neg fun z => this (by rw [← strK_inj q.1 p.1 z]; exact List.mem_cons_self)]
          exact ih fun z => this (List.mem_cons_of_mem _ z)
      rw [putK_new _ hn]
      unfold nmKV
      rw [List.map_append]
      rfl
    show mergeK (putK (nmKV acc) (strK p.1) (oV p.2)) (nmKV r) = _
    rw [e1, merge_nm (by rw [List.append_assoc]; exact h), List.append_assoc]
    rfl
theorem names_good {fs : List Str} {h : HD Str} (hg : ∀ p ∈ h.nm, GoodW p.1) : ∀ p ∈ (h.nrm srt fs).nm, GoodW p.1 := fun p hp => by
  have hp : p ∈ h.names' srt fs := hp
  unfold HD.names' at hp
  obtain ⟨x, hx, rfl⟩ := List.mem_map.mp hp
  obtain ⟨q, hq, e⟩ := List.mem_map.mp ((srt_perm _).subset hx)
  show GoodW x
  rw [← e]
  exact hg q hq
section
variable {P : Program} {w : World} {K : PySem.W.Frag} {mg : Str → Option Value} {base h : Heap}
def sp_Heap_normal : PySem.W.Frag → Sp := fun K vs H Q _ => ∃ (x : Addr) (fs : List Str) (h : HD Str), vs = [.ref x] ∧ HeapAt K H x fs h ∧ Fields fs ∧ HV fs h ∧ (∀ p ∈ h.nm, GoodW p.1) ∧ ∀ H' y, Ext H H' → H y = none → HeapAt K H' y fs (h.nrm srt fs) → Q (.ref y) H'
theorem nrm_ob {fs : List Str} {h : HD Str} {i j : Nat} {f : Str} {l : List (Option Nat)} {v : Option Nat} (hf : fs.Nodup) (hi : (h.objs' srt fs)[i]? = some l) (hj : fs[j]? = some f) (hv : l[j]? = some v) : (h.nrm srt fs).ob i f = v := by
  show ((pos fs f).bind fun k => ((h.objs' srt fs).getD i []).getD k none) = v
  rw [pos_at hf hj]
  show ((h.objs' srt fs).getD i []).getD j none = v
  rw [List.getD_eq_getElem?_getD, List.getD_eq_getElem?_getD, hi]
  show (l[j]?).getD none = v
  rw [hv]
  rfl
theorem objs_len {fs : List Str} {h : HD Str} {i : Nat} {l : List (Option Nat)} (hi : (h.objs' srt fs)[i]? = some l) : l.length = fs.length := by
  unfold HD.objs' at hi
  rw [List.getElem?_map] at hi
  cases e : (h.met srt fs)[i]? with
  | none => rw [e] at hi; cases hi
  | some m => rw [e] at hi; cases hi; rw [List.length_map]
theorem p_Heap_normal (T : Tx w K mg h) : C8.Met P w K mg base 7 (He.ga K "Heap") "normal" (sp_Heap_normal K) [] :=
  met T.f_Heap_normal T.c_Heap T.m_Heap_normal sc_Heap_normal (fun vs H Q E ⟨_, _, _, e, _⟩ => by rw [e]; rfl) fun cdv A outer s H vs Q E hr ⟨x, fs, h, e, ha, hf, hv, hg, q⟩ => by
    subst e
    obtain ⟨dx, fa, oa, na, sa, os, h1, h2, h3, h4, h5, h6⟩ := ha.ex
    obtain ⟨a1, a2, a3, zs, rs, t0, t1, t2, d2, t3, d3⟩ := shape_inv h6
    have hol : (h.objs' srt fs).length ≤ 200 := by
      unfold HD.objs'
      rw [List.length_map]
      exact hv.met_len srt lots
    have hrs : rs.length = (h.objs' srt fs).length := by rw [d3.len, List.length_map]
    refine ⟨_, (pss_cons (ps_asg (pe_fld (pv 0) (by rfl)) (pg_tup (by rfl) (pgs_cons (pg_name (i := 1) sc_Heap_normal.nd rfl (by first | exact Or.inl rfl | exact Or.inr rfl)) (pgs_cons (pg_name (i := 2) sc_Heap_normal.nd rfl (by first | exact Or.inl rfl | exact Or.inr rfl)) (pgs_cons (pg_name (i := 3) sc_Heap_normal.nd rfl (by first | exact Or.inl rfl | exact Or.inr rfl)) pgs_nil)))))
  (pss_cons (ps_setLc (i := 4) (own := [("row", 7)]) (g := gName 7) (by rfl) sc_Heap_normal.nd rfl rfl (sw_true rfl rfl rfl (by decide +kernel)) (pi_tup (pv 3)) (blkOk_by (own := [("row", 7)]) (N := ["self", "fields", "names", "objects", "items", "k", "field", "row"]) (sc := defScope s_Heap_normal) (by decide +kernel)) (fun _ _ _ _ _ => (pg_name (i := 7) sc_Heap_normal.nd rfl (by first | exact Or.inl rfl | exact Or.inr rfl))) (fun _ _ _ _ _ => pts_nil) (fun _ _ _ _ _ => (by exact (by exact (pe_dc (own := [("k", 5), ("field", 6)]) (g := gTup K 2 (gCons (gName 5) (gCons (gName 6) gNil))) (by rfl) sc_Heap_normal.nd (pi_enumTK (K := K) rfl (by rfl) T.z_enumerate (pa_cons (pv 1) pa_nil)) (by exact blkOk_by (own := [("k", 5), ("field", 6)]) (N := ["self", "fields", "names", "objects", "items", "k", "field", "row"]) (by with_unfolding_all rfl)) (fun _ _ _ _ _ => (pg_tupK (K := K) rfl (by rfl) (pgs_cons (pg_name (i := 5) sc_Heap_normal.nd rfl (by first | exact Or.inl rfl | exact Or.inr rfl)) (pgs_cons (pg_name (i := 6) sc_Heap_normal.nd rfl (by first | exact Or.inl rfl | exact Or.inr rfl)) pgs_nil)))) (fun _ _ _ _ _ => pts_nil) (fun _ _ _ _ _ => (by exact (pv 6))) (fun _ _ _ _ _ => (by exact (pe_ix (ix_tupK (K := K) rfl) (pv 7) (pv 5) (fun _ _ => rfl)))))))))
  (pss_one (ps_ret (C8.pe_mk (p_Heap_init T) hr (by decide) (by rfl) (pa_cons (pv 1) (pa_cons (pv 4) (pa_cons (pe_callTy (call_dictP (by rfl)) (by rfl) T.z_dict (by decide +kernel) (pa_cons (pe_callTy call_list_of (by rfl) T.z_list (by decide +kernel) (pa_cons (pv 2) pa_nil)) pa_nil)) pa_nil)))))))), ?_⟩
    refine ⟨_, rfl, x, _, dx, _, _, rfl, h1, T.c_Heap, T.n_Heap_shape, rfl, sa, _, rfl, SqT.of t0, rfl, _, _, rfl, _, _, rfl, _, _, rfl, rfl, ?_⟩
    refine ⟨_, rfl, a3, rfl, ⟨_, SqT.of t3⟩, fun D nD => lc_it (walk_tup (xs := rs)) (fun i H' => ∃ acc, H' D = some (.lst acc) ∧ ObjsOk H' fs i (h.nrm srt fs).ob acc ∧ Ext H H') ⟨[], upd_same, ⟨rfl, fun _ z => absurd z (Nat.not_lt_zero _)⟩, Ext.upd nD⟩
      (fun i H' _ ⟨_, _, _, e⟩ => SqT.of (e _ _ t3)) (fun i v H6 H7 hi ⟨acc, hD, ho, e6⟩ ⟨e7, ev⟩ => ?_) fun H6 ⟨acc, hD, ho, e6⟩ => ?_⟩
    · subst e7
      obtain ⟨l, hl⟩ : ∃ l, (h.objs' srt fs)[i]? = some l := ⟨_, List.getElem?_eq_getElem (by rw [← hrs]; exact hi)⟩
      obtain ⟨v', hv1, dv⟩ := d3.at_ (d := .tuple (l.map oD)) (by rw [List.getElem?_map, hl]; rfl)
      have e8 : v = v' := Option.some.inj (ev.symm.trans hv1)
      subst e8
      obtain ⟨ra, ws, rfl, hr1, hr2⟩ := dv.tup_inv
      have ews := dtall_o_inv hr2
      subst ews
      have hll := objs_len hl
      refine ⟨rfl, _, rfl, a1, _, rfl, SqT.of (e6 _ _ t1), fun d nd => dc_it walk_enumT (fun j H' => H' d = some (.dK (itemKV (fs.take j) ((h.nrm srt fs).ob i))) ∧ Ext H7 H') ⟨upd_same, Ext.upd nd⟩ (fun j H' _ ⟨_, e⟩ => SqT.of (e _ _ (e6 _ _ t1)))
        (fun j v H8 H9 hj ⟨hd, e8⟩ ⟨T1, y, z, ev, nT, eH, ey, ez⟩ => ?_) fun H8 ⟨hd, e8⟩ => ?_⟩
      · subst eH ev
        have ey : y = .int (j : Nat) := (Option.some.inj ey).symm
        subst ey
        obtain ⟨f, hfj, rfl⟩ := map_at ez
        have hj2 : j < fs.length := (List.getElem?_eq_some_iff.mp hfj).1
        obtain ⟨u, hu⟩ : ∃ u, l[j]? = some u := ⟨_, List.getElem?_eq_getElem (by rw [hll]; exact hj2)⟩
        have hob := nrm_ob (h := h) hf.nd hl hfj hu
        have nd1 : T1 ≠ d := (ne_of_none hd nT).symm
        refine ⟨T1, _, rfl, SqT.of upd_same, rfl, _, _, rfl, _, _, rfl, rfl, rfl, ?_⟩
        refine ⟨_, rfl, _, rfl, _, rfl, ra, _, (j : Int), oV u, rfl, rfl, SqT.of (Ext.upd nT _ _ (e8 _ _ (e6 _ _ hr1))), atI_nat (by rw [List.getElem?_map, hu]; rfl), _, .inr f, rfl, by rw [upd_ne nd1.symm]; exact hd, ?_, ?_, ?_⟩
        · unfold itemKV
          rw [kvF_len, List.length_take]
          exact small_lt (by have := hf.hi; omega)
        · rw [upd_same, ← hob]
          have hnot : f ∉ fs.take j := fun z => by
            have h9 : (fs.take j ++ [f]).Nodup := by rw [take_snoc hfj]; exact hf.nd.sublist (List.take_sublist _ _)
            exact (List.nodup_append.mp h9).2.2 f z f (List.mem_singleton.mpr rfl) rfl
          have := putK_kvF (v := fun f => oV ((h.nrm srt fs).ob i f)) strK_inj hnot
          rw [take_snoc hfj] at this
          exact congrArg (fun z => some (HO.dK z)) this
        · exact extSet (e8.trans (Ext.upd nT)) nd
      · rw [List.length_map, List.take_length] at hd
        refine ⟨acc, e8 _ _ hD, by rw [ho.1]; exact small_lt (by omega), acc ++ [.ref d], upd_same, ?_, extSet (e6.trans e8) nD⟩
        exact ((ho.ext e8).push hd).keepL (e8 _ _ hD)
    have en : (h.nrm srt fs).n = rs.length := hrs.symm
    rw [← en] at ho
    have hn6 : (h.names' srt fs).length ≤ 6 := by
      unfold HD.names' HD.ord
      rw [List.length_map, (srt_perm _).length_eq, List.length_map]
      exact hv.nl
    -- dict(list(names))
    have pairs : ∀ (l : List (Str × Option Nat)) (vs : List V), DtAll H vs (l.map fun p => .tuple [.str p.1, oD p.2]) → ∃ ps : List Addr, vs = ps.map V.ref ∧ ∀ H', Ext H H' → Paired (fun p kv => SqT K H' p [kV kv.1, kv.2]) ps (nmKV l) := fun l => by
      induction l with
      | nil => intro vs hd; cases hd; exact ⟨[], rfl, fun _ _ => .nil⟩
      | cons p r ih =>
        intro vs hd
        cases hd with
        | cons h7 t =>
          obtain ⟨b, ys, rfl, h8, h9⟩ := h7.tup_inv
          obtain ⟨y1, y2, rfl, k1, k2⟩ := h9.two
          cases k1
          have := k2.o_inv
          subst this
          obtain ⟨ps, e9, hp⟩ := ih _ t
          exact ⟨b :: ps, by rw [e9]; rfl, fun H' e => .cons (SqT.of (e _ _ h8)) (hp H' e)⟩
    obtain ⟨ps, eps, hps⟩ := pairs _ _ d2
    subst eps
    refine ⟨_, rfl, _, rfl, _, rfl, a2, _, rfl, .inr (SqT.of (e6 _ _ t2)), fun l nl => ⟨l, ps, nmKV (h.names' srt fs), rfl, SqL.of upd_same, hps _ (e6.trans (Ext.upd nl)), fun nd nnd => ?_⟩⟩
    have hvn := hv.nrm srt srt_perm
    have emerge : mergeK [] (nmKV (h.names' srt fs)) = nmKV (h.names' srt fs) := merge_nm (acc := []) hvn.nd
    rw [emerge]
    have x7 : Ext H (upd (upd H6 l (.lst (ps.map .ref))) nd (.dK (nmKV (h.names' srt fs)))) := (e6.trans (Ext.upd nl)).trans (Ext.upd nnd)
    have x67 : Ext H6 (upd (upd H6 l (.lst (ps.map .ref))) nd (.dK (nmKV (h.names' srt fs)))) := (Ext.upd nl).trans (Ext.upd nnd)
    have hnd : upd (upd H6 l (.lst (ps.map .ref))) nd (.dK (nmKV (h.names' srt fs))) nd = some (.dK (nmKV (h.names' srt fs))) := upd_same
    generalize upd (upd H6 l (.lst (ps.map .ref))) nd (.dK (nmKV (h.names' srt fs))) = H7 at x7 x67 hnd
    intro y dy ny ndy ne
    have x8 : Ext H7 (upd (upd H7 dy (.own y)) y (.ins (He.ga K "Heap") dy [])) := (Ext.upd ndy).trans (Ext.upd (by rw [upd_ne ne.symm]; exact ny))
    refine ⟨y, dy, a1, D, nd, fs, acc, h.nrm srt fs, rfl, upd_same, .inr (x8 _ _ (x7 _ _ t1)), hf, x8 _ _ (x67 _ _ hD), (ho.ext x67).ext x8, x8 _ _ hnd, hvn, names_good hg, fun H9 hat fr => ⟨rfl, q H9 y (fun b o hb => ?_) (ext_none x7 ny) hat⟩⟩
    exact fr b o (ne_of_none (x7 _ _ hb) ny) (x8 _ _ (x7 _ _ hb))
end
end TW
set_option maxHeartbeats 4000000
/-! ## programs: a row is plain -/
namespace TW
open PySem PySem.Spec PyProof.Rows L2 TwN
abbrev RowS := Row Str
def nameS : RowS → Str
  | .move _ _ => "move" | .none _ => "none" | .new _ => "new" | .look _ _ _ => "look" | .put _ _ _ => "put" | .copy _ _ _ _ => "copy" | .watch _ _ _ => "watch"
def kindS (b : Bool) : Str := if b = true then "freeze" else "thaw"
def argsV : RowS → List V
  | .move x y => [.str x, .str y] | .none x => [.str x] | .new x => [.str x] | .look x y f => [.str x, .str y, .str f] | .put x f y => [.str x, .str f, .str y]
  | .copy x y b d => [.str x, .str y, .str (kindS b), .int (d : Nat)] | .watch r x d => [.str r, .str x, .int (d : Nat)]
def rowV (r : RowS) : List V := .str (nameS r) :: argsV r
def shapeS : RowS → Str
  | .move _ _ => "vv" | .none _ => "v" | .new _ => "v" | .look _ _ _ => "vvf" | .put _ _ _ => "vfv" | .copy _ _ _ _ => "vvkd" | .watch _ _ _ => "rvd"
/-- what fits its letter -/
inductive GoodP (fs : List Str) : Nat → V → Prop
  | f {x : Str} : x ∈ fs → GoodP fs 102 (.str x)
  | k (b : Bool) : GoodP fs 107 (.str (kindS b))
  | d {n : Nat} : n ≤ 4 → GoodP fs 100 (.int (n : Nat))
  | v {x : Str} : GoodW x → GoodP fs 118 (.str x)
  | r {x : Str} : GoodW x → GoodP fs 114 (.str x)
theorem GoodP.ne98 {fs : List Str} {c : Nat} {v : V} (h : GoodP fs c v) : c ≠ 98 := by cases h <;> decide
/-- the parts fit the letters -/
def RowGood (fs : List Str) (r : RowS) : Prop := EachP (GoodP fs) (shapeS r).cps.toList (argsV r)
where EachP (R : Nat → V → Prop) : List Nat → List V → Prop
  | [], [] => True
  | c :: cs, v :: vs => R c v ∧ EachP R cs vs
  | _, _ => False
theorem eachP_len {R : Nat → V → Prop} : ∀ {cs : List Nat} {vs : List V}, RowGood.EachP R cs vs → cs.length = vs.length
  | [], [], _ => rfl
  | _ :: cs, _ :: vs, h => congrArg Nat.succ (eachP_len h.2)
theorem eachP_at {R : Nat → V → Prop} : ∀ {cs : List Nat} {vs : List V} {i c : Nat} {v : V}, RowGood.EachP R cs vs → cs[i]? = some c → vs[i]? = some v → R c v
  | c :: cs, v :: vs, 0, c', v', h, h1, h2 => by
    have h1 : c = c' := Option.some.inj h1
    have h2 : v = v' := Option.some.inj h2
    rw [← h1, ← h2]
    exact h.1
  | _ :: cs, _ :: vs, i + 1, _, _, h, h1, h2 => eachP_at (i := i) h.2 h1 h2
theorem row0 (r : RowS) : atI (rowV r) 0 = some (.str (nameS r)) := atI_nat (j := 0) rfl
theorem args_lo (r : RowS) : 1 ≤ (argsV r).length := by cases r <;> exact Nat.le_of_ble_eq_true rfl
theorem args_hi (r : RowS) : (argsV r).length ≤ 4 := by cases r <;> exact Nat.le_of_ble_eq_true rfl
section
variable {P : Program} {w : World} {K : PySem.W.Frag} {mg : Str → Option Value} {base h : Heap}
theorem Tx.kd (T : Tx w K mg h) (r : RowS) : KDct K w (He.ga K "SHAPES") (nameS r) (.str (shapeS r)) ∧ (He.ga K "SHAPES" == sysModules) = false := by
  obtain ⟨es, n, D⟩ := T.t.tab 0
  have hv := (He.ba (He.ba (He.ba (He.ba T.ex).2).2).2).1
  have go : ∀ q ∈ shKV, KDct K w (He.ga K "SHAPES") q.1 (q.2.v K) := fun q hq => by
    obtain ⟨u, h1, h2⟩ := He.valsB_ok hv hq
    exact ⟨es, n, u, D.at_, D.lit, h1, h2⟩
  refine ⟨?_, D.low⟩
  cases r with
  | move x y => exact go _ (List.mem_of_getElem? (i := 0) rfl)
  | none x => exact go _ (List.mem_of_getElem? (i := 1) rfl)
  | new x => exact go _ (List.mem_of_getElem? (i := 2) rfl)
  | look x y f => exact go _ (List.mem_of_getElem? (i := 3) rfl)
  | put x f y => exact go _ (List.mem_of_getElem? (i := 4) rfl)
  | copy x y b d => exact go _ (List.mem_of_getElem? (i := 5) rfl)
  | watch r x d => exact go _ (List.mem_of_getElem? (i := 6) rfl)
theorem Tx.kinds (T : Tx w K mg h) (H : Hp) : SqT K H (He.ga K "KINDS") [.str "freeze", .str "thaw"] := He.tupB_ok (He.ba (He.ba (He.ba T.ex).2).2).1 H
def sp_shape_of : Sp := fun vs H Q _ => ∃ (ra : Addr) (r : RowS), vs = [.ref ra] ∧ H ra = some (.tup (rowV r)) ∧ Q (.str (shapeS r)) H
theorem p_shape_of (T : Tx w K mg h) : C8.Cal P w K mg base 1 "shape_of" sp_shape_of [] :=
  cal T.f_shape_of T.g_shape_of sc_shape_of (fun vs H Q E ⟨_, _, e, _⟩ => by rw [e]; rfl) fun cdv A outer s H vs Q E hr ⟨ra, r, e, hra, q⟩ => by
    subst e
    refine ⟨_, (pss_cons (ps_if (PW.pt (pw_or (pt_not (pt_val (pe_callB call_isi (by rfl) T.z_isinstance (by decide +kernel) (pa_cons (pv 0) (pa_cons (pe_bltn (v := .ty "tuple") (by rfl) T.z_tuple (by decide +kernel) rfl) pa_nil))))) (pw_or (pt_cmpR op_eq (pe_callB call_len_seq (by rfl) T.z_len (by decide +kernel) (pa_cons (pv 0) pa_nil)) pe_int (nomark _)) (pw_or1 (pt_not (pt_val (pe_callB call_isi (by rfl) T.z_isinstance (by decide +kernel) (pa_cons (pe_ix ix_tup (pv 0) pe_int (fun _ _ => rfl)) (pa_cons (pe_bltn (v := .ty "str") (by rfl) T.z_str (by decide +kernel) rfl) pa_nil))))))))) (pss_one (ps_ret pe_non)) pss_nil)
  (pss_one (ps_ret (pe_kget (pe_glob (v := .ref (He.ga K "SHAPES")) (by rfl) T.g_SHAPES rfl) (pe_ix ix_tup (pv 0) pe_int (fun _ _ => rfl)) ⟨rfl, rfl, rfl, rfl⟩)))), ?_⟩
    refine ⟨_, rfl, _, _, _, _, _, rfl, .ty _, .base (.tup hra), kit_ty (by decide +kernel), true, rfl, iteF ?_⟩
    refine ⟨_, rfl, ra, _, rfl, .inr (SqT.of hra), rfl, false, ?_, iteF ?_⟩
    · refine bl_f fun z => ?_
      injection z with z
      have : (rowV r).length = (argsV r).length + 1 := rfl
      omega
    refine ⟨_, rfl, ra, _, 0, .str (nameS r), rfl, rfl, SqT.of hra, row0 r, _, _, _, _, _, rfl, .ty _, .base (.str _), kit_ty (by decide +kernel), true, rfl, iteF ?_⟩
    have kd := T.kd r
    exact ⟨He.ga K "SHAPES", nameS r, .str (shapeS r), rfl, kd.1, kd.2, _, rfl, ra, _, 0, .str (nameS r), rfl, rfl, SqT.of hra, row0 r, nameS r, _, rfl, kd.1, q⟩
def sp_branches : Sp := fun vs H Q _ => ∃ (ra : Addr) (r : RowS), vs = [.ref ra] ∧ H ra = some (.tup (rowV r)) ∧ ∀ H' l, Ext H H' → H' l = some (.lst []) → Q (.ref l) H'
theorem p_branches (T : Tx w K mg h) : C8.Cal P w K mg base 1 "branches" sp_branches [] :=
  cal T.f_branches T.g_branches sc_branches (fun vs H Q E ⟨_, _, e, _⟩ => by rw [e]; rfl) fun cdv A outer s H vs Q E hr ⟨ra, r, e, hra, q⟩ => by
    subst e
    refine ⟨_, (pss_cons (ps_if (pt_cmpR op_in_seq (pe_ix ix_tup (pv 0) pe_int (fun _ _ => rfl)) (pe_tup (pa_cons pe_str (pa_cons pe_str pa_nil))) (by with_unfolding_all rfl)) (pss_one (ps_ret (pe_lst (pa_cons (pe_ix ix_tup (pv 0) (pe_un un_neg pe_int) (fun _ _ => rfl)) (pa_cons (pe_ix ix_tup (pv 0) (pe_un un_neg pe_int) (fun _ _ => rfl)) pa_nil))))) pss_nil)
  (pss_one (ps_ret (pe_lst pa_nil)))), ?_⟩
    refine ⟨_, rfl, ra, _, 0, .str (nameS r), rfl, rfl, SqT.of hra, row0 r, by show 2 ≤ sizeLine; decide, fun tp ntp => ?_⟩
    refine ⟨tp, _, rfl, .inr (SqT.of upd_same), rfl, rfl, false, by cases r <;> rfl, iteF ?_⟩
    exact ⟨by show 0 ≤ sizeLine; decide, fun l nl => q _ l ((Ext.upd ntp).trans (Ext.upd nl)) upd_same⟩
def sp_is_good_part : Sp := fun vs H Q _ => ∃ (fa : Addr) (fs : List Str) (c : Nat) (v : V), vs = [.str ⟨#[c]⟩, v, .ref fa] ∧ SqW H fa (fs.map .str) ∧ GoodP fs c v ∧ Q (.bl true) H
theorem inV_yes {x : Str} {l : List Str} (h : x ∈ l) : inV (.str x) (l.map .str) = true := by
  unfold inV
  rw [List.any_eq_true]
  exact ⟨.str x, List.mem_map.mpr ⟨x, h, rfl⟩, by simp [eqV]⟩
theorem p_is_good_part (T : Tx w K mg h) : C8.Cal P w K mg base 3 "is_good_part" sp_is_good_part [] :=
  cal T.f_is_good_part T.g_is_good_part sc_is_good_part (fun vs H Q E ⟨_, _, _, _, e, _⟩ => by rw [e]; rfl) fun cdv A outer s H vs Q E hr ⟨fa, fs, c, v, e, hfa, g, q⟩ => by
    subst e
    refine ⟨_, (pss_one (ps_match (pv 0) (.cons (pss_one (ps_ret (pe_and (pe_callB call_isi (by rfl) T.z_isinstance (by decide +kernel) (pa_cons (pv 1) (pa_cons (pe_bltn (v := .ty "str") (by rfl) T.z_str (by decide +kernel) rfl) pa_nil))) (pe_one (pe_cmpR op_in_seq (pv 1) (pv 2) (by with_unfolding_all rfl))))))
  (.cons (pss_one (ps_ret (pe_and (pe_callB call_isi (by rfl) T.z_isinstance (by decide +kernel) (pa_cons (pv 1) (pa_cons (pe_bltn (v := .ty "str") (by rfl) T.z_str (by decide +kernel) rfl) pa_nil))) (pe_one (pe_cmpR op_in_seq (pv 1) (pe_glob (v := .ref (He.ga K "KINDS")) (by rfl) T.g_KINDS rfl) (by with_unfolding_all rfl))))))
  (.cons (pss_one (ps_ret (C8.pe_c (p_is_number_below T) hr (by decide) (by rfl) (pa_cons (pv 1) (pa_cons (pe_glob (v := .int 5) (by rfl) (Classical.choose_spec T.i_DEPTHS) ⟨_, rfl⟩) pa_nil)))))
  (.cons (pss_one (ps_ret pe_bl))
  (.wild (l := []) (pss_one (ps_ret (C8.pe_c (p_is_word T) hr (by decide) (by rfl) (pa_cons (pv 1) pa_nil))))))))))), ?_⟩
    refine ⟨_, rfl, _, rfl, ?_⟩
    cases g with
    | @f x hx =>
      rw [if_pos (by decide)]
      refine ⟨_, rfl, _, _, _, _, _, rfl, .ty _, .base (.str _), kit_ty (by decide +kernel), true, rfl, iteT ?_⟩
      refine ⟨_, rfl, _, rfl, fa, _, rfl, hfa.seq, rfl, all_flat _, ?_⟩
      show Q (.bl (inV (.str x) (fs.map .str))) H
      rw [inV_yes hx]
      exact q
    | k b =>
      rw [if_neg (by decide)]
      refine ⟨_, rfl, ?_⟩
      rw [if_pos (by decide)]
      refine ⟨_, rfl, _, _, _, _, _, rfl, .ty _, .base (.str _), kit_ty (by decide +kernel), true, rfl, iteT ?_⟩
      refine ⟨_, rfl, He.ga K "KINDS", _, rfl, .inr (T.kinds H), rfl, rfl, ?_⟩
      cases b <;> exact q
    | @d n hn =>
      rw [if_neg (by decide)]
      refine ⟨_, rfl, ?_⟩
      rw [if_neg (by decide)]
      refine ⟨_, rfl, ?_⟩
      rw [if_pos (by decide)]
      exact ⟨_, rfl, (n : Int), 5, rfl, by omega, by omega, q⟩
    | @v x hx =>
      rw [if_neg (by decide)]
      refine ⟨_, rfl, ?_⟩
      rw [if_neg (by decide)]
      refine ⟨_, rfl, ?_⟩
      rw [if_neg (by decide)]
      refine ⟨_, rfl, ?_⟩
      rw [if_neg (by decide)]
      exact ⟨_, rfl, x, rfl, hx, q⟩
    | @r x hx =>
      rw [if_neg (by decide)]
      refine ⟨_, rfl, ?_⟩
      rw [if_neg (by decide)]
      refine ⟨_, rfl, ?_⟩
      rw [if_neg (by decide)]
      refine ⟨_, rfl, ?_⟩
      rw [if_neg (by decide)]
      exact ⟨_, rfl, x, rfl, hx, q⟩
def sp_row_fault : Sp := fun vs H Q _ => ∃ (ra fa : Addr) (r : RowS) (fs : List Str), vs = [.ref ra, .ref fa] ∧ H ra = some (.tup (rowV r)) ∧ SqW H fa (fs.map .str) ∧ RowGood fs r ∧ ∀ H', Ext H H' → Q .non H'
theorem cut1 (r : RowS) : cutV (rowV r) (some 1) none = argsV r := by
  unfold cutV
  have e1 : HT.sIx (rowV r).length 0 (some 1) = 1 := by
    have := HT.sIx_nat (rowV r).length 0 1
    rw [show ((1 : Nat) : Int) = 1 from rfl] at this
    rw [this]
    have : (rowV r).length = (argsV r).length + 1 := rfl
    omega
  rw [e1, HT.sIx_none]
  show (argsV r).take ((argsV r).length + 1 - 1) = _
  rw [Nat.add_sub_cancel, List.take_length]
theorem p_row_fault (T : Tx w K mg h) : C8.Cal P w K mg base 4 "row_fault" sp_row_fault [] :=
  cal T.f_row_fault T.g_row_fault sc_row_fault (fun vs H Q E ⟨_, _, _, _, e, _⟩ => by rw [e]; rfl) fun cdv A outer s H vs Q E hr ⟨ra, fa, r, fs, e, hra, hfa, hg, q⟩ => by
    subst e
    have hlen := eachP_len hg
    rw [Array.length_toList] at hlen
    have hl : (shapeS r).length = (argsV r).length := hlen
    have hb : ∀ i c, (shapeS r).cps[i]? = some c → c ≠ 98 := fun i c hc => by
      have hi : i < (argsV r).length := by rw [← hlen]; exact (Array.getElem?_eq_some_iff.mp hc).1
      have := eachP_at hg (i := i) (c := c) (by rw [Array.getElem?_toList]; exact hc) (List.getElem?_eq_getElem hi)
      exact this.ne98
    have nw : ¬ (HT.sIx (rowV r).length 0 (some 1) = 0 ∧ HT.sIx (rowV r).length (rowV r).length none = (rowV r).length) := fun z => by
      have h1 := z.1
      have := HT.sIx_nat (rowV r).length 0 1
      rw [show ((1 : Nat) : Int) = 1 from rfl] at this
      rw [this] at h1
      have : (rowV r).length = (argsV r).length + 1 := rfl
      omega
    refine ⟨_, (pss_cons (ps_set (i := 2) sc_row_fault.nd rfl (by first | exact Or.inl rfl | exact Or.inr rfl) (C8.pe_c (p_shape_of T) hr (by decide) (by rfl) (pa_cons (pv 0) pa_nil)))
  (pss_cons (ps_if (PW.pt (pw_or (pt_cmp (pc_isN (pv 2))) (pw_or1 (pt_cmpR op_ne (pe_callB call_len_seq (by rfl) T.z_len (by decide +kernel) (pa_cons (pv 0) pa_nil)) (pe_op op_add (pe_callB call_len (by rfl) T.z_len (by decide +kernel) (pa_cons (pv 2) pa_nil)) pe_int) (nomark _))))) (pss_one (ps_ret pe_str)) pss_nil)
  (pss_cons (ps_for PassesOwn.never (by rfl) (pi_zipS (by rfl) T.z_zip (pa_cons (pv 2) (pa_cons (pe_slice sl_tup (pv 0) (po_some pe_int) po_none) pa_nil))) (pg_tup (by rfl) (pgs_cons (pg_name (i := 3) sc_row_fault.nd rfl (by first | exact Or.inl rfl | exact Or.inr rfl)) (pgs_cons (pg_name (i := 4) sc_row_fault.nd rfl (by first | exact Or.inl rfl | exact Or.inr rfl)) pgs_nil)))
  (pss_one (ps_if (PW.pt (pw_and (pt_cmpR op_eq (pv 3) pe_str (nomark _)) (pw_and1 (pt_not (pt_val (pe_callB call_isi (by rfl) T.z_isinstance (by decide +kernel) (pa_cons (pv 4) (pa_cons (pe_bltn (v := .ty "list") (by rfl) T.z_list (by decide +kernel) rfl) pa_nil)))))))) (pss_one (ps_ret pe_str)) pss_nil)))
  (pss_cons (ps_for PassesOwn.never (by rfl) (pi_zipS (by rfl) T.z_zip (pa_cons (pv 2) (pa_cons (pe_slice sl_tup (pv 0) (po_some pe_int) po_none) pa_nil))) (pg_tup (by rfl) (pgs_cons (pg_name (i := 3) sc_row_fault.nd rfl (by first | exact Or.inl rfl | exact Or.inr rfl)) (pgs_cons (pg_name (i := 4) sc_row_fault.nd rfl (by first | exact Or.inl rfl | exact Or.inr rfl)) pgs_nil)))
  (pss_one (ps_if (pt_not (pt_val (C8.pe_c (p_is_good_part T) hr (by decide) (by rfl) (pa_cons (pv 3) (pa_cons (pv 4) (pa_cons (pv 1) pa_nil)))))) (pss_one (ps_ret pe_str)) pss_nil)))
  (pss_one (ps_ret pe_non)))))), ?_⟩
    refine ⟨_, rfl, ra, r, rfl, hra, ?_⟩
    refine ⟨_, rfl, false, rfl, iteF ?_⟩
    refine ⟨_, rfl, ra, _, rfl, .inr (SqT.of hra), _, rfl, _, _, rfl, ⟨?_, rfl⟩, _, _, rfl, rfl, rfl, false, bl_nt ?_, iteF ?_⟩
    · rw [hl]
      exact small_le (by have := args_hi r; omega)
    · show V.int (((rowV r).length : Nat) : Int) = V.int (((shapeS r).length : Nat) + 1)
      rw [hl]
      rfl
    refine ⟨_, rfl, _, rfl, _, rfl, ra, _, rfl, SqT.of hra, nw, fun p np => ?_⟩
    rw [cut1]
    have x1 : Ext H (upd H p (.tup (argsV r))) := Ext.upd np
    refine ⟨_, p, argsV r, rfl, SqT.of upd_same, for_it (walk_zipS hlen) (fun _ σ' H' => ∃ a b, σ' = [some (.ref ra), some (.ref fa), some (.str (shapeS r)), a, b] ∧ Ext (upd H p (.tup (argsV r))) H') ⟨_, _, rfl, Ext.rfl'⟩ (fun _ _ _ _ ⟨_, _, _, e⟩ => SqT.of (e _ _ upd_same))
      (fun i v σ' H1 H2 hi ⟨a, b, e1, e2⟩ ⟨T1, y, z, ev, nT, eH, ey, ez⟩ => ?_) fun σ' H1 ⟨a, b, e1, e2⟩ => ?_⟩
    · subst e1 eH ev
      have ey : ((shapeS r).cps[i]?).map (fun c => V.str ⟨#[c]⟩) = some y := ey
      cases ec : (shapeS r).cps[i]? with
      | none => rw [ec] at ey; cases ey
      | some c =>
        rw [ec] at ey
        have ey : y = .str ⟨#[c]⟩ := (Option.some.inj ey).symm
        subst ey
        refine ⟨T1, _, rfl, SqT.of upd_same, rfl, _, _, rfl, _, _, rfl, rfl, ?_⟩
        refine ⟨_, rfl, rfl, false, bl_f ?_, iteF ⟨_, _, rfl, e2.trans (Ext.upd nT)⟩⟩
        intro z
        injection z with z
        injection z with z
        have z : [c] = [98] := congrArg Array.toList z
        injection z with z _
        exact hb i c ec z
    subst e1
    have x2 := x1.trans e2
    refine ⟨_, rfl, _, rfl, _, rfl, ra, _, rfl, SqT.of (x2 _ _ hra), nw, fun p2 np2 => ?_⟩
    rw [cut1]
    have x3 : Ext H (upd H1 p2 (.tup (argsV r))) := x2.trans (Ext.upd np2)
    refine ⟨_, p2, argsV r, rfl, SqT.of upd_same, for_it (walk_zipS hlen) (fun _ σ' H' => ∃ a b, σ' = [some (.ref ra), some (.ref fa), some (.str (shapeS r)), a, b] ∧ Ext (upd H1 p2 (.tup (argsV r))) H') ⟨_, _, rfl, Ext.rfl'⟩ (fun _ _ _ _ ⟨_, _, _, e⟩ => SqT.of (e _ _ upd_same))
      (fun i v σ' H2 H3 hi ⟨a, b, e1, e2⟩ ⟨T1, y, z, ev, nT, eH, ey, ez⟩ => ?_) fun σ' H2 ⟨a, b, e1, e2⟩ => q _ (x3.trans e2)⟩
    subst e1 eH ev
    have ey : ((shapeS r).cps[i]?).map (fun c => V.str ⟨#[c]⟩) = some y := ey
    cases ec : (shapeS r).cps[i]? with
    | none => rw [ec] at ey; cases ey
    | some c =>
      rw [ec] at ey
      have ey : y = .str ⟨#[c]⟩ := (Option.some.inj ey).symm
      subst ey
      refine ⟨T1, _, rfl, SqT.of upd_same, rfl, _, _, rfl, _, _, rfl, rfl, ?_⟩
      have x4 := (x3.trans e2).trans (Ext.upd (o := .tup [.str ⟨#[c]⟩, z]) nT)
      exact ⟨_, rfl, _, rfl, _, rfl, fa, fs, c, z, rfl, hfa.ext x4, eachP_at hg (by rw [Array.getElem?_toList]; exact ec) ez, true, rfl, iteF ⟨_, _, rfl, e2.trans (Ext.upd nT)⟩⟩
def sp_is_plain : Sp := fun vs H Q _ => ∃ (ra fa : Addr) (r : RowS) (fs : List Str), vs = [.ref ra, .ref fa] ∧ H ra = some (.tup (rowV r)) ∧ SqW H fa (fs.map .str) ∧ RowGood fs r ∧ ∀ H', Ext H H' → Q (.bl true) H'
theorem p_is_plain (T : Tx w K mg h) : C8.Cal P w K mg base 5 "is_plain" sp_is_plain [] :=
  cal T.f_is_plain T.g_is_plain sc_is_plain (fun vs H Q E ⟨_, _, _, _, e, _⟩ => by rw [e]; rfl) fun cdv A outer s H vs Q E hr ⟨ra, fa, r, fs, e, hra, hfa, hg, q⟩ => by
    subst e
    refine ⟨_, (pss_one (ps_ret (pe_and (pe_cmp (pc_isN (C8.pe_c (p_row_fault T) hr (by decide) (by rfl) (pa_cons (pv 0) (pa_cons (pv 1) pa_nil))))) (pe_one (pe_cmpR (op_eqD hr.units) (C8.pe_c (p_branches T) hr (by decide) (by rfl) (pa_cons (pv 0) pa_nil)) (pe_lst pa_nil) (nomark _)))))), ?_⟩
    refine ⟨_, rfl, _, rfl, ra, fa, r, fs, rfl, hra, hfa, hg, fun H1 x1 => ⟨true, rfl, iteT ?_⟩⟩
    refine ⟨_, rfl, ra, r, rfl, x1 _ _ hra, fun H2 l x2 hl => ⟨by show 0 ≤ sizeLine; decide, fun l2 nl2 => ?_⟩⟩
    exact ⟨.list [], .list [], .lst (SqL.of (Ext.upd nl2 _ _ hl)) .nil, .lst (SqL.of upd_same) .nil, rfl, rfl, q _ ((x1.trans x2).trans (Ext.upd nl2))⟩
end
end TW
set_option maxHeartbeats 4000000
/-! ## the store as it lies -/
namespace TW
open PySem PySem.Spec PyProof.Rows L2 TwN
abbrev StS := S Str
def tgK : Tg → List Key
  | .st n => [.inr "start", .inl (n : Nat)]
  | .ow k => [.inr "own", .inl (k : Nat)]
def tgD : Tg → PyData
  | .st n => .tuple [.str "start", .int (n : Nat)]
  | .ow k => .tuple [.str "own", .int (k : Nat)]
def tvD : Option Tg → PyData
  | none => .none
  | some t => tgD t
def svD : Option (Nat × Str) → PyData
  | none => .none
  | some p => hitD p
def pairD (a : Option Tg) (b : Option (Nat × Str)) : PyData := .tuple [tvD a, svD b]
def watD (w : Str × Option Tg × Nat) : PyData := .tuple [.str w.1, tvD w.2.1, .int (w.2.2 : Nat)]
theorem start_ne_own : (Str.ofString "start") ≠ Str.ofString "own" := by decide
theorem tgK_inj (a b : Tg) (h : tgK a = tgK b) : a = b := by
  cases a with
  | st n => cases b with
    | st m => injection h with h1 h2; injection h2 with h2 _; injection h2 with h2; congr 1; omega
    | ow m => injection h with h1 h2; injection h1 with h1; exact absurd h1 start_ne_own
  | ow n => cases b with
    | st m => injection h with h1 h2; injection h1 with h1; exact absurd h1.symm start_ne_own
    | ow m => injection h with h1 h2; injection h2 with h2 _; injection h2 with h2; congr 1; omega
/-- a value that is a thing: its tuple -/
theorem Dt.tg {H : Hp} {v : V} {t : Tg} (h : Dt H v (tgD t)) : ∃ a, v = .ref a ∧ H a = some (.tup ((tgK t).map kV)) := by
  cases t with
  | st n =>
    obtain ⟨a, xs, e, h1, h2⟩ := Dt.tup_inv (ds := [.str "start", .int (n : Nat)]) h
    obtain ⟨x, y, rfl, d1, d2⟩ := h2.two
    cases d1
    cases d2
    exact ⟨a, e, h1⟩
  | ow n =>
    obtain ⟨a, xs, e, h1, h2⟩ := Dt.tup_inv (ds := [.str "own", .int (n : Nat)]) h
    obtain ⟨x, y, rfl, d1, d2⟩ := h2.two
    cases d1
    cases d2
    exact ⟨a, e, h1⟩
theorem Dt.ofTg {H : Hp} {a : Addr} {t : Tg} (h : H a = some (.tup ((tgK t).map kV))) : Dt H (.ref a) (tgD t) := by
  cases t with
  | st n => exact .tup h (.cons (.str _) (.cons (.int _) .nil))
  | ow n => exact .tup h (.cons (.str _) (.cons (.int _) .nil))
theorem Dt.hit {H : Hp} {v : V} {p : Nat × Str} (h : Dt H v (hitD p)) : ∃ a, v = .ref a ∧ H a = some (.tup [.int (p.1 : Nat), .str p.2]) := by
  obtain ⟨a, xs, e, h1, h2⟩ := Dt.tup_inv (ds := [.int (p.1 : Nat), .str p.2]) h
  obtain ⟨x, y, rfl, d1, d2⟩ := h2.two
  cases d1
  cases d2
  exact ⟨a, e, h1⟩
theorem Dt.nonv {H : Hp} {v : V} (h : Dt H v .none) : v = .non := by cases h; rfl
theorem Dt.tv_none {H : Hp} {v : V} (h : Dt H v (tvD none)) : v = .non := Dt.nonv h
theorem Dt.tv_ne {H : Hp} {v : V} {t : Tg} (h : Dt H v (tvD (some t))) : v ≠ .non := by
  obtain ⟨a, e, _⟩ := Dt.tg (t := t) h
  rw [e]
  exact fun z => by cases z
theorem Dt.pair {H : Hp} {v : V} {a : Option Tg} {b : Option (Nat × Str)} (h : Dt H v (pairD a b)) : ∃ p x y, v = .ref p ∧ H p = some (.tup [x, y]) ∧ Dt H x (tvD a) ∧ Dt H y (svD b) := by
  obtain ⟨p, xs, e, h1, h2⟩ := Dt.tup_inv h
  obtain ⟨x, y, rfl, d1, d2⟩ := h2.two
  exact ⟨p, x, y, e, h1, d1, d2⟩
/-! ### the places of a store -/
inductive Ro where
  | p | cd | ho | fr | wt | ht | sn | ce (t : Tg)
  deriving DecidableEq
structure SA where
  ad : Ro → Addr
  dx : Addr
  fa : Addr
def Ro.ok (s : StS) : Ro → Prop
  | .ce t => s.inn t
  | _ => True
def stoFs (A : SA) (n : Nat) : List (Str × V) := [("fields", .ref A.fa), ("cells", .ref (A.ad .cd)), ("holding", .ref (A.ad .ho)), ("frosts", .ref (A.ad .fr)), ("watchers", .ref (A.ad .wt)), ("hits", .ref (A.ad .ht)), ("seen", .ref (A.ad .sn)), ("puts", .int (n : Nat))]
def Good (C : Addr) (A : SA) (m : Nat) (fs : List Str) (s : StS) (H : Hp) : Ro → HO → Prop
  | .p, o => o = .ins C A.dx (stoFs A s.puts)
  | .cd, o => o = .dT (kvF tgK (fun t => .ref (A.ad (.ce t))) (dom s.nst s.now))
  | .ho, o => ∃ kvs, o = .dK kvs ∧ kvs.length ≤ m ∧ ∀ x, Dt H ((valV kvs (strK x)).getD .non) (tvD (s.hold x))
  | .fr, o => o = .lst (s.fro.map .bl)
  | .wt, o => ∃ vs, o = .lst vs ∧ DtAll H vs (s.wat.map watD)
  | .ht, o => ∃ vs, o = .lst vs ∧ DtAll H vs (s.hits.map hitD)
  | .sn, o => ∃ vs, o = .lst vs ∧ DtAll H vs (s.seen.map hitD)
  | .ce t, o => ∃ ps, o = .dK (kvF strK ps fs) ∧ ∀ f ∈ fs, Dt H (ps f) (pairD (s.val t f) (s.src t f))
theorem Good.keep {C : Addr} {A : SA} {m : Nat} {fs : List Str} {s : StS} {H H' : Hp} (k : KeepT H H') : ∀ {r : Ro} {o : HO}, Good C A m fs s H r o → Good C A m fs s H' r o
  | .p, _, h => h
  | .cd, _, h => h
  | .ho, _, ⟨kvs, h1, h2, h3⟩ => ⟨kvs, h1, h2, fun x => (h3 x).keep k⟩
  | .fr, _, h => h
  | .wt, _, ⟨vs, h1, h2⟩ => ⟨vs, h1, h2.keep k⟩
  | .ht, _, ⟨vs, h1, h2⟩ => ⟨vs, h1, h2.keep k⟩
  | .sn, _, ⟨vs, h1, h2⟩ => ⟨vs, h1, h2.keep k⟩
  | .ce t, _, ⟨ps, h1, h2⟩ => ⟨ps, h1, fun f hf => (h2 f hf).keep k⟩
theorem Good.notup {C : Addr} {A : SA} {m : Nat} {fs : List Str} {s : StS} {H : Hp} : ∀ {r : Ro} {o : HO}, Good C A m fs s H r o → ∀ xs, o ≠ .tup xs
  | .p, _, h, xs => by rw [show _ = _ from h]; exact fun z => by cases z
  | .cd, _, h, xs => by rw [show _ = _ from h]; exact fun z => by cases z
  | .ho, _, ⟨kvs, h1, _⟩, xs => by rw [h1]; exact fun z => by cases z
  | .fr, _, h, xs => by rw [show _ = _ from h]; exact fun z => by cases z
  | .wt, _, ⟨vs, h1, _⟩, xs => by rw [h1]; exact fun z => by cases z
  | .ht, _, ⟨vs, h1, _⟩, xs => by rw [h1]; exact fun z => by cases z
  | .sn, _, ⟨vs, h1, _⟩, xs => by rw [h1]; exact fun z => by cases z
  | .ce t, _, ⟨ps, h1, _⟩, xs => by rw [h1]; exact fun z => by cases z
structure Sto (C : Addr) (H : Hp) (A : SA) (m : Nat) (fs : List Str) (s : StS) : Prop where
  inj : ∀ r r', r.ok s → r'.ok s → A.ad r = A.ad r' → r = r'
  fa : H A.fa = some (.tup (fs.map .str))
  at_ : ∀ r, r.ok s → ∃ o, H (A.ad r) = some o ∧ Good C A m fs s H r o
def foot (A : SA) (s : StS) (b : Addr) : Prop := ∃ r : Ro, r.ok s ∧ b = A.ad r
section
variable {C : Addr} {H H' : Hp} {A : SA} {m m' : Nat} {fs : List Str} {s s' : StS}
theorem Sto.p (h : Sto C H A m fs s) : H (A.ad .p) = some (.ins C A.dx (stoFs A s.puts)) := by
  obtain ⟨o, h1, h2⟩ := h.at_ .p trivial
  rw [h1, show o = _ from h2]
theorem Sto.cd (h : Sto C H A m fs s) : H (A.ad .cd) = some (.dT (kvF tgK (fun t => .ref (A.ad (.ce t))) (dom s.nst s.now))) := by
  obtain ⟨o, h1, h2⟩ := h.at_ .cd trivial
  rw [h1, show o = _ from h2]
theorem Sto.ho (h : Sto C H A m fs s) : ∃ kvs, H (A.ad .ho) = some (.dK kvs) ∧ kvs.length ≤ m ∧ ∀ x, Dt H ((valV kvs (strK x)).getD .non) (tvD (s.hold x)) := by
  obtain ⟨o, h1, kvs, rfl, h2, h3⟩ := h.at_ .ho trivial
  exact ⟨kvs, h1, h2, h3⟩
theorem Sto.fr (h : Sto C H A m fs s) : H (A.ad .fr) = some (.lst (s.fro.map .bl)) := by
  obtain ⟨o, h1, h2⟩ := h.at_ .fr trivial
  rw [h1, show o = _ from h2]
theorem Sto.wt (h : Sto C H A m fs s) : ∃ vs, H (A.ad .wt) = some (.lst vs) ∧ DtAll H vs (s.wat.map watD) := by
  obtain ⟨o, h1, vs, rfl, h2⟩ := h.at_ .wt trivial
  exact ⟨vs, h1, h2⟩
theorem Sto.ht (h : Sto C H A m fs s) : ∃ vs, H (A.ad .ht) = some (.lst vs) ∧ DtAll H vs (s.hits.map hitD) := by
  obtain ⟨o, h1, vs, rfl, h2⟩ := h.at_ .ht trivial
  exact ⟨vs, h1, h2⟩
theorem Sto.sn (h : Sto C H A m fs s) : ∃ vs, H (A.ad .sn) = some (.lst vs) ∧ DtAll H vs (s.seen.map hitD) := by
  obtain ⟨o, h1, vs, rfl, h2⟩ := h.at_ .sn trivial
  exact ⟨vs, h1, h2⟩
theorem Sto.ce (h : Sto C H A m fs s) {t : Tg} (ht : s.inn t) : ∃ ps, H (A.ad (.ce t)) = some (.dK (kvF strK ps fs)) ∧ ∀ f ∈ fs, Dt H (ps f) (pairD (s.val t f) (s.src t f)) := by
  obtain ⟨o, h1, ps, rfl, h2⟩ := h.at_ (.ce t) ht
  exact ⟨ps, h1, h2⟩
/-- the cell that a thing's tuple leads to -/
theorem Sto.cell (h : Sto C H A m fs s) {t : Tg} (ht : s.inn t) : valV (kvF tgK (fun t => V.ref (A.ad (.ce t))) (dom s.nst s.now)) (tgK t) = some (.ref (A.ad (.ce t))) := kvF_at tgK_inj (dom_mem.mpr ht)
theorem Sto.ntup (h : Sto C H A m fs s) {r : Ro} (hr : r.ok s) (xs : List V) : H (A.ad r) ≠ some (.tup xs) := fun z => by
  obtain ⟨o, h1, h2⟩ := h.at_ r hr
  rw [h1] at z
  exact h2.notup xs (Option.some.inj z)
theorem Sto.keep (h : Sto C H A m fs s) (k : KeepT H H') (e : ∀ r, r.ok s → H' (A.ad r) = H (A.ad r)) : Sto C H' A m fs s :=
  ⟨h.inj, k _ _ h.fa, fun r hr => by
    obtain ⟨o, h1, h2⟩ := h.at_ r hr
    exact ⟨o, by rw [e r hr]; exact h1, h2.keep k⟩⟩
theorem Sto.ext (h : Sto C H A m fs s) (e : Ext H H') : Sto C H' A m fs s := h.keep (ext_keep e) fun r hr => by
  obtain ⟨o, h1, _⟩ := h.at_ r hr
  rw [h1, e _ _ h1]
/-- one of its things is stored anew -/
theorem Sto.set (h : Sto C H A m fs s) {r : Ro} (hr : r.ok s) {o : HO} (hok : ∀ r' : Ro, r'.ok s' ↔ r'.ok s) (hg : Good C A m' fs s' (upd H (A.ad r) o) r o) (hoth : ∀ (r' : Ro) (o' : HO), r' ≠ r → r'.ok s → Good C A m fs s H r' o' → Good C A m' fs s' H r' o') :
    Sto C (upd H (A.ad r) o) A m' fs s' := by
  have k : KeepT H (upd H (A.ad r) o) := KeepT.put (h.ntup hr)
  refine ⟨fun a b ha hb => h.inj a b ((hok a).mp ha) ((hok b).mp hb), k _ _ h.fa, fun r' hr' => ?_⟩
  by_cases e : r' = r
  · subst e
    exact ⟨o, upd_same, hg⟩
  · have hr2 := (hok r').mp hr'
    obtain ⟨o', h1, h2⟩ := h.at_ r' hr2
    exact ⟨o', by rw [upd_ne fun z => e (h.inj _ _ hr2 hr z)]; exact h1, (hoth r' o' e hr2 h2).keep k⟩
theorem Sto.there (h : Sto C H A m fs s) {b : Addr} (hb : foot A s b) : ∃ o, H b = some o := by
  obtain ⟨r, hr, rfl⟩ := hb
  obtain ⟨o, h1, _⟩ := h.at_ r hr
  exact ⟨o, h1⟩
end
/-- what is outside of a set stays; tuples stay -/
structure Chg (F : Addr → Prop) (H H' : Hp) : Prop where
  old : ∀ b o, H b = some o → ¬ F b → H' b = some o
  tup : KeepT H H'
theorem Chg.rfl' {F : Addr → Prop} {H : Hp} : Chg F H H := ⟨fun _ _ h _ => h, KeepT.rfl'⟩
theorem Chg.trans {F : Addr → Prop} {H H1 H2 : Hp} (a : Chg F H H1) (b : Chg F H1 H2) : Chg F H H2 := ⟨fun c o h n => b.old c o (a.old c o h n) n, a.tup.trans b.tup⟩
theorem Chg.of {F : Addr → Prop} {H H' : Hp} (e : Ext H H') : Chg F H H' := ⟨fun b o h _ => e b o h, ext_keep e⟩
theorem Chg.mono {F G : Addr → Prop} {H H' : Hp} (a : Chg F H H') (h : ∀ b, H b ≠ none → F b → G b) : Chg G H H' := ⟨fun b o e n => a.old b o e fun z => n (h b (by rw [e]; exact fun z => by cases z) z), a.tup⟩
theorem Chg.ext {F : Addr → Prop} {H0 H H' : Hp} (a : Chg F H H') (e : Ext H0 H) (h : ∀ b, F b → H0 b = none) : Ext H0 H' := fun b o hb => a.old b o (e b o hb) fun z => by rw [h b z] at hb; cases hb
theorem Chg.put {F : Addr → Prop} {H : Hp} {p : Addr} {o : HO} (hp : F p) (ht : ∀ xs, H p ≠ some (.tup xs)) : Chg F H (upd H p o) := ⟨fun b u e n => by rw [upd_ne fun z => n (by rw [z]; exact hp)]; exact e, KeepT.put ht⟩
theorem Chg.new {F : Addr → Prop} {H : Hp} {p : Addr} {o : HO} (hp : H p = none) : Chg F H (upd H p o) := .of (Ext.upd hp)
section
variable {C : Addr} {H H' : Hp} {A B : SA} {m m' : Nat} {fs : List Str} {s s' : StS}
theorem Sto.chg (h : Sto C H A m fs s) {r : Ro} (hr : r.ok s) (o : HO) : Chg (foot A s) H (upd H (A.ad r) o) := Chg.put ⟨r, hr, rfl⟩ (h.ntup hr)
/-- what leaves its places alone leaves it as it is -/
theorem Sto.stay (h : Sto C H A m fs s) {F : Addr → Prop} (c : Chg F H H') (hd : ∀ b, foot A s b → ¬ F b) : Sto C H' A m fs s := h.keep c.tup fun r hr => by
  obtain ⟨o, h1, _⟩ := h.at_ r hr
  rw [h1, c.old _ _ h1 (hd _ ⟨r, hr, rfl⟩)]
end
end TW
set_option maxHeartbeats 4000000
/-! ## the store: what it tells, what it adds -/
namespace TW
open PySem PySem.Spec PyProof.Rows L2 TwN
section
variable {P : Program} {w : World} {K : PySem.W.Frag} {mg : Str → Option Value} {base h : Heap}
abbrev cSto (K : PySem.W.Frag) : Addr := He.ga K "Store"
def tgO : Option Nat → Option Tg
  | none => none
  | some n => some (.st n)
def sp_start_value : Sp := fun vs H Q _ => ∃ v : Option Nat, vs = [oV v] ∧ ∀ H' u, Ext H H' → Dt H' u (tvD (tgO v)) → Q u H'
theorem p_start_value (T : Tx w K mg h) : C8.Cal P w K mg base 1 "start_value" sp_start_value [] :=
  cal T.f_start_value T.g_start_value sc_start_value (fun vs H Q E ⟨_, e, _⟩ => by rw [e]; rfl) fun cdv A outer s H vs Q E hr ⟨v, e, q⟩ => by
    subst e
    refine ⟨_, (pss_cons (ps_if (pt_cmp (pc_isN (pv 0))) (pss_one (ps_ret pe_non)) pss_nil)
  (pss_one (ps_ret (pe_tup (pa_cons pe_str (pa_cons (pv 0) pa_nil)))))), ?_⟩
    cases v with
    | none => exact ⟨_, rfl, true, rfl, iteT (q H .non Ext.rfl' .non)⟩
    | some n => exact ⟨_, rfl, false, rfl, iteF ⟨_, rfl, by show 2 ≤ sizeLine; decide, fun p np => q _ (.ref p) (Ext.upd np) (.tup upd_same (.cons (.str _) (.cons (.int _) .nil)))⟩⟩
def sp_held_by (C : Addr) : Sp := fun vs H Q _ => ∃ (A : SA) (m : Nat) (fs : List Str) (s : StS) (x : Str), vs = [.ref (A.ad .p), .str x] ∧ Sto C H A m fs s ∧ ∀ v, Dt H v (tvD (s.hold x)) → Q v H
theorem p_Store_held_by (T : Tx w K mg h) : C8.Met P w K mg base 1 (cSto K) "held_by" (sp_held_by (cSto K)) [] :=
  met T.f_Store_held_by T.c_Store T.m_Store_held_by sc_Store_held_by (fun vs H Q E ⟨_, _, _, _, _, e, _⟩ => by rw [e]; rfl) fun cdv A' outer s' H vs Q E hr ⟨A, m, fs, s, x, e, st, q⟩ => by
    subst e
    obtain ⟨kvs, h1, h2, h3⟩ := st.ho
    refine ⟨_, (pss_one (ps_ret (pe_dget1 (hu_of hr) (pe_fld (pv 0) (by rfl)) (pv 1) ⟨rfl, rfl, rfl, rfl⟩))), ?_⟩
    exact ⟨_, rfl, A.ad .p, _, A.dx, _, _, rfl, st.p, T.c_Store, T.n_Store_holding, rfl, A.ad .ho, rfl, .inl ⟨_, .of h1⟩, _, rfl, _, dgetK (k := strK x) h1 rfl, q _ (h3 x)⟩
def sp_is_frozen (C : Addr) : Sp := fun vs H Q _ => ∃ (A : SA) (m : Nat) (fs : List Str) (s : StS) (v : V) (t : Tg), vs = [.ref (A.ad .p), v] ∧ Sto C H A m fs s ∧ Dt H v (tgD t) ∧ s.inn t ∧ s.fro.length = s.now ∧ Q (.bl (isFro s t)) H
theorem p_Store_is_frozen (T : Tx w K mg h) : C8.Met P w K mg base 1 (cSto K) "is_frozen" (sp_is_frozen (cSto K)) [] :=
  met T.f_Store_is_frozen T.c_Store T.m_Store_is_frozen sc_Store_is_frozen (fun vs H Q E ⟨_, _, _, _, _, _, e, _⟩ => by rw [e]; rfl) fun cdv A' outer s' H vs Q E hr ⟨A, m, fs, s, v, t, e, st, dv, ht, hl, q⟩ => by
    subst e
    obtain ⟨a, rfl, ha⟩ := dv.tg
    refine ⟨_, (pss_one (ps_ret (pe_and (pe_cmpR op_eq (pe_ix ix_tup (pv 1) pe_int (fun _ _ => rfl)) pe_str (nomark _)) (pe_one (pe_ix ix_list (pe_fld (pv 0) (by rfl)) (pe_ix ix_tup (pv 1) pe_int (fun _ _ => rfl)) (fun _ _ => rfl)))))), ?_⟩
    cases t with
    | st n =>
      refine ⟨_, rfl, a, _, 0, .str "start", rfl, rfl, SqT.of ha, atI_nat (j := 0) rfl, rfl, false, rfl, iteF ?_⟩
      exact q
    | ow k =>
      have hk : k < s.now := ht
      refine ⟨_, rfl, a, _, 0, .str "own", rfl, rfl, SqT.of ha, atI_nat (j := 0) rfl, rfl, true, rfl, iteT ?_⟩
      refine ⟨_, rfl, A.ad .p, _, A.dx, _, _, rfl, st.p, T.c_Store, T.n_Store_frosts, rfl, _, rfl, a, _, 1, .int (k : Nat), rfl, rfl, SqT.of ha, atI_nat (j := 1) rfl, A.ad .fr, _, (k : Int), .bl (isFro s (.ow k)), rfl, rfl, SqL.of st.fr, atI_nat ?_, q⟩
      rw [List.getElem?_map, List.getElem?_eq_getElem (by omega)]
      show _ = some (V.bl (s.fro.getD k false))
      rw [List.getD_eq_getElem?_getD, List.getElem?_eq_getElem (by omega)]
      rfl
/-- a value as the interface tells it -/
def shD (s : StS) : Option Tg → PyData
  | none => .tuple [.str "none"]
  | some (.st n) => tgD (.st n)
  | some (.ow k) => .tuple [.str "own", .int (k : Nat), .bool (s.fro.getD k false)]
def sp_shown (C : Addr) : Sp := fun vs H Q _ => ∃ (A : SA) (m : Nat) (fs : List Str) (s : StS) (v : V) (t : Option Tg), vs = [.ref (A.ad .p), v] ∧ Sto C H A m fs s ∧ Dt H v (tvD t) ∧ (∀ u, t = some u → s.inn u) ∧ s.fro.length = s.now ∧
  ∀ H' u, Ext H H' → Dt H' u (shD s t) → Q u H'
theorem p_Store_shown (T : Tx w K mg h) : C8.Met P w K mg base 1 (cSto K) "shown" (sp_shown (cSto K)) [] :=
  met T.f_Store_shown T.c_Store T.m_Store_shown sc_Store_shown (fun vs H Q E ⟨_, _, _, _, _, _, e, _⟩ => by rw [e]; rfl) fun cdv A' outer s' H vs Q E hr ⟨A, m, fs, s, v, t, e, st, dv, ht, hl, q⟩ => by
    subst e
    refine ⟨_, (pss_cons (ps_if (pt_cmp (pc_isN (pv 1))) (pss_one (ps_ret (pe_tup (pa_cons pe_str pa_nil)))) pss_nil)
  (pss_cons (ps_if (pt_cmpR op_eq (pe_ix ix_tup (pv 1) pe_int (fun _ _ => rfl)) pe_str (nomark _)) (pss_one (ps_ret (pv 1))) pss_nil)
  (pss_one (ps_ret (pe_tup (pa_cons pe_str (pa_cons (pe_ix ix_tup (pv 1) pe_int (fun _ _ => rfl)) (pa_cons (pe_ix ix_list (pe_fld (pv 0) (by rfl)) (pe_ix ix_tup (pv 1) pe_int (fun _ _ => rfl)) (fun _ _ => rfl)) pa_nil)))))))), ?_⟩
    cases t with
    | none =>
      have ev := dv.tv_none
      subst ev
      exact ⟨_, rfl, true, rfl, iteT ⟨by show 1 ≤ sizeLine; decide, fun p np => q _ (.ref p) (Ext.upd np) (.tup upd_same (.cons (.str _) .nil))⟩⟩
    | some t =>
      obtain ⟨a, rfl, ha⟩ := Dt.tg (t := t) dv
      refine ⟨_, rfl, false, rfl, iteF ?_⟩
      cases t with
      | st n => exact ⟨_, rfl, a, _, 0, .str "start", rfl, rfl, SqT.of ha, atI_nat (j := 0) rfl, rfl, true, rfl, iteT ⟨_, rfl, q H (.ref a) Ext.rfl' dv⟩⟩
      | ow k =>
        have hk : k < s.now := ht _ rfl
        refine ⟨_, rfl, a, _, 0, .str "own", rfl, rfl, SqT.of ha, atI_nat (j := 0) rfl, rfl, false, rfl, iteF ?_⟩
        refine ⟨_, rfl, a, _, 1, .int (k : Nat), rfl, rfl, SqT.of ha, atI_nat (j := 1) rfl, ?_⟩
        refine ⟨_, rfl, A.ad .p, _, A.dx, _, _, rfl, st.p, T.c_Store, T.n_Store_frosts, rfl, _, rfl, a, _, 1, .int (k : Nat), rfl, rfl, SqT.of ha, atI_nat (j := 1) rfl, A.ad .fr, _, (k : Int), .bl (s.fro.getD k false), rfl, rfl, SqL.of st.fr, atI_nat ?_, ?_⟩
        · rw [List.getElem?_map, List.getElem?_eq_getElem (by omega), List.getD_eq_getElem?_getD, List.getElem?_eq_getElem (by omega)]
          rfl
        · exact ⟨by show 3 ≤ sizeLine; decide, fun p np => q _ (.ref p) (Ext.upd np) (.tup upd_same (.cons (.str _) (.cons (.int _) (.cons (.bl _) .nil))))⟩
def sp_told_value (C : Addr) : Sp := fun vs H Q _ => ∃ (A : SA) (m : Nat) (fs : List Str) (s : StS) (x : Str), vs = [.ref (A.ad .p), .str x] ∧ Sto C H A m fs s ∧ (∀ u, s.hold x = some u → s.inn u) ∧ s.fro.length = s.now ∧ ∀ H' u, Ext H H' → Dt H' u (shD s (s.hold x)) → Q u H'
theorem p_Store_told_value (T : Tx w K mg h) : C8.Met P w K mg base 2 (cSto K) "told_value" (sp_told_value (cSto K)) [] :=
  met T.f_Store_told_value T.c_Store T.m_Store_told_value sc_Store_told_value (fun vs H Q E ⟨_, _, _, _, _, e, _⟩ => by rw [e]; rfl) fun cdv A' outer s' H vs Q E hr ⟨A, m, fs, s, x, e, st, hh, hl, q⟩ => by
    subst e
    refine ⟨_, (pss_cons (ps_set (i := 2) sc_Store_told_value.nd rfl (by first | exact Or.inl rfl | exact Or.inr rfl) (C8.pe_mt (p_Store_held_by T) hr (by decide) (pv 0) (pa_cons (pv 1) pa_nil)))
  (pss_one (ps_ret (C8.pe_mt (p_Store_shown T) hr (by decide) (pv 0) (pa_cons (pv 2) pa_nil))))), ?_⟩
    refine ⟨_, rfl, A.ad .p, A.dx, _, rfl, st.p, rfl, _, rfl, A, m, fs, s, x, rfl, st, fun v dv => ?_⟩
    exact ⟨_, rfl, A.ad .p, A.dx, _, rfl, st.p, rfl, _, rfl, A, m, fs, s, v, s.hold x, rfl, st, dv, hh, hl, q⟩
/-! ### a new object -/
def SA.push (A : SA) (q : Addr) (k : Nat) : SA := { A with ad := fun r => if r = .ce (.ow k) then q else A.ad r }
theorem push_old {A : SA} {q : Addr} {k : Nat} {r : Ro} (h : r ≠ .ce (.ow k)) : (A.push q k).ad r = A.ad r := if_neg h
theorem push_new {A : SA} {q : Addr} {k : Nat} : (A.push q k).ad (.ce (.ow k)) = q := if_pos rfl
theorem Sto.add {C : Addr} {H : Hp} {A : SA} {m : Nat} {fs : List Str} {s : StS} (h : Sto C H A m fs s) {q : Addr} {ps : Str → V} {c : Cell Str} {b : Bool} (hq : H q = some (.dK (kvF strK ps fs))) (hp : ∀ f ∈ fs, Dt H (ps f) (pairD (c.1 f) (c.2 f))) (hn : ¬ foot A s q) :
    Sto C (upd (upd H (A.ad .fr) (.lst ((s.fro ++ [b]).map .bl))) (A.ad .cd) (.dT (kvF tgK (fun t => V.ref (A.ad (.ce t))) (dom s.nst s.now) ++ [(tgK (.ow s.now), .ref q)]))) (A.push q s.now) m fs (addObj s c b) := by
  have ho : ∀ r : Ro, r.ok s → r ≠ .ce (.ow s.now) := fun r hr z => by
    subst z
    exact Nat.lt_irrefl _ (show s.now < s.now from hr)
  have hok : ∀ r : Ro, r.ok (addObj s c b) → r.ok s ∨ r = .ce (.ow s.now) := fun r hr => by
    cases r with
    | ce t =>
      cases t with
      | st n => exact .inl hr
      | ow k =>
        have hk : k < s.now + 1 := hr
        by_cases e : k = s.now
        · exact .inr (by rw [e])
        · exact .inl (show k < s.now by omega)
    | _ => exact .inl trivial
  have k1 : KeepT H (upd H (A.ad .fr) (.lst ((s.fro ++ [b]).map .bl))) := KeepT.put (h.ntup (r := .fr) trivial)
  have nfc : A.ad .cd ≠ A.ad .fr := fun z => by have := h.inj .cd .fr trivial trivial z; cases this
  have k2 : KeepT H (upd (upd H (A.ad .fr) (.lst ((s.fro ++ [b]).map .bl))) (A.ad .cd) (.dT (kvF tgK (fun t => V.ref (A.ad (.ce t))) (dom s.nst s.now) ++ [(tgK (.ow s.now), .ref q)]))) :=
    k1.trans (KeepT.at_ (u := .dT (kvF tgK (fun t => .ref (A.ad (.ce t))) (dom s.nst s.now))) (by rw [upd_ne nfc]; exact h.cd) fun _ z => by cases z)
  have nq1 : q ≠ A.ad .fr := fun z => hn ⟨.fr, trivial, z⟩
  have nq2 : q ≠ A.ad .cd := fun z => hn ⟨.cd, trivial, z⟩
  refine ⟨fun r r' hr hr' e => ?_, k2 _ _ h.fa, fun r hr => ?_⟩
  · rcases hok r hr with a | a
    · rcases hok r' hr' with a' | a'
      · rw [push_old (ho r a), push_old (ho r' a')] at e
        exact h.inj _ _ a a' e
      · subst a'
        rw [push_old (ho r a), push_new] at e
        exact absurd ⟨r, a, e.symm⟩ hn
    · subst a
      rcases hok r' hr' with a' | a'
      · rw [push_old (ho r' a'), push_new] at e
        exact absurd ⟨r', a', e⟩ hn
      · exact a'.symm
  · rcases hok r hr with a | a
    · rw [push_old (ho r a)]
      have val : ∀ t, s.inn t → ∀ f, (addObj s c b).val t f = s.val t f ∧ (addObj s c b).src t f = s.src t f := fun t ht f => by
        have : t ≠ .ow s.now := fun z => by subst z; exact Nat.lt_irrefl _ (show s.now < s.now from ht)
        exact ⟨if_neg this, if_neg this⟩
      by_cases e1 : r = .cd
      · subst e1
        refine ⟨_, upd_same, ?_⟩
        show _ = HO.dT _
        rw [show (addObj s c b).nst = s.nst from rfl, show (addObj s c b).now = s.now + 1 from rfl, dom_succ, kvF_snoc, push_new]
        congr 2
        exact kvF_congr fun t ht => by
          rw [push_old]
          intro z
          injection z with z
          subst z
          exact Nat.lt_irrefl _ (show s.now < s.now from dom_mem.mp ht)
      · by_cases e2 : r = .fr
        · subst e2
          exact ⟨.lst ((s.fro ++ [b]).map .bl), by rw [upd_ne nfc.symm, upd_same], rfl⟩
        · obtain ⟨o, h1, h2⟩ := h.at_ r a
          refine ⟨o, by rw [upd_ne fun z => e1 (h.inj _ _ a trivial z), upd_ne fun z => e2 (h.inj _ _ a trivial z)]; exact h1, ?_⟩
          have h3 := h2.keep k2
          cases r with
          | p => exact h3
          | ho => exact h3
          | wt => exact h3
          | ht => exact h3
          | sn => exact h3
          | cd => exact absurd rfl e1
          | fr => exact absurd rfl e2
          | ce t =>
            obtain ⟨ps', h4, h5⟩ := h3
            exact ⟨ps', h4, fun f hf => by rw [(val t a f).1, (val t a f).2]; exact h5 f hf⟩
    · subst a
      rw [push_new]
      refine ⟨_, by rw [upd_ne nq2, upd_ne nq1]; exact hq, ps, rfl, fun f hf => ?_⟩
      have e1 : (addObj s c b).val (.ow s.now) f = c.1 f := if_pos rfl
      have e2 : (addObj s c b).src (.ow s.now) f = c.2 f := if_pos rfl
      rw [e1, e2]
      exact (hp f hf).keep k2
def sp_add_object (C : Addr) : Sp := fun vs H Q _ => ∃ (A : SA) (m : Nat) (fs : List Str) (s : StS) (q : Addr) (b : Bool) (ps : Str → V) (c : Cell Str), vs = [.ref (A.ad .p), .ref q, .bl b] ∧ Sto C H A m fs s ∧ s.fro.length = s.now ∧ s.nst + s.now ≤ 10000 ∧ H q = some (.dK (kvF strK ps fs)) ∧
  (∀ f ∈ fs, Dt H (ps f) (pairD (c.1 f) (c.2 f))) ∧ ¬ foot A s q ∧ ∀ H' v, Sto C H' (A.push q s.now) m fs (addObj s c b) → Dt H' v (tgD (.ow s.now)) → Chg (foot A s) H H' → Q v H'
theorem p_Store_add_object (T : Tx w K mg h) : C8.Met P w K mg base 1 (cSto K) "add_object" (sp_add_object (cSto K)) [] :=
  met T.f_Store_add_object T.c_Store T.m_Store_add_object sc_Store_add_object (fun vs H Q E ⟨_, _, _, _, _, _, _, _, e, _⟩ => by rw [e]; rfl) fun cdv A' outer s' H vs Q E hr ⟨A, m, fs, s, q, b, ps, c, e, st, hl, hsm, hq, hp, hn, qq⟩ => by
    subst e
    refine ⟨_, (pss_cons (ps_set (i := 3) sc_Store_add_object.nd rfl (by first | exact Or.inl rfl | exact Or.inr rfl) (pe_tup (pa_cons pe_str (pa_cons (pe_callB call_len_seq (by rfl) T.z_len (by decide +kernel) (pa_cons (pe_fld (pv 0) (by rfl)) pa_nil)) pa_nil))))
  (pss_cons (ps_expr (pe_bm PySem.F.plainAttrs_list PySem.F.slot_list_append PySem.F.type_list_append mt_append (pe_fld (pv 0) (by rfl)) (pa_cons (pv 2) pa_nil)))
  (pss_cons (ps_dput (hu_of hr) (pe_fld (pv 0) (by rfl)) (pv 3) (pv 1) (by rfl))
  (pss_one (ps_ret (pv 3)))))), ?_⟩
    have cl := T.c_Store
    refine ⟨_, rfl, A.ad .p, _, A.dx, _, _, rfl, st.p, cl, T.n_Store_frosts, rfl, A.ad .fr, _, rfl, .inl (SqL.of st.fr), by show 2 ≤ sizeLine; decide, fun tp ntp => ?_⟩
    have x1 : Ext H (upd H tp (.tup [.str "own", .int ((s.fro.map V.bl).length : Nat)])) := Ext.upd ntp
    have htp : upd H tp (.tup [.str "own", .int ((s.fro.map V.bl).length : Nat)]) tp = some (.tup ((tgK (.ow s.now)).map kV)) := by
      rw [upd_same, List.length_map, hl]
      rfl
    have st1 := st.ext x1
    generalize upd H tp (.tup [.str "own", .int ((s.fro.map V.bl).length : Nat)]) = H1 at x1 htp st1
    refine ⟨_, rfl, A.ad .p, _, A.dx, _, _, rfl, st1.p, cl, T.n_Store_frosts, rfl, .inl ⟨rfl, _, SqL.of st1.fr⟩, _, rfl, A.ad .fr, _, _, rfl, rfl, st1.fr, by rw [List.length_map]; exact small_lt (by omega), ?_⟩
    have c2 := st1.chg (r := .fr) trivial (.lst (s.fro.map .bl ++ [.bl b]))
    have nfc : A.ad .cd ≠ A.ad .fr := fun z => by have := st.inj .cd .fr trivial trivial z; cases this
    have npf : A.ad .p ≠ A.ad .fr := fun z => by have := st.inj .p .fr trivial trivial z; cases this
    refine ⟨_, rfl, _, rfl, A.ad .p, _, A.dx, _, _, rfl, by rw [upd_ne npf]; exact st1.p, cl, T.n_Store_cells, rfl, _, rfl, A.ad .cd, _, rfl, DPut.t (by rw [upd_ne nfc]; exact st1.cd) (c2.tup _ _ htp) (by rw [kvF_len, dom_len]; exact small_lt (by omega)), ?_⟩
    have hno : valV (kvF tgK (fun t => V.ref (A.ad (.ce t))) (dom s.nst s.now)) (tgK (.ow s.now)) = none := kvF_no fun y hy e => by
      rw [tgK_inj _ _ e] at hy
      exact Nat.lt_irrefl _ (show s.now < s.now from dom_mem.mp hy)
    rw [putK_new _ hno]
    have sa := st1.add (q := q) (ps := ps) (c := c) (b := b) (x1 _ _ hq) (fun f hf => (hp f hf).keep (ext_keep x1)) hn
    have e1 : (s.fro ++ [b]).map V.bl = s.fro.map .bl ++ [.bl b] := by rw [List.map_append]; rfl
    rw [e1] at sa
    refine ⟨_, rfl, qq _ (.ref tp) sa (.ofTg ?_) ?_⟩
    · refine KeepT.put (fun xs z => ?_) _ _ (c2.tup _ _ htp)
      rw [upd_ne nfc, st1.cd] at z
      cases z
    · refine ((Chg.of x1).trans c2).trans (Chg.put ⟨.cd, trivial, rfl⟩ fun xs z => ?_)
      rw [upd_ne nfc, st1.cd] at z
      cases z
end
end TW
set_option maxHeartbeats 4000000
/-! ## errors that are raised: look -/
namespace TW
open PySem PySem.Spec PyProof.Rows L2 TwN
theorem oexB_cls {K : PySem.W.Frag} {C : Addr} (h : oexB K C = true) : ∃ nm q N bs bm sn sub ab col dd k0 k1 k2 k3 k5, K.lookup C = some (excClassObj nm q C N bs bm true sn sub ab col dd k0 k1 k2 k3 k5 "ValueError.__new__") ∧ PySem.HandSPX.refsVE bm = true := by
  unfold oexB at h
  split at h
  · rename_i t dd cd sl hl
    split at h
    · rename_i C' bm k0 k1 k2 k3 n k5 hm hs
      obtain ⟨h1, h⟩ := Bool.and_eq_true_iff.mp h
      obtain ⟨h2, h⟩ := Bool.and_eq_true_iff.mp h
      obtain ⟨h3, h⟩ := Bool.and_eq_true_iff.mp h
      obtain ⟨h4, h⟩ := Bool.and_eq_true_iff.mp h
      obtain ⟨h5, h6⟩ := Bool.and_eq_true_iff.mp h
      have e1 := of_decide_eq_true h1
      have e2 := of_decide_eq_true h2
      have e3 := of_decide_eq_true h3
      subst e1 e2 e3
      have hsl : sl = #[k0, k1, k2, k3, some (.builtin "ValueError.__new__"), k5] := by
        obtain ⟨l⟩ := sl
        simp only at hs
        rw [hs]
      subst hsl
      obtain ⟨nm, bs, mro, ns, qn, hd, sn, sub, ab, col, del⟩ := cd
      dsimp only at hm h4 h5
      subst hm h5
      cases del with
      | true => cases h4
      | false => exact ⟨nm, qn, ns, bs, bm, sn, sub, ab, col, dd, k0, k1, k2, k3, k5, hl, h6⟩
    · cases h
  · cases h
structure ExF (K : PySem.W.Frag) (C : Addr) : Prop where
  o : OexC K C
  i : PySem.W.findIn K (.ref C) "__init__" = some (some (.ref (He.ma K (He.ga K "RunError") "__init__")))
  t : PySem.W.typeIn K (.ref (He.ma K (He.ga K "RunError") "__init__")) = some (.type "function")
  n : PySem.W.findIn K (.ref C) "name" = some none
  x : XfC K C
theorem exF {K : PySem.W.Frag} {x : Str} (h : exB K x = true) : ExF K (He.ga K x) := by
  unfold exB at h
  obtain ⟨h1, h⟩ := Bool.and_eq_true_iff.mp h
  obtain ⟨h2, h⟩ := Bool.and_eq_true_iff.mp h
  obtain ⟨h3, h⟩ := Bool.and_eq_true_iff.mp h
  obtain ⟨h4, h⟩ := Bool.and_eq_true_iff.mp h
  obtain ⟨h5, h⟩ := Bool.and_eq_true_iff.mp h
  obtain ⟨h6, h⟩ := Bool.and_eq_true_iff.mp h
  obtain ⟨h7, h⟩ := Bool.and_eq_true_iff.mp h
  obtain ⟨h8, h9⟩ := Bool.and_eq_true_iff.mp h
  exact ⟨⟨oexB_cls h1, He.eqO_ok h2, of_decide_eq_true h3, of_decide_eq_true h4, h5⟩, He.eqO_ok h6, of_decide_eq_true h7, He.eqO_ok h8, xfB_ok h9⟩
section
variable {P : Program} {w : World} {K : PySem.W.Frag} {mg : Str → Option Value} {base h : Heap}
theorem Tx.xh (T : Tx w K mg h) : ExF K (He.ga K "Hollow") := exF (Bool.and_eq_true_iff.mp T.ex).1
theorem Tx.xr (T : Tx w K mg h) : ExF K (He.ga K "Refused") := exF (Bool.and_eq_true_iff.mp (Bool.and_eq_true_iff.mp T.ex).2).1
theorem Tx.ox_Hollow (T : Tx w K mg h) : OexC K (He.ga K "Hollow") := T.xh.o
theorem Tx.ox_Refused (T : Tx w K mg h) : OexC K (He.ga K "Refused") := T.xr.o
theorem Tx.oi_Hollow (T : Tx w K mg h) : PySem.W.findIn K (.ref (He.ga K "Hollow")) "__init__" = some (some (.ref (He.ma K (He.ga K "RunError") "__init__"))) := T.xh.i
theorem Tx.oi_Refused (T : Tx w K mg h) : PySem.W.findIn K (.ref (He.ga K "Refused")) "__init__" = some (some (.ref (He.ma K (He.ga K "RunError") "__init__"))) := T.xr.i
theorem Tx.ot (T : Tx w K mg h) : PySem.W.typeIn K (.ref (He.ma K (He.ga K "RunError") "__init__")) = some (.type "function") := T.xh.t
def nmX (x : Str) : List (Str × V) := [("name", .str x)]
def sp_RunError_init (K : PySem.W.Frag) : Sp := fun vs H Q _ => ∃ (a C : Addr) (x : Str), vs = [.ref a, .str x] ∧ OexC K C ∧ PySem.W.findIn K (.ref C) "name" = some none ∧ H a = some (exo a C none) ∧ ∀ dx, H dx = none → dx ≠ a → Q .non (upd (upd H dx (exd dx (nmX x))) a (exo a C (some dx)))
noncomputable def fdI (T : Tx w K mg h) : FuncData := Classical.choose T.f_RunError_init.ex
theorem fI_ok (T : Tx w K mg h) : FunD K "__init__" "RunError.__init__" (defArgs s_RunError_init) (defBody s_RunError_init) (defScope s_RunError_init) [] [] (He.fAd K ("RunError", some "__init__")) (fdI T) ∧ Binds K (fdI T) ["self", "name"] [] := Classical.choose_spec T.f_RunError_init.ex
theorem b_init (T : Tx w K mg h) : Binds K (fdI T) ["self", "name"] [] := (fI_ok T).2
theorem p_RunError_init (T : Tx w K mg h) : FnOk P w K mg base C8.CX0 1 (He.ma K (He.ga K "RunError") "__init__") (fdI T) ["self", "name"] (sp_RunError_init K) :=
  (fI_ok T).1.ok sc_RunError_init (fun vs H Q E ⟨_, _, _, e, _⟩ => by rw [e]; rfl) (BodyOk0.any fun cdv A outer s H vs Q E hr ⟨a, C, x, e, oc, nn, ha, q⟩ => by
    subst e
    refine ⟨_, (pss_one (ps_ost (pv 0) (pv 1))), ?_⟩
    exact ⟨_, rfl, _, rfl, a, C, rfl, oc, nn, .inl ⟨ha, fun dx hd ne => q dx hd ne⟩⟩)
/-- what is raised -/
theorem raised {C : Addr} {H : Hp} {x : Str} {Q : XK} (F : ExF K C) (hq : ∀ d, H d = none → Q (.ref C) (some d) (upd H d (.xd (nmX x)))) : [V.str x].length ≤ 1000 ∧ ∀ a, H a = none → sp_RunError_init K (.ref a :: ([V.str x] ++ [])) (upd H a (exo a C none))
    (fun v H2 => v = .non ∧ ∃ (d : Addr) (fs : List (Str × V)), H2 a = some (exo a C (some d)) ∧ H2 d = some (exd d fs) ∧ H d = none ∧ Q (.ref C) (some d) (upd (del H2 a) d (.xd fs))) (fun _ _ _ => False) := by
  refine ⟨by show 1 ≤ 1000; decide, fun a ha => ⟨a, C, x, rfl, F.o, F.n, upd_same, fun dx hd ne => ?_⟩⟩
  have hd' : H dx = none := by rwa [upd_ne ne] at hd
  refine ⟨rfl, dx, nmX x, upd_same, by rw [upd_ne ne, upd_same], hd', ?_⟩
  have e : upd (del (upd (upd (upd H a (exo a C none)) dx (exd dx (nmX x))) a (exo a C (some dx))) a) dx (.xd (nmX x)) = upd H dx (.xd (nmX x)) := by
    funext b
    by_cases h1 : b = dx
    · subst h1; rw [upd_same, upd_same]
    · rw [upd_ne h1, upd_ne h1]
      by_cases h2 : b = a
      · subst h2; rw [del_same, ha]
      · rw [del_ne h2, upd_ne h2, upd_ne h1, upd_ne h2]
  rw [e]
  exact hq dx hd'
/-! ### the result of a row -/
/-- what may come of a row -/
inductive PostR (K : PySem.W.Frag) (A : SA) (m : Nat) (fs : List Str) (s : StS) (H : Hp) (Q : VK) (E : XK) : Res Str → Prop
  | ok {s' : StS} (h : ∀ A' H', Sto (cSto K) H' A' (m + 1) fs s' → Chg (foot A s) H H' → (∀ b, foot A' s' b → foot A s b ∨ H b = none) → A'.ad .p = A.ad .p → A'.fa = A.fa → Q .non H') : PostR K A m fs s H Q E (.ok s')
  | hollow {x : Str} (h : ∀ d, H d = none → E (.ref (He.ga K "Hollow")) (some d) (upd H d (.xd (nmX x)))) : PostR K A m fs s H Q E (.hollow x)
  | refused {x : Str} (h : ∀ d, H d = none → E (.ref (He.ga K "Refused")) (some d) (upd H d (.xd (nmX x)))) : PostR K A m fs s H Q E (.refused x)
theorem PostR.isOk {A : SA} {m : Nat} {fs : List Str} {s s' : StS} {H : Hp} {Q : VK} {E : XK} : PostR K A m fs s H Q E (.ok s') → ∀ A' H', Sto (cSto K) H' A' (m + 1) fs s' → Chg (foot A s) H H' → (∀ b, foot A' s' b → foot A s b ∨ H b = none) → A'.ad .p = A.ad .p → A'.fa = A.fa → Q .non H'
  | .ok h => h
theorem PostR.isHollow {A : SA} {m : Nat} {fs : List Str} {s : StS} {H : Hp} {Q : VK} {E : XK} {x : Str} : PostR K A m fs s H Q E (.hollow x) → ∀ d, H d = none → E (.ref (He.ga K "Hollow")) (some d) (upd H d (.xd (nmX x)))
  | .hollow h => h
theorem PostR.isRefused {A : SA} {m : Nat} {fs : List Str} {s : StS} {H : Hp} {Q : VK} {E : XK} {x : Str} : PostR K A m fs s H Q E (.refused x) → ∀ d, H d = none → E (.ref (He.ga K "Refused")) (some d) (upd H d (.xd (nmX x)))
  | .refused h => h
end
end TW
set_option maxHeartbeats 4000000
/-! ## things and hits in lists; what a store must have -/
namespace TW
open PySem PySem.Spec PyProof.Rows L2 TwN
theorem tgD_lay (t : Tg) : Lay 1 (tgD t) := by
  cases t with
  | st n => exact ⟨by simp only [tgD, PyData.canLay0, PyData.canLayAll0]; decide +kernel, by simp [tgD, PyData.depth, PyData.depthAll]⟩
  | ow n => exact ⟨by simp only [tgD, PyData.canLay0, PyData.canLayAll0]; decide +kernel, by simp [tgD, PyData.depth, PyData.depthAll]⟩
theorem tgs_shaped (l : List Tg) : SeqAt.shaped (.list (l.map tgD)) = true := (Lay.lst (k := 1) fun d hd => by
  obtain ⟨t, _, rfl⟩ := List.mem_map.mp hd
  exact tgD_lay t).shaped (by decide)
theorem int_beq (a b : Nat) : (((a : Nat) : Int) == ((b : Nat) : Int)) = decide (a = b) := by
  by_cases h : a = b
  · subst h; simp
  · rw [decide_eq_false h]; exact beq_eq_false_iff_ne.mpr (by omega)
theorem str_beq (a b : Str) : (a == b) = decide (a = b) := by
  by_cases h : a = b
  · subst h; simp
  · rw [decide_eq_false h]; exact beq_eq_false_iff_ne.mpr h
theorem tgD_eqv (a b : Tg) : PyData.eqv (tgD a) (tgD b) = decide (a = b) := by
  cases a with
  | st n => cases b with
    | st m =>
      simp only [tgD, PyData.eqv, PyData.eqvAll, int_beq, str_beq, Bool.and_true]
      by_cases h : n = m
      · subst h; simp
      · have : Tg.st n ≠ Tg.st m := fun z => h (by injection z)
        simp [h]
    | ow m =>
      simp only [tgD, PyData.eqv, PyData.eqvAll, str_beq]
      rw [decide_eq_false start_ne_own]
      simp
  | ow n => cases b with
    | st m =>
      simp only [tgD, PyData.eqv, PyData.eqvAll, str_beq]
      rw [decide_eq_false start_ne_own.symm]
      simp
    | ow m =>
      simp only [tgD, PyData.eqv, PyData.eqvAll, int_beq, str_beq, Bool.and_true]
      by_cases h : n = m
      · subst h; simp
      · simp [h]
theorem any_tg (l : List Tg) (t : Tg) : ((l.map tgD).any fun z => PyData.eqv z (tgD t)) = decide (t ∈ l) := by
  induction l with
  | nil => rfl
  | cons x r ih =>
    rw [List.map_cons, List.any_cons, ih, tgD_eqv]
    by_cases h : x = t
    · subst h; simp
    · by_cases h2 : t ∈ r
      · simp [h2]
      · simp [h, h2]
        exact fun z => h z.symm
theorem hitD_lay {p : Nat × Str} (h : GoodW p.2) : Lay 1 (hitD p) := by
  refine Lay.tup fun d hd => ?_
  rcases List.mem_cons.mp hd with rfl | hd
  · exact ⟨rfl, by simp [PyData.depth]⟩
  · rw [List.mem_singleton.mp hd]
    exact .str h
theorem hits_shaped {l : List (Nat × Str)} (h : ∀ p ∈ l, GoodW p.2) : SeqAt.shaped (.list (l.map hitD)) = true := (Lay.lst (k := 1) fun d hd => by
  obtain ⟨t, ht, rfl⟩ := List.mem_map.mp hd
  exact hitD_lay (h t ht)).shaped (by decide)
theorem hitD_eqv (a b : Nat × Str) : PyData.eqv (hitD a) (hitD b) = decide (a = b) := by
  obtain ⟨n, x⟩ := a
  obtain ⟨m, y⟩ := b
  simp only [hitD, PyData.eqv, PyData.eqvAll, int_beq, str_beq, Bool.and_true]
  by_cases h1 : n = m
  · by_cases h2 : x = y
    · subst h1 h2; simp
    · simp [h1, h2]
  · simp [h1]
theorem any_hit (l : List (Nat × Str)) (t : Nat × Str) : ((l.map hitD).any fun z => PyData.eqv z (hitD t)) = decide (t ∈ l) := by
  induction l with
  | nil => rfl
  | cons x r ih =>
    rw [List.map_cons, List.any_cons, ih, hitD_eqv]
    by_cases h : x = t
    · subst h; simp
    · by_cases h2 : t ∈ r
      · simp [h2]
      · simp [h, h2]
        exact fun z => h z.symm
theorem DtAll.atM {H : Hp} {α : Type} {f : α → PyData} : ∀ {vs : List V} {l : List α} {i : Nat} {x : α}, DtAll H vs (l.map f) → l[i]? = some x → ∃ v, vs[i]? = some v ∧ Dt H v (f x)
  | [], y :: r, i, x, h, _ => by cases h
  | v :: vs, y :: r, 0, x, h, e => by
    cases h with
    | cons h1 h2 =>
      have e : y = x := by simpa using e
      subst e
      exact ⟨v, rfl, h1⟩
  | v :: vs, y :: r, i + 1, x, h, e => by
    cases h with
    | cons h1 h2 =>
      obtain ⟨u, h3, h4⟩ := DtAll.atM (i := i) h2 (by simpa using e)
      exact ⟨u, by simpa using h3, h4⟩
theorem DtAll.inv {H : Hp} {α : Type} {f : α → PyData} {vs : List V} {l : List α} {i : Nat} {v : V} (h : DtAll H vs (l.map f)) (e : vs[i]? = some v) : ∃ x, l[i]? = some x ∧ Dt H v (f x) := by
  have hi : i < vs.length := (List.getElem?_eq_some_iff.mp e).1
  have hl := h.len
  rw [List.length_map] at hl
  have ex : l[i]? = some (l[i]'(by omega)) := List.getElem?_eq_getElem (by omega)
  obtain ⟨u, h1, h2⟩ := h.atM ex
  rw [e] at h1
  cases h1
  exact ⟨_, ex, h2⟩
theorem DtAll.drop {H : Hp} : ∀ {n : Nat} {vs : List V} {ds : List PyData}, DtAll H vs ds → DtAll H (vs.drop n) (ds.drop n)
  | 0, _, _, h => h
  | n + 1, [], _, .nil => by simpa using DtAll.nil
  | n + 1, _ :: _, _, .cons _ t => t.drop
theorem DtAll.snocM {H : Hp} {α : Type} {f : α → PyData} {vs : List V} {l : List α} {v : V} {x : α} (h : DtAll H vs (l.map f)) (hv : Dt H v (f x)) : DtAll H (vs ++ [v]) ((l ++ [x]).map f) := by
  rw [List.map_append]
  exact h.snoc hv
theorem atI_snd {α : Type} (xs : List α) (u v : α) : atI (xs ++ [u, v]) (-2) = some u := by
  have hl : (xs ++ [u, v]).length = xs.length + 2 := by simp
  have e : ixN (xs ++ [u, v]).length (-2) = some xs.length := by
    unfold ixN
    rw [hl, if_neg (by omega), if_pos (by omega)]
    congr 1
    omega
  unfold atI
  rw [e]
  simp
/-- what a store has -/
structure SOk (fs : List Str) (s : StS) : Prop where
  wf : WF fs s
  gd : SGd GoodW fs s
  fl : s.fro.length = s.now
  sm : s.nst + s.now ≤ 200
  wl : s.wat.length ≤ 1000
  hl : s.hits.length ≤ 1000
  sl : s.seen.length ≤ 1000
theorem SOk.fro {fs : List Str} {s : StS} (h : SOk fs s) {k : Nat} (hk : k < s.now) : k < s.fro.length := by rw [h.fl]; exact hk
end TW
set_option maxHeartbeats 4000000
/-! ## the store: look, what is in sight -/
namespace TW
open PySem PySem.Spec PyProof.Rows L2 TwN
section
variable {C : Addr} {H : Hp} {A : SA} {m m' : Nat} {fs : List Str} {s : StS}
theorem Good.mono {r : Ro} {o : HO} (hm : m ≤ m') (h : Good C A m fs s H r o) : Good C A m' fs s H r o := by
  cases r with
  | ho =>
    obtain ⟨kvs, h1, h2, h3⟩ := h
    exact ⟨kvs, h1, Nat.le_trans h2 hm, h3⟩
  | _ => exact h
theorem Sto.mono (h : Sto C H A m fs s) (hm : m ≤ m') : Sto C H A m' fs s := ⟨h.inj, h.fa, fun r hr => by
  obtain ⟨o, h1, h2⟩ := h.at_ r hr
  exact ⟨o, h1, h2.mono hm⟩⟩
/-- a variable is set -/
theorem Sto.setHold (h : Sto C H A m fs s) {kvs : List (Key × V)} {v : V} {t : Option Tg} (hl : kvs.length ≤ m) (hv : ∀ x, Dt H ((valV kvs (strK x)).getD .non) (tvD (s.hold x))) (x : Str) (dv : Dt H v (tvD t)) :
    Sto C (upd H (A.ad .ho) (.dK (putK kvs (strK x) v))) A (m + 1) fs { s with hold := set1 s.hold x t } := by
  have k : KeepT H (upd H (A.ad .ho) (.dK (putK kvs (strK x) v))) := KeepT.put (h.ntup (r := .ho) trivial)
  refine h.set (r := .ho) trivial (fun _ => Iff.rfl) ⟨_, rfl, ?_, fun y => ?_⟩ fun r o hne hr hg => ?_
  · have := length_putK kvs (strK x) v
    omega
  · rw [valV_put]
    show Dt _ _ (tvD (if y = x then t else s.hold y))
    by_cases e : y = x
    · subst e
      rw [if_pos rfl, if_pos rfl]
      exact dv.keep k
    · rw [if_neg fun z => e (strK_inj _ _ z), if_neg e]
      exact (hv y).keep k
  · have hg := hg.mono (Nat.le_succ m)
    cases r with
    | ho => exact absurd rfl hne
    | _ => exact hg
/-- the source is noted -/
theorem Sto.setSeen (h : Sto C H A m fs s) {vs : List V} {v : V} {p : Nat × Str} (hv : DtAll H vs (s.seen.map hitD)) (dv : Dt H v (hitD p)) (hn : p ∉ s.seen) : Sto C (upd H (A.ad .sn) (.lst (vs ++ [v]))) A m fs { s with seen := vis s.seen (some p) } := by
  have k : KeepT H (upd H (A.ad .sn) (.lst (vs ++ [v]))) := KeepT.put (h.ntup (r := .sn) trivial)
  refine h.set (r := .sn) trivial (fun _ => Iff.rfl) ⟨_, rfl, ?_⟩ fun r o hne hr hg => ?_
  · rw [vis_new hn]
    exact (hv.keep k).snocM (f := hitD) (dv.keep k)
  · cases r with
    | sn => exact absurd rfl hne
    | _ => exact hg
end
section
variable {P : Program} {w : World} {K : PySem.W.Frag} {mg : Str → Option Value} {base h : Heap}
def sp_look (K : PySem.W.Frag) : Sp := fun vs H Q E => ∃ (A : SA) (m : Nat) (fs : List Str) (s : StS) (x y f : Str), vs = [.ref (A.ad .p), .str x, .str y, .str f] ∧ Sto (cSto K) H A m fs s ∧ Fields fs ∧ f ∈ fs ∧ SOk fs s ∧ m ≤ 10000 ∧ PostR K A m fs s H Q E (lookP s x y f)
theorem p_Store_look (T : Tx w K mg h) : MetX P w K mg base 3 (cSto K) "look" (sp_look K) :=
  metX T.f_Store_look T.c_Store T.m_Store_look sc_Store_look (fun vs H Q E ⟨_, _, _, _, _, _, _, e, _⟩ => by rw [e]; rfl) fun cdv A' outer s' H vs Q E hr ⟨A, m, fs, s, x, y, f, e, st, hF, hf, ok, hm, q⟩ => by
    subst e
    have cl := T.c_Store
    refine ⟨_, (pss_cons (ps_set (i := 4) sc_Store_look.nd rfl (by first | exact Or.inl rfl | exact Or.inr rfl) (C8.pe_mt (p_Store_held_by T) hr (by decide) (pv 0) (pa_cons (pv 2) pa_nil)))
  (pss_cons (ps_if (pt_cmp (pc_isN (pv 4))) (pss_one (ps_raise (by rfl) (takes_of rfl rfl rfl rfl) (pmk_oex T.ox_Hollow T.oi_Hollow T.ot (p_RunError_init T) (hr.mono (by decide)) (b_init T) .nil C8.pass0 (by rfl) T.g_Hollow (pa_cons (pv 2) pa_nil)))) pss_nil)
  (pss_cons (ps_asg (pe_dget (hu_of hr) (pe_dget (hu_of hr) (pe_fld (pv 0) (by rfl)) (pv 4) (fun _ _ => rfl)) (pv 3) (fun _ _ => rfl)) (pg_tup (by rfl) (pgs_cons (pg_name (i := 5) sc_Store_look.nd rfl (by first | exact Or.inl rfl | exact Or.inr rfl)) (pgs_cons (pg_name (i := 6) sc_Store_look.nd rfl (by first | exact Or.inl rfl | exact Or.inr rfl)) pgs_nil))))
  (pss_cons (ps_if (PW.pt (pw_and (pt_cmp (pc_notN (pv 6))) (pw_and1 (pt_cmpR (op_notInD (hu65 hr)) (pv 6) (pe_fld (pv 0) (by rfl)) (by with_unfolding_all rfl))))) (pss_one (ps_expr (pe_bm PySem.F.plainAttrs_list PySem.F.slot_list_append PySem.F.type_list_append mt_append (pe_fld (pv 0) (by rfl)) (pa_cons (pv 6) pa_nil)))) pss_nil)
  (pss_one (ps_dput (hu_of hr) (pe_fld (pv 0) (by rfl)) (pv 1) (pv 5) (by rfl))))))), ?_⟩
    refine ⟨_, rfl, A.ad .p, A.dx, _, rfl, st.p, rfl, _, rfl, A, m, fs, s, y, rfl, st, fun v dv => ?_⟩
    cases hy : s.hold y with
    | none =>
      rw [hy] at dv
      have ev := dv.tv_none
      subst ev
      rw [lookP_none hy] at q
      exact ⟨_, rfl, true, rfl, iteT ⟨_, rfl, raised T.xh q.isHollow⟩⟩
    | some t =>
      rw [hy] at dv
      rw [lookP_some hy] at q
      have q := q.isOk
      have ti := ok.wf.hold y t hy
      obtain ⟨a, rfl, ha⟩ := Dt.tg (t := t) dv
      obtain ⟨ps, hc, hps⟩ := st.ce ti
      obtain ⟨p, v1, v2, ep, hp, d1, d2⟩ := (hps f hf).pair
      obtain ⟨kvs, h1, h2, h3⟩ := st.ho
      obtain ⟨us, h4, h5⟩ := st.sn
      refine ⟨_, rfl, false, rfl, iteF ?_⟩
      refine ⟨_, rfl, A.ad .p, _, A.dx, _, _, rfl, st.p, cl, T.n_Store_cells, rfl, _, rfl, A.ad .cd, .ref (A.ad (.ce t)), rfl, dgetT st.cd ha (st.cell ti), _, rfl, A.ad (.ce t), ps f, rfl, dgetK (k := strK f) hc (kvF_at strK_inj hf), p, _, ep, SqT.of hp, rfl, v1, [v2], rfl, v2, [], rfl, rfl, ?_⟩
      cases hs : s.src t f with
      | none =>
        rw [hs] at d2
        have e2 := Dt.nonv d2
        subst e2
        refine ⟨_, rfl, false, rfl, iteF (iteF ?_)⟩
        refine ⟨_, rfl, _, rfl, A.ad .p, _, A.dx, _, _, rfl, st.p, cl, T.n_Store_holding, rfl, _, rfl, A.ad .ho, _, rfl, DPut.k (k := strK x) h1 (small_lt (by omega)), ?_⟩
        refine q A _ ?_ (st.chg (r := .ho) trivial _) (fun b hb => .inl hb) rfl rfl
        rw [show vis s.seen (s.src t f) = s.seen by rw [hs]; rfl]
        exact st.setHold h2 h3 x d1
      | some r =>
        rw [hs] at d2
        have gr : r.2 ∈ fs := ok.gd.src t f r hs
        obtain ⟨b, rfl, hb⟩ := Dt.hit (p := r) d2
        refine ⟨_, rfl, true, rfl, iteT ?_⟩
        refine ⟨_, rfl, _, rfl, A.ad .p, _, A.dx, _, _, rfl, st.p, cl, T.n_Store_seen, rfl, hitD r, s.seen.map hitD, Dt.dp d2, Dp.lst (SqL.of h4) (DtAll.dp h5), (hitD_lay (hF.good _ gr)).shaped (by decide), hits_shaped fun z hz => hF.good _ (ok.gd.seen z hz), ?_⟩
        rw [any_hit]
        by_cases hm2 : r ∈ s.seen
        · rw [decide_eq_true hm2]
          refine ⟨false, rfl, iteF ?_⟩
          refine ⟨_, rfl, _, rfl, A.ad .p, _, A.dx, _, _, rfl, st.p, cl, T.n_Store_holding, rfl, _, rfl, A.ad .ho, _, rfl, DPut.k (k := strK x) h1 (small_lt (by omega)), ?_⟩
          refine q A _ ?_ (st.chg (r := .ho) trivial _) (fun b hb => .inl hb) rfl rfl
          rw [show vis s.seen (s.src t f) = s.seen by rw [hs, vis_old hm2]]
          exact st.setHold h2 h3 x d1
        · rw [decide_eq_false hm2]
          have hl := h5.len
          rw [List.length_map] at hl
          refine ⟨true, rfl, iteT ⟨_, rfl, A.ad .p, _, A.dx, _, _, rfl, st.p, cl, T.n_Store_seen, rfl, .inl ⟨rfl, _, SqL.of h4⟩, _, rfl, A.ad .sn, _, _, rfl, rfl, h4, small_lt (by have := ok.sl; omega), ?_⟩⟩
          have st2 := st.setSeen h5 d2 hm2
          have c2 := st.chg (r := .sn) trivial (.lst (us ++ [.ref b]))
          obtain ⟨kvs, h1, h2, h3⟩ := st2.ho
          refine ⟨_, rfl, _, rfl, A.ad .p, _, A.dx, _, _, rfl, st2.p, cl, T.n_Store_holding, rfl, _, rfl, A.ad .ho, _, rfl, DPut.k (k := strK x) h1 (small_lt (by omega)), ?_⟩
          refine q A _ ?_ (c2.trans (st2.chg (r := .ho) trivial _)) (fun b hb => .inl hb) rfl rfl
          rw [hs]
          exact st2.setHold h2 h3 x (d1.keep c2.tup)
end
end TW
set_option maxHeartbeats 4000000
/-! ## the store: what is in sight -/
namespace TW
open PySem PySem.Spec PyProof.Rows L2 TwN
section
variable {P : Program} {w : World} {K : PySem.W.Frag} {mg : Str → Option Value} {base h : Heap}
/-- if v is not None and v not in l: l.append(v) -/
theorem vis_step {l : Addr} {us : List V} {o : List Tg} {v : V} {t : Option Tg} {i li : Nat} {σ : L2.St} {H : Hp} {D : L2.Ends} (hi : σ[i]? = some (some v)) (hl : σ[li]? = some (some (.ref l))) (hL : H l = some (.lst us)) (hu : DtAll H us (o.map tgD)) (dv : Dt H v (tvD t)) (hb : o.length ≤ 1000)
    (q : ∀ H' us', H' l = some (.lst us') → DtAll H' us' ((vis o t).map tgD) → (∀ b, b ≠ l → H' b = H b) → D.nx σ H') :
    tIfS (tAnd (tB (tNotN (tVar i))) (tTest (tOp (rNotInD K) (tVar i) (tVar li)))) (tDrop (tBM K "list" rAppend (tVar li) (tCons (tVar i) tNil))) tNext D σ H := by
  cases t with
  | none =>
    have e := dv.tv_none
    subst e
    exact ⟨_, hi, false, rfl, iteF (iteF (q H us hL hu fun _ _ => rfl))⟩
  | some t =>
    have dv : Dt H v (tgD t) := dv
    obtain ⟨a, rfl, ha⟩ := Dt.tg dv
    refine ⟨_, hi, true, rfl, iteT ⟨_, hi, _, hl, tgD t, o.map tgD, dv.dp, Dp.lst (SqL.of hL) (DtAll.dp hu), (tgD_lay t).shaped (by decide), tgs_shaped o, ?_⟩⟩
    rw [any_tg]
    by_cases ht : t ∈ o
    · rw [decide_eq_true ht]
      refine ⟨false, rfl, iteF (q H us hL ?_ fun _ _ => rfl)⟩
      rw [vis_old ht]
      exact hu
    · rw [decide_eq_false ht]
      have hlen := hu.len
      rw [List.length_map] at hlen
      refine ⟨true, rfl, iteT ⟨_, hl, .inl ⟨rfl, _, SqL.of hL⟩, _, hi, l, _, _, rfl, rfl, hL, small_lt (by omega), q _ _ upd_same ?_ fun b hb => upd_ne hb⟩⟩
      have k : KeepT H (upd H l (.lst (us ++ [.ref a]))) := KeepT.at_ hL fun _ z => by cases z
      rw [vis_new ht]
      exact (hu.keep k).snocM (f := tgD) (dv.keep k)
theorem atI_lst2 {α : Type} (xs : List α) (u v : α) : atI (xs ++ [u, v]) (-1) = some v := by
  have := atI_last (xs ++ [u]) v
  rwa [List.append_assoc] at this
theorem inn_len {s : StS} {o : List Tg} (nd : o.Nodup) (hi : ∀ t ∈ o, s.inn t) (hs : s.nst + s.now ≤ 200) : o.length ≤ 200 := by
  have := nodup_le (d := dom s.nst s.now) nd fun t ht => dom_mem.mpr (hi t ht)
  rw [dom_len] at this
  omega
def lay (fs : List Str) (s : StS) (o ts : List Tg) : List Tg := ts.foldl (fun o t => visL o (nbs fs s t)) o
theorem sgt_succ (fs : List Str) (s : StS) (r : Tg) (i : Nat) : sgt (nbs fs s) r (i + 1) = (lay fs s (sgt (nbs fs s) r i).1 ((sgt (nbs fs s) r i).1.drop (sgt (nbs fs s) r i).2), (sgt (nbs fs s) r i).1.length) := rfl
theorem lay_take {fs : List Str} {s : StS} {o ts : List Tg} {j : Nat} {t : Tg} (h : ts[j]? = some t) : lay fs s o (ts.take (j + 1)) = visL (lay fs s o (ts.take j)) (nbs fs s t) := by
  unfold lay
  rw [List.take_add_one, h, List.foldl_append]
  rfl
theorem sgt_le {nb : Tg → List (Option Tg)} {r : Tg} : ∀ i, (sgt nb r i).2 ≤ (sgt nb r i).1.length
  | 0 => Nat.zero_le _
  | i + 1 => by
    show (sgt nb r i).1.length ≤ (((sgt nb r i).1.drop (sgt nb r i).2).foldl (fun o t => visL o (nb t)) (sgt nb r i).1).length
    have : ∀ (ts o : List Tg), o.length ≤ (ts.foldl (fun o t => visL o (nb t)) o).length := by
      intro ts
      induction ts with
      | nil => intro o; exact Nat.le_refl _
      | cons t ts ih => intro o; exact Nat.le_trans (visL_pre (nb t) o).length_le (ih _)
    exact this _ _
def sp_in_sight (C : Addr) : Sp := fun vs H Q _ => ∃ (A : SA) (m : Nat) (fs : List Str) (s : StS) (v : V) (t : Option Tg) (d : Nat), vs = [.ref (A.ad .p), v, .int (d : Nat)] ∧ Sto C H A m fs s ∧ Dt H v (tvD t) ∧ (∀ u, t = some u → s.inn u) ∧ WF fs s ∧ s.nst + s.now ≤ 200 ∧ d ≤ 1000 ∧
  ∀ H' p us, Ext H H' → H' p = some (.lst us) → DtAll H' us ((sees fs s t d).map tgD) → Q (.ref p) H'
theorem p_Store_in_sight (T : Tx w K mg h) : C8.Met P w K mg base 1 (cSto K) "in_sight" (sp_in_sight (cSto K)) [] :=
  met T.f_Store_in_sight T.c_Store T.m_Store_in_sight sc_Store_in_sight (fun vs H Q E ⟨_, _, _, _, _, _, _, e, _⟩ => by rw [e]; rfl) fun cdv A' outer s' H vs Q E hr ⟨A, m, fs, s, v, t, d, e, st, dv, ht, wf, sm, hd, q⟩ => by
    subst e
    have cl := T.c_Store
    refine ⟨_, (pss_cons (ps_if (pt_cmp (pc_isN (pv 1))) (pss_one (ps_ret (pe_lst pa_nil))) pss_nil)
  (pss_cons (ps_set (i := 3) sc_Store_in_sight.nd rfl (by first | exact Or.inl rfl | exact Or.inr rfl) (pe_lst (pa_cons (pv 1) pa_nil)))
  (pss_cons (ps_set (i := 4) sc_Store_in_sight.nd rfl (by first | exact Or.inl rfl | exact Or.inr rfl) (pe_lst (pa_cons pe_int pa_nil)))
  (pss_cons (ps_for PassesOwn.never (by rfl) (pi_range1 (by rfl) T.z_range (pa_cons (pv 2) pa_nil)) (pg_name (i := 5) sc_Store_in_sight.nd rfl (by first | exact Or.inl rfl | exact Or.inr rfl))
  (pss_cons (ps_expr (pe_bm PySem.F.plainAttrs_list PySem.F.slot_list_append PySem.F.type_list_append mt_append (pv 4) (pa_cons (pe_callB call_len_seq (by rfl) T.z_len (by decide +kernel) (pa_cons (pv 3) pa_nil)) pa_nil)))
  (pss_one (ps_for PassesOwn.never (by rfl) (pi_list (pe_slice sl_list (pv 3) (po_some (pe_ix ix_list (pv 4) (pe_un un_neg pe_int) (fun _ _ => rfl))) (po_some (pe_ix ix_list (pv 4) (pe_un un_neg pe_int) (fun _ _ => rfl))))) (pg_name (i := 6) sc_Store_in_sight.nd rfl (by first | exact Or.inl rfl | exact Or.inr rfl))
  (pss_one (ps_lock (ps_for PassesOwn.never (by rfl) (pi_values (pe_dget (hu_of hr) (pe_fld (pv 0) (by rfl)) (pv 6) (fun _ _ => rfl))) (pg_tup (by rfl) (pgs_cons (pg_name (i := 7) sc_Store_in_sight.nd rfl (by first | exact Or.inl rfl | exact Or.inr rfl)) (pgs_cons (pg_name (i := 8) sc_Store_in_sight.nd rfl (by first | exact Or.inl rfl | exact Or.inr rfl)) pgs_nil)))
  (pss_one (ps_if (PW.pt (pw_and (pt_cmp (pc_notN (pv 7))) (pw_and1 (pt_cmpR (op_notInD (hu65 hr)) (pv 7) (pv 3) (by with_unfolding_all rfl))))) (pss_one (ps_expr (pe_bm PySem.F.plainAttrs_list PySem.F.slot_list_append PySem.F.type_list_append mt_append (pv 3) (pa_cons (pv 7) pa_nil)))) pss_nil)))))))))
  (pss_one (ps_ret (pv 3))))))), ?_⟩
    cases t with
    | none =>
      have e := dv.tv_none
      subst e
      exact ⟨_, rfl, true, rfl, iteT ⟨by decide, fun p np => q _ p [] (Ext.upd np) upd_same .nil⟩⟩
    | some r =>
      have dv : Dt H v (tgD r) := dv
      obtain ⟨a, rfl, ha⟩ := Dt.tg dv
      refine ⟨_, rfl, false, rfl, iteF ⟨_, rfl, by show 1 ≤ sizeLine; decide, fun p np => ⟨by show 1 ≤ sizeLine; decide, fun e ne => ?_⟩⟩⟩
      have ne0 : H e = none := ext_none (Ext.upd np) ne
      have hpe : p ≠ e := fun z => by rw [z, upd_same] at ne; cases ne
      have x0 : Ext H (upd (upd H p (.lst [.ref a])) e (.lst [.int 0])) := (Ext.upd np).trans (Ext.upd ne)
      have hp0 : upd (upd H p (.lst [.ref a])) e (.lst [.int 0]) p = some (.lst [.ref a]) := by rw [upd_ne hpe, upd_same]
      have he0 : upd (upd H p (.lst [.ref a])) e (.lst [.int 0]) e = some (.lst ([] ++ [.int ((0 : Nat) : Int)])) := upd_same
      generalize upd (upd H p (.lst [.ref a])) e (.lst [.int 0]) = H0 at x0 hp0 he0
      have nd := sgt_nodup (nb := nbs fs s) (r := r)
      have inn := sgt_all (nb := nbs fs s) (P := s.inn) (ht r rfl) fun x hx y hy => wf.nbs x hx y hy
      have len := fun i => inn_len (nd i) (inn i) sm
      refine ⟨_, rfl, (d : Int), rfl, by omega, by omega, for_it walk_range (fun i σ' H' => ∃ (a1 a2 a3 a4 : Option V) (us pre : List V), σ' = [some (.ref (A.ad .p)), some (.ref a), some (.int (d : Nat)), some (.ref p), some (.ref e), a1, a2, a3, a4] ∧ Ext H H' ∧ H' p = some (.lst us) ∧
          DtAll H' us ((sgt (nbs fs s) r i).1.map tgD) ∧ H' e = some (.lst (pre ++ [.int ((sgt (nbs fs s) r i).2 : Nat)])) ∧ pre.length ≤ i) ⟨_, _, _, _, [.ref a], [], rfl, x0, hp0, .cons (dv.keep (ext_keep x0)) .nil, he0, Nat.le_refl _⟩ (fun _ _ _ _ _ => trivial)
          (fun i v σ' Hz H1 hi ⟨a1, a2, a3, a4, us, pre, e1, x1, hp1, hu1, he1, hl1⟩ ⟨e2, ev⟩ => ?_) fun σ' H1 ⟨a1, a2, a3, a4, us, pre, e1, x1, hp1, hu1, he1, hl1⟩ => ?_⟩
      · subst e1 e2 ev
        have hi : i < d := by simpa using hi
        have hul := hu1.len
        rw [List.length_map] at hul
        have leni := len i
        refine ⟨_, rfl, .inl ⟨rfl, _, SqL.of he1⟩, _, rfl, p, us, rfl, .inl (SqL.of hp1), e, _, _, rfl, rfl, he1, small_lt (by simp; omega), ?_⟩
        have x2 : Ext H (upd H1 e (.lst (pre ++ [.int ((sgt (nbs fs s) r i).2 : Nat)] ++ [.int us.length]))) := extSet x1 ne0
        have hp2 : upd H1 e (.lst (pre ++ [.int ((sgt (nbs fs s) r i).2 : Nat)] ++ [.int us.length])) p = some (.lst us) := by rw [upd_ne hpe]; exact hp1
        have he2 : upd H1 e (.lst (pre ++ [.int ((sgt (nbs fs s) r i).2 : Nat)] ++ [.int us.length])) e = some (.lst (pre ++ [.int ((sgt (nbs fs s) r i).2 : Nat), .int us.length])) := by rw [upd_same, List.append_assoc]; rfl
        have hu2 := hu1.keep (KeepT.at_ (o := .lst (pre ++ [.int ((sgt (nbs fs s) r i).2 : Nat)] ++ [.int us.length])) he1 fun _ z => by cases z)
        generalize upd H1 e (.lst (pre ++ [.int ((sgt (nbs fs s) r i).2 : Nat)] ++ [.int us.length])) = H2 at x2 hp2 he2 hu2
        have hle := sgt_le (nb := nbs fs s) (r := r) i
        refine ⟨_, rfl, _, rfl, _, rfl, e, _, _, _, rfl, rfl, SqL.of he2, atI_snd _ _ _, _, rfl, _, rfl, _, rfl, e, _, _, _, rfl, rfl, SqL.of he2, atI_lst2 _ _ _, _, rfl, p, us, rfl, SqL.of hp2, fun l nl => ?_⟩
        have ec : cutV us (some ((sgt (nbs fs s) r i).2 : Int)) (some (us.length : Int)) = us.drop (sgt (nbs fs s) r i).2 := by
          unfold cutV
          rw [HT.sIx_nat, HT.sIx_nat, Nat.min_eq_left (by omega : (sgt (nbs fs s) r i).2 ≤ us.length), Nat.min_self]
          exact List.take_of_length_le (by rw [List.length_drop]; omega)
        rw [ec]
        have nl0 : H l = none := ext_none x2 nl
        have x3 : Ext H (upd H2 l (.lst (us.drop (sgt (nbs fs s) r i).2))) := x2.trans (Ext.upd nl)
        have hpl : p ≠ l := (ne_of_none hp2 nl)
        have hel : e ≠ l := (ne_of_none he2 nl)
        have hp3 : upd H2 l (.lst (us.drop (sgt (nbs fs s) r i).2)) p = some (.lst us) := by rw [upd_ne hpl]; exact hp2
        have he3 : upd H2 l (.lst (us.drop (sgt (nbs fs s) r i).2)) e = some (.lst (pre ++ [.int ((sgt (nbs fs s) r i).2 : Nat), .int us.length])) := by rw [upd_ne hel]; exact he2
        have hl3 : upd H2 l (.lst (us.drop (sgt (nbs fs s) r i).2)) l = some (.lst (us.drop (sgt (nbs fs s) r i).2)) := upd_same
        have hu3 := hu2.keep (ext_keep (Ext.upd (p := l) (o := .lst (us.drop (sgt (nbs fs s) r i).2)) nl))
        generalize upd H2 l (.lst (us.drop (sgt (nbs fs s) r i).2)) = H3 at x3 hp3 he3 hl3 hu3
        have hd3 : DtAll H3 (us.drop (sgt (nbs fs s) r i).2) (((sgt (nbs fs s) r i).1.drop (sgt (nbs fs s) r i).2).map tgD) := by rw [List.map_drop]; exact hu3.drop
        have hs := sgt_succ fs s r i
        have inn0 := inn i
        have nd0 := nd i
        generalize (sgt (nbs fs s) r i).1 = o at hu3 hd3 hs inn0 nd0 hul leni hle
        generalize (sgt (nbs fs s) r i).2 = b at hu3 hd3 hs he3 hl3 hle
        have innT : ∀ t ∈ o.drop b, s.inn t := fun t ht => inn0 t (List.drop_subset _ _ ht)
        have innL : ∀ j, ∀ t ∈ lay fs s o ((o.drop b).take j), s.inn t := fun j => layer_all (P := s.inn) (fun x hx y hy => wf.nbs x hx y hy) (fun x hx => innT x (List.take_subset _ _ hx)) inn0
        have ndL : ∀ j, (lay fs s o ((o.drop b).take j)).Nodup := fun j => layer_nodup nd0
        refine ⟨l, rfl, ⟨_, SqL.of hl3⟩, for_it (walk_list (xs := us.drop b)) (fun j σ' H' => ∃ (a2 a3 a4 : Option V) (us' : List V), σ' = [some (.ref (A.ad .p)), some (.ref a), some (.int (d : Nat)), some (.ref p), some (.ref e), some (.int (0 + (i : Nat))), a2, a3, a4] ∧ H' p = some (.lst us') ∧
          DtAll H' us' ((lay fs s o ((o.drop b).take j)).map tgD) ∧ ∀ c, c ≠ p → H' c = H3 c) ⟨_, _, _, us, rfl, hp3, hu3, fun _ _ => rfl⟩ (fun j σ' H' _ ⟨_, _, _, _, _, _, _, fr⟩ => SqL.of ((fr l hpl.symm).trans hl3))
          (fun j v σ' Hz H4 hj ⟨a2, a3, a4, us4, e1, hp4, hu4, fr4⟩ ⟨e2, ev⟩ => ?_) fun σ' H4 ⟨a2, a3, a4, us4, e1, hp4, hu4, fr4⟩ => ?_⟩
        · subst e1 e2
          obtain ⟨t, et, dt⟩ := hd3.inv (f := tgD) ev
          have ti := innT t (List.mem_of_getElem? et)
          obtain ⟨at_, rfl, hat⟩ := dt.tg
          have k34 : KeepT H3 H4 := fun c xs hc => (fr4 c (ne_of hc hp3 (by intro z; cases z))).trans hc
          have x4 : Ext H H4 := fun c u hc => (fr4 c fun z => by rw [z, np] at hc; cases hc).trans (x3 c u hc)
          have st4 := st.ext x4
          obtain ⟨ps, hc, hps⟩ := st.ce ti
          have hc4 := x4 _ _ hc
          have ncp : A.ad (.ce t) ≠ p := ne_of_none hc np
          have hat4 := k34 _ _ hat
          refine ⟨A.ad (.ce t), .dK (kvF strK ps fs), hc4, trivial, fun od => ?_⟩
          have npc : A.ad .p ≠ A.ad (.ce t) := fun z => by have := st.inj .p (.ce t) trivial ti z; cases this
          have ndc : A.ad .cd ≠ A.ad (.ce t) := fun z => by have := st.inj .cd (.ce t) trivial ti z; cases this
          have nac : at_ ≠ A.ad (.ce t) := ne_of hat4 hc4 (by intro z; cases z)
          have fp5 : upd H4 (A.ad (.ce t)) (.frz od (.dK (kvF strK ps fs))) (A.ad .p) = _ := (upd_ne npc).trans st4.p
          have fc5 : upd H4 (A.ad (.ce t)) (.frz od (.dK (kvF strK ps fs))) (A.ad .cd) = _ := (upd_ne ndc).trans st4.cd
          have fa5 : upd H4 (A.ad (.ce t)) (.frz od (.dK (kvF strK ps fs))) at_ = _ := (upd_ne nac).trans hat4
          have ff5 : upd H4 (A.ad (.ce t)) (.frz od (.dK (kvF strK ps fs))) (A.ad (.ce t)) = _ := upd_same
          have fpp5 : upd H4 (A.ad (.ce t)) (.frz od (.dK (kvF strK ps fs))) p = _ := (upd_ne ncp.symm).trans hp4
          have k45 : KeepT H4 (upd H4 (A.ad (.ce t)) (.frz od (.dK (kvF strK ps fs)))) := KeepT.at_ hc4 fun _ z => by cases z
          have fr5 : ∀ c, c ≠ A.ad (.ce t) → upd H4 (A.ad (.ce t)) (.frz od (.dK (kvF strK ps fs))) c = H4 c := fun c hc => upd_ne hc
          have hu5 := hu4.keep k45
          generalize upd H4 (A.ad (.ce t)) (.frz od (.dK (kvF strK ps fs))) = H5 at fp5 fc5 fa5 ff5 fpp5 k45 fr5 hu5
          refine ⟨_, rfl, A.ad .p, _, A.dx, _, _, rfl, fp5, cl, T.n_Store_cells, rfl, _, rfl, A.ad .cd, .ref (A.ad (.ce t)), rfl, dgetT fc5 fa5 (st.cell ti), A.ad (.ce t), od, _, rfl, ff5,
            for_it (walk_values (kvs := kvF strK ps fs)) (fun k σ' H' => ∃ (a3 a4 : Option V) (us' : List V), σ' = [some (.ref (A.ad .p)), some (.ref a), some (.int (d : Nat)), some (.ref p), some (.ref e), some (.int (0 + (i : Nat))), some (.ref at_), a3, a4] ∧ H' p = some (.lst us') ∧
              DtAll H' us' ((visL (lay fs s o ((o.drop b).take j)) ((nbs fs s t).take k)).map tgD) ∧ ∀ c, c ≠ p → H' c = H5 c) ⟨_, _, us4, rfl, fpp5, hu5, fun _ _ => rfl⟩ (fun k σ' H' _ ⟨_, _, _, _, _, _, fr⟩ => (fr _ ncp).trans ff5)
              (fun k v σ' Hz H6 hk ⟨a3, a4, us6, e1, hp6, hu6, fr6⟩ ⟨e2, key, ev⟩ => ?_) fun σ' H6 ⟨a3, a4, us6, e1, hp6, hu6, fr6⟩ => ?_⟩
          · subst e1 e2
            have ev2 : (fs.map fun x => (strK x, ps x))[k]? = some (key, v) := ev
            obtain ⟨f, hf, ef⟩ := map_at ev2
            injection ef with ef1 ef2
            subst ef2
            have hfm : f ∈ fs := List.mem_of_getElem? hf
            obtain ⟨pp, v1, v2, ep, hpp, d1, d2⟩ := (hps f hfm).pair
            have k06 : KeepT H H6 := fun c xs hcx => by
              rw [fr6 c (ne_of_none hcx np), fr5 c (ne_of hcx hc (by intro z; cases z))]
              exact x4 _ _ hcx
            refine ⟨pp, _, ep, SqT.of (k06 _ _ hpp), rfl, v1, [v2], rfl, v2, [], rfl, rfl, ?_⟩
            have hk' : (nbs fs s t)[k]? = some (s.val t f) := by unfold nbs; rw [List.getElem?_map, hf]; rfl
            refine vis_step (K := K) (i := 7) (li := 3) rfl rfl hp6 hu6 (d1.keep k06) ?_ fun H7 us7 hp7 hu7 fr7 => ⟨_, _, us7, rfl, hp7, ?_, fun c hc => (fr7 c hc).trans (fr6 c hc)⟩
            · refine Nat.le_trans (inn_len (visL_nodup (ndL j)) (fun u hu => ?_) sm) (by decide)
              rcases visL_sub hu with z | z
              · exact innL j u z
              · exact wf.nbs t ti u (List.mem_of_mem_take z)
            · rw [visL_take hk']
              exact hu7
          · subst e1
            have e5 : (nbs fs s t).take (kvF strK ps fs).length = nbs fs s t := List.take_of_length_le (by rw [kvF_len]; unfold nbs; rw [List.length_map]; exact Nat.le_refl _)
            rw [e5] at hu6
            have hc6 : H6 (A.ad (.ce t)) = _ := (fr6 _ ncp).trans ff5
            refine ⟨hc6, _, _, _, us6, rfl, (upd_ne ncp.symm).trans hp6, ?_, fun c hcp => ?_⟩
            · rw [lay_take et]
              exact hu6.keep (KeepT.at_ hc6 fun _ z => by cases z)
            · by_cases z : c = A.ad (.ce t)
              · subst z
                rw [upd_same, ← hc4]
                exact fr4 _ hcp
              · rw [upd_ne z, fr6 c hcp, fr5 c z, fr4 c hcp]
        · subst e1
          have e5 : (o.drop b).take (us.drop b).length = o.drop b := List.take_of_length_le (by rw [List.length_drop, List.length_drop]; omega)
          rw [e5] at hu4
          have x4 : Ext H H4 := fun c u hc => (fr4 c fun z => by rw [z, np] at hc; cases hc).trans (x3 c u hc)
          refine ⟨_, _, _, _, us4, pre ++ [.int (b : Nat)], rfl, x4, hp4, by rw [hs]; exact hu4, ?_, by simp; omega⟩
          rw [fr4 e hpe.symm, he3, hs, hul, List.append_assoc]
          rfl
      · subst e1
        exact ⟨_, rfl, q H1 p us x1 hp1 (show DtAll H1 us ((sgt (nbs fs s) r d).1.map tgD) by simpa using hu1)⟩
end
end TW
set_option maxHeartbeats 4000000
/-! ## the store: put -/
namespace TW
open PySem PySem.Spec PyProof.Rows L2 TwN
section
variable {κ α : Type} [DecidableEq κ] [DecidableEq α]
theorem putK_set {k : α → κ} {v : α → V} (hk : ∀ x y, k x = k y → x = y) {l : List α} {x : α} (hx : x ∈ l) (u : V) : putK (kvF k v l) (k x) u = kvF k (fun y => if y = x then u else v y) l := by
  unfold putK
  rw [valV_any, kvF_at hk hx, Option.isSome_some, if_pos rfl]
  unfold kvF
  rw [List.map_map]
  refine List.map_congr_left fun y _ => ?_
  show (if k y = k x then (k y, u) else (k y, v y)) = (k y, if y = x then u else v y)
  by_cases e : y = x
  · subst e; simp
  · rw [if_neg fun z => e (hk _ _ z), if_neg e]
end
section
variable {C : Addr} {H : Hp} {A : SA} {m m' : Nat} {fs : List Str} {s : StS}
theorem Sto.setHits (h : Sto C H A m fs s) {vs : List V} {v : V} {p : Nat × Str} (hv : DtAll H vs (s.hits.map hitD)) (dv : Dt H v (hitD p)) : Sto C (upd H (A.ad .ht) (.lst (vs ++ [v]))) A m fs { s with hits := s.hits ++ [p] } := by
  have k : KeepT H (upd H (A.ad .ht) (.lst (vs ++ [v]))) := KeepT.put (h.ntup (r := .ht) trivial)
  refine h.set (r := .ht) trivial (fun _ => Iff.rfl) ⟨_, rfl, (hv.keep k).snocM (f := hitD) (dv.keep k)⟩ fun r o hne hr hg => ?_
  cases r with
  | ht => exact absurd rfl hne
  | _ => exact hg
theorem Sto.setWat (h : Sto C H A m fs s) {vs : List V} {v : V} {p : Str × Option Tg × Nat} (hv : DtAll H vs (s.wat.map watD)) (dv : Dt H v (watD p)) : Sto C (upd H (A.ad .wt) (.lst (vs ++ [v]))) A m fs { s with wat := s.wat ++ [p] } := by
  have k : KeepT H (upd H (A.ad .wt) (.lst (vs ++ [v]))) := KeepT.put (h.ntup (r := .wt) trivial)
  refine h.set (r := .wt) trivial (fun _ => Iff.rfl) ⟨_, rfl, (hv.keep k).snocM (f := watD) (dv.keep k)⟩ fun r o hne hr hg => ?_
  cases r with
  | wt => exact absurd rfl hne
  | _ => exact hg
theorem Sto.setPuts (h : Sto C H A m fs s) (n : Nat) : Sto C (upd H (A.ad .p) (.ins C A.dx (stoFs A n))) A m fs { s with puts := n } := by
  refine h.set (r := .p) trivial (fun _ => Iff.rfl) rfl fun r o hne hr hg => ?_
  cases r with
  | p => exact absurd rfl hne
  | _ => exact hg
theorem Sto.setCell (h : Sto C H A m fs s) {t : Tg} (ti : s.inn t) {f : Str} (hf : f ∈ fs) {ps : Str → V} (hps : ∀ f ∈ fs, Dt H (ps f) (pairD (s.val t f) (s.src t f))) {v : V} {a : Option Tg} {b : Option (Nat × Str)} (dv : Dt H v (pairD a b)) :
    Sto C (upd H (A.ad (.ce t)) (.dK (putK (kvF strK ps fs) (strK f) v))) A m fs { s with val := fun u g => if u = t ∧ g = f then a else s.val u g, src := fun u g => if u = t ∧ g = f then b else s.src u g } := by
  have k : KeepT H (upd H (A.ad (.ce t)) (.dK (putK (kvF strK ps fs) (strK f) v))) := KeepT.put (h.ntup (r := .ce t) ti)
  refine h.set (r := .ce t) ti (fun r => Iff.rfl) ⟨fun g => if g = f then v else ps g, by rw [putK_set strK_inj hf], fun g hg => ?_⟩ fun r o hne hr hg => ?_
  · show Dt _ (if g = f then v else ps g) (pairD (if t = t ∧ g = f then a else s.val t g) (if t = t ∧ g = f then b else s.src t g))
    by_cases e : g = f
    · rw [if_pos e, if_pos ⟨rfl, e⟩, if_pos ⟨rfl, e⟩]
      exact dv.keep k
    · rw [if_neg e, if_neg (fun z => e z.2), if_neg (fun z => e z.2)]
      exact (hps g hg).keep k
  · cases r with
    | ce u =>
      obtain ⟨ps', h1, h2⟩ := hg
      have nu : u ≠ t := fun z => hne (by rw [z])
      refine ⟨ps', h1, fun g hg => ?_⟩
      show Dt _ _ (pairD (if u = t ∧ g = f then a else s.val u g) (if u = t ∧ g = f then b else s.src u g))
      rw [if_neg (fun z => nu z.1), if_neg (fun z => nu z.1)]
      exact h2 g hg
    | _ => exact hg
end
theorem Dt.wat {H : Hp} {v : V} {p : Str × Option Tg × Nat} (h : Dt H v (watD p)) : ∃ a x, v = .ref a ∧ H a = some (.tup [.str p.1, x, .int (p.2.2 : Nat)]) ∧ Dt H x (tvD p.2.1) := by
  obtain ⟨a, xs, e, h1, h2⟩ := Dt.tup_inv (ds := [.str p.1, tvD p.2.1, .int (p.2.2 : Nat)]) h
  cases h2 with
  | cons d1 h2 => cases h2 with
    | cons d2 h2 => cases h2 with
      | cons d3 h2 =>
        cases h2
        cases d1
        cases d3
        exact ⟨a, _, e, h1, d2⟩
section
variable {P : Program} {w : World} {K : PySem.W.Frag} {mg : Str → Option Value} {base h : Heap}
def hitsTo (fs : List Str) (s : StS) (t : Tg) (j : Nat) : StS := { s with hits := (s.wat.take j).foldl (hit1 fs s t) s.hits }
theorem hitsTo_len (fs : List Str) (s : StS) (t : Tg) (j : Nat) : (hitsTo fs s t j).hits.length ≤ s.hits.length + s.wat.length := by
  have := hits_len fs s t (s.wat.take j) s.hits
  have h2 := List.length_take_le j s.wat
  have h3 : (s.wat.take j).length ≤ s.wat.length := by rw [List.length_take]; omega
  show ((s.wat.take j).foldl (hit1 fs s t) s.hits).length ≤ _
  omega
theorem hitsTo_succ {fs : List Str} {s : StS} {t : Tg} {j : Nat} {w : Str × Option Tg × Nat} (h : s.wat[j]? = some w) : (hitsTo fs s t (j + 1)).hits = if t ∈ sees fs s w.2.1 w.2.2 then (hitsTo fs s t j).hits ++ [(s.puts, w.1)] else (hitsTo fs s t j).hits := by
  show ((s.wat.take (j + 1)).foldl (hit1 fs s t) s.hits) = _
  rw [List.take_add_one, h, List.foldl_append]
  rfl
def sp_put (K : PySem.W.Frag) : Sp := fun vs H Q E => ∃ (A : SA) (m : Nat) (fs : List Str) (s : StS) (x f y : Str), vs = [.ref (A.ad .p), .str x, .str f, .str y] ∧ Sto (cSto K) H A m fs s ∧ Fields fs ∧ f ∈ fs ∧ SOk fs s ∧ (∀ w ∈ s.wat, w.2.2 ≤ 1000) ∧ PostR K A m fs s H Q E (putP fs s x f y)
theorem p_Store_put (T : Tx w K mg h) : MetX P w K mg base 3 (cSto K) "put" (sp_put K) :=
  metX T.f_Store_put T.c_Store T.m_Store_put sc_Store_put (fun vs H Q E ⟨_, _, _, _, _, _, _, e, _⟩ => by rw [e]; rfl) fun cdv A' outer s' H vs Q E hr ⟨A, m, fs, s, x, f, y, e, st, hF, hf, ok, hw, q⟩ => by
    subst e
    have cl := T.c_Store
    refine ⟨_, (pss_cons (ps_set (i := 4) sc_Store_put.nd rfl (by first | exact Or.inl rfl | exact Or.inr rfl) (C8.pe_mt (p_Store_held_by T) hr (by decide) (pv 0) (pa_cons (pv 1) pa_nil)))
  (pss_cons (ps_if (pt_cmp (pc_isN (pv 4))) (pss_one (ps_raise (by rfl) (takes_of rfl rfl rfl rfl) (pmk_oex T.ox_Hollow T.oi_Hollow T.ot (p_RunError_init T) (hr.mono (by decide)) (b_init T) .nil C8.pass0 (by rfl) T.g_Hollow (pa_cons (pv 1) pa_nil)))) pss_nil)
  (pss_cons (ps_if (pt_val (C8.pe_mt (p_Store_is_frozen T) hr (by decide) (pv 0) (pa_cons (pv 4) pa_nil))) (pss_one (ps_raise (by rfl) (takes_of rfl rfl rfl rfl) (pmk_oex T.ox_Refused T.oi_Refused T.ot (p_RunError_init T) (hr.mono (by decide)) (b_init T) .nil C8.pass0 (by rfl) T.g_Refused (pa_cons (pv 1) pa_nil)))) pss_nil)
  (pss_cons (ps_for (passes_of rfl) (by rfl) (pi_list (pe_fld (pv 0) (by rfl))) (pg_tup (by rfl) (pgs_cons (pg_name (i := 5) sc_Store_put.nd rfl (by first | exact Or.inl rfl | exact Or.inr rfl)) (pgs_cons (pg_name (i := 6) sc_Store_put.nd rfl (by first | exact Or.inl rfl | exact Or.inr rfl)) (pgs_cons (pg_name (i := 7) sc_Store_put.nd rfl (by first | exact Or.inl rfl | exact Or.inr rfl)) pgs_nil))))
  (pss_one (ps_if (pt_cmpR (op_inD (hu65 hr)) (pv 4) (C8.pe_mt (p_Store_in_sight T) hr (by decide) (pv 0) (pa_cons (pv 6) (pa_cons (pv 7) pa_nil))) (by with_unfolding_all rfl)) (pss_one (ps_expr (pe_bm PySem.F.plainAttrs_list PySem.F.slot_list_append PySem.F.type_list_append mt_append (pe_fld (pv 0) (by rfl)) (pa_cons (pe_tup (pa_cons (pe_fld (pv 0) (by rfl)) (pa_cons (pv 5) pa_nil))) pa_nil)))) pss_nil)))
  (pss_cons (ps_fldaug (pv 0) pe_int in_add)
  (pss_cons (ps_set (i := 8) sc_Store_put.nd rfl (by first | exact Or.inl rfl | exact Or.inr rfl) (pe_dget (hu_of hr) (pe_fld (pv 0) (by rfl)) (pv 4) (fun _ _ => rfl)))
  (pss_one (ps_dput (hu_of hr) (pv 8) (pv 2) (pe_tup (pa_cons (C8.pe_mt (p_Store_held_by T) hr (by decide) (pv 0) (pa_cons (pv 3) pa_nil)) (pa_cons pe_non pa_nil))) (by rfl))))))))), ?_⟩
    refine ⟨_, rfl, A.ad .p, A.dx, _, rfl, st.p, rfl, _, rfl, A, m, fs, s, x, rfl, st, fun v dv => ?_⟩
    cases hx : s.hold x with
    | none =>
      rw [hx] at dv
      have ev := dv.tv_none
      subst ev
      rw [putP_none hx] at q
      exact ⟨_, rfl, true, rfl, iteT ⟨_, rfl, raised T.xh q.isHollow⟩⟩
    | some t =>
      rw [hx] at dv
      have dv : Dt H v (tgD t) := dv
      have ti := ok.wf.hold x t hx
      obtain ⟨a, rfl, ha⟩ := dv.tg
      refine ⟨_, rfl, false, rfl, iteF ?_⟩
      refine ⟨_, rfl, A.ad .p, A.dx, _, rfl, st.p, rfl, _, rfl, A, m, fs, s, .ref a, t, rfl, st, dv, ti, ok.fl, ?_⟩
      cases hfr : isFro s t with
      | true =>
        rw [putP_fro hx hfr] at q
        exact ⟨true, rfl, iteT ⟨_, rfl, raised T.xr q.isRefused⟩⟩
      | false =>
        rw [putP_some hx hfr] at q
        have q := q.isOk
        refine ⟨false, rfl, iteF ?_⟩
        obtain ⟨wl, hwl, hwd⟩ := st.wt
        have wf0 : ∀ j, WF fs (hitsTo fs s t j) := fun j => ⟨ok.wf.val, ok.wf.hold, ok.wf.wat⟩
        refine ⟨_, rfl, A.ad .p, _, A.dx, _, _, rfl, st.p, cl, T.n_Store_watchers, rfl, A.ad .wt, rfl, ⟨_, SqL.of hwl⟩, for_it (walk_list (xs := wl)) (fun j σ' H' => ∃ (a1 a2 a3 a4 : Option V), σ' = [some (.ref (A.ad .p)), some (.str x), some (.str f), some (.str y), some (.ref a), a1, a2, a3, a4] ∧
          Sto (cSto K) H' A m fs (hitsTo fs s t j) ∧ Chg (foot A s) H H' ∧ H' (A.ad .wt) = some (.lst wl)) ⟨_, _, _, _, rfl, st, Chg.rfl', hwl⟩ (fun j σ' H' _ ⟨_, _, _, _, _, _, _, e⟩ => SqL.of e) (fun j v σ' Hz H1 hj ⟨a1, a2, a3, a4, e1, st1, c1, hw1⟩ ⟨e2, ev⟩ => ?_) fun σ' H1 ⟨a1, a2, a3, a4, e1, st1, c1, hw1⟩ => ?_⟩
        · subst e1 e2
          obtain ⟨wr, hwr, dw⟩ := hwd.inv (f := watD) ev
          obtain ⟨ap, rv, rfl, hap, drv⟩ := dw.wat
          have hwm : wr ∈ s.wat := List.mem_of_getElem? hwr
          refine ⟨ap, _, rfl, SqT.of (c1.tup _ _ hap), rfl, .str wr.1, [rv, .int (wr.2.2 : Nat)], rfl, rv, [.int (wr.2.2 : Nat)], rfl, .int (wr.2.2 : Nat), [], rfl, rfl, ?_⟩
          refine ⟨_, rfl, _, rfl, A.ad .p, A.dx, _, rfl, st1.p, rfl, _, rfl, _, rfl, A, m, fs, hitsTo fs s t j, rv, wr.2.1, wr.2.2, rfl, st1, drv.keep c1.tup, fun u hu => ok.wf.wat wr hwm u hu, wf0 j, ok.sm, hw wr hwm, fun H2 p us x2 hp hus => ?_⟩
          have es : sees fs (hitsTo fs s t j) wr.2.1 wr.2.2 = sees fs s wr.2.1 wr.2.2 := by cases wr.2.1 <;> rfl
          rw [es] at hus
          have st2 := st1.ext x2
          have c2 : Chg (foot A s) H H2 := c1.trans (Chg.of x2)
          refine ⟨tgD t, (sees fs s wr.2.1 wr.2.2).map tgD, (dv.keep c2.tup).dp, Dp.lst (SqL.of hp) (DtAll.dp hus), (tgD_lay t).shaped (by decide), tgs_shaped _, ?_⟩
          rw [any_tg]
          have hh := hitsTo_succ (fs := fs) (t := t) hwr
          by_cases hm : t ∈ sees fs s wr.2.1 wr.2.2
          · rw [decide_eq_true hm]
            rw [if_pos hm] at hh
            obtain ⟨hs, hhs, dhs⟩ := st2.ht
            have hlen := dhs.len
            rw [List.length_map] at hlen
            have hl2 := hitsTo_len fs s t j
            refine ⟨true, rfl, iteT ⟨_, rfl, A.ad .p, _, A.dx, _, _, rfl, st2.p, cl, T.n_Store_hits, rfl, .inl ⟨rfl, _, SqL.of hhs⟩, _, rfl, A.ad .p, _, A.dx, _, _, rfl, st2.p, cl, T.n_Store_puts, rfl, _, rfl, by show 2 ≤ sizeLine; decide, fun tp ntp => ?_⟩⟩
            have st3 := st2.ext (Ext.upd (o := .tup [.int (s.puts : Nat), .str wr.1]) ntp)
            have dh3 := dhs.keep (ext_keep (Ext.upd (o := .tup [.int (s.puts : Nat), .str wr.1]) ntp))
            have hh3 := Ext.upd (o := .tup [.int (s.puts : Nat), .str wr.1]) ntp _ _ hhs
            have ht3 : upd H2 tp (.tup [.int (s.puts : Nat), .str wr.1]) tp = _ := upd_same
            have c3 : Chg (foot A s) H (upd H2 tp (.tup [.int (s.puts : Nat), .str wr.1])) := c2.trans (Chg.new ntp)
            have hw3 := Ext.upd (o := .tup [.int (s.puts : Nat), .str wr.1]) ntp _ _ (x2 _ _ hw1)
            refine ⟨A.ad .ht, hs, _, rfl, rfl, hh3, small_lt (by have := ok.hl; have := ok.wl; omega), ?_⟩
            refine ⟨_, _, _, _, rfl, ?_, c3.trans (st3.chg (r := .ht) trivial _), ?_⟩
            · have := st3.setHits (v := .ref tp) (p := (s.puts, wr.1)) dh3 (.tup ht3 (.cons (.int _) (.cons (.str _) .nil)))
              have e3 : ({ (hitsTo fs s t j) with hits := (hitsTo fs s t j).hits ++ [(s.puts, wr.1)] } : StS) = hitsTo fs s t (j + 1) := by
                unfold hitsTo at hh ⊢
                simp only at hh
                rw [hh]
              rw [← e3]
              exact this
            · rw [upd_ne fun z => by have := st.inj .wt .ht trivial trivial z; cases this]
              exact hw3
          · rw [decide_eq_false hm]
            rw [if_neg hm] at hh
            refine ⟨false, rfl, iteF ⟨_, _, _, _, rfl, ?_, c2, x2 _ _ hw1⟩⟩
            have e3 : hitsTo fs s t j = hitsTo fs s t (j + 1) := by
              unfold hitsTo at hh ⊢
              simp only at hh
              rw [hh]
            rw [← e3]
            exact st2
        · subst e1
          have hl := hwd.len
          rw [List.length_map] at hl
          have e3 : hitsTo fs s t wl.length = { s with hits := s.wat.foldl (hit1 fs s t) s.hits } := by unfold hitsTo; rw [hl, List.take_length]
          rw [e3] at st1
          have ti1 : ({ s with hits := s.wat.foldl (hit1 fs s t) s.hits } : StS).inn t := by cases t <;> exact ti
          refine ⟨_, rfl, A.ad .p, _, A.dx, _, _, rfl, st1.p, cl, T.n_Store_puts, rfl, s.puts, 1, rfl, rfl, A.dx, _, st1.p, by show 8 < 1000; decide, ?_⟩
          have ep : putF "puts" (.int ((s.puts : Int) + 1)) (stoFs A s.puts) = stoFs A (s.puts + 1) := rfl
          have st2 := st1.setPuts (s.puts + 1)
          have c2 : Chg (foot A s) H (upd H1 (A.ad .p) (.ins (cSto K) A.dx (stoFs A (s.puts + 1)))) := c1.trans (Chg.put ⟨.p, trivial, rfl⟩ (st1.ntup (r := .p) trivial))
          rw [ep]
          generalize upd H1 (A.ad .p) (.ins (cSto K) A.dx (stoFs A (s.puts + 1))) = H2 at st2 c2
          obtain ⟨ps, hc, hps⟩ := st2.ce ti1
          refine ⟨_, rfl, A.ad .p, _, A.dx, _, _, rfl, st2.p, cl, T.n_Store_cells, rfl, _, rfl, A.ad .cd, .ref (A.ad (.ce t)), rfl, dgetT st2.cd (c2.tup _ _ ha) (st2.cell ti1), ?_⟩
          refine ⟨_, rfl, A.ad .p, A.dx, _, rfl, st2.p, rfl, _, rfl, A, m, fs, _, y, rfl, st2, fun u du => ⟨by show 2 ≤ sizeLine; decide, fun tp ntp => ?_⟩⟩
          have st3 := st2.ext (Ext.upd (o := .tup [u, .non]) ntp)
          have k3 := ext_keep (Ext.upd (o := .tup [u, .non]) ntp)
          have hc3 := Ext.upd (o := .tup [u, .non]) ntp _ _ hc
          have ht3 : upd H2 tp (.tup [u, .non]) tp = _ := upd_same
          have c3 : Chg (foot A s) H (upd H2 tp (.tup [u, .non])) := c2.trans (Chg.new ntp)
          refine ⟨_, rfl, _, rfl, A.ad (.ce t), _, rfl, DPut.k (k := strK f) hc3 (by rw [kvF_len]; exact small_lt (by have := hF.hi; omega)), ?_⟩
          refine q A _ ?_ (c3.trans (Chg.put ⟨.ce t, ti, rfl⟩ (st3.ntup (r := .ce t) ti1))) (fun b hb => .inl hb) rfl rfl
          exact (st3.setCell ti1 hf (fun g hg => (hps g hg).keep k3) (v := .ref tp) (a := s.hold y) (b := none) (.tup ht3 (.cons (du.keep k3) (.cons .non .nil)))).mono (Nat.le_succ m)
end
end TW
set_option maxHeartbeats 4000000
/-! ## copies: the ways, the marks, the cells -/
namespace TW
open PySem PySem.Spec PyProof.Rows L2 TwN
theorem kids_succ {fs : List Str} {val : Tg → Str → Option Tg} {w : List Str} {o : Tg} {j : Nat} {f : Str} (h : fs[j]? = some f) :
    kids (fs.take (j + 1)) val w o = kids (fs.take j) val w o ++ ((val o f).map fun v => (w ++ [f], v)).toList := by
  unfold kids
  rw [List.take_add_one, h, List.filterMap_append]
  congr 1
theorem addAll_snoc (b : Bool) (c : Cell Str) : ∀ (cs : List (Cell Str)) (s : StS), addAll b (cs ++ [c]) s = addObj (addAll b cs s) c b
  | [], _ => rfl
  | _ :: cs, s => addAll_snoc b c cs _
theorem wys_fin {fs : List Str} {s : StS} {d : Nat} {r : Tg} {i : Nat} (hl : (wys fs s.val d r i).length ≤ i) (hi : i ≤ 15) : wys fs s.val d r i = wysOf fs s d r := by
  have := wys_end hl (15 - i)
  unfold wysOf
  rw [wmax_eq, ← this, show i + (15 - i) = 15 by omega]
def wayD (p : List Str × Tg) : PyData := .tuple [.tuple (p.1.map .str), tgD p.2]
theorem Dt.strs {H : Hp} : ∀ {vs : List V} {l : List Str}, DtAll H vs (l.map .str) → vs = l.map .str
  | _, [], h => by cases h; rfl
  | _, x :: l, h => by
    cases h with
    | cons h1 h2 =>
      cases h1
      rw [Dt.strs h2]
      rfl
theorem Dt.way {H : Hp} {v : V} {p : List Str × Tg} (h : Dt H v (wayD p)) : ∃ a b c, v = .ref a ∧ H a = some (.tup [.ref b, .ref c]) ∧ H b = some (.tup (p.1.map .str)) ∧ H c = some (.tup ((tgK p.2).map kV)) ∧ Dt H (.ref c) (tgD p.2) := by
  obtain ⟨a, x, e, h1, h2⟩ := Dt.tup_inv (ds := [.tuple (p.1.map .str), tgD p.2]) h
  obtain ⟨x, y, rfl, d1, d2⟩ := h2.two
  obtain ⟨b, zs, rfl, h3, h4⟩ := Dt.tup_inv d1
  obtain ⟨c, rfl, h5⟩ := Dt.tg d2
  rw [Dt.strs h4] at h3
  exact ⟨a, b, c, e, h1, h3, h5, d2⟩
theorem Dt.ofWay {H : Hp} {a b c : Addr} {w : List Str} {t : Tg} (h1 : H a = some (.tup [.ref b, .ref c])) (h2 : H b = some (.tup (w.map .str))) (h3 : Dt H (.ref c) (tgD t)) : Dt H (.ref a) (wayD (w, t)) :=
  .tup h1 (.cons (.tup h2 (DtAll.strs w)) (.cons h3 .nil))
def wK (w : List Str) : List Key := w.map strK
theorem wK_map (w : List Str) : (wK w).map kV = w.map V.str := by unfold wK; rw [List.map_map]; rfl
theorem wK_inj : ∀ {w w' : List Str}, wK w = wK w' → w = w'
  | [], [], _ => rfl
  | [], _ :: _, h => by cases h
  | _ :: _, [], h => by cases h
  | x :: w, y :: w', h => by
    injection h with h1 h2
    rw [strK_inj _ _ h1, wK_inj h2]
/-- the marks behind i turns -/
structure MadeOk (H : Hp) (q : Addr) (now : Nat) (ws : List (List Str × Tg)) (i : Nat) : Prop where
  ex : ∃ kvs, H q = some (.dT kvs) ∧ kvs.length ≤ i ∧ ∀ w, match mad ws w i with
    | some k => ∃ v, valV kvs (wK w) = some v ∧ Dt H v (tgD (.ow (now + k)))
    | none => valV kvs (wK w) = none
theorem MadeOk.keep {H H' : Hp} {q : Addr} {now i : Nat} {ws : List (List Str × Tg)} (h : MadeOk H q now ws i) (k : KeepT H H') (e : H' q = H q) : MadeOk H' q now ws i := by
  obtain ⟨kvs, h1, h2, h3⟩ := h.ex
  refine ⟨kvs, e.trans h1, h2, fun w => ?_⟩
  have := h3 w
  cases em : mad ws w i with
  | none => rw [em] at this; exact this
  | some j =>
    rw [em] at this
    obtain ⟨v, h4, h5⟩ := this
    exact ⟨v, h4, h5.keep k⟩
theorem MadeOk.put {H : Hp} {q : Addr} {now i : Nat} {ws ws' : List (List Str × Tg)} (h : MadeOk H q now ws i) (hp : ws <+: ws') (hl : i < ws.length) {w : List Str} {t : Tg} (hw : ws[i]? = some (w, t)) {v : V} (dv : Dt H v (tgD (.ow (now + i)))) :
    ∃ kvs, H q = some (.dT kvs) ∧ kvs.length ≤ i ∧ MadeOk (upd H q (.dT (putK kvs (wK w) v))) q now ws' (i + 1) := by
  obtain ⟨kvs, h1, h2, h3⟩ := h.ex
  have k : KeepT H (upd H q (.dT (putK kvs (wK w) v))) := KeepT.at_ h1 fun _ z => by cases z
  refine ⟨kvs, h1, h2, ⟨_, upd_same, ?_, fun w' => ?_⟩⟩
  · have := length_putK kvs (wK w) v
    omega
  · have e1 : ws'[i]? = ws[i]? := by
      obtain ⟨t, e⟩ := hp
      rw [← e, List.getElem?_append_left hl]
    have e2 : mad ws' w' (i + 1) = if w = w' then some i else mad ws w' i := by
      show (if (ws'[i]?).map (·.1) = some w' then some i else mad ws' w' i) = _
      rw [mad_pre hp (Nat.le_of_lt hl), e1, hw]
      by_cases e : w = w'
      · subst e; simp
      · rw [if_neg e, if_neg]
        intro z
        exact e (by simpa using z)
    rw [e2, valV_put]
    by_cases e : w = w'
    · subst e
      rw [if_pos rfl, if_pos rfl]
      exact ⟨v, rfl, dv.keep k⟩
    · rw [if_neg e, if_neg fun z => e (wK_inj z).symm]
      have := h3 w'
      cases em : mad ws w' i with
      | none => rw [em] at this; exact this
      | some j =>
        rw [em] at this
        obtain ⟨u, h4, h5⟩ := this
        exact ⟨u, h4, h5.keep k⟩
/-- the cells as they lie -/
structure CellsAt (H : L2.Hp) (fs : List Str) (cs : List (Cell Str)) (vs : List V) : Prop where
  len : vs.length = cs.length
  at_ : ∀ (k : Nat) (c : Cell Str), cs[k]? = some c → ∃ (a : Addr) (ps : Str → V), vs[k]? = some (.ref a) ∧ H a = some (.dK (kvF strK ps fs)) ∧ ∀ f ∈ fs, Dt H (ps f) (pairD (c.1 f) (c.2 f))
theorem CellsAt.keep {H H' : Hp} {fs : List Str} {cs : List (Cell Str)} {vs : List V} (h : CellsAt H fs cs vs) (k : KeepT H H') (e : ∀ a, V.ref a ∈ vs → H' a = H a) : CellsAt H' fs cs vs :=
  ⟨h.len, fun j c hc => by
    obtain ⟨a, ps, h1, h2, h3⟩ := h.at_ j c hc
    exact ⟨a, ps, h1, (e a (List.mem_of_getElem? h1)).trans h2, fun f hf => (h3 f hf).keep k⟩⟩
theorem CellsAt.push {H : Hp} {fs : List Str} {cs : List (Cell Str)} {vs : List V} (h : CellsAt H fs cs vs) {a : Addr} {ps : Str → V} {c : Cell Str} (ha : H a = some (.dK (kvF strK ps fs))) (hp : ∀ f ∈ fs, Dt H (ps f) (pairD (c.1 f) (c.2 f))) : CellsAt H fs (cs ++ [c]) (vs ++ [.ref a]) := by
  refine ⟨by simp [h.len], fun k c' hc => ?_⟩
  by_cases e : k < cs.length
  · rw [List.getElem?_append_left e] at hc
    obtain ⟨a', ps', h1, h2, h3⟩ := h.at_ k c' hc
    exact ⟨a', ps', by rw [List.getElem?_append_left (by rw [h.len]; exact e)]; exact h1, h2, h3⟩
  · rw [List.getElem?_append_right (by omega)] at hc
    have e2 : k - cs.length = 0 := by
      have := (List.getElem?_eq_some_iff.mp hc).1
      simp at this
      omega
    rw [e2] at hc
    have hc : c = c' := by simpa using hc
    subst hc
    exact ⟨a, ps, by rw [List.getElem?_append_right (by rw [h.len]; omega), h.len, e2]; rfl, ha, hp⟩
theorem kvF_nodup {fs : List Str} (h : fs.Nodup) {ps : Str → V} {j : Nat} {f : Str} (hf : fs[j]? = some f) (v : V) : putK (kvF strK ps (fs.take j)) (strK f) v = kvF strK (fun g => if g = f then v else ps g) (fs.take (j + 1)) := by
  have hn : f ∉ fs.take j := fun hm => by
    obtain ⟨k, hk, e⟩ := List.getElem_of_mem hm
    rw [List.length_take] at hk
    have e2 : fs[k]? = some f := by
      rw [List.getElem_take] at e
      rw [List.getElem?_eq_getElem (by omega), e]
    have hj := (List.getElem?_eq_some_iff.mp hf).1
    have := (List.getElem?_inj (by omega) h).mp (e2.trans hf.symm)
    omega
  rw [putK_new _ (kvF_no fun y hy e => hn (by rw [← strK_inj _ _ e]; exact hy)), List.take_add_one, hf]
  show _ = kvF strK _ (fs.take j ++ [f])
  rw [kvF_snoc, if_pos rfl]
  congr 1
  exact kvF_congr fun x hx => by rw [if_neg fun e => hn (by rw [← e]; exact hx)]
end TW
set_option maxHeartbeats 4000000
/-! ## the store: copies -/
namespace TW
open PySem PySem.Spec PyProof.Rows L2 TwN
section
variable {P : Program} {w : World} {K : PySem.W.Frag} {mg : Str → Option Value} {base h : Heap}
def sp_copy_of (C : Addr) : Sp := fun vs H Q _ => ∃ (A : SA) (m : Nat) (fs : List Str) (s : StS) (v : V) (t : Option Tg) (frz : Bool) (d : Nat), vs = [.ref (A.ad .p), v, .bl frz, .int (d : Nat)] ∧ Sto C H A m fs s ∧ Fields fs ∧ Dt H v (tvD t) ∧ (∀ u, t = some u → s.inn u) ∧ SOk fs s ∧ d ≤ 4 ∧
  ∀ A' H' u, Sto C H' A' m fs (copyOf fs s frz t d).1 → Dt H' u (tvD (copyOf fs s frz t d).2) → Chg (foot A s) H H' → (∀ b, foot A' (copyOf fs s frz t d).1 b → foot A s b ∨ H b = none) → A'.ad .p = A.ad .p → A'.fa = A.fa → Q u H'
theorem p_Store_copy_of (T : Tx w K mg h) : C8.Met P w K mg base 2 (cSto K) "copy_of" (sp_copy_of (cSto K)) [] :=
  met T.f_Store_copy_of T.c_Store T.m_Store_copy_of sc_Store_copy_of (fun vs H Q E ⟨_, _, _, _, _, _, _, _, e, _⟩ => by rw [e]; rfl) fun cdv A' outer s' H vs Q E hr ⟨A, m, fs, s, v, t, frz, d, e, st, hF, dv, ht, ok, hd, qq⟩ => by
    subst e
    have cl := T.c_Store
    refine ⟨_, (pss_cons (ps_if (PW.pt (pw_or (pt_cmp (pc_isN (pv 1))) (pw_or1 (pt_cmpR op_eq (pv 3) pe_int (nomark _))))) (pss_one (ps_ret (pv 1))) pss_nil)
  (pss_cons (ps_set (i := 4) sc_Store_copy_of.nd rfl (by first | exact Or.inl rfl | exact Or.inr rfl) (pe_lst (pa_cons (pe_tup (pa_cons (pe_tup pa_nil) (pa_cons (pv 1) pa_nil))) pa_nil)))
  (pss_cons (ps_set (i := 5) sc_Store_copy_of.nd rfl (by first | exact Or.inl rfl | exact Or.inr rfl) pe_dnewT)
  (pss_cons (ps_set (i := 6) sc_Store_copy_of.nd rfl (by first | exact Or.inl rfl | exact Or.inr rfl) pe_int)
  (pss_cons (ps_while PassesOwn.never (pt_cmpR op_lt (pv 6) (pe_callB call_len_seq (by rfl) T.z_len (by decide +kernel) (pa_cons (pv 4) pa_nil)) (nomark _))
  (pss_cons (ps_asg (pe_ix ix_list (pv 4) (pv 6) (fun _ _ => rfl)) (pg_tup (by rfl) (pgs_cons (pg_name (i := 7) sc_Store_copy_of.nd rfl (by first | exact Or.inl rfl | exact Or.inr rfl)) (pgs_cons (pg_name (i := 8) sc_Store_copy_of.nd rfl (by first | exact Or.inl rfl | exact Or.inr rfl)) pgs_nil))))
  (pss_cons (ps_dput (hu_of hr) (pv 5) (pv 7) (pe_tup (pa_cons pe_str (pa_cons (pe_op op_add (pe_callB call_len_seq (by rfl) T.z_len (by decide +kernel) (pa_cons (pe_fld (pv 0) (by rfl)) pa_nil)) (pv 6)) pa_nil))) (by rfl))
  (pss_cons (ps_if (pt_cmpR op_lt (pe_op op_add (pe_callB call_len_seq (by rfl) T.z_len (by decide +kernel) (pa_cons (pv 7) pa_nil)) pe_int) (pv 3) (nomark _)) (pss_one (ps_for PassesOwn.never (by rfl) (pi_tup (pe_fld (pv 0) (by rfl))) (pg_name (i := 9) sc_Store_copy_of.nd rfl (by first | exact Or.inl rfl | exact Or.inr rfl))
  (pss_cons (ps_set (i := 10) sc_Store_copy_of.nd rfl (by first | exact Or.inl rfl | exact Or.inr rfl) (pe_ix ix_tup (pe_dget (hu_of hr) (pe_dget (hu_of hr) (pe_fld (pv 0) (by rfl)) (pv 8) (fun _ _ => rfl)) (pv 9) (fun _ _ => rfl)) pe_int (fun _ _ => rfl)))
  (pss_one (ps_if (pt_cmp (pc_notN (pv 10))) (pss_one (ps_expr (pe_bm PySem.F.plainAttrs_list PySem.F.slot_list_append PySem.F.type_list_append mt_append (pv 4) (pa_cons (pe_tup (pa_cons (pe_tup (StX.pa_star (pv 7) (pa_cons (pv 9) pa_nil))) (pa_cons (pv 10) pa_nil))) pa_nil)))) pss_nil))))) pss_nil)
  (pss_one (ps_aug (i := 6) sc_Store_copy_of.nd rfl (by first | exact Or.inl rfl | exact Or.inr rfl) pe_int ip_add))))))
  (pss_cons (ps_set (i := 11) sc_Store_copy_of.nd rfl (by first | exact Or.inl rfl | exact Or.inr rfl) (pe_lst pa_nil))
  (pss_cons (ps_for PassesOwn.never (by rfl) (pi_list (pv 4)) (pg_tup (by rfl) (pgs_cons (pg_name (i := 7) sc_Store_copy_of.nd rfl (by first | exact Or.inl rfl | exact Or.inr rfl)) (pgs_cons (pg_name (i := 8) sc_Store_copy_of.nd rfl (by first | exact Or.inl rfl | exact Or.inr rfl)) pgs_nil)))
  (pss_cons (ps_set (i := 12) sc_Store_copy_of.nd rfl (by first | exact Or.inl rfl | exact Or.inr rfl) pe_dnewK)
  (pss_cons (ps_for PassesOwn.never (by rfl) (pi_tup (pe_fld (pv 0) (by rfl))) (pg_name (i := 9) sc_Store_copy_of.nd rfl (by first | exact Or.inl rfl | exact Or.inr rfl))
  (pss_cons (ps_asg (pe_dget (hu_of hr) (pe_dget (hu_of hr) (pe_fld (pv 0) (by rfl)) (pv 8) (fun _ _ => rfl)) (pv 9) (fun _ _ => rfl)) (pg_tup (by rfl) (pgs_cons (pg_name (i := 10) sc_Store_copy_of.nd rfl (by first | exact Or.inl rfl | exact Or.inr rfl)) (pgs_cons (pg_name (i := 13) sc_Store_copy_of.nd rfl (by first | exact Or.inl rfl | exact Or.inr rfl)) pgs_nil))))
  (pss_one (ps_dput (hu_of hr) (pv 12) (pv 9) (pe_tup (pa_cons (pe_dget2 (hu_of hr) (pv 5) (pe_tup (StX.pa_star (pv 7) (pa_cons (pv 9) pa_nil))) (pv 10) ⟨rfl, rfl, rfl, rfl⟩) (pa_cons (pv 13) pa_nil))) (by rfl)))))
  (pss_one (ps_expr (pe_bm PySem.F.plainAttrs_list PySem.F.slot_list_append PySem.F.type_list_append mt_append (pv 11) (pa_cons (pv 12) pa_nil)))))))
  (pss_cons (ps_for PassesOwn.never (by rfl) (pi_list (pv 11)) (pg_name (i := 12) sc_Store_copy_of.nd rfl (by first | exact Or.inl rfl | exact Or.inr rfl))
  (pss_one (ps_expr (C8.pe_mt (p_Store_add_object T) hr (by decide) (pv 0) (pa_cons (pv 12) (pa_cons (pv 2) pa_nil))))))
  (pss_one (ps_ret (pe_dget (hu_of hr) (pv 5) (pe_tup pa_nil) (fun _ _ => rfl)))))))))))), ?_⟩
    cases t with
    | none =>
      have e := dv.tv_none
      subst e
      exact ⟨_, rfl, true, rfl, iteT (iteT ⟨_, rfl, qq A H .non st dv Chg.rfl' (fun b hb => .inl hb) rfl rfl⟩)⟩
    | some r =>
      have ri := ht r rfl
      have dv : Dt H v (tgD r) := dv
      obtain ⟨a, rfl, ha⟩ := dv.tg
      refine ⟨_, rfl, false, rfl, iteF ⟨_, rfl, rfl, ?_⟩⟩
      cases d with
      | zero => exact ⟨true, bl_t rfl, iteT ⟨_, rfl, qq A H (.ref a) st dv Chg.rfl' (fun b hb => .inl hb) rfl rfl⟩⟩
      | succ d =>
        refine ⟨false, bl_f (fun z => by injection z with z; omega), iteF ?_⟩
        have wsn : ∀ i, ∀ p ∈ wys fs s.val (d + 1) r i, s.inn p.2 := wys_all ri fun x hx f hf y e => ok.wf.val x f y hx hf e
        have wsl : ∀ i, (wys fs s.val (d + 1) r i).length ≤ 15 := wys_len hF.hi (Nat.succ_pos d) hd
        have wsd : ∀ i, ∀ p ∈ wys fs s.val (d + 1) r i, p.1.length < d + 1 := fun i => (wys_pot hF.hi (Nat.succ_pos d) i).1
        rw [copyOf_succ] at qq
        refine ⟨by show 0 ≤ sizeLine; decide, fun t0 nt0 => ⟨_, rfl, by show 2 ≤ sizeLine; decide, fun t1 nt1 => ⟨by show 1 ≤ sizeLine; decide, fun p np => fun q nq => ?_⟩⟩⟩
        have xa : Ext H (upd H t0 (.tup [])) := Ext.upd nt0
        have xb := xa.trans (Ext.upd (o := .tup [.ref t0, .ref a]) nt1)
        have np0 : H p = none := ext_none xb np
        have xc := xb.trans (Ext.upd (o := .lst [.ref t1]) np)
        have nq0 : H q = none := ext_none xc nq
        have x0 := xc.trans (Ext.upd (o := .dT []) nq)
        have hpq : p ≠ q := fun z => by rw [← z, upd_same] at nq; cases nq
        have hp0 : upd (upd (upd (upd H t0 (.tup [])) t1 (.tup [.ref t0, .ref a])) p (.lst [.ref t1])) q (.dT []) p = some (.lst [.ref t1]) := by rw [upd_ne hpq, upd_same]
        have hq0 : upd (upd (upd (upd H t0 (.tup [])) t1 (.tup [.ref t0, .ref a])) p (.lst [.ref t1])) q (.dT []) q = some (.dT []) := upd_same
        have dw0 : Dt (upd (upd (upd (upd H t0 (.tup [])) t1 (.tup [.ref t0, .ref a])) p (.lst [.ref t1])) q (.dT [])) (.ref t1) (wayD ([], r)) := by
          refine Dt.keep (ext_keep ((Ext.upd np).trans (Ext.upd nq))) ?_
          exact Dt.ofWay upd_same (by rw [upd_ne (fun z => by rw [z, upd_same] at nt1; cases nt1), upd_same]; rfl) (dv.keep (ext_keep xb))
        generalize upd (upd (upd (upd H t0 (.tup [])) t1 (.tup [.ref t0, .ref a])) p (.lst [.ref t1])) q (.dT []) = H0 at x0 hp0 hq0 dw0
        have keep : ∀ {Ha Hb : Hp}, Ext H Ha → (∀ b u, b ≠ p → b ≠ q → Ha b = some u → Hb b = some u) → Ext H Hb := fun {Ha Hb} x k b u hb => k b u (fun z => by rw [z, np0] at hb; cases hb) (fun z => by rw [z, nq0] at hb; cases hb) (x b u hb)
        refine while_by (fun σ'' H'' => ∃ (i : Nat) (us : List V) (a7 a8 a9 aa : Option V), σ'' = [some (.ref (A.ad .p)), some (.ref a), some (.bl frz), some (.int ((d + 1 : Nat) : Int)), some (.ref p), some (.ref q), some (.int (i : Nat)), a7, a8, a9, aa, none, none, none] ∧ Ext H H'' ∧ H'' p = some (.lst us) ∧ DtAll H'' us ((wys fs s.val (d + 1) r i).map wayD) ∧
            MadeOk H'' q s.now (wys fs s.val (d + 1) r i) i ∧ i ≤ (wys fs s.val (d + 1) r i).length)
          (turnsOf 6) ⟨0, [.ref t1], _, _, _, _, rfl, x0, hp0, .cons dw0 .nil, ⟨[], hq0, Nat.le_refl _, fun w => rfl⟩, Nat.zero_le _⟩ (fun σ3 H3 ⟨i, us, a7, a8, a9, aa, es, x3, hp3, hu3, hm3, hi3⟩ => ?_)
          (fun σ3 H3 Q3 Q3' hq ⟨v1, h1, v2, h2, p, ys, h3, h4, i1, j1, h5, h6, k1, h7, q3⟩ => ⟨v1, h1, v2, h2, p, ys, h3, h4, i1, j1, h5, h6, k1, h7, hq _ _ q3⟩)
        subst es
        have hul := hu3.len
        rw [List.length_map] at hul
        have hl15 := wsl i
        refine ⟨_, rfl, _, rfl, p, us, rfl, .inl (SqL.of hp3), _, _, rfl, rfl, _, rfl, ?_⟩
        by_cases hlt : i < (wys fs s.val (d + 1) r i).length
        · rw [decide_eq_true (show ((i : Nat) : Int) < (us.length : Nat) by omega)]
          obtain ⟨⟨w, o⟩, hwo⟩ : ∃ x, (wys fs s.val (d + 1) r i)[i]? = some x := ⟨_, List.getElem?_eq_getElem hlt⟩
          have hmem := List.mem_of_getElem? hwo
          have oi := wsn i _ hmem
          have wl : w.length < d + 1 := wsd i _ hmem
          obtain ⟨uv, hui, duv⟩ := hu3.atM (f := wayD) hwo
          obtain ⟨b1, b2, b3, rfl, hb1, hb2, hb3, db3⟩ := duv.way
          refine iteT ⟨_, rfl, _, rfl, p, us, (i : Int), .ref b1, rfl, rfl, SqL.of hp3, atI_nat hui, b1, _, rfl, SqT.of hb1, rfl, .ref b2, [.ref b3], rfl, .ref b3, [], rfl, rfl, ?_⟩
          have st3 := st.ext x3
          refine ⟨_, rfl, A.ad .p, _, A.dx, _, _, rfl, st3.p, cl, T.n_Store_frosts, rfl, A.ad .fr, _, rfl, .inl (SqL.of st3.fr), _, rfl, _, _, rfl, rfl, by show 2 ≤ sizeLine; decide, fun tp ntp => ?_⟩
          have x4 : Ext H (upd H3 tp (.tup [.str "own", .int (((s.fro.map V.bl).length : Nat) + (i : Nat) : Int)])) := x3.trans (Ext.upd ntp)
          have k34 := ext_keep (Ext.upd (p := tp) (o := .tup [.str "own", .int (((s.fro.map V.bl).length : Nat) + (i : Nat) : Int)]) ntp)
          have hp4 := Ext.upd (o := .tup [.str "own", .int (((s.fro.map V.bl).length : Nat) + (i : Nat) : Int)]) ntp _ _ hp3
          have hm4 : MadeOk (upd H3 tp (.tup [.str "own", .int (((s.fro.map V.bl).length : Nat) + (i : Nat) : Int)])) q s.now (wys fs s.val (d + 1) r i) i := hm3.keep k34 (by
            obtain ⟨kvs, hq, _⟩ := hm3.ex
            exact upd_ne (ne_of_none hq ntp))
          have dtp : Dt (upd H3 tp (.tup [.str "own", .int (((s.fro.map V.bl).length : Nat) + (i : Nat) : Int)])) (.ref tp) (tgD (.ow (s.now + i))) := by
            refine .ofTg ?_
            rw [upd_same, List.length_map, ok.fl]
            rfl
          generalize upd H3 tp (.tup [.str "own", .int (((s.fro.map V.bl).length : Nat) + (i : Nat) : Int)]) = H4 at x4 k34 hp4 hm4 dtp
          obtain ⟨kvs, hq4, hk4, hm5⟩ := hm4.put (wys_pre1 i) hlt hwo dtp
          have hb24 := k34 _ _ hb2
          refine ⟨_, rfl, _, rfl, q, _, rfl, DPut.t (k := wK w) hq4 (by rw [wK_map]; exact hb24) (small_lt (by omega)), ?_⟩
          have x5 : Ext H (upd H4 q (.dT (putK kvs (wK w) (.ref tp)))) := extSet x4 nq0
          have k45 : KeepT H4 (upd H4 q (.dT (putK kvs (wK w) (.ref tp)))) := KeepT.at_ hq4 fun _ z => by cases z
          have hp5 : upd H4 q (.dT (putK kvs (wK w) (.ref tp))) p = some (.lst us) := by rw [upd_ne hpq]; exact hp4
          generalize upd H4 q (.dT (putK kvs (wK w) (.ref tp))) = H5 at hm5 x5 k45 hp5
          have k35 := k34.trans k45
          have hu5 := hu3.keep k35
          have hb25 := k35 _ _ hb2
          have hb35 := k35 _ _ hb3
          have turn := wys_turn (fs := fs) (val := s.val) (d := d + 1) (r := r) hwo
          refine ⟨_, rfl, b2, _, rfl, .inr (SqT.of hb25), _, _, rfl, rfl, _, rfl, _, _, rfl, rfl, ?_⟩
          rw [List.length_map]
          have done : ∀ (H6 : Hp) (us6 : List V) (a9 aa : Option V), Ext H H6 → H6 p = some (.lst us6) → DtAll H6 us6 ((wys fs s.val (d + 1) r (i + 1)).map wayD) → MadeOk H6 q s.now (wys fs s.val (d + 1) r (i + 1)) (i + 1) →
              ∃ (i' : Nat) (us : List V) (a7 a8 a9' aa' : Option V), [some (V.ref (A.ad .p)), some (.ref a), some (.bl frz), some (.int ((d + 1 : Nat) : Int)), some (.ref p), some (.ref q), some (.int ((i : Int) + 1)), some (.ref b2), some (.ref b3), a9, aa, none, none, none] = [some (.ref (A.ad .p)), some (.ref a), some (.bl frz), some (.int ((d + 1 : Nat) : Int)), some (.ref p), some (.ref q), some (.int (i' : Nat)), a7, a8, a9', aa', none, none, none] ∧ Ext H H6 ∧ H6 p = some (.lst us) ∧ DtAll H6 us ((wys fs s.val (d + 1) r i').map wayD) ∧
                MadeOk H6 q s.now (wys fs s.val (d + 1) r i') i' ∧ i' ≤ (wys fs s.val (d + 1) r i').length := fun H6 us6 a9 aa y1 y2 y3 y4 => ⟨i + 1, us6, _, _, a9, aa, rfl, y1, y2, y3, y4, by
            have := (wys_pre1 (fs := fs) (val := s.val) (d := d + 1) (r := r) i).length_le
            omega⟩
          have less : 1000 - ((i : Int) + 1).toNat < 1000 - ((i : Nat) : Int).toNat := by omega
          by_cases hw : w.length + 1 < d + 1
          · refine ⟨true, bl_t (show ((w.length : Nat) : Int) + 1 < ((d + 1 : Nat) : Int) by omega), iteT ?_⟩
            rw [if_pos hw] at turn
            have st5 := st.ext x5
            refine ⟨_, rfl, A.ad .p, _, A.dx, _, _, rfl, st5.p, cl, T.n_Store_fields, rfl, A.fa, rfl, ⟨_, SqT.of st5.fa⟩, for_it (walk_tup (xs := fs.map .str)) (fun j σ' H' => ∃ (us' : List V) (a9 aa : Option V), σ' = [some (.ref (A.ad .p)), some (.ref a), some (.bl frz), some (.int ((d + 1 : Nat) : Int)), some (.ref p), some (.ref q), some (.int (i : Nat)), some (.ref b2), some (.ref b3), a9, aa, none, none, none] ∧
              Ext H H' ∧ KeepT H5 H' ∧ H' p = some (.lst us') ∧ DtAll H' us' ((wys fs s.val (d + 1) r i ++ kids (fs.take j) s.val w o).map wayD) ∧ MadeOk H' q s.now (wys fs s.val (d + 1) r (i + 1)) (i + 1))
              ⟨us, _, _, rfl, x5, KeepT.rfl', hp5, by simpa [kids] using hu5, hm5⟩ (fun _ _ _ _ ⟨_, _, _, _, x, _⟩ => SqT.of ((st.ext x).fa)) (fun j v σ' Hz H6 hj ⟨us6, a9, aa, e1, x6, k6, hp6, hu6, hm6⟩ ⟨e2, ev⟩ => ?_) fun σ' H6 ⟨us6, a9, aa, e1, x6, k6, hp6, hu6, hm6⟩ => ?_⟩
            · subst e1 e2
              obtain ⟨f, hf, rfl⟩ := map_at ev
              have hfm : f ∈ fs := List.mem_of_getElem? hf
              have st6 := st.ext x6
              obtain ⟨ps, hc, hps⟩ := st6.ce oi
              obtain ⟨pp, v1, v2, ep, hpp, d1, d2⟩ := (hps f hfm).pair
              refine ⟨_, rfl, A.ad .p, _, A.dx, _, _, rfl, st6.p, cl, T.n_Store_cells, rfl, _, rfl, A.ad .cd, .ref (A.ad (.ce o)), rfl, dgetT st6.cd (k6 _ _ hb35) (st.cell oi), _, rfl, A.ad (.ce o), ps f, rfl, dgetK (k := strK f) hc (kvF_at strK_inj hfm), pp, _, 0, v1, ep, rfl, SqT.of hpp, atI_nat (j := 0) rfl, ?_⟩
              have hkl : (kids (fs.take j) s.val w o).length ≤ 2 := kids_two (by rw [List.length_take]; have := hF.hi; omega)
              have hul6 := hu6.len
              rw [List.length_map, List.length_append] at hul6
              cases hv : s.val o f with
              | none =>
                rw [hv] at d1
                have e1 := d1.tv_none
                subst e1
                refine ⟨_, rfl, false, rfl, iteF ⟨us6, _, _, rfl, x6, k6, hp6, ?_, hm6⟩⟩
                rw [kids_succ hf, hv]
                simpa using hu6
              | some u =>
                rw [hv] at d1
                have d1 : Dt H6 v1 (tgD u) := d1
                obtain ⟨c1, rfl, hc1⟩ := d1.tg
                have nq6 : H6 q ≠ none := by
                  obtain ⟨kvs, hq, _⟩ := hm6.ex
                  rw [hq]; exact fun z => by cases z
                refine ⟨_, rfl, true, rfl, iteT ⟨_, rfl, .inl ⟨rfl, _, SqL.of hp6⟩, _, rfl, b2, _, rfl, .inl (SqT.of (k6 _ _ hb25)), _, rfl, small_le (by simp; omega), fun t1 n1 => ⟨_, rfl, by show 2 ≤ sizeLine; decide, fun t2 n2 => ?_⟩⟩⟩
                have x7 : Ext H6 (upd (upd H6 t1 (.tup (w.map V.str ++ [.str f]))) t2 (.tup [.ref t1, .ref c1])) := (Ext.upd n1).trans (Ext.upd n2)
                have dw : Dt (upd (upd H6 t1 (.tup (w.map V.str ++ [.str f]))) t2 (.tup [.ref t1, .ref c1])) (.ref t2) (wayD (w ++ [f], u)) := by
                  refine Dt.ofWay upd_same ?_ (d1.keep (ext_keep x7))
                  rw [upd_ne (fun z => by rw [z, upd_same] at n2; cases n2), upd_same, List.map_append]
                  rfl
                generalize upd (upd H6 t1 (.tup (w.map V.str ++ [.str f]))) t2 (.tup [.ref t1, .ref c1]) = H7 at x7 dw
                have hp7 := x7 _ _ hp6
                have k78 : KeepT H7 (upd H7 p (.lst (us6 ++ [.ref t2]))) := KeepT.at_ hp7 fun _ z => by cases z
                refine ⟨p, us6, _, rfl, rfl, hp7, small_lt (by omega), _, _, _, rfl, extSet (x6.trans x7) np0, k6.trans ((ext_keep x7).trans k78), upd_same, ?_, ?_⟩
                · rw [kids_succ hf, hv, ← List.append_assoc]
                  exact ((hu6.keep (ext_keep x7)).snocM (f := wayD) dw).keep k78
                · refine hm6.keep ((ext_keep x7).trans k78) ?_
                  obtain ⟨kvs, hq, _⟩ := hm6.ex
                  rw [upd_ne hpq.symm, x7 _ _ hq, hq]
            · subst e1
              rw [List.length_map, List.take_length, ← turn] at hu6
              exact ⟨_, rfl, _, _, rfl, rfl, done H6 us6 _ _ x6 hp6 hu6 hm6, less⟩
          · refine ⟨false, bl_f (show ¬ ((w.length : Nat) : Int) + 1 < ((d + 1 : Nat) : Int) by omega), iteF ?_⟩
            rw [if_neg hw] at turn
            rw [← turn] at hu5
            exact ⟨_, rfl, _, _, rfl, rfl, done H5 us _ _ x5 hp5 hu5 hm5, less⟩
        · rw [decide_eq_false (show ¬ ((i : Nat) : Int) < (us.length : Nat) by omega)]
          refine iteF ?_
          have efin := wys_fin (s := s) (r := r) (d := d + 1) (fs := fs) (i := i) (by omega) (by omega)
          rw [efin] at hu3 hm3 hul hlt
          have ei : i = (wysOf fs s (d + 1) r).length := by rw [efin] at hi3; omega
          rw [ei] at hm3
          clear hlt efin
          clear dw0 hp0 hq0 keep
          have wsn := wsn wmax
          have wsd := wsd wmax
          have wsl := wsl wmax
          change ∀ p ∈ wysOf fs s (d + 1) r, s.inn p.2 at wsn
          change ∀ p ∈ wysOf fs s (d + 1) r, p.1.length < d + 1 at wsd
          change (wysOf fs s (d + 1) r).length ≤ 15 at wsl
          have hmad0 := copyOf_some (fs := fs) (s := s) (frz := frz) (r := r) (d := d)
          generalize hws : wysOf fs s (d + 1) r = ws at hu3 hm3 hul ei wsn wsd wsl qq hmad0
          refine ⟨by show 0 ≤ sizeLine; decide, fun L nL => ?_⟩
          have x4 := x3.trans (Ext.upd (o := .lst []) nL)
          have y4 : Ext H3 (upd H3 L (.lst [])) := Ext.upd nL
          have hL4 : upd H3 L (.lst []) L = some (.lst []) := upd_same
          generalize upd H3 L (.lst []) = H4 at x4 y4 hL4
          refine ⟨_, rfl, p, rfl, ⟨_, SqL.of (y4 _ _ hp3)⟩, for_it (walk_list (xs := us)) (fun j σ' H' => ∃ (vs : List V) (a7 a8 a9 aa ac as : Option V), σ' = [some (.ref (A.ad .p)), some (.ref a), some (.bl frz), some (.int ((d + 1 : Nat) : Int)), some (.ref p), some (.ref q), some (.int (i : Nat)), a7, a8, a9, aa, some (.ref L), ac, as] ∧
            Ext H3 H' ∧ H' L = some (.lst vs) ∧ CellsAt H' fs ((ws.take j).map (cell1 s ws)) vs ∧ vs.Nodup ∧ ∀ c, V.ref c ∈ vs → H c = none ∧ ∃ o, H' c = some (.dK o)) ⟨[], _, _, _, _, _, _, rfl, y4, hL4, ⟨rfl, fun k c hc => by simp at hc⟩, List.nodup_nil, fun c hc => by cases hc⟩
            (fun _ _ _ _ ⟨_, _, _, _, _, _, _, _, y, _⟩ => SqL.of (y _ _ hp3)) (fun j v σ' Hz H5 hj ⟨vs, a7, a8, a9, aa, ac, as, e1, y5, hL5, hc5, nd5, fr5⟩ ⟨e2, ev⟩ => ?_) fun σ' H5 ⟨vs, a7, a8, a9, aa, ac, as, e1, y5, hL5, hc5, nd5, fr5⟩ => ?_⟩
          · subst e1 e2
            obtain ⟨⟨w, o⟩, hwo, duv⟩ := hu3.inv (f := wayD) ev
            have hmem := List.mem_of_getElem? hwo
            have oi := wsn _ hmem
            have wl : w.length < d + 1 := wsd _ hmem
            obtain ⟨b1, b2, b3, rfl, hb1, hb2, hb3, db3⟩ := duv.way
            refine ⟨b1, _, rfl, SqT.of (y5 _ _ hb1), rfl, .ref b2, [.ref b3], rfl, .ref b3, [], rfl, rfl, fun D nD => ?_⟩
            have y6 := y5.trans (Ext.upd (o := .dK []) nD)
            have hL6 := Ext.upd (o := .dK []) nD _ _ hL5
            have hD6 : upd H5 D (.dK []) D = some (.dK []) := upd_same
            have z6 : Ext H5 (upd H5 D (.dK [])) := Ext.upd nD
            generalize upd H5 D (.dK []) = H6 at y6 hL6 hD6 z6
            have st6 := st.ext (x3.trans y6)
            refine ⟨_, rfl, A.ad .p, _, A.dx, _, _, rfl, st6.p, cl, T.n_Store_fields, rfl, A.fa, rfl, ⟨_, SqT.of st6.fa⟩, for_it (walk_tup (xs := fs.map .str)) (fun k σ' H' => ∃ (ps : Str → V) (a9 aa as : Option V), σ' = [some (.ref (A.ad .p)), some (.ref a), some (.bl frz), some (.int ((d + 1 : Nat) : Int)), some (.ref p), some (.ref q), some (.int (i : Nat)), some (.ref b2), some (.ref b3), a9, aa, some (.ref L), some (.ref D), as] ∧
              Ext H5 H' ∧ H' D = some (.dK (kvF strK ps (fs.take k))) ∧ ∀ f ∈ fs.take k, Dt H' (ps f) (pairD ((cell1 s ws (w, o)).1 f) ((cell1 s ws (w, o)).2 f))) ⟨fun _ => .non, _, _, _, rfl, z6, hD6, fun f hf => by cases hf⟩
              (fun _ _ _ _ ⟨_, _, _, _, _, z, _⟩ => SqT.of ((st.ext ((x3.trans y5).trans z)).fa)) (fun k v σ' Hz H7 hk ⟨ps, a9, aa, as, e1, z7, hD7, hps7⟩ ⟨e2, ev⟩ => ?_) fun σ' H7 ⟨ps, a9, aa, as, e1, z7, hD7, hps7⟩ => ?_⟩
            · subst e1 e2
              obtain ⟨f, hf, rfl⟩ := map_at ev
              have hfm : f ∈ fs := List.mem_of_getElem? hf
              have y7 := y5.trans z7
              have st7 := st.ext (x3.trans y7)
              obtain ⟨qs, hc, hqs⟩ := st7.ce oi
              obtain ⟨pp, v1, v2, ep, hpp, d1, d2⟩ := (hqs f hfm).pair
              obtain ⟨kvs, hq7, hkl, hmd⟩ := (hm3.keep (ext_keep y7) (by
                obtain ⟨kvs, hq, _⟩ := hm3.ex
                rw [y7 _ _ hq, hq])).ex
              refine ⟨_, rfl, A.ad .p, _, A.dx, _, _, rfl, st7.p, cl, T.n_Store_cells, rfl, _, rfl, A.ad .cd, .ref (A.ad (.ce o)), rfl, dgetT st7.cd (y7 _ _ hb3) (st.cell oi), _, rfl, A.ad (.ce o), qs f, rfl, dgetK (k := strK f) hc (kvF_at strK_inj hfm), pp, _, ep, SqT.of hpp, rfl, v1, [v2], rfl, v2, [], rfl, rfl, ?_⟩
              refine ⟨_, rfl, q, rfl, .inr ⟨_, .of hq7⟩, _, rfl, b2, _, rfl, .inl (SqT.of (y7 _ _ hb2)), _, rfl, small_le (by simp; omega), fun t1 n1 => ⟨_, rfl, ?_⟩⟩
              have hq8 := Ext.upd (o := .tup (w.map V.str ++ [.str f])) n1 _ _ hq7
              have z8 : Ext H7 (upd H7 t1 (.tup (w.map V.str ++ [.str f]))) := Ext.upd n1
              have ht8 : upd H7 t1 (.tup (w.map V.str ++ [.str f])) t1 = some (.tup ((wK (w ++ [f])).map kV)) := by rw [upd_same, wK_map, List.map_append]; rfl
              generalize upd H7 t1 (.tup (w.map V.str ++ [.str f])) = H8 at hq8 z8 ht8
              have fin : ∀ u : V, Dt H8 u (tvD ((cell1 s ws (w, o)).1 f)) → ∀ t2, H8 t2 = none → ∃ D', V.ref D = .ref D' ∧ ∃ H9, DPut (upd H8 t2 (.tup [u, v2])) D' (.str f) (.ref t2) H9 ∧ ∃ (ps : Str → V) (a9 aa as : Option V), [some (V.ref (A.ad .p)), some (.ref a), some (.bl frz), some (.int ((d + 1 : Nat) : Int)), some (.ref p), some (.ref q), some (.int (i : Nat)), some (.ref b2), some (.ref b3), some (.str f), some v1, some (.ref L), some (.ref D), some v2] = [some (.ref (A.ad .p)), some (.ref a), some (.bl frz), some (.int ((d + 1 : Nat) : Int)), some (.ref p), some (.ref q), some (.int (i : Nat)), some (.ref b2), some (.ref b3), a9, aa, some (.ref L), some (.ref D), as] ∧
                  Ext H5 H9 ∧ H9 D = some (.dK (kvF strK ps (fs.take (k + 1)))) ∧ ∀ g ∈ fs.take (k + 1), Dt H9 (ps g) (pairD ((cell1 s ws (w, o)).1 g) ((cell1 s ws (w, o)).2 g)) := fun u du t2 n2 => by
                have z9 : Ext H7 (upd H8 t2 (.tup [u, v2])) := z8.trans (Ext.upd n2)
                have hD9 := z9 _ _ hD7
                have dt2 : Dt (upd H8 t2 (.tup [u, v2])) (.ref t2) (pairD ((cell1 s ws (w, o)).1 f) ((cell1 s ws (w, o)).2 f)) := .tup upd_same (.cons (du.keep (ext_keep (Ext.upd n2))) (.cons (d2.keep (ext_keep z9)) .nil))
                generalize upd H8 t2 (.tup [u, v2]) = H9 at z9 hD9 dt2
                have kk : KeepT H9 (upd H9 D (.dK (putK (kvF strK ps (fs.take k)) (strK f) (.ref t2)))) := KeepT.at_ hD9 fun _ z => by cases z
                refine ⟨D, rfl, _, DPut.k (k := strK f) hD9 (by rw [kvF_len, List.length_take]; exact small_lt (by have := hF.hi; omega)), fun g => if g = f then .ref t2 else ps g, _, _, _, rfl, extSet (z7.trans z9) nD, by rw [upd_same, kvF_nodup hF.nd hf], fun g hg => ?_⟩
                show Dt _ (if g = f then .ref t2 else ps g) _
                by_cases e : g = f
                · rw [if_pos e, e]
                  exact dt2.keep kk
                · rw [if_neg e]
                  rw [List.take_add_one, hf] at hg
                  rcases List.mem_append.mp hg with hg | hg
                  · exact ((hps7 g hg).keep (ext_keep z9)).keep kk
                  · exact absurd (by simpa using hg) e
              have hmd' := hmd (w ++ [f])
              have ec : (cell1 s ws (w, o)).1 f = match mad ws (w ++ [f]) ws.length with | some i => some (.ow (s.now + i)) | none => s.val o f := rfl
              cases em : mad ws (w ++ [f]) ws.length with
              | some x =>
                rw [em] at hmd' ec
                obtain ⟨u, hu1, hu2⟩ := hmd'
                refine ⟨some u, dgetT hq8 ht8 hu1, _, rfl, by show 2 ≤ sizeLine; decide, fun t2 n2 => ?_⟩
                obtain ⟨D', eD, H9, g1, g2⟩ := fin u (by rw [ec]; exact hu2.keep (ext_keep z8)) t2 n2
                exact ⟨_, rfl, _, rfl, D', H9, eD, g1, g2⟩
              | none =>
                rw [em] at hmd' ec
                refine ⟨none, dgetT hq8 ht8 hmd', _, rfl, by show 2 ≤ sizeLine; decide, fun t2 n2 => ?_⟩
                obtain ⟨D', eD, H9, g1, g2⟩ := fin v1 (by rw [ec]; exact d1.keep (ext_keep z8)) t2 n2
                exact ⟨_, rfl, _, rfl, D', H9, eD, g1, g2⟩
            · subst e1
              have ef : fs.take (fs.map V.str).length = fs := by rw [List.length_map, List.take_length]
              rw [ef] at hD7 hps7
              have hL7 := z7 _ _ hL5
              have nDL : D ≠ L := ne_of hD7 hL7 (by intro z; cases z)
              have k78 : KeepT H7 (upd H7 L (.lst (vs ++ [.ref D]))) := KeepT.at_ hL7 fun _ z => by cases z
              have nDv : V.ref D ∉ vs := fun hm => by
                obtain ⟨_, o, ho⟩ := fr5 D hm
                rw [nD] at ho
                cases ho
              have hvl : vs.length ≤ 15 := by
                have := hc5.len
                rw [List.length_map, List.length_take] at this
                omega
              have nLv : ∀ c, V.ref c ∈ vs → c ≠ L := fun c hc => by
                obtain ⟨_, o, ho⟩ := fr5 c hc
                exact ne_of ho hL5 (by intro z; cases z)
              refine ⟨_, rfl, .inl ⟨rfl, _, SqL.of hL7⟩, _, rfl, L, vs, _, rfl, rfl, hL7, small_lt (by omega), vs ++ [.ref D], _, _, _, _, _, _, rfl, extSet (y5.trans z7) nL, upd_same, ?_, ?_, fun c hc => ?_⟩
              · rw [List.take_add_one, hwo, List.map_append]
                refine CellsAt.push (hc5.keep ((ext_keep z7).trans k78) fun c hc => ?_) (ps := ps) ((upd_ne nDL).trans hD7) fun f hf => (hps7 f hf).keep k78
                obtain ⟨_, o, ho⟩ := fr5 c hc
                rw [upd_ne (nLv c hc), z7 _ _ ho, ho]
              · rw [List.nodup_append]
                refine ⟨nd5, by simp, fun x hx y hy e => nDv ?_⟩
                rw [List.mem_singleton.mp hy] at e
                exact e ▸ hx
              · rcases List.mem_append.mp hc with hc | hc
                · obtain ⟨h1, o, ho⟩ := fr5 c hc
                  exact ⟨h1, o, by rw [upd_ne (nLv c hc)]; exact z7 _ _ ho⟩
                · have : c = D := by simpa using hc
                  subst this
                  exact ⟨ext_none (x3.trans y5) nD, _, (upd_ne nDL).trans hD7⟩
          · subst e1
            rw [hul, List.take_length] at hc5
            have x5 := x3.trans y5
            have st5 := st.ext x5
            have nfv : ∀ c, V.ref c ∈ vs → ¬ foot A s c := fun c hc hf => by
              obtain ⟨o, ho⟩ := st.there hf
              rw [(fr5 c hc).1] at ho
              cases ho
            have nLf : ∀ b, H b = none → ¬ foot A s b := fun b hb hf => by
              obtain ⟨o, ho⟩ := st.there hf
              rw [hb] at ho
              cases ho
            have nL0 : H L = none := ext_none x3 nL
            have hvL : ∀ k : Nat, vs[k]? ≠ some (V.ref L) := fun k z => by
              obtain ⟨_, o, ho⟩ := fr5 L (List.mem_of_getElem? z)
              rw [hL5] at ho
              cases ho
            have csl : (ws.map (cell1 s ws)).length = ws.length := List.length_map _
            generalize hcs : ws.map (cell1 s ws) = cs at hc5 csl qq
            have vsl := hc5.len
            refine ⟨_, rfl, L, rfl, ⟨_, SqL.of hL5⟩, for_it (walk_list (xs := vs)) (fun j σ' H' => ∃ (A2 : SA) (ac : Option V), σ' = [some (.ref (A.ad .p)), some (.ref a), some (.bl frz), some (.int ((d + 1 : Nat) : Int)), some (.ref p), some (.ref q), some (.int (i : Nat)), a7, a8, a9, aa, some (.ref L), ac, as] ∧
              Sto (cSto K) H' A2 m fs (addAll frz (cs.take j) s) ∧ Chg (foot A s) H H' ∧ (∀ b, foot A2 (addAll frz (cs.take j) s) b → foot A s b ∨ ∃ k : Nat, k < j ∧ vs[k]? = some (V.ref b)) ∧ A2.ad .p = A.ad .p ∧ A2.fa = A.fa ∧ KeepT H5 H' ∧
              ∀ b o, H5 b = some o → ¬ foot A s b → (∀ k : Nat, k < j → vs[k]? ≠ some (V.ref b)) → H' b = some o) ⟨A, _, rfl, st5, Chg.of x5, fun b hb => .inl hb, rfl, rfl, KeepT.rfl', fun b o hb _ _ => hb⟩
              (fun j σ' H' _ ⟨_, _, _, _, _, _, _, _, _, e⟩ => SqL.of (e L _ hL5 (nLf L nL0) fun k _ => hvL k)) (fun j v σ' Hz H6 hj ⟨A2, ac, e1, st6, c6, f6, p6, fa6, k6, o6⟩ ⟨e2, ev⟩ => ?_) fun σ' H6 ⟨A2, ac, e1, st6, c6, f6, p6, fa6, k6, o6⟩ => ?_⟩
            · subst e1 e2
              have hjc : j < cs.length := by omega
              obtain ⟨c, ps, hv, hc, hps⟩ := hc5.at_ j _ (List.getElem?_eq_getElem hjc)
              rw [hv] at ev
              cases ev
              have hcv := List.mem_of_getElem? hv
              have nck : ∀ k : Nat, k < j → vs[k]? ≠ some (V.ref c) := fun k hk z => by
                have := (List.getElem?_inj (by omega) nd5).mp (z.trans hv.symm)
                omega
              have hc6 := o6 c _ hc (nfv c hcv) nck
              have nfc : ¬ foot A2 (addAll frz (cs.take j) s) c := fun z => by
                rcases f6 c z with z | ⟨k, hk, z⟩
                · exact nfv c hcv z
                · exact nck k hk z
              obtain ⟨g1, g2, g3, g4, g5, g6, g7, g8⟩ := addAll_facts frz (cs.take j) s
              have htl : (cs.take j).length ≤ 15 := by rw [List.length_take]; omega
              have es : addObj (addAll frz (cs.take j) s) cs[j] frz = addAll frz (cs.take (j + 1)) s := by
                rw [List.take_add_one, List.getElem?_eq_getElem hjc]
                exact (addAll_snoc _ _ _ _).symm
              refine ⟨_, rfl, A.ad .p, A2.dx, stoFs A2 (addAll frz (cs.take j) s).puts, rfl, by rw [← p6]; exact st6.p, rfl, _, rfl, _, rfl, A2, m, fs, _, c, frz, ps, cs[j], by rw [p6]; rfl, st6, by have := ok.fl; omega, by have := ok.sm; omega, hc6, fun f hf => (hps f hf).keep k6, nfc, fun H7 u st7 du c7 => ?_⟩
              rw [es] at st7
              refine ⟨_, _, rfl, st7, ⟨fun b o hb hn => ?_, c6.tup.trans c7.tup⟩, fun b hb => ?_, ?_, fa6, k6.trans c7.tup, fun b o hb hn hk => ?_⟩
              · refine c7.old b o (c6.old b o hb hn) fun z => ?_
                rcases f6 b z with z | ⟨k, _, z⟩
                · exact hn z
                · rw [(fr5 b (List.mem_of_getElem? z)).1] at hb
                  cases hb
              · obtain ⟨rr, hrr, rfl⟩ := hb
                by_cases e : rr = .ce (.ow (addAll frz (cs.take j) s).now)
                · subst e
                  rw [push_new]
                  exact .inr ⟨j, Nat.lt_succ_self _, hv⟩
                · rw [push_old e]
                  have : Ro.ok (addAll frz (cs.take j) s) rr := by
                    cases rr with
                    | ce t =>
                      rw [← es] at hrr
                      cases t with
                      | st n => exact hrr
                      | ow k =>
                        have hk : k < (addAll frz (cs.take j) s).now + 1 := hrr
                        have : k ≠ (addAll frz (cs.take j) s).now := fun z => e (by rw [z])
                        show k < (addAll frz (cs.take j) s).now
                        omega
                    | _ => trivial
                  rcases f6 _ ⟨rr, this, rfl⟩ with z | ⟨k, hk, z⟩
                  · exact .inl z
                  · exact .inr ⟨k, Nat.lt_succ_of_lt hk, z⟩
              · rw [← p6]
                exact push_old (by intro z; cases z)
              · refine c7.old b o (o6 b o hb hn fun k hk' => hk k (Nat.lt_succ_of_lt hk')) fun z => ?_
                rcases f6 b z with z | ⟨k, hk', z⟩
                · exact hn z
                · exact hk k (Nat.lt_succ_of_lt hk') z
            · subst e1
              rw [vsl, List.take_length] at st6 f6
              obtain ⟨x, hx1, hx2⟩ := hmad0
              obtain ⟨kvs, hq3, hkl, hmd⟩ := hm3.ex
              have hmd0 := hmd []
              rw [hx1] at hmd0
              obtain ⟨u, hu1, hu2⟩ := hmd0
              have hq5 := y5 _ _ hq3
              have hq6 := o6 q _ hq5 (nLf q nq0) fun k _ z => by
                obtain ⟨_, o, ho⟩ := fr5 q (List.mem_of_getElem? z)
                rw [hq5] at ho
                cases ho
              refine ⟨_, rfl, by show 0 ≤ sizeLine; decide, fun tp ntp => ⟨q, u, rfl, dgetT (k := wK []) (Ext.upd ntp _ _ hq6) upd_same hu1, ?_⟩⟩
              refine qq A2 _ u (st6.ext (Ext.upd ntp)) ?_ (c6.trans (Chg.new ntp)) (fun b hb => ?_) p6 fa6
              · rw [hx1]
                exact ((hu2.keep (ext_keep y5)).keep k6).keep (ext_keep (Ext.upd ntp))
              · rcases f6 b hb with z | ⟨k, _, z⟩
                · exact .inl z
                · exact .inr (fr5 b (List.mem_of_getElem? z)).1
end
end TW
set_option maxHeartbeats 4000000
/-! ## the store: a row is done -/
namespace TW
open PySem PySem.Spec PyProof.Rows L2 TwN
theorem case_no {x z : Str} {p q : Prop} (h : x ≠ z) (hq : q) : if x = z then p else q := by rw [if_neg h]; exact hq
theorem case_yes {x z : Str} {p q : Prop} (h : x = z) (hp : p) : if x = z then p else q := by rw [if_pos h]; exact hp
theorem row_f {fs : List Str} {x y f : Str} (h : RowGood fs (.look x y f)) : f ∈ fs := by
  have := eachP_at (i := 2) (c := 102) h (show (Str.ofString "vvf").cps.toList[2]? = some 102 by decide +kernel) rfl
  cases this with
  | f h => exact h
theorem row_pf {fs : List Str} {x y f : Str} (h : RowGood fs (.put x f y)) : f ∈ fs := by
  have := eachP_at (i := 1) (c := 102) h (show (Str.ofString "vfv").cps.toList[1]? = some 102 by decide +kernel) rfl
  cases this with
  | f h => exact h
theorem goodP_d {fs : List Str} {n : Nat} {v : V} (h : GoodP fs 100 v) (e : v = .int (n : Nat)) : n ≤ 4 := by
  cases h with
  | d h => injection e with e; omega
theorem row_cd {fs : List Str} {x y : Str} {b : Bool} {n : Nat} (h : RowGood fs (.copy x y b n)) : n ≤ 4 := goodP_d (eachP_at (i := 3) (c := 100) h (show (Str.ofString "vvkd").cps.toList[3]? = some 100 by decide +kernel) rfl) rfl
theorem row_wd {fs : List Str} {r x : Str} {n : Nat} (h : RowGood fs (.watch r x n)) : n ≤ 4 := goodP_d (eachP_at (i := 2) (c := 100) h (show (Str.ofString "rvd").cps.toList[2]? = some 100 by decide +kernel) rfl) rfl
theorem row_wr {fs : List Str} {r x : Str} {n : Nat} (h : RowGood fs (.watch r x n)) : GoodW r := by
  have := eachP_at (i := 0) (c := 114) h (show (Str.ofString "rvd").cps.toList[0]? = some 114 by decide +kernel) rfl
  cases this with
  | r h => exact h
theorem row_ok {fs : List Str} {r : RowS} (h : RowGood fs r) : rowOk fs r := by
  cases r with
  | look x y f => exact row_f h
  | put x f y => exact row_pf h
  | copy x y b n => exact row_cd h
  | watch r x n => exact row_wd h
  | move x y => trivial
  | none x => trivial
  | new x => trivial
theorem row_G {fs : List Str} {r : RowS} (h : RowGood fs r) : rowG GoodW r := by
  cases r with
  | watch r x n => exact row_wr h
  | _ => trivial
section
variable {P : Program} {w : World} {K : PySem.W.Frag} {mg : Str → Option Value} {base h : Heap}
theorem PostR.imp {A : SA} {m : Nat} {fs : List Str} {s : StS} {H : Hp} {Q Q' : VK} {E E' : XK} {r : Res Str} (h : PostR K A m fs s H Q E r) (hq : ∀ H', Q .non H' → Q' .non H') (he : ∀ c d H', E c d H' → E' c d H') : PostR K A m fs s H Q' E' r := by
  cases h with
  | ok h => exact .ok fun A' H' a b c d e => hq _ (h A' H' a b c d e)
  | hollow h => exact .hollow fun d hd => he _ _ _ (h d hd)
  | refused h => exact .refused fun d hd => he _ _ _ (h d hd)
def sp_perform (K : PySem.W.Frag) : Sp := fun vs H Q E => ∃ (A : SA) (m : Nat) (fs : List Str) (s : StS) (ra : Addr) (r : RowS), vs = [.ref (A.ad .p), .ref ra] ∧ H ra = some (.tup (rowV r)) ∧ Sto (cSto K) H A m fs s ∧ Fields fs ∧ SOk fs s ∧ (∀ w ∈ s.wat, w.2.2 ≤ 1000) ∧ m ≤ 10000 ∧ RowGood fs r ∧
  PostR K A m fs s H Q E (perf fs s r)
theorem p_Store_perform (T : Tx w K mg h) : MetX P w K mg base 4 (cSto K) "perform" (sp_perform K) :=
  metX T.f_Store_perform T.c_Store T.m_Store_perform sc_Store_perform (fun vs H Q E ⟨_, _, _, _, _, _, e, _⟩ => by rw [e]; rfl) fun cdv A' outer s' H vs Q E hr ⟨A, m, fs, s, ra, r, e, hra, st, hF, ok, hw, hm, hg, q⟩ => by
    subst e
    have cl := T.c_Store
    refine ⟨_, (pss_one (ps_match (pe_ix ix_tup (pv 1) pe_int (fun _ _ => rfl)) (.cons (pss_one (ps_dput (hu_of hr) (pe_fld (pv 0) (by rfl)) (pe_ix ix_tup (pv 1) pe_int (fun _ _ => rfl)) (C8.pe_mt (p_Store_held_by T) hr (by decide) (pv 0) (pa_cons (pe_ix ix_tup (pv 1) pe_int (fun _ _ => rfl)) pa_nil)) (by rfl)))
  (.cons (pss_one (ps_dput (hu_of hr) (pe_fld (pv 0) (by rfl)) (pe_ix ix_tup (pv 1) pe_int (fun _ _ => rfl)) pe_non (by rfl)))
  (.cons (pss_one (ps_dput (hu_of hr) (pe_fld (pv 0) (by rfl)) (pe_ix ix_tup (pv 1) pe_int (fun _ _ => rfl)) (C8.pe_mt (p_Store_add_object T) hr (by decide) (pv 0) (pa_cons (by exact (pe_dc (own := [("field", 2)]) (g := gName 2) (by rfl) sc_Store_perform.nd (pi_tup (pe_fld (pv 0) (by rfl))) (blkOk_by (own := [("field", 2)]) (N := ["self", "row", "field"]) (sc := defScope s_Store_perform) (by decide +kernel)) (fun _ _ _ _ _ => (pg_name (i := 2) sc_Store_perform.nd rfl (by first | exact Or.inl rfl | exact Or.inr rfl))) (fun _ _ _ _ _ => pts_nil) (fun _ _ _ _ _ => (by exact (pv 2))) (fun _ _ _ _ _ => (by exact (pe_tup (pa_cons pe_non (pa_cons pe_non pa_nil))))))) (pa_cons pe_bl pa_nil))) (by rfl)))
  (.cons (pss_one (ps_expr (pe_mtS (W := (fun cls d _ H => E cls d H)) (p_Store_look T) (takes_of rfl rfl rfl rfl) hr (by decide) (pv 0) (pa_cons (pe_ix ix_tup (pv 1) pe_int (fun _ _ => rfl)) (pa_cons (pe_ix ix_tup (pv 1) pe_int (fun _ _ => rfl)) (pa_cons (pe_ix ix_tup (pv 1) pe_int (fun _ _ => rfl)) pa_nil))))))
  (.cons (pss_one (ps_expr (pe_mtS (W := (fun cls d _ H => E cls d H)) (p_Store_put T) (takes_of rfl rfl rfl rfl) hr (by decide) (pv 0) (pa_cons (pe_ix ix_tup (pv 1) pe_int (fun _ _ => rfl)) (pa_cons (pe_ix ix_tup (pv 1) pe_int (fun _ _ => rfl)) (pa_cons (pe_ix ix_tup (pv 1) pe_int (fun _ _ => rfl)) pa_nil))))))
  (.cons (pss_one (ps_dput (hu_of hr) (pe_fld (pv 0) (by rfl)) (pe_ix ix_tup (pv 1) pe_int (fun _ _ => rfl)) (C8.pe_mt (p_Store_copy_of T) hr (by decide) (pv 0) (pa_cons (C8.pe_mt (p_Store_held_by T) hr (by decide) (pv 0) (pa_cons (pe_ix ix_tup (pv 1) pe_int (fun _ _ => rfl)) pa_nil)) (pa_cons (pe_cmpR op_eq (pe_ix ix_tup (pv 1) pe_int (fun _ _ => rfl)) pe_str (nomark _)) (pa_cons (pe_ix ix_tup (pv 1) pe_int (fun _ _ => rfl)) pa_nil)))) (by rfl)))
  (.cons (pss_one (ps_expr (pe_bm PySem.F.plainAttrs_list PySem.F.slot_list_append PySem.F.type_list_append mt_append (pe_fld (pv 0) (by rfl)) (pa_cons (pe_tup (pa_cons (pe_ix ix_tup (pv 1) pe_int (fun _ _ => rfl)) (pa_cons (C8.pe_mt (p_Store_held_by T) hr (by decide) (pv 0) (pa_cons (pe_ix ix_tup (pv 1) pe_int (fun _ _ => rfl)) pa_nil)) (pa_cons (pe_ix ix_tup (pv 1) pe_int (fun _ _ => rfl)) pa_nil)))) pa_nil))))
  .nil))))))))), ?_⟩
    obtain ⟨kvs, h1, h2, h3⟩ := st.ho
    cases r with
    | move x y =>
      refine ⟨_, rfl, ra, _, 0, .str "move", rfl, rfl, SqT.of hra, atI_nat (j := 0) rfl, _, rfl, case_yes rfl ?_⟩
      have q := q.isOk
      refine ⟨_, rfl, A.ad .p, A.dx, _, rfl, st.p, rfl, _, rfl, ra, _, 2, .str y, rfl, rfl, SqT.of hra, atI_nat (j := 2) rfl, A, m, fs, s, y, rfl, st, fun v dv => ?_⟩
      refine ⟨_, rfl, A.ad .p, _, A.dx, _, _, rfl, st.p, cl, T.n_Store_holding, rfl, _, rfl, ra, _, 1, .str x, rfl, rfl, SqT.of hra, atI_nat (j := 1) rfl, A.ad .ho, _, rfl, DPut.k (k := strK x) h1 (small_lt (by omega)), ?_⟩
      exact q A _ (st.setHold h2 h3 x dv) (st.chg (r := .ho) trivial _) (fun b hb => .inl hb) rfl rfl
    | none x =>
      refine ⟨_, rfl, ra, _, 0, .str "none", rfl, rfl, SqT.of hra, atI_nat (j := 0) rfl, _, rfl, case_no (by decide) ⟨_, rfl, case_yes rfl ?_⟩⟩
      have q := q.isOk
      refine ⟨_, rfl, A.ad .p, _, A.dx, _, _, rfl, st.p, cl, T.n_Store_holding, rfl, _, rfl, ra, _, 1, .str x, rfl, rfl, SqT.of hra, atI_nat (j := 1) rfl, A.ad .ho, _, rfl, DPut.k (k := strK x) h1 (small_lt (by omega)), ?_⟩
      exact q A _ (st.setHold (t := none) h2 h3 x .non) (st.chg (r := .ho) trivial _) (fun b hb => .inl hb) rfl rfl
    | new x =>
      refine ⟨_, rfl, ra, _, 0, .str "new", rfl, rfl, SqT.of hra, atI_nat (j := 0) rfl, _, rfl, case_no (by decide) ⟨_, rfl, case_no (by decide) ⟨_, rfl, case_yes rfl ?_⟩⟩⟩
      have q := q.isOk
      refine ⟨_, rfl, A.ad .p, A.dx, _, rfl, st.p, rfl, _, rfl, A.ad .p, _, A.dx, _, _, rfl, st.p, cl, T.n_Store_fields, rfl, A.fa, rfl, ⟨_, SqT.of st.fa⟩, fun D nD => dc_it (walk_tup (xs := fs.map .str)) (fun j H' => ∃ ps : Str → V, H' D = some (.dK (kvF strK ps (fs.take j))) ∧ (∀ f ∈ fs.take j, Dt H' (ps f) (pairD none none)) ∧ Ext H H') ⟨fun _ => .non, upd_same, fun f hf => by (cases hf), Ext.upd nD⟩
        (fun _ _ _ ⟨_, _, _, x⟩ => SqT.of (x _ _ st.fa)) (fun j v Hz H1 hj ⟨ps, hD, hps, x1⟩ ⟨e2, ev⟩ => ?_) fun H1 ⟨ps, hD, hps, x1⟩ => ?_⟩
      · subst e2
        obtain ⟨f, hf, rfl⟩ := map_at ev
        refine ⟨rfl, _, rfl, by show 2 ≤ sizeLine; decide, fun tp ntp => ⟨kvF strK ps (fs.take j), strK f, rfl, by rw [upd_ne (ne_of_none hD ntp)]; exact hD, ?_, ?_⟩⟩
        · rw [kvF_len, List.length_take]
          exact small_lt (by have := hF.hi; omega)
        · have hD2 := Ext.upd (o := .tup [.non, .non]) ntp _ _ hD
          have kk : KeepT (upd H1 tp (.tup [.non, .non])) (upd (upd H1 tp (.tup [.non, .non])) D (.dK (putK (kvF strK ps (fs.take j)) (strK f) (.ref tp)))) := KeepT.at_ hD2 fun _ z => by cases z
          refine ⟨fun g => if g = f then .ref tp else ps g, by rw [upd_same, kvF_nodup hF.nd hf], fun g hg => ?_, extSet (x1.trans (Ext.upd ntp)) nD⟩
          show Dt _ (if g = f then .ref tp else ps g) _
          by_cases e : g = f
          · rw [if_pos e]
            exact Dt.keep kk (.tup upd_same (.cons .non (.cons .non .nil)))
          · rw [if_neg e]
            rw [List.take_add_one, hf] at hg
            rcases List.mem_append.mp hg with hg | hg
            · exact ((hps g hg).keep (ext_keep (Ext.upd ntp))).keep kk
            · exact absurd (by simpa using hg) e
      · have ef : fs.take (fs.map V.str).length = fs := by rw [List.length_map, List.take_length]
        rw [ef] at hD hps
        have st1 := st.ext x1
        have nDf : ¬ foot A s D := fun z => by
          obtain ⟨o, ho⟩ := st.there z
          rw [nD] at ho
          cases ho
        refine ⟨A, m, fs, s, D, false, ps, (fun _ => none, fun _ => none), rfl, st1, ok.fl, by have := ok.sm; omega, hD, hps, nDf, fun H2 u st2 du c2 => ?_⟩
        have c02 : Chg (foot A s) H H2 := (Chg.of x1).trans c2
        have hra2 := c02.tup _ _ hra
        have pp : (A.push D s.now).ad .p = A.ad .p := push_old (by intro z; cases z)
        obtain ⟨kvs2, g1, g2, g3⟩ := st2.ho
        refine ⟨_, rfl, (A.push D s.now).ad .p, _, A.dx, _, _, by rw [pp], st2.p, cl, T.n_Store_holding, rfl, _, rfl, ra, _, 1, .str x, rfl, rfl, SqT.of hra2, atI_nat (j := 1) rfl, (A.push D s.now).ad .ho, _, rfl, DPut.k (k := strK x) g1 (small_lt (by omega)), ?_⟩
        refine q (A.push D s.now) _ (st2.setHold (t := some (.ow s.now)) g2 g3 x du) ⟨fun b o hb hn => ?_, c02.tup.trans (st2.chg (r := .ho) trivial _).tup⟩ (fun b hb => ?_) pp rfl
        · rw [upd_ne fun z => hn ?_]
          · exact c02.old b o hb hn
          · rw [z, push_old (by intro z; cases z)]
            exact ⟨.ho, trivial, rfl⟩
        · obtain ⟨rr, hrr, rfl⟩ := hb
          by_cases e : rr = .ce (.ow s.now)
          · subst e
            rw [push_new]
            exact .inr nD
          · rw [push_old e]
            refine .inl ⟨rr, ?_, rfl⟩
            cases rr with
            | ce t =>
              cases t with
              | st n => exact hrr
              | ow k =>
                have hk : k < s.now + 1 := hrr
                have : k ≠ s.now := fun z => e (by rw [z])
                show k < s.now
                omega
            | _ => trivial
    | look x y f =>
      refine ⟨_, rfl, ra, _, 0, .str "look", rfl, rfl, SqT.of hra, atI_nat (j := 0) rfl, _, rfl, case_no (by decide) ⟨_, rfl, case_no (by decide) ⟨_, rfl, case_no (by decide) ⟨_, rfl, case_yes rfl ?_⟩⟩⟩⟩
      exact ⟨_, rfl, A.ad .p, A.dx, _, rfl, st.p, rfl, _, rfl, ra, _, 1, .str x, rfl, rfl, SqT.of hra, atI_nat (j := 1) rfl, _, rfl, ra, _, 2, .str y, rfl, rfl, SqT.of hra, atI_nat (j := 2) rfl, _, rfl, ra, _, 3, .str f, rfl, rfl, SqT.of hra, atI_nat (j := 3) rfl,
        A, m, fs, s, x, y, f, rfl, st, hF, row_f hg, ok, hm, (show PostR K A m fs s H Q E (lookP s x y f) from q).imp (fun _ z => z) fun _ _ _ z => z⟩
    | put x f y =>
      refine ⟨_, rfl, ra, _, 0, .str "put", rfl, rfl, SqT.of hra, atI_nat (j := 0) rfl, _, rfl, case_no (by decide) ⟨_, rfl, case_no (by decide) ⟨_, rfl, case_no (by decide) ⟨_, rfl, case_no (by decide) ⟨_, rfl, case_yes rfl ?_⟩⟩⟩⟩⟩
      exact ⟨_, rfl, A.ad .p, A.dx, _, rfl, st.p, rfl, _, rfl, ra, _, 1, .str x, rfl, rfl, SqT.of hra, atI_nat (j := 1) rfl, _, rfl, ra, _, 2, .str f, rfl, rfl, SqT.of hra, atI_nat (j := 2) rfl, _, rfl, ra, _, 3, .str y, rfl, rfl, SqT.of hra, atI_nat (j := 3) rfl,
        A, m, fs, s, x, f, y, rfl, st, hF, row_pf hg, ok, hw, (show PostR K A m fs s H Q E (putP fs s x f y) from q).imp (fun _ z => z) fun _ _ _ z => z⟩
    | copy x y b d =>
      refine ⟨_, rfl, ra, _, 0, .str "copy", rfl, rfl, SqT.of hra, atI_nat (j := 0) rfl, _, rfl, case_no (by decide) ⟨_, rfl, case_no (by decide) ⟨_, rfl, case_no (by decide) ⟨_, rfl, case_no (by decide) ⟨_, rfl, case_no (by decide) ⟨_, rfl, case_yes rfl ?_⟩⟩⟩⟩⟩⟩
      have q := q.isOk
      refine ⟨_, rfl, A.ad .p, A.dx, _, rfl, st.p, rfl, _, rfl, A.ad .p, A.dx, _, rfl, st.p, rfl, _, rfl, ra, _, 2, .str y, rfl, rfl, SqT.of hra, atI_nat (j := 2) rfl, A, m, fs, s, y, rfl, st, fun v dv => ?_⟩
      refine ⟨_, rfl, ra, _, 3, .str (kindS b), rfl, rfl, SqT.of hra, atI_nat (j := 3) rfl, rfl, _, rfl, ra, _, 4, .int (d : Nat), rfl, rfl, SqT.of hra, atI_nat (j := 4) rfl, ?_⟩
      have eb : decide (V.str (kindS b) = .str "freeze") = b := by cases b <;> decide
      refine ⟨A, m, fs, s, v, s.hold y, b, d, by rw [eb]; rfl, st, hF, dv, fun u hu => ok.wf.hold y u hu, ok, row_cd hg, fun A2 H2 u st2 du c2 f2 p2 fa2 => ?_⟩
      have hra2 := c2.tup _ _ hra
      obtain ⟨kvs2, g1, g2, g3⟩ := st2.ho
      refine ⟨_, rfl, A2.ad .p, _, A2.dx, _, _, by rw [p2], st2.p, cl, T.n_Store_holding, rfl, _, rfl, ra, _, 1, .str x, rfl, rfl, SqT.of hra2, atI_nat (j := 1) rfl, A2.ad .ho, _, rfl, DPut.k (k := strK x) g1 (small_lt (by omega)), ?_⟩
      have eh : (copyOf fs s b (s.hold y) d).1.hold = s.hold := by
        obtain ⟨n, f1, f2, f3, _⟩ := copyOf_facts fs s b (s.hold y) d
        exact f3
      have st3 := st2.setHold g2 g3 x du
      rw [eh] at st3
      refine q A2 _ st3 ⟨fun c o hc hn => ?_, c2.tup.trans (st2.chg (r := .ho) trivial _).tup⟩ f2 p2 fa2
      rw [upd_ne fun z => ?_]
      · exact c2.old c o hc hn
      · rcases f2 _ ⟨.ho, trivial, z⟩ with z | z
        · exact hn z
        · rw [hc] at z; cases z
    | watch r x d =>
      refine ⟨_, rfl, ra, _, 0, .str "watch", rfl, rfl, SqT.of hra, atI_nat (j := 0) rfl, _, rfl, case_no (by decide) ⟨_, rfl, case_no (by decide) ⟨_, rfl, case_no (by decide) ⟨_, rfl, case_no (by decide) ⟨_, rfl, case_no (by decide) ⟨_, rfl, case_no (by decide) ⟨_, rfl, case_yes rfl ?_⟩⟩⟩⟩⟩⟩⟩
      have q := q.isOk
      obtain ⟨ws, hws, dws⟩ := st.wt
      have hl := dws.len
      rw [List.length_map] at hl
      refine ⟨_, rfl, A.ad .p, _, A.dx, _, _, rfl, st.p, cl, T.n_Store_watchers, rfl, .inl ⟨rfl, _, SqL.of hws⟩, _, rfl, ra, _, 1, .str r, rfl, rfl, SqT.of hra, atI_nat (j := 1) rfl, ?_⟩
      refine ⟨_, rfl, A.ad .p, A.dx, _, rfl, st.p, rfl, _, rfl, ra, _, 2, .str x, rfl, rfl, SqT.of hra, atI_nat (j := 2) rfl, A, m, fs, s, x, rfl, st, fun v dv => ?_⟩
      refine ⟨_, rfl, ra, _, 3, .int (d : Nat), rfl, rfl, SqT.of hra, atI_nat (j := 3) rfl, by show 3 ≤ sizeLine; decide, fun tp ntp => ?_⟩
      have x1 : Ext H (upd H tp (.tup [.str r, v, .int (d : Nat)])) := Ext.upd ntp
      have dt : Dt (upd H tp (.tup [.str r, v, .int (d : Nat)])) (.ref tp) (watD (r, s.hold x, d)) := .tup upd_same (.cons (.str _) (.cons (dv.keep (ext_keep x1)) (.cons (.int _) .nil)))
      generalize upd H tp (.tup [.str r, v, .int (d : Nat)]) = H1 at x1 dt
      have st1 := st.ext x1
      refine ⟨A.ad .wt, ws, _, rfl, rfl, x1 _ _ hws, small_lt (by have := ok.wl; omega), ?_⟩
      exact q A _ ((st1.setWat (dws.keep (ext_keep x1)) dt).mono (Nat.le_succ m)) ((Chg.of x1).trans (st1.chg (r := .wt) trivial _)) (fun b hb => .inl hb) rfl rfl
end
end TW
set_option maxHeartbeats 4000000
/-! ## a store that is made -/
namespace TW
open PySem PySem.Spec PyProof.Rows L2 TwN
/-- the state that a heap begins with -/
def s0 (fs : List Str) (h : HD Str) : StS where
  nst := h.n
  now := 0
  val := fun t f => match t with
    | .st n => (h.ob n f).map .st
    | .ow _ => none
  src := fun t f => match t with
    | .st n => if f ∈ fs then some (n, f) else none
    | .ow _ => none
  hold := fun x => (h.at_ x).map .st
  fro := []
  wat := []
  hits := []
  seen := []
  puts := 0
theorem s0_wf {fs : List Str} {h : HD Str} (v : HV fs h) : WF fs (s0 fs h) := by
  refine ⟨fun t f u ht hf e => ?_, fun x u e => ?_, fun w hw => by cases hw⟩
  · cases t with
    | st n =>
      have e' : (h.ob n f).map Tg.st = some u := e
      cases eo : h.ob n f with
      | none => rw [eo] at e'; cases e'
      | some j =>
        rw [eo] at e'
        cases e'
        exact v.ob n f j ht hf eo
    | ow k => cases e
  · have e' : (h.at_ x).map Tg.st = some u := e
    cases eo : h.at_ x with
    | none => rw [eo] at e'; cases e'
    | some j =>
      rw [eo] at e'
      cases e'
      exact v.at_ eo
theorem s0_gd {fs : List Str} {h : HD Str} : SGd GoodW fs (s0 fs h) := by
  refine ⟨fun t f p e => ?_, (fun p hp => by cases hp), (fun p hp => by cases hp), (fun p hp => by cases hp)⟩
  cases t with
  | st n =>
    have e' : (if f ∈ fs then some (n, f) else none) = some p := e
    split at e'
    · cases e'; assumption
    · cases e'
  | ow k => cases e
theorem s0_bnd {fs : List Str} {h : HD Str} (hn : h.n ≤ 7) : Bnd (s0 fs h) 0 0 := ⟨hn, Nat.le_refl _, rfl, Nat.le_refl _, Nat.le_refl _, Nat.le_refl _, Nat.le_refl _⟩
def mkA (x cd ho fr wt ht sn dx fa : Addr) (ce : Tg → Addr) : SA where
  ad := fun r => match r with
    | .p => x | .cd => cd | .ho => ho | .fr => fr | .wt => wt | .ht => ht | .sn => sn | .ce t => ce t
  dx := dx
  fa := fa
theorem mkA_inj {x cd ho fr wt ht sn dx fa : Addr} {ce : Tg → Addr} {s : StS} (nd : [x, cd, ho, fr, wt, ht, sn].Nodup) (hc : ∀ t, s.inn t → ce t ∉ [x, cd, ho, fr, wt, ht, sn]) (hi : ∀ t u, s.inn t → s.inn u → ce t = ce u → t = u) :
    ∀ r r' : Ro, r.ok s → r'.ok s → (mkA x cd ho fr wt ht sn dx fa ce).ad r = (mkA x cd ho fr wt ht sn dx fa ce).ad r' → r = r' := by
  have mem : ∀ r : Ro, (∀ t, r ≠ .ce t) → (mkA x cd ho fr wt ht sn dx fa ce).ad r ∈ [x, cd, ho, fr, wt, ht, sn] := fun r hr => by
    cases r with
    | ce t => exact absurd rfl (hr t)
    | _ => simp [mkA]
  simp only [List.nodup_cons, List.mem_cons, List.not_mem_nil, not_or, or_false, not_false_eq_true, List.nodup_nil, and_true] at nd
  obtain ⟨⟨a1, a2, a3, a4, a5, a6⟩, ⟨b1, b2, b3, b4, b5⟩, ⟨c1, c2, c3, c4⟩, ⟨d1, d2, d3⟩, ⟨e1, e2⟩, f1⟩ := nd
  intro r r' hr hr' e
  cases r with
  | ce t =>
    cases r' with
    | ce u => rw [hi t u hr hr' e]
    | _ => exact absurd (show ce t ∈ _ by rw [show ce t = _ from e]; exact mem _ fun u z => by cases z) (hc t hr)
  | _ =>
    cases r' with
    | ce u => exact absurd (show ce u ∈ _ by rw [show ce u = _ from e.symm]; exact mem _ fun u z => by cases z) (hc u hr')
    | _ =>
      simp only [mkA] at e
      first
        | rfl
        | exact absurd e (by assumption)
        | exact absurd e.symm (by assumption)
theorem HeapAt.stay {K : PySem.W.Frag} {H H' : Hp} {hp x C dx : Addr} {fs : List Str} {h : HD Str} (a : HeapAt K H hp fs h) (hx : H x = some (.ins C dx [])) (fr : ∀ b o, b ≠ x → H b = some o → H' b = some o) : HeapAt K H' hp fs h := by
  obtain ⟨d, fa, ha, na, sa, os, h1, h2, h3, h4, h5, h6⟩ := a.ex
  have k : KeepT H H' := fun b xs e => fr b _ (ne_of e hx (by intro z; cases z)) e
  refine ⟨d, fa, ha, na, sa, os, fr _ _ (ne_of h1 hx (by intro z; cases z)) h1, k _ _ h2, fr _ _ (ne_of h3 hx (by intro z; cases z)) h3, ⟨h4.1, fun i hi => ?_⟩, fr _ _ (ne_of h5 hx (by intro z; cases z)) h5, h6.keep k⟩
  obtain ⟨b, g1, g2⟩ := h4.2 i hi
  exact ⟨b, g1, fr _ _ (ne_of g2 hx (by intro z; cases z)) g2⟩
theorem HeapAt.stayD {K : PySem.W.Frag} {H H' : Hp} {hp c : Addr} {l : List (List Key × V)} {fs : List Str} {h : HD Str} (a : HeapAt K H hp fs h) (hx : H c = some (.dT l)) (fr : ∀ b o, b ≠ c → H b = some o → H' b = some o) : HeapAt K H' hp fs h := by
  obtain ⟨d, fa, ha, na, sa, os, h1, h2, h3, h4, h5, h6⟩ := a.ex
  have k : KeepT H H' := fun b xs e => fr b _ (ne_of e hx (by intro z; cases z)) e
  refine ⟨d, fa, ha, na, sa, os, fr _ _ (ne_of h1 hx (by intro z; cases z)) h1, k _ _ h2, fr _ _ (ne_of h3 hx (by intro z; cases z)) h3, ⟨h4.1, fun i hi => ?_⟩, fr _ _ (ne_of h5 hx (by intro z; cases z)) h5, h6.keep k⟩
  obtain ⟨b, g1, g2⟩ := h4.2 i hi
  exact ⟨b, g1, fr _ _ (ne_of g2 hx (by intro z; cases z)) g2⟩
theorem lookup_snoc {β : Type} {l : List (Str × β)} {y : Str} {v : β} {x : Str} : (l ++ [(y, v)]).lookup x = match l.lookup x with | some u => some u | none => if x = y then some v else none := by
  induction l with
  | nil =>
    simp only [List.nil_append, List.lookup_cons, List.lookup_nil]
    by_cases e : x = y
    · subst e; simp
    · have : (x == y) = false := by simp [e]
      simp [this, e]
  | cons p r ih =>
    obtain ⟨z, w⟩ := p
    rw [List.cons_append, List.lookup_cons, List.lookup_cons]
    cases e : (x == z) with
    | true => rfl
    | false => exact ih
theorem lookup_none {β : Type} {l : List (Str × β)} {x : Str} (h : x ∉ l.map (·.1)) : l.lookup x = none := by
  cases e : l.lookup x with
  | none => rfl
  | some v => exact absurd (List.mem_map.mpr ⟨_, lookup_mem e, rfl⟩) h
end TW
set_option maxHeartbeats 4000000
/-! ## the store: made from a heap -/
namespace TW
open PySem PySem.Spec PyProof.Rows L2 TwN
def ceS (g : Nat → Addr) : Tg → Addr
  | .st k => g k
  | .ow _ => 0
section
variable {P : Program} {w : World} {K : PySem.W.Frag} {mg : Str → Option Value} {base h : Heap}
def sp_Store_init (K : PySem.W.Frag) : Sp := fun vs H Q _ => ∃ (x dx hp : Addr) (fs : List Str) (h : HD Str), vs = [.ref x, .ref hp] ∧ H x = some (.ins (cSto K) dx []) ∧ HeapAt K H hp fs h ∧ HV fs h ∧ Fields fs ∧
  ∀ H' A, Sto (cSto K) H' A 6 fs (s0 fs h) → A.ad .p = x → (∀ b, foot A (s0 fs h) b → b = x ∨ H b = none) → Chg (fun b => b = x) H H' → Q .non H'
theorem p_Store_init (T : Tx w K mg h) : C8.Mak P w K mg base 2 "Store" (cSto K) (sp_Store_init K) [] :=
  mak T.f_Store_init T.mk_Store T.g_Store sc_Store_init (fun vs H Q E ⟨_, _, _, _, _, e, _⟩ => by rw [e]; rfl) fun cdv A' outer s' H vs Q E hr ⟨x, dx, hp, fs, h, e, hx, hh, hv, hF, q⟩ => by
    subst e
    have cl := T.c_Store
    refine ⟨_, (pss_cons (ps_fld (pv 0) (pe_fld (pv 1) (by rfl)) (by rfl))
  (pss_cons (ps_fld (pv 0) pe_dnewT (by rfl))
  (pss_cons (ps_for PassesOwn.never (by rfl) (pi_enum (by rfl) T.z_enumerate (pa_cons (C8.pe_mt0 (p_Heap_objects T) hr (by decide) (pv 1)) pa_nil)) (pg_tup (by rfl) (pgs_cons (pg_name (i := 2) sc_Store_init.nd rfl (by first | exact Or.inl rfl | exact Or.inr rfl)) (pgs_cons (pg_name (i := 3) sc_Store_init.nd rfl (by first | exact Or.inl rfl | exact Or.inr rfl)) pgs_nil)))
  (pss_one (ps_dput (hu_of hr) (pe_fld (pv 0) (by rfl)) (pe_tup (pa_cons pe_str (pa_cons (pv 2) pa_nil))) (by exact (pe_dc (own := [("field", 4)]) (g := gName 4) (by rfl) sc_Store_init.nd (pi_tup (pe_fld (pv 0) (by rfl))) (blkOk_by (own := [("field", 4)]) (N := ["self", "heap", "number", "item", "field", "name"]) (sc := defScope s_Store_init) (by decide +kernel)) (fun _ _ _ _ _ => (pg_name (i := 4) sc_Store_init.nd rfl (by first | exact Or.inl rfl | exact Or.inr rfl))) (fun _ _ _ _ _ => pts_nil) (fun _ _ _ _ _ => (by exact (pv 4))) (fun _ _ _ _ _ => (by exact (pe_tup (pa_cons (C8.pe_c (p_start_value T) hr (by decide) (by rfl) (pa_cons (pe_dget (hu_of hr) (pv 3) (pv 4) (fun _ _ => rfl)) pa_nil)) (pa_cons (pe_tup (pa_cons (pv 2) (pa_cons (pv 4) pa_nil))) pa_nil))))))) (by rfl))))
  (pss_cons (ps_fld (pv 0) (by exact (pe_dc (own := [("name", 5), ("number", 2)]) (g := gTup K 2 (gCons (gName 5) (gCons (gName 2) gNil))) (by rfl) sc_Store_init.nd (pi_itemsF (C8.pe_mt0 (p_Heap_names T) hr (by decide) (pv 1))) (blkOk_by (own := [("name", 5), ("number", 2)]) (N := ["self", "heap", "number", "item", "field", "name"]) (sc := defScope s_Store_init) (by decide +kernel)) (fun _ _ _ _ _ => (pg_tupK (K := K) rfl (by rfl) (pgs_cons (pg_name (i := 5) sc_Store_init.nd rfl (by first | exact Or.inl rfl | exact Or.inr rfl)) (pgs_cons (pg_name (i := 2) sc_Store_init.nd rfl (by first | exact Or.inl rfl | exact Or.inr rfl)) pgs_nil)))) (fun _ _ _ _ _ => pts_nil) (fun _ _ _ _ _ => (by exact (pv 5))) (fun _ _ _ _ _ => (by exact (C8.pe_c (p_start_value T) hr (by decide) (by rfl) (pa_cons (pv 2) pa_nil)))))) (by rfl))
  (pss_cons (ps_fld (pv 0) (pe_lst pa_nil) (by rfl))
  (pss_cons (ps_fld (pv 0) (pe_lst pa_nil) (by rfl))
  (pss_cons (ps_fld (pv 0) (pe_lst pa_nil) (by rfl))
  (pss_cons (ps_fld (pv 0) (pe_lst pa_nil) (by rfl))
  (pss_one (ps_fld (pv 0) pe_int (by rfl))))))))))), ?_⟩
    obtain ⟨dh, fa, ha, na, sa, os0, g1, g2, g3, g4, g5, g6⟩ := hh.ex
    refine ⟨_, rfl, hp, _, dh, _, _, rfl, g1, T.c_Heap, T.n_Heap_fields, rfl, _, rfl, x, _, dx, _, rfl, hx, cl, T.n_Store_fields, (show 0 < 1000 by decide), fun cd ncd => ⟨_, rfl, x, _, dx, [("fields", .ref fa)], rfl, ?_, cl, T.n_Store_cells, (show 1 < 1000 by decide), ?_⟩⟩
    · rw [upd_ne fun z => by rw [← z, upd_same] at ncd; cases ncd]; exact upd_same
    have ncx : cd ≠ x := fun z => by rw [z, upd_same] at ncd; cases ncd
    have ncd0 : H cd = none := by rwa [upd_ne ncx] at ncd
    have F1 : ∀ b o, b ≠ x → H b = some o → upd (upd (upd H x (.ins (cSto K) dx (putF "fields" (.ref fa) []))) cd (.dT [])) x (.ins (cSto K) dx (putF "cells" (.ref cd) [("fields", .ref fa)])) b = some o := fun b o hb e => by rw [upd_ne hb, upd_ne (ne_of_none e ncd0), upd_ne hb]; exact e
    have hx1 : upd (upd (upd H x (.ins (cSto K) dx (putF "fields" (.ref fa) []))) cd (.dT [])) x (.ins (cSto K) dx (putF "cells" (.ref cd) [("fields", .ref fa)])) x = some (.ins (cSto K) dx [("fields", .ref fa), ("cells", .ref cd)]) := upd_same
    have hcd1 : upd (upd (upd H x (.ins (cSto K) dx (putF "fields" (.ref fa) []))) cd (.dT [])) x (.ins (cSto K) dx (putF "cells" (.ref cd) [("fields", .ref fa)])) cd = some (.dT []) := by rw [upd_ne ncx, upd_same]
    generalize upd (upd (upd H x (.ins (cSto K) dx (putF "fields" (.ref fa) []))) cd (.dT [])) x (.ins (cSto K) dx (putF "cells" (.ref cd) [("fields", .ref fa)])) = H1 at F1 hx1 hcd1
    have hh1 := hh.stay hx F1
    have nfx : fa ≠ x := ne_of g2 hx (by intro z; cases z)
    have hfa1 := F1 _ _ nfx g2
    have dh1 := F1 _ _ (ne_of g1 hx (by intro z; injection z with _ _ z; cases z)) g1
    refine ⟨_, rfl, hp, dh, _, rfl, dh1, rfl, hp, fs, h, rfl, hh1, hv.le, fun H2 D os x12 nD hD hos => ⟨D, os, rfl, SqL.of hD, ?_⟩⟩
    have hx2 := x12 _ _ hx1
    have hcd2 := x12 _ _ hcd1
    have hfa2 := x12 _ _ hfa1
    have nDcd : D ≠ cd := (ne_of_none hcd1 nD).symm
    have none0 : ∀ b, H1 b = none → H b = none := fun b hb => by
      cases e : H b with
      | none => rfl
      | some o =>
        by_cases z : b = x
        · rw [z, hx1] at hb; cases hb
        · rw [F1 b o z e] at hb; cases hb
    refine for_it (walk_enum (xs := os)) (fun i σ' H' => ∃ (g : Nat → Addr) (a2 a3 a4 a5 : Option V), σ' = [some (.ref x), some (.ref hp), a2, a3, a4, a5] ∧ H' cd = some (.dT (kvF tgK (fun t => V.ref (ceS g t)) (dom i 0))) ∧
      (∀ k, k < i → H2 (g k) = none ∧ ∃ ps : Str → V, H' (g k) = some (.dK (kvF strK ps fs)) ∧ ∀ f ∈ fs, Dt H' (ps f) (pairD ((h.ob k f).map .st) (some (k, f)))) ∧ (∀ k l, k < i → l < i → g k = g l → k = l) ∧ ∀ b o, b ≠ cd → H2 b = some o → H' b = some o)
      ⟨fun _ => 0, _, _, _, _, rfl, hcd2, (fun k hk => absurd hk (Nat.not_lt_zero _)), (fun k l hk => absurd hk (Nat.not_lt_zero _)), fun _ _ _ h => h⟩ (fun _ _ _ _ ⟨_, _, _, _, _, _, _, _, _, F⟩ => SqL.of (F _ _ nDcd hD)) (fun i v σ' H3 H4 hi ⟨g, a2, a3, a4, a5, e1, hcd3, hg3, hj3, F3⟩ ⟨T1, y, z, ev, nT, eH, ey, ez⟩ => ?_) fun σ' H3 ⟨g, a2, a3, a4, a5, e1, hcd3, hg3, hj3, F3⟩ => ?_
    · subst e1 eH ev
      have ey : y = .int (i : Nat) := (Option.some.inj ey).symm
      subst ey
      have hin : i < h.n := by rw [← hos.1]; exact hi
      obtain ⟨a, e8, hit⟩ := hos.2 i hin
      have e9 : z = .ref a := Option.some.inj (ez.symm.trans e8)
      subst e9
      have x34 : Ext H3 (upd H3 T1 (.tup [.int (i : Nat), .ref a])) := Ext.upd nT
      have ht4 : upd H3 T1 (.tup [.int (i : Nat), .ref a]) T1 = some (.tup [.int (i : Nat), .ref a]) := upd_same
      generalize upd H3 T1 (.tup [.int (i : Nat), .ref a]) = H4 at x34 ht4
      have nacd : a ≠ cd := ne_of hit hcd2 (by intro z; cases z)
      have hit4 := x34 _ _ (F3 _ _ nacd hit)
      have hx4 := x34 _ _ (F3 _ _ (ne_of hx2 hcd2 (by intro z; cases z)) hx2)
      have hfa4 := x34 _ _ (F3 _ _ (ne_of hfa2 hcd2 (by intro z; cases z)) hfa2)
      refine ⟨T1, _, rfl, SqT.of ht4, rfl, _, _, rfl, _, _, rfl, rfl, ?_⟩
      refine ⟨_, rfl, x, _, dx, _, _, rfl, hx4, cl, T.n_Store_fields, rfl, fa, rfl, ⟨_, SqT.of hfa4⟩, fun qd nqd => dc_it (walk_tup (xs := fs.map .str)) (fun j H' => ∃ ps : Str → V, H' qd = some (.dK (kvF strK ps (fs.take j))) ∧ (∀ f ∈ fs.take j, Dt H' (ps f) (pairD ((h.ob i f).map .st) (some (i, f)))) ∧ Ext H4 H') ⟨fun _ => .non, upd_same, fun f hf => by (cases hf), Ext.upd nqd⟩
        (fun _ _ _ ⟨_, _, _, x⟩ => SqT.of (x _ _ hfa4)) (fun j v Hz H5 hj ⟨ps, hD5, hps5, x5⟩ ⟨e2, ev⟩ => ?_) fun H5 ⟨ps, hD5, hps5, x5⟩ => ?_⟩
      · subst e2
        obtain ⟨f, hf, rfl⟩ := map_at ev
        have hfm := List.mem_of_getElem? hf
        refine ⟨rfl, _, rfl, _, rfl, _, rfl, a, oV (h.ob i f), rfl, dgetK (k := strK f) (x5 _ _ hit4) (itemKV_at hfm), h.ob i f, rfl, fun H6 u x6 du => ⟨_, rfl, _, rfl, by show 2 ≤ sizeLine; decide, fun t1 n1 => ⟨by show 2 ≤ sizeLine; decide, fun t2 n2 => ?_⟩⟩⟩
        have x7 : Ext H6 (upd (upd H6 t1 (.tup [.int (i : Nat), .str f])) t2 (.tup [u, .ref t1])) := (Ext.upd n1).trans (Ext.upd n2)
        have du7 := du.keep (ext_keep x7)
        have dt1 : Dt (upd (upd H6 t1 (.tup [.int (i : Nat), .str f])) t2 (.tup [u, .ref t1])) (.ref t1) (hitD (i, f)) := Dt.keep (ext_keep (Ext.upd n2)) (.tup upd_same (.cons (.int _) (.cons (.str _) .nil)))
        have ht2 : upd (upd H6 t1 (.tup [.int (i : Nat), .str f])) t2 (.tup [u, .ref t1]) t2 = some (.tup [u, .ref t1]) := upd_same
        generalize upd (upd H6 t1 (.tup [.int (i : Nat), .str f])) t2 (.tup [u, .ref t1]) = H7 at x7 du7 dt1 ht2
        have hD7 := x7 _ _ (x6 _ _ hD5)
        have kk : KeepT H7 (upd H7 qd (.dK (putK (kvF strK ps (fs.take j)) (strK f) (.ref t2)))) := KeepT.at_ hD7 fun _ z => by cases z
        refine ⟨kvF strK ps (fs.take j), strK f, rfl, hD7, ?_, fun g => if g = f then .ref t2 else ps g, by rw [upd_same, kvF_nodup hF.nd hf], fun g hg => ?_, extSet (x5.trans (x6.trans x7)) nqd⟩
        · rw [kvF_len, List.length_take]
          exact small_lt (by have := hF.hi; omega)
        · show Dt _ (if g = f then .ref t2 else ps g) _
          by_cases e : g = f
          · rw [if_pos e, e]
            have et : tgO (h.ob i f) = (h.ob i f).map .st := by cases h.ob i f <;> rfl
            rw [et] at du7
            exact Dt.keep kk (.tup ht2 (.cons du7 (.cons dt1 .nil)))
          · rw [if_neg e]
            rw [List.take_add_one, hf] at hg
            rcases List.mem_append.mp hg with hg | hg
            · exact ((hps5 g hg).keep (ext_keep (x6.trans x7))).keep kk
            · exact absurd (by simpa using hg) e
      · have ef : fs.take (fs.map V.str).length = fs := by rw [List.length_map, List.take_length]
        rw [ef] at hD5 hps5
        have hx5 := x5 _ _ hx4
        refine ⟨_, rfl, x, _, dx, _, _, rfl, hx5, cl, T.n_Store_cells, rfl, _, rfl, by show 2 ≤ sizeLine; decide, fun t3 n3 => ?_⟩
        have x56 : Ext H5 (upd H5 t3 (.tup [.str "start", .int (i : Nat)])) := Ext.upd n3
        have ht3 : upd H5 t3 (.tup [.str "start", .int (i : Nat)]) t3 = some (.tup ((tgK (.st i)).map kV)) := upd_same
        generalize upd H5 t3 (.tup [.str "start", .int (i : Nat)]) = H6 at x56 ht3
        have x46 := x34.trans (x5.trans x56)
        have hcd6 := x46 _ _ hcd3
        refine ⟨cd, _, rfl, DPut.t hcd6 ht3 (by rw [kvF_len, dom_len]; exact small_lt (by have := hv.le; omega)), ?_⟩
        have k67 : KeepT H6 (upd H6 cd (.dT (putK (kvF tgK (fun t => V.ref (ceS g t)) (dom i 0)) (tgK (.st i)) (.ref qd)))) := KeepT.at_ hcd6 fun _ z => by cases z
        have nq3 : H3 qd = none := ext_none x34 nqd
        have nq2 : H2 qd = none := by
          cases e : H2 qd with
          | none => rfl
          | some o =>
            by_cases z : qd = cd
            · rw [z, hcd3] at nq3; cases nq3
            · rw [F3 qd o z e] at nq3; cases nq3
        have nqcd : qd ≠ cd := fun z => by rw [z, hcd3] at nq3; cases nq3
        have hno : valV (kvF tgK (fun t => V.ref (ceS g t)) (dom i 0)) (tgK (.st i)) = none := kvF_no fun t ht e => by
          rw [tgK_inj _ _ e] at ht
          have : i < i := by simpa [dom] using ht
          omega
        refine ⟨fun k => if k = i then qd else g k, _, _, _, _, rfl, ?_, fun k hk => ?_, fun k l hk hl e => ?_, fun b o hb e => by rw [upd_ne hb]; exact x46 _ _ (F3 b o hb e)⟩
        · rw [upd_same, putK_new _ hno, dom_start, kvF_snoc]
          congr 3
          · exact kvF_congr fun t ht => by
              cases t with
              | st k =>
                have : k < i := by simpa [dom] using ht
                show V.ref (g k) = V.ref (if k = i then qd else g k)
                rw [if_neg (by omega)]
              | ow k => rfl
          · show [(tgK (Tg.st i), V.ref qd)] = [(tgK (Tg.st i), V.ref (if i = i then qd else g i))]
            rw [if_pos rfl]
        · show H2 (if k = i then qd else g k) = none ∧ ∃ ps : Str → V, upd H6 cd _ (if k = i then qd else g k) = _ ∧ _
          by_cases e : k = i
          · rw [if_pos e, e]
            exact ⟨nq2, ps, by rw [upd_ne nqcd]; exact x56 _ _ hD5, fun f hf => ((hps5 f hf).keep (ext_keep x56)).keep k67⟩
          · rw [if_neg e]
            obtain ⟨r1, ps', r2, r3⟩ := hg3 k (by omega)
            exact ⟨r1, ps', by rw [upd_ne (ne_of r2 hcd3 (by intro z; cases z))]; exact x46 _ _ r2, fun f hf => ((r3 f hf).keep (ext_keep x46)).keep k67⟩
        · have e : (if k = i then qd else g k) = (if l = i then qd else g l) := e
          have no : ∀ k, k < i → g k ≠ qd := fun k hk z => by
            obtain ⟨_, ps', r2, _⟩ := hg3 k hk
            rw [z, nq3] at r2
            cases r2
          by_cases e1 : k = i
          · by_cases e2 : l = i
            · omega
            · rw [if_pos e1, if_neg e2] at e
              exact absurd e.symm (no l (by omega))
          · by_cases e2 : l = i
            · rw [if_neg e1, if_pos e2] at e
              exact absurd e (no k (by omega))
            · rw [if_neg e1, if_neg e2] at e
              exact hj3 k l (by omega) (by omega) e
    · subst e1
      rw [hos.1] at hcd3 hg3 hj3
      have hh3 := (hh1.ext x12).stayD hcd2 F3
      have hx3 := F3 _ _ (ne_of hx2 hcd2 (by intro z; cases z)) hx2
      have dh3 := F3 _ _ (ne_of (x12 _ _ dh1) hcd2 (by intro z; cases z)) (x12 _ _ dh1)
      have none3 : ∀ b, H3 b = none → H b = none := fun b hb => none0 b (ext_none x12 (by
        cases e : H2 b with
        | none => rfl
        | some o =>
          by_cases z : b = cd
          · rw [z, hcd3] at hb; cases hb
          · rw [F3 b o z e] at hb; cases hb))
      refine ⟨_, rfl, hp, dh, _, rfl, dh3, rfl, hp, fs, h, rfl, hh3, fun H4 D2 x34 nD2 hD2 => ⟨D2, _, rfl, hD2, fun od => fun hd nhd => ?_⟩⟩
      have F5 : ∀ b o, H3 b = some o → upd H4 D2 (.frz od (.dK (nmKV h.nm))) b = some o := fun b o e => by rw [upd_ne (ne_of_none e nD2)]; exact x34 b o e
      have hD5 : upd H4 D2 (.frz od (.dK (nmKV h.nm))) D2 = some (.frz od (.dK (nmKV h.nm))) := upd_same
      generalize upd H4 D2 (.frz od (.dK (nmKV h.nm))) = H5 at F5 hD5 nhd
      have nhd3 : H3 hd = none := by
        cases e : H3 hd with
        | none => rfl
        | some o => rw [F5 _ _ e] at nhd; cases nhd
      refine dc_it (walk_items (kvs := nmKV h.nm)) (fun j H' => ∃ kvs, H' hd = some (.dK kvs) ∧ kvs.length ≤ j ∧ (∀ y, Dt H' ((valV kvs (strK y)).getD .non) (tvD ((((h.nm.take j).lookup y).getD none).map .st))) ∧ Ext H5 H') ⟨[], upd_same, Nat.le_refl _, fun y => Dt.non, Ext.upd nhd⟩
        (fun _ _ _ ⟨_, _, _, _, x⟩ => x _ _ hD5) (fun j v Hz H6 hj ⟨kvs, hd6, hl6, hv6, x6⟩ ⟨T1, y, z, ev, nT, eH, ey, ez⟩ => ?_) fun H6 ⟨kvs, hd6, hl6, hv6, x6⟩ => ?_
      · subst eH ev
        have hjn : j < h.nm.length := by have : j < (nmKV h.nm).length := hj; unfold nmKV at this; rwa [List.length_map] at this
        have ep : h.nm[j]? = some h.nm[j] := List.getElem?_eq_getElem hjn
        have e1 : (nmKV h.nm)[j]? = some (strK h.nm[j].1, oV h.nm[j].2) := by unfold nmKV; rw [List.getElem?_map, ep]; rfl
        have ey : ((nmKV h.nm)[j]?).map (fun kv => kV kv.1) = some y := ey
        have ez : ((nmKV h.nm)[j]?).map Prod.snd = some z := ez
        rw [e1] at ey ez
        have ey : y = .str h.nm[j].1 := (Option.some.inj ey).symm
        have ez : z = oV h.nm[j].2 := (Option.some.inj ez).symm
        subst ey ez
        have hnot : h.nm[j].1 ∉ (h.nm.take j).map (·.1) := fun z => by
          have h9 : ((h.nm.take j ++ [h.nm[j]]).map (·.1)).Nodup := by rw [take_snoc ep]; exact hv.nd.sublist ((List.take_sublist _ _).map _)
          rw [List.map_append] at h9
          exact (List.nodup_append.mp h9).2.2 _ z _ (List.mem_singleton.mpr rfl) rfl
        refine ⟨T1, _, rfl, SqT.of upd_same, rfl, _, _, rfl, _, _, rfl, rfl, rfl, ?_⟩
        have x67 : Ext Hz (upd Hz T1 (.tup [.str h.nm[j].1, oV h.nm[j].2])) := Ext.upd nT
        refine ⟨_, rfl, _, rfl, h.nm[j].2, rfl, fun H8 u x8 du => ⟨kvs, strK h.nm[j].1, rfl, (x67.trans x8) _ _ hd6, small_lt (by have := hv.nl; omega), ?_⟩⟩
        have hd8 := (x67.trans x8) _ _ hd6
        have k89 : KeepT H8 (upd H8 hd (.dK (putK kvs (strK h.nm[j].1) u))) := KeepT.at_ hd8 fun _ z => by cases z
        refine ⟨_, upd_same, ?_, fun y => ?_, extSet ((x6.trans x67).trans x8) nhd⟩
        · have := length_putK kvs (strK h.nm[j].1) u
          omega
        · rw [valV_put, ← take_snoc ep]
          have e2 := lookup_snoc (l := h.nm.take j) (y := h.nm[j].1) (v := h.nm[j].2) (x := y)
          have e3 : h.nm.take j ++ [h.nm[j]] = h.nm.take j ++ [(h.nm[j].1, h.nm[j].2)] := rfl
          rw [e3, e2]
          by_cases e : y = h.nm[j].1
          · subst e
            rw [if_pos rfl, lookup_none hnot, if_pos rfl]
            have et : tgO h.nm[j].2 = h.nm[j].2.map .st := by cases h.nm[j].2 <;> rfl
            rw [et] at du
            exact du.keep k89
          · rw [if_neg fun z => e (strK_inj _ _ z), if_neg e]
            have := ((hv6 y).keep (ext_keep (x67.trans x8))).keep k89
            cases el : (h.nm.take j).lookup y with
            | none => rw [el] at this; exact this
            | some v => rw [el] at this; exact this
      · have enl : h.nm.take (nmKV h.nm).length = h.nm := List.take_of_length_le (by unfold nmKV; rw [List.length_map]; exact Nat.le_refl _)
        rw [enl] at hv6
        have hl6 : kvs.length ≤ 6 := by have := hv.nl; unfold nmKV at hl6; rw [List.length_map] at hl6; omega
        have F6 : ∀ b o, H3 b = some o → H6 b = some o := fun b o e => x6 _ _ (F5 b o e)
        have hx6 := F6 _ _ hx3
        refine ⟨_, rfl, x, _, dx, _, rfl, hx6, cl, T.n_Store_holding, (show 2 < 1000 by decide), ?_⟩
        have F7 : ∀ b o, b ≠ x → H6 b = some o → (upd H6 x (.ins (cSto K) dx (putF "holding" (.ref hd) [("fields", .ref fa), ("cells", .ref cd)]))) b = some o := fun b o hb e => by rw [upd_ne hb]; exact e
        have hx7 : (upd H6 x (.ins (cSto K) dx (putF "holding" (.ref hd) [("fields", .ref fa), ("cells", .ref cd)]))) x = some (.ins (cSto K) dx [("fields", .ref fa), ("cells", .ref cd), ("holding", .ref hd)]) := upd_same
        generalize upd H6 x (.ins (cSto K) dx (putF "holding" (.ref hd) [("fields", .ref fa), ("cells", .ref cd)])) = H7 at F7 hx7
        refine ⟨by show 0 ≤ sizeLine; decide, fun l1 n1 => ⟨_, rfl, x, _, dx, _, rfl, Ext.upd n1 _ _ hx7, cl, T.n_Store_frosts, (show 3 < 1000 by decide), ?_⟩⟩
        have nx1 : l1 ≠ x := (ne_of_none hx7 n1).symm
        have F8 : ∀ b o, b ≠ x → H7 b = some o → (upd (upd H7 l1 (.lst [])) x (.ins (cSto K) dx (putF "frosts" (.ref l1) [("fields", .ref fa), ("cells", .ref cd), ("holding", .ref hd)]))) b = some o := fun b o hb e => by rw [upd_ne hb]; exact Ext.upd n1 _ _ e
        have hx8 : (upd (upd H7 l1 (.lst [])) x (.ins (cSto K) dx (putF "frosts" (.ref l1) [("fields", .ref fa), ("cells", .ref cd), ("holding", .ref hd)]))) x = some (.ins (cSto K) dx [("fields", .ref fa), ("cells", .ref cd), ("holding", .ref hd), ("frosts", .ref l1)]) := upd_same
        have hl1 : (upd (upd H7 l1 (.lst [])) x (.ins (cSto K) dx (putF "frosts" (.ref l1) [("fields", .ref fa), ("cells", .ref cd), ("holding", .ref hd)]))) l1 = some (.lst []) := by rw [upd_ne nx1, upd_same]
        generalize upd (upd H7 l1 (.lst [])) x (.ins (cSto K) dx (putF "frosts" (.ref l1) [("fields", .ref fa), ("cells", .ref cd), ("holding", .ref hd)])) = H8 at F8 hx8 hl1
        refine ⟨by show 0 ≤ sizeLine; decide, fun l2 n2 => ⟨_, rfl, x, _, dx, _, rfl, Ext.upd n2 _ _ hx8, cl, T.n_Store_watchers, (show 4 < 1000 by decide), ?_⟩⟩
        have nx2 : l2 ≠ x := (ne_of_none hx8 n2).symm
        have F9 : ∀ b o, b ≠ x → H8 b = some o → (upd (upd H8 l2 (.lst [])) x (.ins (cSto K) dx (putF "watchers" (.ref l2) [("fields", .ref fa), ("cells", .ref cd), ("holding", .ref hd), ("frosts", .ref l1)]))) b = some o := fun b o hb e => by rw [upd_ne hb]; exact Ext.upd n2 _ _ e
        have hx9 : (upd (upd H8 l2 (.lst [])) x (.ins (cSto K) dx (putF "watchers" (.ref l2) [("fields", .ref fa), ("cells", .ref cd), ("holding", .ref hd), ("frosts", .ref l1)]))) x = some (.ins (cSto K) dx [("fields", .ref fa), ("cells", .ref cd), ("holding", .ref hd), ("frosts", .ref l1), ("watchers", .ref l2)]) := upd_same
        have hl2 : (upd (upd H8 l2 (.lst [])) x (.ins (cSto K) dx (putF "watchers" (.ref l2) [("fields", .ref fa), ("cells", .ref cd), ("holding", .ref hd), ("frosts", .ref l1)]))) l2 = some (.lst []) := by rw [upd_ne nx2, upd_same]
        generalize upd (upd H8 l2 (.lst [])) x (.ins (cSto K) dx (putF "watchers" (.ref l2) [("fields", .ref fa), ("cells", .ref cd), ("holding", .ref hd), ("frosts", .ref l1)])) = H9 at F9 hx9 hl2
        refine ⟨by show 0 ≤ sizeLine; decide, fun l3 n3 => ⟨_, rfl, x, _, dx, _, rfl, Ext.upd n3 _ _ hx9, cl, T.n_Store_hits, (show 5 < 1000 by decide), ?_⟩⟩
        have nx3 : l3 ≠ x := (ne_of_none hx9 n3).symm
        have F10 : ∀ b o, b ≠ x → H9 b = some o → (upd (upd H9 l3 (.lst [])) x (.ins (cSto K) dx (putF "hits" (.ref l3) [("fields", .ref fa), ("cells", .ref cd), ("holding", .ref hd), ("frosts", .ref l1), ("watchers", .ref l2)]))) b = some o := fun b o hb e => by rw [upd_ne hb]; exact Ext.upd n3 _ _ e
        have hx10 : (upd (upd H9 l3 (.lst [])) x (.ins (cSto K) dx (putF "hits" (.ref l3) [("fields", .ref fa), ("cells", .ref cd), ("holding", .ref hd), ("frosts", .ref l1), ("watchers", .ref l2)]))) x = some (.ins (cSto K) dx [("fields", .ref fa), ("cells", .ref cd), ("holding", .ref hd), ("frosts", .ref l1), ("watchers", .ref l2), ("hits", .ref l3)]) := upd_same
        have hl3 : (upd (upd H9 l3 (.lst [])) x (.ins (cSto K) dx (putF "hits" (.ref l3) [("fields", .ref fa), ("cells", .ref cd), ("holding", .ref hd), ("frosts", .ref l1), ("watchers", .ref l2)]))) l3 = some (.lst []) := by rw [upd_ne nx3, upd_same]
        generalize upd (upd H9 l3 (.lst [])) x (.ins (cSto K) dx (putF "hits" (.ref l3) [("fields", .ref fa), ("cells", .ref cd), ("holding", .ref hd), ("frosts", .ref l1), ("watchers", .ref l2)])) = H10 at F10 hx10 hl3
        refine ⟨by show 0 ≤ sizeLine; decide, fun l4 n4 => ⟨_, rfl, x, _, dx, _, rfl, Ext.upd n4 _ _ hx10, cl, T.n_Store_seen, (show 6 < 1000 by decide), ?_⟩⟩
        have nx4 : l4 ≠ x := (ne_of_none hx10 n4).symm
        have F11 : ∀ b o, b ≠ x → H10 b = some o → (upd (upd H10 l4 (.lst [])) x (.ins (cSto K) dx (putF "seen" (.ref l4) [("fields", .ref fa), ("cells", .ref cd), ("holding", .ref hd), ("frosts", .ref l1), ("watchers", .ref l2), ("hits", .ref l3)]))) b = some o := fun b o hb e => by rw [upd_ne hb]; exact Ext.upd n4 _ _ e
        have hx11 : (upd (upd H10 l4 (.lst [])) x (.ins (cSto K) dx (putF "seen" (.ref l4) [("fields", .ref fa), ("cells", .ref cd), ("holding", .ref hd), ("frosts", .ref l1), ("watchers", .ref l2), ("hits", .ref l3)]))) x = some (.ins (cSto K) dx [("fields", .ref fa), ("cells", .ref cd), ("holding", .ref hd), ("frosts", .ref l1), ("watchers", .ref l2), ("hits", .ref l3), ("seen", .ref l4)]) := upd_same
        have hl4 : (upd (upd H10 l4 (.lst [])) x (.ins (cSto K) dx (putF "seen" (.ref l4) [("fields", .ref fa), ("cells", .ref cd), ("holding", .ref hd), ("frosts", .ref l1), ("watchers", .ref l2), ("hits", .ref l3)]))) l4 = some (.lst []) := by rw [upd_ne nx4, upd_same]
        generalize upd (upd H10 l4 (.lst [])) x (.ins (cSto K) dx (putF "seen" (.ref l4) [("fields", .ref fa), ("cells", .ref cd), ("holding", .ref hd), ("frosts", .ref l1), ("watchers", .ref l2), ("hits", .ref l3)])) = H11 at F11 hx11 hl4
        refine ⟨_, rfl, x, _, dx, _, rfl, hx11, cl, T.n_Store_puts, (show 7 < 1000 by decide), ?_⟩
        have F12 : ∀ b o, b ≠ x → H11 b = some o → (upd H11 x (.ins (cSto K) dx (putF "puts" (.int 0) [("fields", .ref fa), ("cells", .ref cd), ("holding", .ref hd), ("frosts", .ref l1), ("watchers", .ref l2), ("hits", .ref l3), ("seen", .ref l4)]))) b = some o := fun b o hb e => by rw [upd_ne hb]; exact e
        have hx12 : (upd H11 x (.ins (cSto K) dx (putF "puts" (.int 0) [("fields", .ref fa), ("cells", .ref cd), ("holding", .ref hd), ("frosts", .ref l1), ("watchers", .ref l2), ("hits", .ref l3), ("seen", .ref l4)]))) x = some (.ins (cSto K) dx (stoFs (mkA x cd hd l1 l2 l3 l4 dx fa (ceS g)) 0)) := upd_same
        generalize upd H11 x (.ins (cSto K) dx (putF "puts" (.int 0) [("fields", .ref fa), ("cells", .ref cd), ("holding", .ref hd), ("frosts", .ref l1), ("watchers", .ref l2), ("hits", .ref l3), ("seen", .ref l4)])) = H12 at F12 hx12
        have nhx : hd ≠ x := ne_of hd6 hx6 (by intro z; cases z)
        have F7' : ∀ b o, b ≠ x → H3 b = some o → H7 b = some o := fun b o hb e => F7 b o hb (F6 b o e)
        have hhd7 := F7 _ _ nhx hd6
        have hcd7 := F7' _ _ ncx hcd3
        have e8 : ∀ b o, b ≠ x → H7 b = some o → H12 b = some o := fun b o hb e => F12 b o hb (F11 b o hb (F10 b o hb (F9 b o hb (F8 b o hb e))))
        have e9 : ∀ b o, b ≠ x → H8 b = some o → H12 b = some o := fun b o hb e => F12 b o hb (F11 b o hb (F10 b o hb (F9 b o hb e)))
        have e10 : ∀ b o, b ≠ x → H9 b = some o → H12 b = some o := fun b o hb e => F12 b o hb (F11 b o hb (F10 b o hb e))
        have e11 : ∀ b o, b ≠ x → H10 b = some o → H12 b = some o := fun b o hb e => F12 b o hb (F11 b o hb e)
        have all : ∀ b o, b ≠ x → H b = some o → H12 b = some o := fun b o hb e => e8 b o hb (F7' b o hb (F3 b o (ne_of_none e ncd0) (x12 b o (F1 b o hb e))))
        have k3 : KeepT H3 H12 := fun b xs e => by
          have hb : b ≠ x := ne_of e hx3 (by intro z; cases z)
          exact e8 b _ hb (F7' b _ hb e)
        have k6 : KeepT H6 H12 := fun b xs e => by
          have hb : b ≠ x := ne_of e hx6 (by intro z; cases z)
          exact e8 b _ hb (F7 b _ hb e)
        have none6 : ∀ b, b ≠ x → H7 b = none → H3 b = none := fun b hb e => by
          cases z : H3 b with
          | none => rfl
          | some o => rw [F7' b o hb z] at e; cases e
        have m8 : ∀ b, b ≠ x → H8 b = none → H7 b = none := fun b hb e => by
          cases z : H7 b with
          | none => rfl
          | some o => rw [F8 b o hb z] at e; cases e
        have m9 : ∀ b, b ≠ x → H9 b = none → H8 b = none := fun b hb e => by
          cases z : H8 b with
          | none => rfl
          | some o => rw [F9 b o hb z] at e; cases e
        have m10 : ∀ b, b ≠ x → H10 b = none → H9 b = none := fun b hb e => by
          cases z : H9 b with
          | none => rfl
          | some o => rw [F10 b o hb z] at e; cases e
        have p1 := n1
        have p2 := m8 _ nx2 n2
        have p3 := m8 _ nx3 (m9 _ nx3 n3)
        have p4 := m8 _ nx4 (m9 _ nx4 (m10 _ nx4 n4))
        have d12 : l1 ≠ l2 := ne_of_none hl1 n2
        have d13 : l1 ≠ l3 := ne_of_none (F9 _ _ nx1 hl1) n3
        have d14 : l1 ≠ l4 := ne_of_none (F10 _ _ nx1 (F9 _ _ nx1 hl1)) n4
        have d23 : l2 ≠ l3 := ne_of_none hl2 n3
        have d24 : l2 ≠ l4 := ne_of_none (F10 _ _ nx2 hl2) n4
        have d34 : l3 ≠ l4 := ne_of_none hl3 n4
        have nodup : [x, cd, hd, l1, l2, l3, l4].Nodup := by
          simp only [List.nodup_cons, List.mem_cons, List.not_mem_nil, not_or, or_false, not_false_eq_true, List.nodup_nil, and_true]
          exact ⟨⟨ncx.symm, nhx.symm, nx1.symm, nx2.symm, nx3.symm, nx4.symm⟩, ⟨ne_of_none hcd3 nhd3, ne_of_none hcd7 p1, ne_of_none hcd7 p2, ne_of_none hcd7 p3, ne_of_none hcd7 p4⟩, ⟨ne_of_none hhd7 p1, ne_of_none hhd7 p2, ne_of_none hhd7 p3, ne_of_none hhd7 p4⟩, ⟨d12, d13, d14⟩, ⟨d23, d24⟩, d34⟩
        have cells : ∀ k, k < h.n → g k ≠ x ∧ g k ∉ [x, cd, hd, l1, l2, l3, l4] ∧ ∃ ps : Str → V, H12 (g k) = some (.dK (kvF strK ps fs)) ∧ ∀ f ∈ fs, Dt H12 (ps f) (pairD ((h.ob k f).map .st) (some (k, f))) := fun k hk => by
          obtain ⟨r1, ps, r2, r3⟩ := hg3 k hk
          have r4 : g k ≠ x := ne_of r2 hx3 (by intro z; cases z)
          have r7 := F7' _ _ r4 r2
          refine ⟨r4, ?_, ps, e8 _ _ r4 r7, fun f hf => (r3 f hf).keep k3⟩
          simp only [List.mem_cons, List.not_mem_nil, not_or, or_false]
          exact ⟨r4, ne_of r2 hcd3 (by intro z; cases z), ne_of_none r2 nhd3, ne_of_none r7 p1, ne_of_none r7 p2, ne_of_none r7 p3, ne_of_none r7 p4⟩
        refine q H12 (mkA x cd hd l1 l2 l3 l4 dx fa (ceS g)) ⟨mkA_inj nodup (fun t ht => ?_) (fun t u ht hu e => ?_), all _ _ nfx g2, fun r hr => ?_⟩ rfl (fun b hb => ?_) ⟨fun b o e hb => all b o hb e, fun b xs e => all b _ (ne_of e hx (by intro z; cases z)) e⟩
        · cases t with
          | st k => exact (cells k ht).2.1
          | ow k => exact absurd ht (Nat.not_lt_zero _)
        · cases t with
          | st k => cases u with
            | st l => rw [hj3 k l ht hu e]
            | ow l => exact absurd hu (Nat.not_lt_zero _)
          | ow k => exact absurd ht (Nat.not_lt_zero _)
        · cases r with
          | p => exact ⟨_, hx12, rfl⟩
          | cd => exact ⟨_, e8 _ _ ncx hcd7, rfl⟩
          | ho => exact ⟨_, e8 _ _ nhx hhd7, kvs, rfl, hl6, fun y => (hv6 y).keep k6⟩
          | fr => exact ⟨_, e9 _ _ nx1 hl1, rfl⟩
          | wt => exact ⟨_, e10 _ _ nx2 hl2, [], rfl, .nil⟩
          | ht => exact ⟨_, e11 _ _ nx3 hl3, [], rfl, .nil⟩
          | sn => exact ⟨_, F12 _ _ nx4 hl4, [], rfl, .nil⟩
          | ce t =>
            cases t with
            | st k =>
              obtain ⟨_, _, ps, r1, r2⟩ := cells k hr
              refine ⟨_, r1, ps, rfl, fun f hf => ?_⟩
              have es : (s0 fs h).src (.st k) f = some (k, f) := if_pos hf
              rw [es]
              exact r2 f hf
            | ow k => exact absurd hr (Nat.not_lt_zero _)
        · have n3' : ∀ b, H3 b = none → H b = none := none3
          obtain ⟨r, hr, rfl⟩ := hb
          cases r with
          | p => exact .inl rfl
          | cd => exact .inr ncd0
          | ho => exact .inr (n3' _ nhd3)
          | fr => exact .inr (n3' _ (none6 _ nx1 p1))
          | wt => exact .inr (n3' _ (none6 _ nx2 p2))
          | ht => exact .inr (n3' _ (none6 _ nx3 p3))
          | sn => exact .inr (n3' _ (none6 _ nx4 p4))
          | ce t =>
            cases t with
            | st k =>
              obtain ⟨r1, _⟩ := hg3 k hr
              exact .inr (none0 _ (ext_none x12 r1))
            | ow k => exact absurd hr (Nat.not_lt_zero _)
end
end TW
set_option maxHeartbeats 4000000
/-! ## the store: its twin -/
namespace TW
open PySem PySem.Spec PyProof.Rows L2 TwN
theorem walk_itT {d : Addr} {o : Obj} {kvs : List (List Key × V)} : Walk (ItiT d o kvs) kvs.length (fun H => H d = some (.frz o (.dT kvs)))
    (fun i H x H' => ∃ (T : Addr) (k : List Key) (v : V) (q : Addr), kvs[i]? = some (k, v) ∧ H q = some (.tup (k.map kV)) ∧ x = .ref T ∧ H T = none ∧ H' = upd H T (.tup [.ref q, v])) :=
  ⟨fun _ _ hi q => ⟨q, hi⟩, fun _ q => ⟨q, Nat.le_refl _⟩, fun _ _ _ _ _ _ y => y⟩
theorem dom_nodup (a b : Nat) : (dom a b).Nodup := by
  unfold dom
  rw [List.nodup_append]
  refine ⟨List.Pairwise.map _ (fun a b h e => h (by injection e)) List.nodup_range, List.Pairwise.map _ (fun a b h e => h (by injection e)) List.nodup_range, fun x hx y hy e => ?_⟩
  obtain ⟨i, _, rfl⟩ := List.mem_map.mp hx
  obtain ⟨j, _, rfl⟩ := List.mem_map.mp hy
  cases e
def h0 : HD Str := ⟨0, fun _ _ => none, []⟩
theorem h0_ok (fs : List Str) : HV fs h0 := ⟨(fun i f j hi => absurd hi (Nat.not_lt_zero _)), (fun p hp => by cases hp), List.nodup_nil, Nat.zero_le _, Nat.zero_le _⟩
section
variable {P : Program} {w : World} {K : PySem.W.Frag} {mg : Str → Option Value} {base h : Heap}
def sp_twin (K : PySem.W.Frag) : Sp := fun vs H Q _ => ∃ (A : SA) (m : Nat) (fs : List Str) (s : StS), vs = [.ref (A.ad .p)] ∧ Sto (cSto K) H A m fs s ∧ Fields fs ∧ s.nst + s.now ≤ 200 ∧
  ∀ H' A', Sto (cSto K) H' A' m fs s → Ext H H' → (∀ b, foot A' s b → H b = none) → Q (.ref (A'.ad .p)) H'
theorem p_Store_twin (T : Tx w K mg h) : C8.Met P w K mg base 7 (cSto K) "twin" (sp_twin K) [] :=
  met T.f_Store_twin T.c_Store T.m_Store_twin sc_Store_twin (fun vs H Q E ⟨_, _, _, _, e, _⟩ => by rw [e]; rfl) fun cdv A' outer s' H vs Q E hr ⟨A, m, fs, s, e, st, hF, hsm, q⟩ => by
    subst e
    have cl := T.c_Store
    refine ⟨_, (pss_cons (ps_set (i := 1) sc_Store_twin.nd rfl (by first | exact Or.inl rfl | exact Or.inr rfl) (C8.pe_mk (p_Store_init T) hr (by decide) (by rfl) (pa_cons (C8.pe_mk (p_Heap_init T) hr (by decide) (by rfl) (pa_cons (pe_fld (pv 0) (by rfl)) (pa_cons (pe_lst pa_nil) (pa_cons pe_dnewK pa_nil)))) pa_nil)))
  (pss_cons (ps_lock (ps_for PassesOwn.never (by rfl) (pi_itemsT (pe_fld (pv 0) (by rfl))) (pg_tup (by rfl) (pgs_cons (pg_name (i := 2) sc_Store_twin.nd rfl (by first | exact Or.inl rfl | exact Or.inr rfl)) (pgs_cons (pg_name (i := 3) sc_Store_twin.nd rfl (by first | exact Or.inl rfl | exact Or.inr rfl)) pgs_nil)))
  (pss_one (ps_dput (hu_of hr) (pe_fld (pv 1) (by rfl)) (pv 2) (pe_callTy call_dictD (by rfl) T.z_dict (by decide +kernel) (pa_cons (pv 3) pa_nil)) (by rfl)))))
  (pss_cons (ps_fld (pv 1) (pe_callTy call_dictD (by rfl) T.z_dict (by decide +kernel) (pa_cons (pe_fld (pv 0) (by rfl)) pa_nil)) (by rfl))
  (pss_cons (ps_fld (pv 1) (pe_callTy call_list_of (by rfl) T.z_list (by decide +kernel) (pa_cons (pe_fld (pv 0) (by rfl)) pa_nil)) (by rfl))
  (pss_cons (ps_fld (pv 1) (pe_callTy call_list_of (by rfl) T.z_list (by decide +kernel) (pa_cons (pe_fld (pv 0) (by rfl)) pa_nil)) (by rfl))
  (pss_cons (ps_fld (pv 1) (pe_callTy call_list_of (by rfl) T.z_list (by decide +kernel) (pa_cons (pe_fld (pv 0) (by rfl)) pa_nil)) (by rfl))
  (pss_cons (ps_fld (pv 1) (pe_callTy call_list_of (by rfl) T.z_list (by decide +kernel) (pa_cons (pe_fld (pv 0) (by rfl)) pa_nil)) (by rfl))
  (pss_cons (ps_fld (pv 1) (pe_fld (pv 0) (by rfl)) (by rfl))
  (pss_one (ps_ret (pv 1))))))))))), ?_⟩
    refine ⟨_, rfl, A.ad .p, _, A.dx, _, _, rfl, st.p, cl, T.n_Store_fields, rfl, by show 0 ≤ sizeLine; decide, fun l nl => fun nd nnd => fun y1 d1 ny1 nd1 ne1 => ?_⟩
    have x2 : Ext H (upd (upd H l (.lst [])) nd (.dK [])) := (Ext.upd nl).trans (Ext.upd nnd)
    have hl2 := Ext.upd (o := .dK []) nnd l _ (upd_same (H := H) (o := .lst []))
    have hd2 : upd (upd H l (.lst [])) nd (.dK []) nd = some (.dK []) := upd_same
    generalize upd (upd H l (.lst [])) nd (.dK []) = H2 at x2 hl2 hd2 ny1 nd1
    have x3 : Ext H2 (upd (upd H2 d1 (.own y1)) y1 (.ins (He.ga K "Heap") d1 [])) := (Ext.upd nd1).trans (Ext.upd (by rw [upd_ne ne1.symm]; exact ny1))
    refine ⟨y1, d1, A.fa, l, nd, fs, [], h0, rfl, upd_same, .inr (x3 _ _ (x2 _ _ st.fa)), hF, x3 _ _ hl2, ⟨rfl, fun i hi => absurd hi (Nat.not_lt_zero _)⟩, x3 _ _ hd2, h0_ok fs, (fun p hp => by cases hp), fun H4 hat fr4 => ⟨rfl, ?_⟩⟩
    have x24 : Ext H2 H4 := fun b o hb => fr4 b o (ne_of_none hb ny1) (x3 _ _ hb)
    have x4 := x2.trans x24
    intro y dy ny ndy ne
    have x45 : Ext H4 (upd (upd H4 dy (.own y)) y (.ins (cSto K) dy [])) := (Ext.upd ndy).trans (Ext.upd (by rw [upd_ne ne.symm]; exact ny))
    refine ⟨y, dy, y1, fs, h0, rfl, upd_same, hat.ext x45, h0_ok fs, hF, fun H6 A0 st0 ep0 fr0 c0 => ⟨rfl, ?_⟩⟩
    have hy0 : H y = none := ext_none x4 ny
    have x6 : Ext H H6 := fun b o hb => c0.old b o (x45 _ _ (x4 _ _ hb)) (ne_of_none hb hy0)
    have f6 : ∀ b, foot A0 (s0 fs h0) b → H b = none := fun b hb => by
      rcases fr0 b hb with e | e
      · rw [e]; exact hy0
      · exact ext_none (x4.trans x45) e
    subst ep0
    have st6 := st.ext x6
    have ncd : A0.ad .cd ≠ A.ad .cd := fun z => by
      have := f6 _ ⟨.cd, trivial, rfl⟩
      rw [z, st.cd] at this
      cases this
    have np0 : A0.ad .p ≠ A.ad .cd := fun z => by
      have := f6 _ ⟨.p, trivial, rfl⟩
      rw [z, st.cd] at this
      cases this
    refine ⟨A.ad .cd, _, st6.cd, trivial, fun od => ?_⟩
    have hf7 : upd H6 (A.ad .cd) (.frz od (.dT (kvF tgK (fun t => V.ref (A.ad (.ce t))) (dom s.nst s.now)))) (A.ad .cd) = _ := upd_same
    have fr7 : ∀ b, b ≠ A.ad .cd → upd H6 (A.ad .cd) (.frz od (.dT (kvF tgK (fun t => V.ref (A.ad (.ce t))) (dom s.nst s.now)))) b = H6 b := fun b hb => upd_ne hb
    generalize upd H6 (A.ad .cd) (.frz od (.dT (kvF tgK (fun t => V.ref (A.ad (.ce t))) (dom s.nst s.now)))) = H7 at hf7 fr7
    have npc : A.ad .p ≠ A.ad .cd := fun z => by have := st.inj .p .cd trivial trivial z; cases this
    refine ⟨_, rfl, A.ad .p, _, A.dx, _, _, rfl, (fr7 _ npc).trans st6.p, cl, T.n_Store_cells, rfl, A.ad .cd, od, _, rfl, hf7, ?_⟩
    have hcd07 := (fr7 _ ncd).trans st0.cd
    have npcd : A0.ad .p ≠ A0.ad .cd := fun z => by have := st0.inj .p .cd trivial trivial z; cases this
    have hp07 := (fr7 _ np0).trans st0.p
    have none7 : ∀ b, H7 b = none → H6 b = none := fun b hb => by
      by_cases z : b = A.ad .cd
      · rw [z, hf7] at hb; cases hb
      · rw [← fr7 b z]; exact hb
    refine for_it walk_itT (fun i σ' H' => ∃ (ce : Tg → Addr) (a2 a3 : Option V), σ' = [some (.ref (A.ad .p)), some (.ref (A0.ad .p)), a2, a3] ∧ H' (A0.ad .cd) = some (.dT (kvF tgK (fun t => V.ref (ce t)) ((dom s.nst s.now).take i))) ∧
      (∀ t ∈ (dom s.nst s.now).take i, H7 (ce t) = none ∧ ∃ ps : Str → V, H' (ce t) = some (.dK (kvF strK ps fs)) ∧ ∀ f ∈ fs, Dt H (ps f) (pairD (s.val t f) (s.src t f))) ∧ (∀ t ∈ (dom s.nst s.now).take i, ∀ u ∈ (dom s.nst s.now).take i, ce t = ce u → t = u) ∧ ∀ b o, b ≠ A0.ad .cd → H7 b = some o → H' b = some o)
      ⟨fun _ => 0, _, _, rfl, hcd07, (fun t ht => by cases ht), (fun t ht => by cases ht), fun _ _ _ h => h⟩ (fun _ _ _ _ ⟨_, _, _, _, _, _, _, F⟩ => F _ _ ncd.symm hf7) (fun i v σ' Hz H8 hi ⟨ce, a2, a3, e1, hcd8, hce8, hin8, F8⟩ ⟨T1, k, v2, q1, ek, hq1, ev, nT, eH⟩ => ?_) fun σ' H8 ⟨ce, a2, a3, e1, hcd8, hce8, hin8, F8⟩ => ?_
    · subst e1 eH ev
      have ek : ((dom s.nst s.now).map fun t => (tgK t, V.ref (A.ad (.ce t))))[i]? = some (k, v2) := ek
      obtain ⟨t, et, e2⟩ := map_at ek
      injection e2 with e2 e3
      subst e2 e3
      have tin : s.inn t := dom_mem.mp (List.mem_of_getElem? et)
      have x89 : Ext Hz (upd Hz T1 (.tup [.ref q1, .ref (A.ad (.ce t))])) := Ext.upd nT
      have ht9 : upd Hz T1 (.tup [.ref q1, .ref (A.ad (.ce t))]) T1 = some (.tup [.ref q1, .ref (A.ad (.ce t))]) := upd_same
      generalize upd Hz T1 (.tup [.ref q1, .ref (A.ad (.ce t))]) = H9 at x89 ht9
      obtain ⟨ps, hc, hps⟩ := st.ce tin
      have ncc : A.ad (.ce t) ≠ A.ad .cd := fun z => by have := st.inj (.ce t) .cd tin trivial z; cases this
      have nc0 : A.ad (.ce t) ≠ A0.ad .cd := fun z => by
        have := f6 _ ⟨.cd, trivial, rfl⟩
        rw [← z, hc] at this
        cases this
      have hc9 := x89 _ _ (F8 _ _ nc0 ((fr7 _ ncc).trans (x6 _ _ hc)))
      refine ⟨T1, _, rfl, SqT.of ht9, rfl, _, _, rfl, _, _, rfl, rfl, _, rfl, A.ad (.ce t), _, rfl, .of hc9, fun p np => ?_⟩
      have x90 : Ext H9 (upd H9 p (.dK (kvF strK ps fs))) := Ext.upd np
      have hp10 : upd H9 p (.dK (kvF strK ps fs)) p = some (.dK (kvF strK ps fs)) := upd_same
      generalize upd H9 p (.dK (kvF strK ps fs)) = H10 at x90 hp10
      have x80 := x89.trans x90
      have hcd10 := x80 _ _ hcd8
      refine ⟨_, rfl, A0.ad .p, _, A0.dx, _, _, rfl, x80 _ _ (F8 _ _ npcd hp07), cl, T.n_Store_cells, rfl, _, rfl, A0.ad .cd, _, rfl, DPut.t hcd10 (x80 _ _ hq1) ?_, ?_⟩
      · rw [kvF_len, List.length_take, dom_len]
        exact small_lt (by omega)
      have np8 : Hz p = none := ext_none x89 np
      have npcd0 : p ≠ A0.ad .cd := fun z => by rw [z, hcd8] at np8; cases np8
      have np7 : H7 p = none := by
        cases e : H7 p with
        | none => rfl
        | some o => rw [F8 p o npcd0 e] at np8; cases np8
      have hnt : t ∉ (dom s.nst s.now).take i := fun z => by
        have h9 : ((dom s.nst s.now).take i ++ [t]).Nodup := by rw [take_snoc et]; exact (dom_nodup _ _).sublist (List.take_sublist _ _)
        exact (List.nodup_append.mp h9).2.2 t z t (List.mem_singleton.mpr rfl) rfl
      have hno : valV (kvF tgK (fun t => V.ref (ce t)) ((dom s.nst s.now).take i)) (tgK t) = none := kvF_no fun u hu e => hnt (by rw [← tgK_inj _ _ e]; exact hu)
      refine ⟨fun u => if u = t then p else ce u, _, _, rfl, ?_, fun u hu => ?_, fun u hu u' hu' e => ?_, fun b o hb e => by rw [upd_ne hb]; exact x80 _ _ (F8 b o hb e)⟩
      · rw [upd_same, putK_new _ hno, ← take_snoc et, kvF_snoc]
        congr 3
        · exact kvF_congr fun u hu => by
            show V.ref (ce u) = V.ref (if u = t then p else ce u)
            rw [if_neg fun e => hnt (by rw [← e]; exact hu)]
        · show [(tgK t, V.ref p)] = [(tgK t, V.ref (if t = t then p else ce t))]
          rw [if_pos rfl]
      · show H7 (if u = t then p else ce u) = none ∧ ∃ ps : Str → V, upd H10 (A0.ad .cd) _ (if u = t then p else ce u) = _ ∧ _
        by_cases e : u = t
        · rw [if_pos e, e]
          exact ⟨np7, ps, by rw [upd_ne npcd0]; exact hp10, hps⟩
        · rw [if_neg e]
          rw [← take_snoc et] at hu
          rcases List.mem_append.mp hu with hu | hu
          · obtain ⟨r1, ps', r2, r3⟩ := hce8 u hu
            exact ⟨r1, ps', by rw [upd_ne (ne_of r2 hcd8 (by intro z; cases z))]; exact x80 _ _ r2, r3⟩
          · exact absurd (List.mem_singleton.mp hu) e
      · have e : (if u = t then p else ce u) = (if u' = t then p else ce u') := e
        have no : ∀ u ∈ (dom s.nst s.now).take i, ce u ≠ p := fun u hu z => by
          obtain ⟨_, ps', r2, _⟩ := hce8 u hu
          rw [z, np8] at r2
          cases r2
        rw [← take_snoc et] at hu hu'
        have old : ∀ u ∈ (dom s.nst s.now).take i ++ [t], u ≠ t → u ∈ (dom s.nst s.now).take i := fun u hu e => by
          rcases List.mem_append.mp hu with hu | hu
          · exact hu
          · exact absurd (List.mem_singleton.mp hu) e
        by_cases e1 : u = t
        · by_cases e2 : u' = t
          · rw [e1, e2]
          · rw [if_pos e1, if_neg e2] at e
            exact absurd e.symm (no u' (old u' hu' e2))
        · by_cases e2 : u' = t
          · rw [if_neg e1, if_pos e2] at e
            exact absurd e (no u (old u hu e1))
          · rw [if_neg e1, if_neg e2] at e
            exact hin8 u (old u hu e1) u' (old u' hu' e2) e
    · subst e1
      have ef : (dom s.nst s.now).take (kvF tgK (fun t => V.ref (A.ad (.ce t))) (dom s.nst s.now)).length = dom s.nst s.now := List.take_of_length_le (by rw [kvF_len]; exact Nat.le_refl _)
      rw [ef] at hcd8 hce8 hin8
      refine ⟨F8 _ _ ncd.symm hf7, ?_⟩
      have x9 : Ext H (upd H8 (A.ad .cd) (.dT (kvF tgK (fun t => V.ref (A.ad (.ce t))) (dom s.nst s.now)))) := fun b o hb => by
        by_cases z : b = A.ad .cd
        · rw [z, upd_same, ← hb, z, st.cd]
        · rw [upd_ne z]
          exact F8 b o (ne_of_none hb (f6 _ ⟨.cd, trivial, rfl⟩)) ((fr7 b z).trans (x6 b o hb))
      have hcd9 := (upd_ne (H := H8) (o := .dT (kvF tgK (fun t => V.ref (A.ad (.ce t))) (dom s.nst s.now))) ncd).trans hcd8
      have hx9 := (upd_ne (H := H8) (o := .dT (kvF tgK (fun t => V.ref (A.ad (.ce t))) (dom s.nst s.now))) np0).trans (F8 _ _ npcd hp07)
      have hfa9 : upd H8 (A.ad .cd) (.dT (kvF tgK (fun t => V.ref (A.ad (.ce t))) (dom s.nst s.now))) A0.fa = some (.tup (fs.map .str)) := by
        have z1 : A0.fa ≠ A.ad .cd := ne_of st0.fa st6.cd (by intro z; cases z)
        rw [upd_ne z1]
        exact F8 _ _ (ne_of st0.fa st0.cd (by intro z; cases z)) ((fr7 _ z1).trans st0.fa)
      have hce9 : ∀ t ∈ dom s.nst s.now, H7 (ce t) = none ∧ ∃ ps : Str → V, upd H8 (A.ad .cd) (.dT (kvF tgK (fun t => V.ref (A.ad (.ce t))) (dom s.nst s.now))) (ce t) = some (.dK (kvF strK ps fs)) ∧ ∀ f ∈ fs, Dt H (ps f) (pairD (s.val t f) (s.src t f)) := fun t ht => by
        obtain ⟨r1, ps, r2, r3⟩ := hce8 t ht
        exact ⟨r1, ps, by rw [upd_ne (fun z => by rw [z, hf7] at r1; cases r1)]; exact r2, r3⟩
      generalize upd H8 (A.ad .cd) (.dT (kvF tgK (fun t => V.ref (A.ad (.ce t))) (dom s.nst s.now))) = H9 at x9 hcd9 hx9 hfa9 hce9
      have hx9 : H9 (A0.ad .p) = some (.ins (cSto K) A0.dx [("fields", .ref A0.fa), ("cells", .ref (A0.ad .cd)), ("holding", .ref (A0.ad .ho)), ("frosts", .ref (A0.ad .fr)), ("watchers", .ref (A0.ad .wt)), ("hits", .ref (A0.ad .ht)), ("seen", .ref (A0.ad .sn)), ("puts", .int (0 : Nat))]) := hx9
      obtain ⟨kvs, hk1, hk2, hk3⟩ := st.ho
      obtain ⟨wl, hw1, hw2⟩ := st.wt
      obtain ⟨hl, hh1, hh2⟩ := st.ht
      obtain ⟨sl, hs1, hs2⟩ := st.sn
      have np : H (A0.ad .p) = none := f6 _ ⟨.p, trivial, rfl⟩
      refine ⟨_, rfl, A.ad .p, _, A.dx, _, _, rfl, x9 _ _ st.p, cl, T.n_Store_holding, rfl, A.ad .ho, _, rfl, .of (x9 _ _ hk1), fun hd n0 => ⟨_, rfl, A0.ad .p, _, A0.dx, _, rfl, Ext.upd n0 _ _ hx9, cl, T.n_Store_holding, (show 8 < 1000 by decide), ?_⟩⟩
      have nx0 : hd ≠ A0.ad .p := (ne_of_none hx9 n0).symm
      have F10 : ∀ b o, b ≠ A0.ad .p → H9 b = some o → (upd (upd H9 hd (.dK kvs)) (A0.ad .p) (.ins (cSto K) A0.dx (putF "holding" (.ref hd) [("fields", .ref A0.fa), ("cells", .ref (A0.ad .cd)), ("holding", .ref (A0.ad .ho)), ("frosts", .ref (A0.ad .fr)), ("watchers", .ref (A0.ad .wt)), ("hits", .ref (A0.ad .ht)), ("seen", .ref (A0.ad .sn)), ("puts", .int (0 : Nat))]))) b = some o := fun b o hb e => by rw [upd_ne hb]; exact Ext.upd n0 _ _ e
      have hx10 : (upd (upd H9 hd (.dK kvs)) (A0.ad .p) (.ins (cSto K) A0.dx (putF "holding" (.ref hd) [("fields", .ref A0.fa), ("cells", .ref (A0.ad .cd)), ("holding", .ref (A0.ad .ho)), ("frosts", .ref (A0.ad .fr)), ("watchers", .ref (A0.ad .wt)), ("hits", .ref (A0.ad .ht)), ("seen", .ref (A0.ad .sn)), ("puts", .int (0 : Nat))]))) (A0.ad .p) = some (.ins (cSto K) A0.dx [("fields", .ref A0.fa), ("cells", .ref (A0.ad .cd)), ("holding", .ref hd), ("frosts", .ref (A0.ad .fr)), ("watchers", .ref (A0.ad .wt)), ("hits", .ref (A0.ad .ht)), ("seen", .ref (A0.ad .sn)), ("puts", .int (0 : Nat))]) := upd_same
      have hl0 : (upd (upd H9 hd (.dK kvs)) (A0.ad .p) (.ins (cSto K) A0.dx (putF "holding" (.ref hd) [("fields", .ref A0.fa), ("cells", .ref (A0.ad .cd)), ("holding", .ref (A0.ad .ho)), ("frosts", .ref (A0.ad .fr)), ("watchers", .ref (A0.ad .wt)), ("hits", .ref (A0.ad .ht)), ("seen", .ref (A0.ad .sn)), ("puts", .int (0 : Nat))]))) hd = some (.dK kvs) := by rw [upd_ne nx0, upd_same]
      have x10 : Ext H (upd (upd H9 hd (.dK kvs)) (A0.ad .p) (.ins (cSto K) A0.dx (putF "holding" (.ref hd) [("fields", .ref A0.fa), ("cells", .ref (A0.ad .cd)), ("holding", .ref (A0.ad .ho)), ("frosts", .ref (A0.ad .fr)), ("watchers", .ref (A0.ad .wt)), ("hits", .ref (A0.ad .ht)), ("seen", .ref (A0.ad .sn)), ("puts", .int (0 : Nat))]))) := fun b o e => by rw [upd_ne (ne_of_none e np)]; exact Ext.upd n0 _ _ (x9 b o e)
      generalize hH10 : upd (upd H9 hd (.dK kvs)) (A0.ad .p) (.ins (cSto K) A0.dx (putF "holding" (.ref hd) [("fields", .ref A0.fa), ("cells", .ref (A0.ad .cd)), ("holding", .ref (A0.ad .ho)), ("frosts", .ref (A0.ad .fr)), ("watchers", .ref (A0.ad .wt)), ("hits", .ref (A0.ad .ht)), ("seen", .ref (A0.ad .sn)), ("puts", .int (0 : Nat))])) = H10 at F10 hx10 hl0 x10
      refine ⟨_, rfl, A.ad .p, _, A.dx, _, _, rfl, x10 _ _ st.p, cl, T.n_Store_frosts, rfl, A.ad .fr, _, rfl, .inl (SqL.of (x10 _ _ st.fr)), fun l1 n1 => ⟨_, rfl, A0.ad .p, _, A0.dx, _, rfl, Ext.upd n1 _ _ hx10, cl, T.n_Store_frosts, (show 8 < 1000 by decide), ?_⟩⟩
      have nx1 : l1 ≠ A0.ad .p := (ne_of_none hx10 n1).symm
      have F11 : ∀ b o, b ≠ A0.ad .p → H10 b = some o → (upd (upd H10 l1 (.lst (s.fro.map .bl))) (A0.ad .p) (.ins (cSto K) A0.dx (putF "frosts" (.ref l1) [("fields", .ref A0.fa), ("cells", .ref (A0.ad .cd)), ("holding", .ref hd), ("frosts", .ref (A0.ad .fr)), ("watchers", .ref (A0.ad .wt)), ("hits", .ref (A0.ad .ht)), ("seen", .ref (A0.ad .sn)), ("puts", .int (0 : Nat))]))) b = some o := fun b o hb e => by rw [upd_ne hb]; exact Ext.upd n1 _ _ e
      have hx11 : (upd (upd H10 l1 (.lst (s.fro.map .bl))) (A0.ad .p) (.ins (cSto K) A0.dx (putF "frosts" (.ref l1) [("fields", .ref A0.fa), ("cells", .ref (A0.ad .cd)), ("holding", .ref hd), ("frosts", .ref (A0.ad .fr)), ("watchers", .ref (A0.ad .wt)), ("hits", .ref (A0.ad .ht)), ("seen", .ref (A0.ad .sn)), ("puts", .int (0 : Nat))]))) (A0.ad .p) = some (.ins (cSto K) A0.dx [("fields", .ref A0.fa), ("cells", .ref (A0.ad .cd)), ("holding", .ref hd), ("frosts", .ref l1), ("watchers", .ref (A0.ad .wt)), ("hits", .ref (A0.ad .ht)), ("seen", .ref (A0.ad .sn)), ("puts", .int (0 : Nat))]) := upd_same
      have hl1 : (upd (upd H10 l1 (.lst (s.fro.map .bl))) (A0.ad .p) (.ins (cSto K) A0.dx (putF "frosts" (.ref l1) [("fields", .ref A0.fa), ("cells", .ref (A0.ad .cd)), ("holding", .ref hd), ("frosts", .ref (A0.ad .fr)), ("watchers", .ref (A0.ad .wt)), ("hits", .ref (A0.ad .ht)), ("seen", .ref (A0.ad .sn)), ("puts", .int (0 : Nat))]))) l1 = some (.lst (s.fro.map .bl)) := by rw [upd_ne nx1, upd_same]
      have x11 : Ext H (upd (upd H10 l1 (.lst (s.fro.map .bl))) (A0.ad .p) (.ins (cSto K) A0.dx (putF "frosts" (.ref l1) [("fields", .ref A0.fa), ("cells", .ref (A0.ad .cd)), ("holding", .ref hd), ("frosts", .ref (A0.ad .fr)), ("watchers", .ref (A0.ad .wt)), ("hits", .ref (A0.ad .ht)), ("seen", .ref (A0.ad .sn)), ("puts", .int (0 : Nat))]))) := fun b o e => by rw [upd_ne (ne_of_none e np)]; exact Ext.upd n1 _ _ (x10 b o e)
      generalize hH11 : upd (upd H10 l1 (.lst (s.fro.map .bl))) (A0.ad .p) (.ins (cSto K) A0.dx (putF "frosts" (.ref l1) [("fields", .ref A0.fa), ("cells", .ref (A0.ad .cd)), ("holding", .ref hd), ("frosts", .ref (A0.ad .fr)), ("watchers", .ref (A0.ad .wt)), ("hits", .ref (A0.ad .ht)), ("seen", .ref (A0.ad .sn)), ("puts", .int (0 : Nat))])) = H11 at F11 hx11 hl1 x11
      refine ⟨_, rfl, A.ad .p, _, A.dx, _, _, rfl, x11 _ _ st.p, cl, T.n_Store_watchers, rfl, A.ad .wt, _, rfl, .inl (SqL.of (x11 _ _ hw1)), fun l2 n2 => ⟨_, rfl, A0.ad .p, _, A0.dx, _, rfl, Ext.upd n2 _ _ hx11, cl, T.n_Store_watchers, (show 8 < 1000 by decide), ?_⟩⟩
      have nx2 : l2 ≠ A0.ad .p := (ne_of_none hx11 n2).symm
      have F12 : ∀ b o, b ≠ A0.ad .p → H11 b = some o → (upd (upd H11 l2 (.lst wl)) (A0.ad .p) (.ins (cSto K) A0.dx (putF "watchers" (.ref l2) [("fields", .ref A0.fa), ("cells", .ref (A0.ad .cd)), ("holding", .ref hd), ("frosts", .ref l1), ("watchers", .ref (A0.ad .wt)), ("hits", .ref (A0.ad .ht)), ("seen", .ref (A0.ad .sn)), ("puts", .int (0 : Nat))]))) b = some o := fun b o hb e => by rw [upd_ne hb]; exact Ext.upd n2 _ _ e
      have hx12 : (upd (upd H11 l2 (.lst wl)) (A0.ad .p) (.ins (cSto K) A0.dx (putF "watchers" (.ref l2) [("fields", .ref A0.fa), ("cells", .ref (A0.ad .cd)), ("holding", .ref hd), ("frosts", .ref l1), ("watchers", .ref (A0.ad .wt)), ("hits", .ref (A0.ad .ht)), ("seen", .ref (A0.ad .sn)), ("puts", .int (0 : Nat))]))) (A0.ad .p) = some (.ins (cSto K) A0.dx [("fields", .ref A0.fa), ("cells", .ref (A0.ad .cd)), ("holding", .ref hd), ("frosts", .ref l1), ("watchers", .ref l2), ("hits", .ref (A0.ad .ht)), ("seen", .ref (A0.ad .sn)), ("puts", .int (0 : Nat))]) := upd_same
      have hl2 : (upd (upd H11 l2 (.lst wl)) (A0.ad .p) (.ins (cSto K) A0.dx (putF "watchers" (.ref l2) [("fields", .ref A0.fa), ("cells", .ref (A0.ad .cd)), ("holding", .ref hd), ("frosts", .ref l1), ("watchers", .ref (A0.ad .wt)), ("hits", .ref (A0.ad .ht)), ("seen", .ref (A0.ad .sn)), ("puts", .int (0 : Nat))]))) l2 = some (.lst wl) := by rw [upd_ne nx2, upd_same]
      have x12 : Ext H (upd (upd H11 l2 (.lst wl)) (A0.ad .p) (.ins (cSto K) A0.dx (putF "watchers" (.ref l2) [("fields", .ref A0.fa), ("cells", .ref (A0.ad .cd)), ("holding", .ref hd), ("frosts", .ref l1), ("watchers", .ref (A0.ad .wt)), ("hits", .ref (A0.ad .ht)), ("seen", .ref (A0.ad .sn)), ("puts", .int (0 : Nat))]))) := fun b o e => by rw [upd_ne (ne_of_none e np)]; exact Ext.upd n2 _ _ (x11 b o e)
      generalize hH12 : upd (upd H11 l2 (.lst wl)) (A0.ad .p) (.ins (cSto K) A0.dx (putF "watchers" (.ref l2) [("fields", .ref A0.fa), ("cells", .ref (A0.ad .cd)), ("holding", .ref hd), ("frosts", .ref l1), ("watchers", .ref (A0.ad .wt)), ("hits", .ref (A0.ad .ht)), ("seen", .ref (A0.ad .sn)), ("puts", .int (0 : Nat))])) = H12 at F12 hx12 hl2 x12
      refine ⟨_, rfl, A.ad .p, _, A.dx, _, _, rfl, x12 _ _ st.p, cl, T.n_Store_hits, rfl, A.ad .ht, _, rfl, .inl (SqL.of (x12 _ _ hh1)), fun l3 n3 => ⟨_, rfl, A0.ad .p, _, A0.dx, _, rfl, Ext.upd n3 _ _ hx12, cl, T.n_Store_hits, (show 8 < 1000 by decide), ?_⟩⟩
      have nx3 : l3 ≠ A0.ad .p := (ne_of_none hx12 n3).symm
      have F13 : ∀ b o, b ≠ A0.ad .p → H12 b = some o → (upd (upd H12 l3 (.lst hl)) (A0.ad .p) (.ins (cSto K) A0.dx (putF "hits" (.ref l3) [("fields", .ref A0.fa), ("cells", .ref (A0.ad .cd)), ("holding", .ref hd), ("frosts", .ref l1), ("watchers", .ref l2), ("hits", .ref (A0.ad .ht)), ("seen", .ref (A0.ad .sn)), ("puts", .int (0 : Nat))]))) b = some o := fun b o hb e => by rw [upd_ne hb]; exact Ext.upd n3 _ _ e
      have hx13 : (upd (upd H12 l3 (.lst hl)) (A0.ad .p) (.ins (cSto K) A0.dx (putF "hits" (.ref l3) [("fields", .ref A0.fa), ("cells", .ref (A0.ad .cd)), ("holding", .ref hd), ("frosts", .ref l1), ("watchers", .ref l2), ("hits", .ref (A0.ad .ht)), ("seen", .ref (A0.ad .sn)), ("puts", .int (0 : Nat))]))) (A0.ad .p) = some (.ins (cSto K) A0.dx [("fields", .ref A0.fa), ("cells", .ref (A0.ad .cd)), ("holding", .ref hd), ("frosts", .ref l1), ("watchers", .ref l2), ("hits", .ref l3), ("seen", .ref (A0.ad .sn)), ("puts", .int (0 : Nat))]) := upd_same
      have hl3 : (upd (upd H12 l3 (.lst hl)) (A0.ad .p) (.ins (cSto K) A0.dx (putF "hits" (.ref l3) [("fields", .ref A0.fa), ("cells", .ref (A0.ad .cd)), ("holding", .ref hd), ("frosts", .ref l1), ("watchers", .ref l2), ("hits", .ref (A0.ad .ht)), ("seen", .ref (A0.ad .sn)), ("puts", .int (0 : Nat))]))) l3 = some (.lst hl) := by rw [upd_ne nx3, upd_same]
      have x13 : Ext H (upd (upd H12 l3 (.lst hl)) (A0.ad .p) (.ins (cSto K) A0.dx (putF "hits" (.ref l3) [("fields", .ref A0.fa), ("cells", .ref (A0.ad .cd)), ("holding", .ref hd), ("frosts", .ref l1), ("watchers", .ref l2), ("hits", .ref (A0.ad .ht)), ("seen", .ref (A0.ad .sn)), ("puts", .int (0 : Nat))]))) := fun b o e => by rw [upd_ne (ne_of_none e np)]; exact Ext.upd n3 _ _ (x12 b o e)
      generalize hH13 : upd (upd H12 l3 (.lst hl)) (A0.ad .p) (.ins (cSto K) A0.dx (putF "hits" (.ref l3) [("fields", .ref A0.fa), ("cells", .ref (A0.ad .cd)), ("holding", .ref hd), ("frosts", .ref l1), ("watchers", .ref l2), ("hits", .ref (A0.ad .ht)), ("seen", .ref (A0.ad .sn)), ("puts", .int (0 : Nat))])) = H13 at F13 hx13 hl3 x13
      refine ⟨_, rfl, A.ad .p, _, A.dx, _, _, rfl, x13 _ _ st.p, cl, T.n_Store_seen, rfl, A.ad .sn, _, rfl, .inl (SqL.of (x13 _ _ hs1)), fun l4 n4 => ⟨_, rfl, A0.ad .p, _, A0.dx, _, rfl, Ext.upd n4 _ _ hx13, cl, T.n_Store_seen, (show 8 < 1000 by decide), ?_⟩⟩
      have nx4 : l4 ≠ A0.ad .p := (ne_of_none hx13 n4).symm
      have F14 : ∀ b o, b ≠ A0.ad .p → H13 b = some o → (upd (upd H13 l4 (.lst sl)) (A0.ad .p) (.ins (cSto K) A0.dx (putF "seen" (.ref l4) [("fields", .ref A0.fa), ("cells", .ref (A0.ad .cd)), ("holding", .ref hd), ("frosts", .ref l1), ("watchers", .ref l2), ("hits", .ref l3), ("seen", .ref (A0.ad .sn)), ("puts", .int (0 : Nat))]))) b = some o := fun b o hb e => by rw [upd_ne hb]; exact Ext.upd n4 _ _ e
      have hx14 : (upd (upd H13 l4 (.lst sl)) (A0.ad .p) (.ins (cSto K) A0.dx (putF "seen" (.ref l4) [("fields", .ref A0.fa), ("cells", .ref (A0.ad .cd)), ("holding", .ref hd), ("frosts", .ref l1), ("watchers", .ref l2), ("hits", .ref l3), ("seen", .ref (A0.ad .sn)), ("puts", .int (0 : Nat))]))) (A0.ad .p) = some (.ins (cSto K) A0.dx [("fields", .ref A0.fa), ("cells", .ref (A0.ad .cd)), ("holding", .ref hd), ("frosts", .ref l1), ("watchers", .ref l2), ("hits", .ref l3), ("seen", .ref l4), ("puts", .int (0 : Nat))]) := upd_same
      have hl4 : (upd (upd H13 l4 (.lst sl)) (A0.ad .p) (.ins (cSto K) A0.dx (putF "seen" (.ref l4) [("fields", .ref A0.fa), ("cells", .ref (A0.ad .cd)), ("holding", .ref hd), ("frosts", .ref l1), ("watchers", .ref l2), ("hits", .ref l3), ("seen", .ref (A0.ad .sn)), ("puts", .int (0 : Nat))]))) l4 = some (.lst sl) := by rw [upd_ne nx4, upd_same]
      have x14 : Ext H (upd (upd H13 l4 (.lst sl)) (A0.ad .p) (.ins (cSto K) A0.dx (putF "seen" (.ref l4) [("fields", .ref A0.fa), ("cells", .ref (A0.ad .cd)), ("holding", .ref hd), ("frosts", .ref l1), ("watchers", .ref l2), ("hits", .ref l3), ("seen", .ref (A0.ad .sn)), ("puts", .int (0 : Nat))]))) := fun b o e => by rw [upd_ne (ne_of_none e np)]; exact Ext.upd n4 _ _ (x13 b o e)
      generalize hH14 : upd (upd H13 l4 (.lst sl)) (A0.ad .p) (.ins (cSto K) A0.dx (putF "seen" (.ref l4) [("fields", .ref A0.fa), ("cells", .ref (A0.ad .cd)), ("holding", .ref hd), ("frosts", .ref l1), ("watchers", .ref l2), ("hits", .ref l3), ("seen", .ref (A0.ad .sn)), ("puts", .int (0 : Nat))])) = H14 at F14 hx14 hl4 x14
      refine ⟨_, rfl, A.ad .p, _, A.dx, _, _, rfl, x14 _ _ st.p, cl, T.n_Store_puts, rfl, _, rfl, A0.ad .p, _, A0.dx, _, rfl, hx14, cl, T.n_Store_puts, (show 8 < 1000 by decide), ?_⟩
      have F15 : ∀ b o, b ≠ A0.ad .p → H14 b = some o → (upd H14 (A0.ad .p) (.ins (cSto K) A0.dx (putF "puts" (.int (s.puts : Nat)) [("fields", .ref A0.fa), ("cells", .ref (A0.ad .cd)), ("holding", .ref hd), ("frosts", .ref l1), ("watchers", .ref l2), ("hits", .ref l3), ("seen", .ref l4), ("puts", .int (0 : Nat))]))) b = some o := fun b o hb e => by rw [upd_ne hb]; exact e
      have hx15 : (upd H14 (A0.ad .p) (.ins (cSto K) A0.dx (putF "puts" (.int (s.puts : Nat)) [("fields", .ref A0.fa), ("cells", .ref (A0.ad .cd)), ("holding", .ref hd), ("frosts", .ref l1), ("watchers", .ref l2), ("hits", .ref l3), ("seen", .ref l4), ("puts", .int (0 : Nat))]))) (A0.ad .p) = some (.ins (cSto K) A0.dx (stoFs (mkA (A0.ad .p) (A0.ad .cd) hd l1 l2 l3 l4 A0.dx A0.fa ce) s.puts)) := upd_same
      have x15 : Ext H (upd H14 (A0.ad .p) (.ins (cSto K) A0.dx (putF "puts" (.int (s.puts : Nat)) [("fields", .ref A0.fa), ("cells", .ref (A0.ad .cd)), ("holding", .ref hd), ("frosts", .ref l1), ("watchers", .ref l2), ("hits", .ref l3), ("seen", .ref l4), ("puts", .int (0 : Nat))]))) := fun b o e => by rw [upd_ne (ne_of_none e np)]; exact x14 b o e
      generalize upd H14 (A0.ad .p) (.ins (cSto K) A0.dx (putF "puts" (.int (s.puts : Nat)) [("fields", .ref A0.fa), ("cells", .ref (A0.ad .cd)), ("holding", .ref hd), ("frosts", .ref l1), ("watchers", .ref l2), ("hits", .ref l3), ("seen", .ref l4), ("puts", .int (0 : Nat))])) = H15 at F15 hx15 x15
      have e10 : ∀ b o, b ≠ A0.ad .p → H10 b = some o → H15 b = some o := fun b o hb e => F15 b o hb (F14 b o hb (F13 b o hb (F12 b o hb (F11 b o hb e))))
      have e11 : ∀ b o, b ≠ A0.ad .p → H11 b = some o → H15 b = some o := fun b o hb e => F15 b o hb (F14 b o hb (F13 b o hb (F12 b o hb e)))
      have e12 : ∀ b o, b ≠ A0.ad .p → H12 b = some o → H15 b = some o := fun b o hb e => F15 b o hb (F14 b o hb (F13 b o hb e))
      have e13 : ∀ b o, b ≠ A0.ad .p → H13 b = some o → H15 b = some o := fun b o hb e => F15 b o hb (F14 b o hb e)
      have e9 : ∀ b o, b ≠ A0.ad .p → H9 b = some o → H15 b = some o := fun b o hb e => e10 b o hb (F10 b o hb e)
      have m : ∀ {Ha Hb : Hp}, (∀ b o, b ≠ A0.ad .p → Ha b = some o → Hb b = some o) → ∀ b, b ≠ A0.ad .p → Hb b = none → Ha b = none := fun {Ha Hb} F b hb e => by
        cases z : Ha b with
        | none => rfl
        | some o => rw [F b o hb z] at e; cases e
      have p1 := m F10 _ nx1 n1
      have p2 := m F10 _ nx2 (m F11 _ nx2 n2)
      have p3 := m F10 _ nx3 (m F11 _ nx3 (m F12 _ nx3 n3))
      have p4 := m F10 _ nx4 (m F11 _ nx4 (m F12 _ nx4 (m F13 _ nx4 n4)))
      have d01 : hd ≠ l1 := ne_of_none hl0 n1
      have d02 : hd ≠ l2 := ne_of_none (F11 _ _ nx0 hl0) n2
      have d03 : hd ≠ l3 := ne_of_none (F12 _ _ nx0 (F11 _ _ nx0 hl0)) n3
      have d04 : hd ≠ l4 := ne_of_none (F13 _ _ nx0 (F12 _ _ nx0 (F11 _ _ nx0 hl0))) n4
      have d12 : l1 ≠ l2 := ne_of_none hl1 n2
      have d13 : l1 ≠ l3 := ne_of_none (F12 _ _ nx1 hl1) n3
      have d14 : l1 ≠ l4 := ne_of_none (F13 _ _ nx1 (F12 _ _ nx1 hl1)) n4
      have d23 : l2 ≠ l3 := ne_of_none hl2 n3
      have d24 : l2 ≠ l4 := ne_of_none (F13 _ _ nx2 hl2) n4
      have d34 : l3 ≠ l4 := ne_of_none hl3 n4
      have c0 : A0.ad .cd ≠ hd := ne_of_none hcd9 n0
      have nodup : [A0.ad .p, A0.ad .cd, hd, l1, l2, l3, l4].Nodup := by
        simp only [List.nodup_cons, List.mem_cons, List.not_mem_nil, not_or, or_false, not_false_eq_true, List.nodup_nil, and_true]
        exact ⟨⟨npcd, nx0.symm, nx1.symm, nx2.symm, nx3.symm, nx4.symm⟩, ⟨c0, ne_of_none hcd9 p1, ne_of_none hcd9 p2, ne_of_none hcd9 p3, ne_of_none hcd9 p4⟩, ⟨d01, d02, d03, d04⟩, ⟨d12, d13, d14⟩, ⟨d23, d24⟩, d34⟩
      have cells : ∀ t ∈ dom s.nst s.now, ce t ≠ A0.ad .p ∧ ce t ∉ [A0.ad .p, A0.ad .cd, hd, l1, l2, l3, l4] ∧ ∃ ps : Str → V, H15 (ce t) = some (.dK (kvF strK ps fs)) ∧ ∀ f ∈ fs, Dt H15 (ps f) (pairD (s.val t f) (s.src t f)) := fun t ht => by
        obtain ⟨r1, ps, r2, r3⟩ := hce9 t ht
        have r4 : ce t ≠ A0.ad .p := ne_of r2 hx9 (by intro z; cases z)
        refine ⟨r4, ?_, ps, e9 _ _ r4 r2, fun f hf => (r3 f hf).keep (ext_keep x15)⟩
        simp only [List.mem_cons, List.not_mem_nil, not_or, or_false]
        exact ⟨r4, ne_of r2 hcd9 (by intro z; cases z), ne_of_none r2 n0, ne_of_none r2 p1, ne_of_none r2 p2, ne_of_none r2 p3, ne_of_none r2 p4⟩
      refine ⟨_, rfl, q H15 (mkA (A0.ad .p) (A0.ad .cd) hd l1 l2 l3 l4 A0.dx A0.fa ce) ⟨mkA_inj nodup (fun t ht => (cells t (dom_mem.mpr ht)).2.1) (fun t u ht hu e => hin8 t (dom_mem.mpr ht) u (dom_mem.mpr hu) e), e9 _ _ (ne_of hfa9 hx9 (by intro z; cases z)) hfa9, fun r hr => ?_⟩ x15 (fun b hb => ?_)⟩
      · cases r with
        | p => exact ⟨_, hx15, rfl⟩
        | cd => exact ⟨_, e9 _ _ npcd.symm hcd9, rfl⟩
        | ho => exact ⟨_, e10 _ _ nx0 hl0, kvs, rfl, hk2, fun y => (hk3 y).keep (ext_keep x15)⟩
        | fr => exact ⟨_, e11 _ _ nx1 hl1, rfl⟩
        | wt => exact ⟨_, e12 _ _ nx2 hl2, wl, rfl, hw2.keep (ext_keep x15)⟩
        | ht => exact ⟨_, e13 _ _ nx3 hl3, hl, rfl, hh2.keep (ext_keep x15)⟩
        | sn => exact ⟨_, F15 _ _ nx4 hl4, sl, rfl, hs2.keep (ext_keep x15)⟩
        | ce t =>
          obtain ⟨_, _, ps, r1, r2⟩ := cells t (dom_mem.mpr hr)
          exact ⟨_, r1, ps, rfl, r2⟩
      · obtain ⟨r, hr, rfl⟩ := hb
        cases r with
        | p => exact np
        | cd => exact f6 _ ⟨.cd, trivial, rfl⟩
        | ho => exact ext_none x9 n0
        | fr => exact ext_none x9 p1
        | wt => exact ext_none x9 p2
        | ht => exact ext_none x9 p3
        | sn => exact ext_none x9 p4
        | ce t => exact ext_none x6 (none7 _ (hce9 t (dom_mem.mpr hr)).1)
end
end TW
set_option maxHeartbeats 4000000
/-! ## the store: the heap behind variables -/
namespace TW
open PySem PySem.Spec PyProof.Rows L2 TwN
structure MetT (H : L2.Hp) (d l : Addr) (o : List Tg) : Prop where
  d : H d = some (.dT (numKV tgK o))
  l : ∃ us, H l = some (.lst us) ∧ DtAll H us (o.map tgD)
theorem MetT.ne {H : Hp} {d l : Addr} {o : List Tg} (m : MetT H d l o) : d ≠ l := by
  obtain ⟨us, h1, _⟩ := m.l
  exact ne_of m.d h1 (by intro z; cases z)
theorem MetT.ext {H H' : Hp} {d l : Addr} {o : List Tg} (m : MetT H d l o) (e : Ext H H') : MetT H' d l o := by
  obtain ⟨us, h1, h2⟩ := m.l
  exact ⟨e _ _ m.d, us, e _ _ h1, h2.keep (ext_keep e)⟩
/-- numbers[v] = len(order); order.append(v) -/
theorem meet_putT {K : PySem.W.Frag} {d l a : Addr} {o : List Tg} {t : Tg} {i di li : Nat} {σ : L2.St} {H : Hp} {D : L2.Ends} (hi : σ[i]? = some (some (.ref a))) (hd : σ[di]? = some (some (.ref d))) (hl : σ[li]? = some (some (.ref l))) (m : MetT H d l o) (ha : H a = some (.tup ((tgK t).map kV))) (ht : t ∉ o) (hb : o.length ≤ 300)
    (q : ∀ H', MetT H' d l (o ++ [t]) → (∀ b u, b ≠ d → b ≠ l → H b = some u → H' b = some u) → D.nx σ H') :
    tSeq (sDPut (tVar di) (tVar i) (tCB (rLen K) (tCons (tVar li) tNil))) (tDrop (tBM K "list" rAppend (tVar li) (tCons (tVar i) tNil))) D σ H := by
  obtain ⟨us, h1, h2⟩ := m.l
  have hul := h2.len
  rw [List.length_map] at hul
  refine ⟨_, hl, l, _, rfl, .inl (SqL.of h1), _, hd, _, hi, d, _, rfl, DPut.t (k := tgK t) m.d ha (by rw [numKV_len]; exact small_lt (by omega)), ?_⟩
  have hno : valV (numKV tgK o) (tgK t) = none := by rw [numKV_at tgK_inj, pos_none ht]; rfl
  have k1 : KeepT H (upd H d (.dT (putK (numKV tgK o) (tgK t) (.int (us.length : Nat))))) := KeepT.at_ m.d fun _ z => by cases z
  have hl2 : upd H d (.dT (putK (numKV tgK o) (tgK t) (.int (us.length : Nat)))) l = some (.lst us) := by rw [upd_ne m.ne.symm]; exact h1
  have hd2 : upd H d (.dT (putK (numKV tgK o) (tgK t) (.int (us.length : Nat)))) d = some (.dT (numKV tgK (o ++ [t]))) := by rw [upd_same, putK_new _ hno, numKV_snoc, hul]
  have fr : ∀ b u, b ≠ d → b ≠ l → H b = some u → upd H d (.dT (putK (numKV tgK o) (tgK t) (.int (us.length : Nat)))) b = some u := fun b u h3 _ h5 => by rw [upd_ne h3]; exact h5
  generalize upd H d (.dT (putK (numKV tgK o) (tgK t) (.int (us.length : Nat)))) = H1 at k1 hl2 hd2 fr
  have k2 : KeepT H1 (upd H1 l (.lst (us ++ [.ref a]))) := KeepT.at_ hl2 fun _ z => by cases z
  refine ⟨_, hl, .inl ⟨rfl, _, SqL.of hl2⟩, _, hi, l, _, _, rfl, rfl, hl2, small_lt (by omega), q _ ⟨by rw [upd_ne m.ne]; exact hd2, _, upd_same, ?_⟩ fun b u h3 h4 h5 => by rw [upd_ne h4]; exact fr b u h3 h4 h5⟩
  exact ((h2.keep k1).keep k2).snocM (f := tgD) (((Dt.ofTg ha).keep k1).keep k2)
theorem not_in {H : Hp} {d l a : Addr} {o : List Tg} {t : Tg} (m : MetT H d l o) (ha : H a = some (.tup ((tgK t).map kV))) : ∃ r : Option V, DGet H d (.ref a) r ∧ (!r.isSome) = !decide (t ∈ o) := by
  by_cases h : t ∈ o
  · obtain ⟨j, hj⟩ := pos_mem h
    refine ⟨some (.int (j : Nat)), dgetT m.d ha (by rw [numKV_at tgK_inj, hj]; rfl), by rw [decide_eq_true h]; rfl⟩
  · exact ⟨none, dgetT m.d ha (by rw [numKV_at tgK_inj, pos_none h]; rfl), by rw [decide_eq_false h]; rfl⟩
theorem num_get {H : Hp} {d l : Addr} {o : List Tg} {v : V} {t : Option Tg} (m : MetT H d l o) (dv : Dt H v (tvD t)) : ∃ r : Option V, DGetN H d v r ∧ r.getD .non = oV (idx o t) := by
  cases t with
  | none =>
    have e := dv.tv_none
    subst e
    exact ⟨none, .inr ⟨rfl, rfl, _, .of m.d⟩, rfl⟩
  | some t =>
    obtain ⟨a, rfl, ha⟩ := Dt.tg (t := t) dv
    refine ⟨_, .inl (dgetT m.d ha rfl), ?_⟩
    rw [numKV_at tgK_inj]
    show _ = oV (pos o t)
    cases pos o t <;> rfl
section
variable {P : Program} {w : World} {K : PySem.W.Frag} {mg : Str → Option Value} {base h : Heap}
def sp_heap_of (K : PySem.W.Frag) : Sp := fun vs H Q _ => ∃ (A : SA) (m : Nat) (fs : List Str) (s : StS) (na : Addr) (ns : List Str), vs = [.ref (A.ad .p), .ref na] ∧ H na = some (.lst (ns.map .str)) ∧ Sto (cSto K) H A m fs s ∧ Fields fs ∧ WF fs s ∧ s.nst + s.now ≤ 200 ∧ ns.Nodup ∧ ns.length ≤ 6 ∧ (∀ x ∈ ns, GoodW x) ∧
  ∀ H' r, Ext H H' → HeapAt K H' r fs ((hdOf fs s ns).nrm srt fs) → Q (.ref r) H'
theorem p_Store_heap_of (T : Tx w K mg h) : C8.Met P w K mg base 8 (cSto K) "heap_of" (sp_heap_of K) [] :=
  met T.f_Store_heap_of T.c_Store T.m_Store_heap_of sc_Store_heap_of (fun vs H Q E ⟨_, _, _, _, _, _, e, _⟩ => by rw [e]; rfl) fun cdv A' outer s' H vs Q E hr ⟨A, m, fs, s, na, ns, e, hna, st, hF, wf, hsm, hnd, hnl, hng, q⟩ => by
    subst e
    have cl := T.c_Store
    refine ⟨_, (pss_cons (ps_set (i := 2) sc_Store_heap_of.nd rfl (by first | exact Or.inl rfl | exact Or.inr rfl) pe_dnewT)
  (pss_cons (ps_set (i := 3) sc_Store_heap_of.nd rfl (by first | exact Or.inl rfl | exact Or.inr rfl) (pe_lst pa_nil))
  (pss_cons (ps_for PassesOwn.never (by rfl) (pi_list (pv 1)) (pg_name (i := 4) sc_Store_heap_of.nd rfl (by first | exact Or.inl rfl | exact Or.inr rfl))
  (pss_one (ps_ifW (ptw_andP (ptw_cmp op_notN (pew_named (i := 5) sc_Store_heap_of.nd rfl (by first | exact Or.inl rfl | exact Or.inr rfl) (pew_of (C8.pe_mt (p_Store_held_by T) hr (by decide) (pv 0) (pa_cons (pv 4) pa_nil)))) pe_non (nomark _)) (pt_cmp (pc_dnotin (hu_of hr) (pv 5) (pv 2)))) (pss_cons (ps_dput (hu_of hr) (pv 2) (pv 5) (pe_callB call_len_seq (by rfl) T.z_len (by decide +kernel) (pa_cons (pv 3) pa_nil)) (by rfl))
  (pss_one (ps_expr (pe_bm PySem.F.plainAttrs_list PySem.F.slot_list_append PySem.F.type_list_append mt_append (pv 3) (pa_cons (pv 5) pa_nil))))) pss_nil)))
  (pss_cons (ps_set (i := 6) sc_Store_heap_of.nd rfl (by first | exact Or.inl rfl | exact Or.inr rfl) pe_int)
  (pss_cons (ps_while PassesOwn.never (pt_cmpR op_lt (pv 6) (pe_callB call_len_seq (by rfl) T.z_len (by decide +kernel) (pa_cons (pv 3) pa_nil)) (nomark _))
  (pss_cons (ps_if (pt_cmpR op_gt (pe_callB call_len_seq (by rfl) T.z_len (by decide +kernel) (pa_cons (pv 3) pa_nil)) (pe_glob (v := .int 200) (by rfl) (Classical.choose_spec T.i_MOST_OBJECTS) ⟨_, rfl⟩) (nomark _)) (pss_one ps_never) pss_nil)
  (pss_cons (ps_for PassesOwn.never (by rfl) (pi_tup (pe_fld (pv 0) (by rfl))) (pg_name (i := 7) sc_Store_heap_of.nd rfl (by first | exact Or.inl rfl | exact Or.inr rfl))
  (pss_cons (ps_set (i := 8) sc_Store_heap_of.nd rfl (by first | exact Or.inl rfl | exact Or.inr rfl) (pe_ix ix_tup (pe_dget (hu_of hr) (pe_dget (hu_of hr) (pe_fld (pv 0) (by rfl)) (pe_ix ix_list (pv 3) (pv 6) (fun _ _ => rfl)) (fun _ _ => rfl)) (pv 7) (fun _ _ => rfl)) pe_int (fun _ _ => rfl)))
  (pss_one (ps_if (PW.pt (pw_and (pt_cmp (pc_notN (pv 8))) (pw_and1 (pt_cmp (pc_dnotin (hu_of hr) (pv 8) (pv 2)))))) (pss_cons (ps_dput (hu_of hr) (pv 2) (pv 8) (pe_callB call_len_seq (by rfl) T.z_len (by decide +kernel) (pa_cons (pv 3) pa_nil)) (by rfl))
  (pss_one (ps_expr (pe_bm PySem.F.plainAttrs_list PySem.F.slot_list_append PySem.F.type_list_append mt_append (pv 3) (pa_cons (pv 8) pa_nil))))) pss_nil))))
  (pss_one (ps_aug (i := 6) sc_Store_heap_of.nd rfl (by first | exact Or.inl rfl | exact Or.inr rfl) pe_int ip_add)))))
  (pss_cons (ps_set (i := 9) sc_Store_heap_of.nd rfl (by first | exact Or.inl rfl | exact Or.inr rfl) (pe_lst pa_nil))
  (pss_cons (ps_for PassesOwn.never (by rfl) (pi_list (pv 3)) (pg_name (i := 10) sc_Store_heap_of.nd rfl (by first | exact Or.inl rfl | exact Or.inr rfl))
  (pss_cons (ps_set (i := 11) sc_Store_heap_of.nd rfl (by first | exact Or.inl rfl | exact Or.inr rfl) (pe_dget (hu_of hr) (pe_fld (pv 0) (by rfl)) (pv 10) (fun _ _ => rfl)))
  (pss_one (ps_expr (pe_bm PySem.F.plainAttrs_list PySem.F.slot_list_append PySem.F.type_list_append mt_append (pv 9) (pa_cons (by exact (pe_dc (own := [("field", 7)]) (g := gName 7) (by rfl) sc_Store_heap_of.nd (pi_tup (pe_fld (pv 0) (by rfl))) (blkOk_by (own := [("field", 7)]) (N := ["self", "names", "numbers", "order", "name", "root", "at", "field", "value", "objects", "thing", "cell"]) (sc := defScope s_Store_heap_of) (by decide +kernel)) (fun _ _ _ _ _ => (pg_name (i := 7) sc_Store_heap_of.nd rfl (by first | exact Or.inl rfl | exact Or.inr rfl))) (fun _ _ _ _ _ => pts_nil) (fun _ _ _ _ _ => (by exact (pv 7))) (fun _ _ _ _ _ => (by exact (pe_dgetN (hu_of hr) (pv 2) (pe_ix (ix_tupK (K := K) rfl) (pe_dget (hu_of hr) (pv 11) (pv 7) (fun _ _ => rfl)) pe_int (fun _ _ => rfl)) ⟨rfl, rfl, rfl, rfl⟩))))) pa_nil))))))
  (pss_one (ps_ret (C8.pe_mt0 (p_Heap_normal T) hr (by decide) (C8.pe_mk (p_Heap_init T) hr (by decide) (by rfl) (pa_cons (pe_fld (pv 0) (by rfl)) (pa_cons (pv 9) (pa_cons (by exact (pe_dc (own := [("name", 4)]) (g := gName 4) (by rfl) sc_Store_heap_of.nd (pi_list (pv 1)) (blkOk_by (own := [("name", 4)]) (N := ["self", "names", "numbers", "order", "name", "root", "at", "field", "value", "objects", "thing", "cell"]) (sc := defScope s_Store_heap_of) (by decide +kernel)) (fun _ _ _ _ _ => (pg_name (i := 4) sc_Store_heap_of.nd rfl (by first | exact Or.inl rfl | exact Or.inr rfl))) (fun _ _ _ _ _ => pts_nil) (fun _ _ _ _ _ => (by exact (pv 4))) (fun _ _ _ _ _ => (by exact (pe_dgetN (hu_of hr) (pv 2) (C8.pe_mt (p_Store_held_by T) hr (by decide) (pv 0) (pa_cons (pv 4) pa_nil)) ⟨rfl, rfl, rfl, rfl⟩))))) pa_nil)))))))))))))), ?_⟩
    have all : ∀ i, ∀ t ∈ bfs (nbs fs s) (visL [] (ns.map s.hold)) i, s.inn t := smet_inn wf ns
    have lens : ∀ i, (bfs (nbs fs s) (visL [] (ns.map s.hold)) i).length ≤ 200 := smet_len wf ns hsm
    have len0 : ∀ i, (visL [] ((ns.map s.hold).take i)).length ≤ 200 := fun i => inn_len (visL_nodup List.nodup_nil) (fun t ht => by
      rcases visL_sub ht with z | z
      · cases z
      · obtain ⟨y, _, e⟩ := List.mem_map.mp (List.mem_of_mem_take z)
        exact wf.hold y t e) hsm
    refine fun d nd => ⟨by show 0 ≤ sizeLine; decide, fun l nl => ?_⟩
    have nl0 : H l = none := ext_none (Ext.upd nd) nl
    have x0 : Ext H (upd (upd H d (.dT [])) l (.lst [])) := (Ext.upd nd).trans (Ext.upd nl)
    have m0 : MetT (upd (upd H d (.dT [])) l (.lst [])) d l [] := by
      have ne : d ≠ l := fun z => by rw [z, upd_same] at nl; cases nl
      exact ⟨by rw [upd_ne ne, upd_same]; rfl, [], upd_same, .nil⟩
    have keep : ∀ {H1 H2 : Hp}, Ext H H1 → (∀ b u, b ≠ d → b ≠ l → H1 b = some u → H2 b = some u) → Ext H H2 := fun {H1 H2} x k b u hb => k b u (fun z => by rw [z, nd] at hb; cases hb) (fun z => by rw [z, nl0] at hb; cases hb) (x b u hb)
    refine ⟨_, rfl, na, rfl, ⟨_, SqL.of (x0 _ _ hna)⟩, for_it (walk_list (xs := ns.map .str)) (fun i σ' H' => ∃ a b, σ' = [some (.ref (A.ad .p)), some (.ref na), some (.ref d), some (.ref l), a, b, none, none, none, none, none, none] ∧ MetT H' d l (visL [] ((ns.map s.hold).take i)) ∧ Ext H H')
      ⟨_, _, rfl, m0, x0⟩ (fun _ _ _ _ ⟨_, _, _, _, x⟩ => SqL.of (x _ _ hna)) (fun i v σ' Hz H1 hi ⟨a, b, e1, m1, x1⟩ ⟨e3, ev⟩ => ?_) fun σ' H1 ⟨a, b, e1, m1, x1⟩ => ?_⟩
    · subst e1 e3
      obtain ⟨y, hy, rfl⟩ := map_at ev
      have st1 := st.ext x1
      have hy2 : (ns.map s.hold)[i]? = some (s.hold y) := by rw [List.getElem?_map, hy]; rfl
      refine ⟨_, rfl, A.ad .p, A.dx, _, rfl, st1.p, rfl, _, rfl, A, m, fs, s, y, rfl, st1, fun v dv => ⟨rfl, ?_⟩⟩
      cases hh : s.hold y with
      | none =>
        rw [hh] at dv hy2
        have e := dv.tv_none
        subst e
        refine ⟨false, rfl, iteF (iteF ⟨_, _, rfl, ?_, x1⟩)⟩
        rw [visL_take hy2]
        exact m1
      | some t =>
        rw [hh] at dv hy2
        have dv : Dt H1 v (tgD t) := dv
        obtain ⟨at_, rfl, hat⟩ := dv.tg
        obtain ⟨r, hr1, hr2⟩ := not_in m1 hat
        refine ⟨true, rfl, iteT ⟨_, rfl, _, rfl, d, r, rfl, hr1, _, rfl, ?_⟩⟩
        rw [hr2]
        by_cases hm : t ∈ visL [] ((ns.map s.hold).take i)
        · rw [decide_eq_true hm]
          refine iteF ⟨_, _, rfl, ?_, x1⟩
          rw [visL_take hy2, vis_old hm]
          exact m1
        · rw [decide_eq_false hm]
          refine iteT (meet_putT (K := K) (i := 5) (di := 2) (li := 3) rfl rfl rfl m1 hat hm (by have := len0 i; omega) fun H' m2 k => ⟨_, _, rfl, ?_, keep x1 k⟩)
          rw [visL_take hy2, vis_new hm]
          exact m2
    · subst e1
      rw [List.length_map, show ns.length = (ns.map s.hold).length from (List.length_map _).symm, List.take_length] at m1
      refine while_by (fun σ'' H'' => ∃ (i : Nat) (c e : Option V), σ'' = [some (.ref (A.ad .p)), some (.ref na), some (.ref d), some (.ref l), a, b, some (.int (i : Nat)), c, e, none, none, none] ∧ MetT H'' d l (bfs (nbs fs s) (visL [] (ns.map s.hold)) i) ∧ i ≤ (bfs (nbs fs s) (visL [] (ns.map s.hold)) i).length ∧ Ext H H'')
        (turnsOf 6) ⟨0, _, _, rfl, m1, Nat.zero_le _, x1⟩ (fun σ3 H3 ⟨i, c3, e3, es, m3, hi3, x3⟩ => ?_) (fun σ3 H3 Q3 Q3' hq ⟨v1, h1, v2, h2, p, ys, h3, h4, i1, j1, h5, h6, k1, h7, q3⟩ => ⟨v1, h1, v2, h2, p, ys, h3, h4, i1, j1, h5, h6, k1, h7, hq _ _ q3⟩)
      subst es
      obtain ⟨us, hl3, hu3⟩ := m3.l
      have hul := hu3.len
      rw [List.length_map] at hul
      refine ⟨_, rfl, _, rfl, l, _, rfl, .inl (SqL.of hl3), _, _, rfl, rfl, _, rfl, ?_⟩
      rw [hul]
      have h200 := lens i
      by_cases hlt : i < (bfs (nbs fs s) (visL [] (ns.map s.hold)) i).length
      · rw [decide_eq_true (show ((i : Nat) : Int) < ((bfs (nbs fs s) (visL [] (ns.map s.hold)) i).length : Nat) by omega)]
        obtain ⟨x, hx⟩ : ∃ x, (bfs (nbs fs s) (visL [] (ns.map s.hold)) i)[i]? = some x := ⟨_, List.getElem?_eq_getElem hlt⟩
        have xi := all i x (List.mem_of_getElem? hx)
        refine iteT ⟨_, rfl, l, _, rfl, .inl (SqL.of hl3), _, _, rfl, rfl, false, ?_, iteF ?_⟩
        · exact bl_f (by rw [hul]; omega)
        refine ⟨_, rfl, A.ad .p, _, A.dx, _, _, rfl, (st.ext x3).p, cl, T.n_Store_fields, rfl, A.fa, rfl, ⟨_, SqT.of (st.ext x3).fa⟩, for_it (walk_tup (xs := fs.map .str)) (fun j σ' H' => ∃ c e, σ' = [some (.ref (A.ad .p)), some (.ref na), some (.ref d), some (.ref l), a, b, some (.int (i : Nat)), c, e, none, none, none] ∧ MetT H' d l (visL (bfs (nbs fs s) (visL [] (ns.map s.hold)) i) ((nbs fs s x).take j)) ∧ Ext H H')
          ⟨_, _, rfl, m3, x3⟩ (fun _ _ _ _ ⟨_, _, _, _, x⟩ => SqT.of (st.ext x).fa) (fun j v σ' Hz H4 hj ⟨c, e, e1, m4, x4⟩ ⟨e4, ev⟩ => ?_) fun σ' H4 ⟨c, e, e1, m4, x4⟩ => ?_⟩
        · subst e1 e4
          obtain ⟨f, hf, rfl⟩ := map_at ev
          have hfm : f ∈ fs := List.mem_of_getElem? hf
          have hpre : (bfs (nbs fs s) (visL [] (ns.map s.hold)) i) <+: visL (bfs (nbs fs s) (visL [] (ns.map s.hold)) i) ((nbs fs s x).take j) := visL_pre _ _
          have hx2 : (visL (bfs (nbs fs s) (visL [] (ns.map s.hold)) i) ((nbs fs s x).take j))[i]? = some x := by
            obtain ⟨t, et⟩ := hpre
            rw [← et, List.getElem?_append_left hlt]
            exact hx
          have st4 := st.ext x4
          obtain ⟨us4, hl4, hu4⟩ := m4.l
          obtain ⟨vx, hvx, dvx⟩ := hu4.atM (f := tgD) hx2
          obtain ⟨ax, rfl, hax⟩ := dvx.tg
          obtain ⟨ps, hc, hps⟩ := st4.ce xi
          obtain ⟨pp, v1, v2, ep, hpp, d1, d2⟩ := (hps f hfm).pair
          refine ⟨_, rfl, A.ad .p, _, A.dx, _, _, rfl, st4.p, cl, T.n_Store_cells, rfl, _, rfl, _, rfl, l, _, (i : Int), .ref ax, rfl, rfl, SqL.of hl4, atI_nat hvx, A.ad .cd, .ref (A.ad (.ce x)), rfl, dgetT st4.cd hax (st.cell xi), _, rfl, A.ad (.ce x), ps f, rfl, dgetK (k := strK f) hc (kvF_at strK_inj hfm), pp, _, 0, v1, ep, rfl, SqT.of hpp, atI_nat (j := 0) rfl, ?_⟩
          have hlen4 : (visL (bfs (nbs fs s) (visL [] (ns.map s.hold)) i) ((nbs fs s x).take j)).length ≤ 300 := by
            refine Nat.le_trans (inn_len (visL_nodup (fin_nodup (succ := nbs fs s) (roots := ns.map s.hold) i)) (fun u hu => ?_) hsm) (by decide)
            rcases visL_sub hu with z | z
            · exact all i u z
            · exact wf.nbs x xi u (List.mem_of_mem_take z)
          have hj' : (nbs fs s x)[j]? = some (s.val x f) := by unfold nbs; rw [List.getElem?_map, hf]; rfl
          cases hv : s.val x f with
          | none =>
            rw [hv] at d1 hj'
            have e := d1.tv_none
            subst e
            refine ⟨_, rfl, false, rfl, iteF (iteF ⟨_, _, rfl, ?_, x4⟩)⟩
            rw [visL_take hj']
            exact m4
          | some t =>
            rw [hv] at d1 hj'
            have d1 : Dt H4 v1 (tgD t) := d1
            obtain ⟨at_, rfl, hat⟩ := d1.tg
            obtain ⟨r, hr1, hr2⟩ := not_in m4 hat
            refine ⟨_, rfl, true, rfl, iteT ⟨_, rfl, _, rfl, d, r, rfl, hr1, _, rfl, ?_⟩⟩
            rw [hr2]
            by_cases hm : t ∈ visL (bfs (nbs fs s) (visL [] (ns.map s.hold)) i) ((nbs fs s x).take j)
            · rw [decide_eq_true hm]
              refine iteF ⟨_, _, rfl, ?_, x4⟩
              rw [visL_take hj', vis_old hm]
              exact m4
            · rw [decide_eq_false hm]
              refine iteT (meet_putT (K := K) (i := 8) (di := 2) (li := 3) rfl rfl rfl m4 hat hm hlen4 fun H' m5 k => ⟨_, _, rfl, ?_, keep x4 k⟩)
              rw [visL_take hj', vis_new hm]
              exact m5
        · subst e1
          rw [List.length_map] at m4
          have e5 : (nbs fs s x).take fs.length = nbs fs s x := List.take_of_length_le (by unfold nbs; rw [List.length_map]; exact Nat.le_refl _)
          rw [e5] at m4
          have e6 := bfs_turn (succ := nbs fs s) hx
          refine ⟨_, rfl, _, _, rfl, rfl, ⟨i + 1, _, _, rfl, by rw [e6]; exact m4, ?_, x4⟩, ?_⟩
          · have := (bfs_pre1 (succ := nbs fs s) (o := visL [] (ns.map s.hold)) i).length_le
            omega
          · show 1000 - ((i : Int) + 1).toNat < 1000 - ((i : Nat) : Int).toNat
            omega
      · rw [decide_eq_false (show ¬ ((i : Nat) : Int) < ((bfs (nbs fs s) (visL [] (ns.map s.hold)) i).length : Nat) by omega)]
        have efin : bfs (nbs fs s) (visL [] (ns.map s.hold)) i = smet fs s ns := fin_at (i := i) (by omega) (by omega)
        rw [efin] at m3 hu3 hul h200
        have alls := all lots
        change ∀ t ∈ smet fs s ns, s.inn t at alls
        refine iteF ⟨by show 0 ≤ sizeLine; decide, fun ob nob => ?_⟩
        have y4 : Ext H3 (upd H3 ob (.lst [])) := Ext.upd nob
        have hob4 : upd H3 ob (.lst []) ob = some (.lst []) := upd_same
        generalize upd H3 ob (.lst []) = H4 at y4 hob4
        refine ⟨_, rfl, l, rfl, ⟨_, SqL.of (y4 _ _ hl3)⟩, for_it (walk_list (xs := us)) (fun i' σ' H' => ∃ (acc : List V) (c e t1 t2 : Option V), σ' = [some (.ref (A.ad .p)), some (.ref na), some (.ref d), some (.ref l), a, b, some (.int (i : Nat)), c, e, some (.ref ob), t1, t2] ∧
          H' ob = some (.lst acc) ∧ ObjsOk H' fs i' (hdOf fs s ns).ob acc ∧ Ext H3 H') ⟨[], _, _, _, _, rfl, hob4, ⟨rfl, fun _ z => absurd z (Nat.not_lt_zero _)⟩, y4⟩ (fun _ _ _ _ ⟨_, _, _, _, _, _, _, _, y⟩ => SqL.of (y _ _ hl3)) (fun i' v σ' Hz H5 hi' ⟨acc, c, e, t1, t2, e1, hob5, hok5, y5⟩ ⟨e3, ev⟩ => ?_) fun σ' H5 ⟨acc, c, e, t1, t2, e1, hob5, hok5, y5⟩ => ?_⟩
        · subst e1 e3
          obtain ⟨x, hx, dvx⟩ := hu3.inv (f := tgD) ev
          have xi := alls x (List.mem_of_getElem? hx)
          obtain ⟨ax, rfl, hax⟩ := dvx.tg
          have st5 := st.ext (x3.trans y5)
          obtain ⟨ps, hc, hps⟩ := st5.ce xi
          have m5 := m3.ext y5
          refine ⟨_, rfl, A.ad .p, _, A.dx, _, _, rfl, st5.p, cl, T.n_Store_cells, rfl, _, rfl, A.ad .cd, .ref (A.ad (.ce x)), rfl, dgetT st5.cd (y5 _ _ hax) (st.cell xi), ?_⟩
          refine ⟨_, rfl, .inl ⟨rfl, _, SqL.of hob5⟩, _, rfl, A.ad .p, _, A.dx, _, _, rfl, st5.p, cl, T.n_Store_fields, rfl, A.fa, rfl, ⟨_, SqT.of st5.fa⟩, fun D nD => dc_it (walk_tup (xs := fs.map .str)) (fun j H' => H' D = some (.dK (itemKV (fs.take j) ((hdOf fs s ns).ob i'))) ∧ Ext H5 H') ⟨upd_same, Ext.upd nD⟩
            (fun _ _ _ ⟨_, z⟩ => SqT.of (z _ _ st5.fa)) (fun j v Hz H6 hj ⟨hD6, z6⟩ ⟨e2, ev⟩ => ?_) fun H6 ⟨hD6, z6⟩ => ?_⟩
          · subst e2
            obtain ⟨f, hf, rfl⟩ := map_at ev
            have hfm := List.mem_of_getElem? hf
            obtain ⟨pp, v1, v2, ep, hpp, d1, d2⟩ := (hps f hfm).pair
            obtain ⟨r, hr1, hr2⟩ := num_get (m5.ext z6) (d1.keep (ext_keep z6))
            refine ⟨rfl, _, rfl, _, rfl, d, rfl, .inr ⟨_, .of (m5.ext z6).d⟩, _, rfl, _, rfl, A.ad (.ce x), ps f, rfl, dgetK (k := strK f) (z6 _ _ hc) (kvF_at strK_inj hfm), pp, _, 0, v1, ep, rfl, SqT.of (z6 _ _ hpp), atI_nat (j := 0) rfl, r, hr1, _, strK f, rfl, hD6, ?_, ?_, ?_⟩
            · unfold itemKV
              rw [kvF_len, List.length_take]
              exact small_lt (by have := hF.hi; omega)
            · rw [upd_same, hr2]
              have eo : (hdOf fs s ns).ob i' f = idx (smet fs s ns) (s.val x f) := by
                show ((smet fs s ns)[i']?).bind _ = _
                rw [hx]
                rfl
              rw [← eo]
              have hnot : f ∉ fs.take j := fun z => by
                have h9 : (fs.take j ++ [f]).Nodup := by rw [take_snoc hf]; exact hF.nd.sublist (List.take_sublist _ _)
                exact (List.nodup_append.mp h9).2.2 f z f (List.mem_singleton.mpr rfl) rfl
              have := putK_kvF (v := fun f => oV ((hdOf fs s ns).ob i' f)) strK_inj hnot
              rw [take_snoc hf] at this
              exact congrArg (fun z => some (HO.dK z)) this
            · exact extSet z6 nD
          · have ef : fs.take (fs.map V.str).length = fs := by rw [List.length_map, List.take_length]
            rw [ef] at hD6
            refine ⟨ob, acc, _, rfl, rfl, z6 _ _ hob5, small_lt (by rw [hok5.1]; have : i' < us.length := hi'; omega), acc ++ [.ref D], _, _, _, _, rfl, upd_same, ((hok5.ext z6).push hD6).keepL (z6 _ _ hob5), extSet (y5.trans z6) nob⟩
        · subst e1
          rw [hul] at hok5
          have x5 := x3.trans y5
          have st5 := st.ext x5
          have m5 := m3.ext y5
          refine ⟨_, rfl, A.ad .p, _, A.dx, _, _, rfl, st5.p, cl, T.n_Store_fields, rfl, _, rfl, _, rfl, na, rfl, ⟨_, SqL.of (x5 _ _ hna)⟩, fun D nD => dc_it (walk_list (xs := ns.map .str)) (fun j H' => H' D = some (.dK (nmKV ((ns.take j).map fun x => (x, idx (smet fs s ns) (s.hold x))))) ∧ Ext H5 H') ⟨upd_same, Ext.upd nD⟩
            (fun _ _ _ ⟨_, z⟩ => SqL.of (z _ _ (x5 _ _ hna))) (fun j v Hz H6 hj ⟨hD6, z6⟩ ⟨e2, ev⟩ => ?_) fun H6 ⟨hD6, z6⟩ => ?_⟩
          · subst e2
            obtain ⟨y, hy, rfl⟩ := map_at ev
            have st6 := st5.ext z6
            refine ⟨rfl, _, rfl, _, rfl, d, rfl, .inr ⟨_, .of (m5.ext z6).d⟩, _, rfl, A.ad .p, A.dx, _, rfl, st6.p, rfl, _, rfl, A, m, fs, s, y, rfl, st6, fun v dv => ?_⟩
            obtain ⟨r, hr1, hr2⟩ := num_get (m5.ext z6) dv
            refine ⟨r, hr1, _, strK y, rfl, hD6, ?_, ?_, extSet z6 nD⟩
            · unfold nmKV
              rw [List.length_map, List.length_map, List.length_take]
              exact small_lt (by omega)
            · have hnot : y ∉ ns.take j := fun z => by
                have h9 : (ns.take j ++ [y]).Nodup := by rw [take_snoc hy]; exact hnd.sublist (List.take_sublist _ _)
                exact (List.nodup_append.mp h9).2.2 y z y (List.mem_singleton.mpr rfl) rfl
              have e7 : nmKV ((ns.take j).map fun x => (x, idx (smet fs s ns) (s.hold x))) = kvF strK (fun x => oV (idx (smet fs s ns) (s.hold x))) (ns.take j) := by unfold nmKV kvF; rw [List.map_map]; rfl
              have e8 : nmKV ((ns.take (j + 1)).map fun x => (x, idx (smet fs s ns) (s.hold x))) = kvF strK (fun x => oV (idx (smet fs s ns) (s.hold x))) (ns.take (j + 1)) := by unfold nmKV kvF; rw [List.map_map]; rfl
              rw [upd_same, hr2, e7, e8]
              have := putK_kvF (v := fun x => oV (idx (smet fs s ns) (s.hold x))) strK_inj hnot
              rw [take_snoc hy] at this
              exact congrArg (fun z => some (HO.dK z)) this
          · have en : ns.take (ns.map V.str).length = ns := by rw [List.length_map, List.take_length]
            rw [en] at hD6
            intro y dy ny ndy ne
            have x67 : Ext H6 (upd (upd H6 dy (.own y)) y (.ins (He.ga K "Heap") dy [])) := (Ext.upd ndy).trans (Ext.upd (by rw [upd_ne ne.symm]; exact ny))
            have hv := hdOf_ok (ns := ns) wf hsm hnd hnl
            have x6 := x5.trans z6
            have gn : ∀ p ∈ (hdOf fs s ns).nm, GoodW p.1 := fun p hp => by
              obtain ⟨x, hx, rfl⟩ := List.mem_map.mp hp
              exact hng x hx
            refine ⟨y, dy, A.fa, ob, D, fs, acc, hdOf fs s ns, rfl, upd_same, .inr (x67 _ _ (x6 _ _ st.fa)), hF, x67 _ _ (z6 _ _ hob5), (hok5.ext z6).ext x67, x67 _ _ hD6, hv, gn, fun H8 hat fr => ⟨rfl, ?_⟩⟩
            have x8 : Ext H H8 := fun c o hc => fr c o (ne_of_none (x6 _ _ hc) ny) (x67 _ _ (x6 _ _ hc))
            obtain ⟨dz, fz, hz, nz, sz, oz, g1, _⟩ := hat.ex
            exact ⟨y, dz, _, rfl, g1, rfl, y, fs, hdOf fs s ns, rfl, hat, hF, hv, gn, fun H9 r x9 nr hr9 => q H9 r (x8.trans x9) hr9⟩
end
end TW
set_option maxHeartbeats 4000000
/-! ## Kept, Live -/
namespace TW
open PySem PySem.Spec PyProof.Rows L2 TwN
abbrev cKep (K : PySem.W.Frag) : Addr := He.ga K "Kept"
abbrev cLiv (K : PySem.W.Frag) : Addr := He.ga K "Live"
structure LiveAt (K : PySem.W.Frag) (H : L2.Hp) (y : Addr) (A : SA) (m : Nat) (fs : List Str) (s : StS) : Prop where
  ex : ∃ dy, H y = some (.ins (cLiv K) dy [("store", .ref (A.ad .p))])
  st : Sto (cSto K) H A m fs s
section
variable {K : PySem.W.Frag} {H H' : L2.Hp} {y : Addr} {A : SA} {m : Nat} {fs : List Str} {s : StS}
theorem LiveAt.ext (h : LiveAt K H y A m fs s) (e : Ext H H') : LiveAt K H' y A m fs s := by
  obtain ⟨dy, h1⟩ := h.ex
  exact ⟨⟨dy, e _ _ h1⟩, h.st.ext e⟩
/-- the live is none of its store's places -/
theorem LiveAt.nf (h : LiveAt K H y A m fs s) : ¬ foot A s y := fun ⟨r, hr, e⟩ => by
  obtain ⟨dy, h1⟩ := h.ex
  obtain ⟨o, h2, h3⟩ := h.st.at_ r hr
  rw [e, h2] at h1
  have e1 : o = .ins (cLiv K) dy [("store", .ref (A.ad .p))] := Option.some.inj h1
  cases r with
  | p =>
    rw [show o = _ from h3] at e1
    injection e1 with _ _ e1
    injection e1 with _ e1
    cases e1
  | cd => rw [show o = _ from h3] at e1; cases e1
  | ho => obtain ⟨_, h3, _⟩ := h3; rw [h3] at e1; cases e1
  | fr => rw [show o = _ from h3] at e1; cases e1
  | wt => obtain ⟨_, h3, _⟩ := h3; rw [h3] at e1; cases e1
  | ht => obtain ⟨_, h3, _⟩ := h3; rw [h3] at e1; cases e1
  | sn => obtain ⟨_, h3, _⟩ := h3; rw [h3] at e1; cases e1
  | ce t => obtain ⟨_, h3, _⟩ := h3; rw [h3] at e1; cases e1
end
section
variable {P : Program} {w : World} {K : PySem.W.Frag} {mg : Str → Option Value} {base h : Heap}
def sp_Kept_init (K : PySem.W.Frag) : Sp := fun vs H Q _ => ∃ (k dk y dy : Addr) (v : V), vs = [.ref k, .ref y] ∧ H k = some (.ins (cKep K) dk []) ∧ H y = some (.ins (cLiv K) dy [("store", v)]) ∧
  ∀ H', H' k = some (.ins (cKep K) dk [("live", .ref y), ("saved", v)]) → (∀ b, b ≠ k → H' b = H b) → Q .non H'
theorem p_Kept_init (T : Tx w K mg h) : C8.Mak P w K mg base 1 "Kept" (cKep K) (sp_Kept_init K) [] :=
  mak T.f_Kept_init T.mk_Kept T.g_Kept sc_Kept_init (fun vs H Q E ⟨_, _, _, _, _, e, _⟩ => by rw [e]; rfl) fun cdv A' outer s' H vs Q E hr ⟨k, dk, y, dy, v, e, hk, hy, q⟩ => by
    subst e
    refine ⟨_, (pss_cons (ps_fld (pv 0) (pv 1) (by rfl))
  (pss_one (ps_fld (pv 0) (pe_fld (pv 1) (by rfl)) (by rfl)))), ?_⟩
    have nyk : y ≠ k := ne_of hy hk (by intro z; injection z with _ _ z; cases z)
    refine ⟨_, rfl, _, rfl, k, _, dk, _, rfl, hk, T.c_Kept, T.n_Kept_live, (show 0 < 1000 by decide), ?_⟩
    refine ⟨_, rfl, y, _, dy, _, _, rfl, by rw [upd_ne nyk]; exact hy, T.c_Live, T.n_Live_store, rfl, _, rfl, k, _, dk, _, rfl, upd_same, T.c_Kept, T.n_Kept_saved, (show 1 < 1000 by decide), q _ upd_same fun b hb => by rw [upd_ne hb, upd_ne hb]⟩
def sp_Kept_enter (K : PySem.W.Frag) : Sp := fun vs H Q _ => ∃ (k dk y dy : Addr) (v0 : V) (A : SA) (m : Nat) (fs : List Str) (s : StS), vs = [.ref k] ∧ H k = some (.ins (cKep K) dk [("live", .ref y), ("saved", v0)]) ∧ H y = some (.ins (cLiv K) dy [("store", .ref (A.ad .p))]) ∧ Sto (cSto K) H A m fs s ∧ Fields fs ∧ s.nst + s.now ≤ 200 ∧
  ∀ H' A', Sto (cSto K) H' A' m fs s → H' k = some (.ins (cKep K) dk [("live", .ref y), ("saved", .ref (A.ad .p))]) → H' y = some (.ins (cLiv K) dy [("store", .ref (A'.ad .p))]) → (∀ b o, b ≠ k → b ≠ y → H b = some o → H' b = some o) → (∀ b, foot A' s b → H b = none) → Q (.ref k) H'
theorem p_Kept_enter (T : Tx w K mg h) : C8.Met P w K mg base 8 (cKep K) "__enter__" (sp_Kept_enter K) [] :=
  met T.f_Kept_enter T.c_Kept T.m_Kept_enter sc_Kept_enter (fun vs H Q E ⟨_, _, _, _, _, _, _, _, _, e, _⟩ => by rw [e]; rfl) fun cdv A' outer s' H vs Q E hr ⟨k, dk, y, dy, v0, A, m, fs, s, e, hk, hy, st, hF, hsm, q⟩ => by
    subst e
    refine ⟨_, (pss_cons (ps_fld (pv 0) (pe_fld (pe_fld (pv 0) (by rfl)) (by rfl)) (by rfl))
  (pss_cons (ps_fld (pe_fld (pv 0) (by rfl)) (C8.pe_mt0 (p_Store_twin T) hr (by decide) (pe_fld (pv 0) (by rfl))) (by rfl))
  (pss_one (ps_ret (pv 0))))), ?_⟩
    have nyk : y ≠ k := ne_of hy hk (by intro z; injection z with _ _ z; injection z with _ z; cases z)
    have kns : ¬ foot A s k := fun ⟨r, hr, e⟩ => by
      obtain ⟨o, h2, h3⟩ := st.at_ r hr
      rw [e, h2] at hk
      have e1 : o = .ins (cKep K) dk [("live", .ref y), ("saved", v0)] := Option.some.inj hk
      cases r with
      | p =>
        rw [show o = _ from h3] at e1
        injection e1 with _ _ e1
        injection e1 with _ e1
        injection e1 with _ e1
        cases e1
      | cd => rw [show o = _ from h3] at e1; cases e1
      | ho => obtain ⟨_, h3, _⟩ := h3; rw [h3] at e1; cases e1
      | fr => rw [show o = _ from h3] at e1; cases e1
      | wt => obtain ⟨_, h3, _⟩ := h3; rw [h3] at e1; cases e1
      | ht => obtain ⟨_, h3, _⟩ := h3; rw [h3] at e1; cases e1
      | sn => obtain ⟨_, h3, _⟩ := h3; rw [h3] at e1; cases e1
      | ce t => obtain ⟨_, h3, _⟩ := h3; rw [h3] at e1; cases e1
    refine ⟨_, rfl, k, _, dk, _, _, rfl, hk, T.c_Kept, T.n_Kept_live, rfl, y, _, dy, _, _, rfl, hy, T.c_Live, T.n_Live_store, rfl, _, rfl, k, _, dk, _, rfl, hk, T.c_Kept, T.n_Kept_saved, (show 2 < 1000 by decide), ?_⟩
    have hk1 : upd H k (.ins (cKep K) dk (putF "saved" (.ref (A.ad .p)) [("live", .ref y), ("saved", v0)])) k = some (.ins (cKep K) dk [("live", .ref y), ("saved", .ref (A.ad .p))]) := upd_same
    have c1 : Chg (fun b => b = k) H (upd H k (.ins (cKep K) dk (putF "saved" (.ref (A.ad .p)) [("live", .ref y), ("saved", v0)]))) := Chg.put rfl fun xs z => by rw [hk] at z; cases z
    generalize upd H k (.ins (cKep K) dk (putF "saved" (.ref (A.ad .p)) [("live", .ref y), ("saved", v0)])) = H1 at hk1 c1
    have st1 := st.stay c1 fun b hb z => kns (z ▸ hb)
    refine ⟨_, rfl, k, _, dk, _, _, rfl, hk1, T.c_Kept, T.n_Kept_saved, rfl, A.ad .p, A.dx, _, rfl, st1.p, rfl, A, m, fs, s, rfl, st1, hF, hsm, fun H2 A2 st2 x2 f2 => ?_⟩
    have hk2 := x2 _ _ hk1
    have hy2 := x2 _ _ (c1.old y _ hy nyk)
    refine ⟨_, rfl, k, _, dk, _, _, rfl, hk2, T.c_Kept, T.n_Kept_live, rfl, y, _, dy, _, rfl, hy2, T.c_Live, T.n_Live_store, (show 1 < 1000 by decide), ⟨_, rfl, ?_⟩⟩
    have ny2 : ¬ foot A2 s y := fun z => by
      have := f2 y z
      rw [c1.old y _ hy nyk] at this
      cases this
    have c2 : Chg (fun b => b = y) H2 (upd H2 y (.ins (cLiv K) dy (putF "store" (.ref (A2.ad .p)) [("store", .ref (A.ad .p))]))) := Chg.put rfl fun xs z => by rw [hy2] at z; cases z
    refine q _ A2 (st2.stay c2 fun b hb z => ny2 (z ▸ hb)) (by rw [upd_ne nyk.symm]; exact hk2) upd_same (fun b o h1 h2 e => by rw [upd_ne h2]; exact x2 _ _ (c1.old b o e h1)) fun b hb => ?_
    have := f2 b hb
    cases e : H b with
    | none => rfl
    | some o =>
      by_cases z : b = k
      · rw [z, hk1] at this; cases this
      · rw [c1.old b o e z] at this; cases this
def sp_Kept_exit (K : PySem.W.Frag) : Sp := fun vs H Q _ => ∃ (k dk y dy : Addr) (v u a b c : V), vs = [.ref k, a, b, c] ∧ H k = some (.ins (cKep K) dk [("live", .ref y), ("saved", v)]) ∧ H y = some (.ins (cLiv K) dy [("store", u)]) ∧ Q .non (upd H y (.ins (cLiv K) dy [("store", v)]))
noncomputable def fdX (T : Tx w K mg h) : FuncData := Classical.choose T.f_Kept_exit.ex
theorem fX_ok (T : Tx w K mg h) : FunD K "__exit__" "Kept.__exit__" (defArgs s_Kept_exit) (defBody s_Kept_exit) (defScope s_Kept_exit) [] [] (He.fAd K ("Kept", some "__exit__")) (fdX T) ∧ Binds K (fdX T) ["self", "kind", "value", "trace"] [] := Classical.choose_spec T.f_Kept_exit.ex
theorem p_Kept_exit (T : Tx w K mg h) : FnA P w K mg base 1 (He.ma K (cKep K) "__exit__") (fdX T) ["self", "kind", "value", "trace"] (sp_Kept_exit K) :=
  fn_ofA (fX_ok T).1 sc_Kept_exit (fun vs H Q E ⟨_, _, _, _, _, _, _, _, _, e, _⟩ => by rw [e]; rfl) fun cdv A' outer s' H vs Q E hr ⟨k, dk, y, dy, v, u, a, b, c, e, hk, hy, q⟩ => by
    subst e
    refine ⟨_, (pss_one (ps_fld (pe_fld (pv 0) (by rfl)) (pe_fld (pv 0) (by rfl)) (by rfl))), ?_⟩
    exact ⟨_, rfl, k, _, dk, _, _, rfl, hk, T.c_Kept, T.n_Kept_saved, rfl, _, rfl, k, _, dk, _, _, rfl, hk, T.c_Kept, T.n_Kept_live, rfl, y, _, dy, _, rfl, hy, T.c_Live, T.n_Live_store, (show 1 < 1000 by decide), q⟩
end
end TW
set_option maxHeartbeats 4000000
/-! ## Live: what it tells -/
namespace TW
open PySem PySem.Spec PyProof.Rows L2 TwN
/-- tuples and lists that are read stay -/
structure KeepR (H H' : L2.Hp) : Prop where
  t : ∀ b xs, Rd H b (.tup xs) → Rd H' b (.tup xs)
  l : ∀ b xs, Rd H b (.lst xs) → Rd H' b (.lst xs)
theorem KeepR.of {H H' : Hp} (e : Ext H H') : KeepR H H' := ⟨fun b xs h => h.imp (e _ _) fun ⟨o, h⟩ => ⟨o, e _ _ h⟩, fun b xs h => h.imp (e _ _) fun ⟨o, h⟩ => ⟨o, e _ _ h⟩⟩
mutual
theorem Dp.keepR {K : PySem.W.Frag} {H H' : Hp} (k : KeepR H H') : ∀ {v : V} {d : PyData}, Dp K H v d → Dp K H' v d
  | _, _, .non => .non
  | _, _, .bl b => .bl b
  | _, _, .int i => .int i
  | _, _, .str x => .str x
  | _, _, .lst h a => .lst (h.imp (k.l _ _) id) (DpAll.keepR k a)
  | _, _, .tup h a => .tup (h.imp (k.t _ _) id) (DpAll.keepR k a)
theorem DpAll.keepR {K : PySem.W.Frag} {H H' : Hp} (k : KeepR H H') : ∀ {vs : List V} {ds : List PyData}, DpAll K H vs ds → DpAll K H' vs ds
  | _, _, .nil => .nil
  | _, _, .cons h t => .cons (Dp.keepR k h) (DpAll.keepR k t)
end
theorem dp_is {K : PySem.W.Frag} {H : Hp} {α : Type} {f : α → PyData} : ∀ {vs : List V} {l : List α}, DtAll H vs (l.map f) → DpIs K H f vs l
  | _, [], h => by cases h; exact .nil
  | _, x :: l, h => by
    cases h with
    | cons h1 h2 => exact .cons h1.dp (dp_is h2)
theorem is_dp {K : PySem.W.Frag} {H : Hp} {α : Type} {f : α → PyData} : ∀ {vs : List V} {l : List α}, DpIs K H f vs l → DpAll K H vs (l.map f)
  | _, _, .nil => .nil
  | _, _, .cons h1 h2 => .cons h1 (is_dp h2)
/-- rows as they lie -/
structure RowsAt (H : L2.Hp) (ls : List V) (rs : List RowS) : Prop where
  len : ls.length = rs.length
  at_ : ∀ (i : Nat) (r : RowS), rs[i]? = some r → ∃ a : Addr, ls[i]? = some (.ref a) ∧ H a = some (.tup (rowV r))
theorem RowsAt.keep {H H' : Hp} {ls : List V} {rs : List RowS} (h : RowsAt H ls rs) (k : KeepT H H') : RowsAt H' ls rs := ⟨h.len, fun i r hr => by
  obtain ⟨a, h1, h2⟩ := h.at_ i r hr
  exact ⟨a, h1, k _ _ h2⟩⟩
theorem rdr_name (r : RowS) : (nameS r = "watch" ∧ ∃ x y d, r = .watch x y d) ∨ (nameS r ≠ "watch" ∧ rdr r = []) := by
  cases r with
  | watch x y d => exact .inl ⟨rfl, x, y, d, rfl⟩
  | move x y => exact .inr ⟨by show (Str.ofString "move") ≠ "watch"; decide, rfl⟩
  | none x => exact .inr ⟨by show (Str.ofString "none") ≠ "watch"; decide, rfl⟩
  | new x => exact .inr ⟨by show (Str.ofString "new") ≠ "watch"; decide, rfl⟩
  | look x y f => exact .inr ⟨by show (Str.ofString "look") ≠ "watch"; decide, rfl⟩
  | put x f y => exact .inr ⟨by show (Str.ofString "put") ≠ "watch"; decide, rfl⟩
  | copy x y b d => exact .inr ⟨by show (Str.ofString "copy") ≠ "watch"; decide, rfl⟩
def srtH (l : List (Nat × Str)) : List (Nat × Str) := l.mergeSort (PySem.W.dataLe false hitD)
section
variable {P : Program} {w : World} {K : PySem.W.Frag} {mg : Str → Option Value} {base h : Heap}
def sp_Live_init (K : PySem.W.Frag) : Sp := fun vs H Q _ => ∃ (y dy hp : Addr) (fs : List Str) (h : HD Str), vs = [.ref y, .ref hp] ∧ H y = some (.ins (cLiv K) dy []) ∧ HeapAt K H hp fs h ∧ HV fs h ∧ Fields fs ∧ h.n ≤ 100 ∧
  ∀ H' A, LiveAt K H' y A 6 fs (s0 fs h) → (∀ b, foot A (s0 fs h) b → H b = none) → (∀ b o, b ≠ y → H b = some o → H' b = some o) → Q .non H'
theorem p_Live_init (T : Tx w K mg h) : C8.Mak P w K mg base 4 "Live" (cLiv K) (sp_Live_init K) [] :=
  mak T.f_Live_init T.mk_Live T.g_Live sc_Live_init (fun vs H Q E ⟨_, _, _, _, _, e, _⟩ => by rw [e]; rfl) fun cdv A' outer s' H vs Q E hr ⟨y, dy, hp, fs, h, e, hy, hh, hv, hF, hn, q⟩ => by
    subst e
    refine ⟨_, (pss_cons (ps_if (PW.pt (pw_or (pt_not (pt_val (pe_callB call_isi (by rfl) T.z_isinstance (by decide +kernel) (pa_cons (pv 1) (pa_cons (pe_glob (v := .ref (He.ga K "Heap")) (by rfl) T.g_Heap rfl) pa_nil))))) (pw_or1 (pt_cmpR op_gt (pe_callB (p_lenHeap T hr) (by rfl) T.z_len (by decide +kernel) (pa_cons (pv 1) pa_nil)) (pe_glob (v := .int 100) (by rfl) (Classical.choose_spec T.i_MOST_START_OBJECTS) ⟨_, rfl⟩) (nomark _))))) (pss_one ps_never) pss_nil)
  (pss_one (ps_fld (pv 0) (C8.pe_mk (p_Store_init T) hr (by decide) (by rfl) (pa_cons (pv 1) pa_nil)) (by rfl)))), ?_⟩
    obtain ⟨dh, fa, ha, na, sa, os, g1, _⟩ := id hh.ex
    refine ⟨_, rfl, _, _, _, _, _, rfl, .own _, T.ty_heap g1, T.kit_heap, true, rfl, iteF ⟨_, rfl, hp, fs, h, rfl, hh, by omega, _, _, rfl, rfl, false, bl_f (by omega), iteF ?_⟩⟩
    refine ⟨_, rfl, fun x dx nx ndx ne => ?_⟩
    have x1 : Ext H (upd (upd H dx (.own x)) x (.ins (cSto K) dx [])) := (Ext.upd ndx).trans (Ext.upd (by rw [upd_ne ne.symm]; exact nx))
    refine ⟨x, dx, hp, fs, h, rfl, upd_same, hh.ext x1, hv, hF, fun H2 A st ep fr c => ⟨rfl, ?_⟩⟩
    have x2 : Ext H H2 := fun b o hb => c.old b o (x1 _ _ hb) (ne_of_none hb nx)
    have hy2 := x2 _ _ hy
    refine ⟨_, rfl, y, _, dy, _, rfl, hy2, T.c_Live, T.n_Live_store, (show 0 < 1000 by decide), ?_⟩
    have ff : ∀ b, foot A (s0 fs h) b → H b = none := fun b hb => by
      rcases fr b hb with z | z
      · rw [z]; exact nx
      · exact ext_none x1 z
    have c3 : Chg (fun b => b = y) H2 (upd H2 y (.ins (cLiv K) dy (putF "store" (.ref x) []))) := Chg.put rfl fun xs z => by rw [hy2] at z; cases z
    refine q _ A ⟨⟨dy, by rw [ep]; exact upd_same⟩, st.stay c3 fun b hb z => ?_⟩ ff fun b o hb e => by rw [upd_ne hb]; exact x2 b o e
    have := ff b hb
    rw [z, hy] at this
    cases this
def sp_readers_told (K : PySem.W.Frag) : Sp := fun vs H Q _ => ∃ (y : Addr) (A : SA) (m : Nat) (fs : List Str) (s : StS), vs = [.ref y] ∧ LiveAt K H y A m fs s ∧ s.wat.length ≤ 1000 ∧ ∀ H' D, Ext H H' → H D = none → H' D = some (.lst ((s.wat.map (·.1)).map .str)) → Q (.ref D) H'
theorem p_Live_readers_told (T : Tx w K mg h) : C8.Met P w K mg base 1 (cLiv K) "readers_told" (sp_readers_told K) [] :=
  met T.f_Live_readers_told T.c_Live T.m_Live_readers_told sc_Live_readers_told (fun vs H Q E ⟨_, _, _, _, _, e, _⟩ => by rw [e]; rfl) fun cdv A' outer s' H vs Q E hr ⟨y, A, m, fs, s, e, lv, hwl, q⟩ => by
    subst e
    obtain ⟨dy, hy⟩ := lv.ex
    have st := lv.st
    obtain ⟨wl, hw, hd⟩ := st.wt
    have hl := hd.len
    rw [List.length_map] at hl
    refine ⟨_, (pss_one (ps_ret (by exact (pe_lc (own := [("reader", 1), ("root", 2), ("depth", 3)]) (g := gTup K 3 (gCons (gName 1) (gCons (gName 2) (gCons (gName 3) gNil)))) (by rfl) sc_Live_readers_told.nd (pi_list (pe_fld (pe_fld (pv 0) (by rfl)) (by rfl))) (blkOk_by (own := [("reader", 1), ("root", 2), ("depth", 3)]) (N := ["self", "reader", "root", "depth"]) (sc := defScope s_Live_readers_told) (by decide +kernel)) (fun _ _ _ _ _ => (pg_tupK (K := K) rfl (by rfl) (pgs_cons (pg_name (i := 1) sc_Live_readers_told.nd rfl (by first | exact Or.inl rfl | exact Or.inr rfl)) (pgs_cons (pg_name (i := 2) sc_Live_readers_told.nd rfl (by first | exact Or.inl rfl | exact Or.inr rfl)) (pgs_cons (pg_name (i := 3) sc_Live_readers_told.nd rfl (by first | exact Or.inl rfl | exact Or.inr rfl)) pgs_nil))))) (fun _ _ _ _ _ => pts_nil) (fun _ _ _ _ _ => (by exact (pv 1))))))), ?_⟩
    refine ⟨_, rfl, y, _, dy, _, _, rfl, hy, T.c_Live, T.n_Live_store, rfl, A.ad .p, _, A.dx, _, _, rfl, st.p, T.c_Store, T.n_Store_watchers, rfl, A.ad .wt, rfl, ⟨_, SqL.of hw⟩, fun D nD => lc_it (walk_list (xs := wl)) (fun i H' => H' D = some (.lst (((s.wat.take i).map (·.1)).map .str)) ∧ Ext H H') ⟨upd_same, Ext.upd nD⟩ (fun _ _ _ ⟨_, e⟩ => SqL.of (e _ _ hw))
      (fun i v Hz H1 hi ⟨hD, e1⟩ ⟨e2, ev⟩ => ?_) fun H1 ⟨hD, e1⟩ => ?_⟩
    · subst e2
      obtain ⟨p, hp, dp⟩ := hd.inv (f := watD) ev
      obtain ⟨a, x, rfl, ha, dx⟩ := dp.wat
      refine ⟨a, _, rfl, SqT.of (e1 _ _ ha), rfl, _, _, rfl, _, _, rfl, _, _, rfl, rfl, rfl, _, rfl, _, hD, ?_, ?_, extSet e1 nD⟩
      · rw [List.length_map, List.length_map, List.length_take]
        exact small_lt (by omega)
      · rw [upd_same, List.take_add_one, hp]
        simp
    · rw [hl, List.take_length] at hD
      exact q H1 D e1 nD hD
def sp_takes (K : PySem.W.Frag) : Sp := fun vs H Q _ => ∃ (y ra D : Addr) (A : SA) (m : Nat) (fs : List Str) (s : StS) (r : RowS) (rs : List Str), vs = [.ref y, .ref ra, .ref D] ∧ LiveAt K H y A m fs s ∧ H ra = some (.tup (rowV r)) ∧ H D = some (.lst (rs.map .str)) ∧ RowGood fs r ∧ (∀ x ∈ rdr r, x ∉ rs) ∧ ∀ H', Ext H H' → Q (.bl true) H'
theorem p_Live_takes (T : Tx w K mg h) : C8.Met P w K mg base 6 (cLiv K) "takes" (sp_takes K) [] :=
  met T.f_Live_takes T.c_Live T.m_Live_takes sc_Live_takes (fun vs H Q E ⟨_, _, _, _, _, _, _, _, _, e, _⟩ => by rw [e]; rfl) fun cdv A' outer s' H vs Q E hr ⟨y, ra, D, A, m, fs, s, r, rs, e, lv, hra, hD, hg, hno, q⟩ => by
    subst e
    obtain ⟨dy, hy⟩ := lv.ex
    have st := lv.st
    refine ⟨_, (pss_cons (ps_if (pt_not (pt_val (C8.pe_c (p_is_plain T) hr (by decide) (by rfl) (pa_cons (pv 1) (pa_cons (pe_fld (pe_fld (pv 0) (by rfl)) (by rfl)) pa_nil))))) (pss_one (ps_ret pe_bl)) pss_nil)
  (pss_one (ps_ret (pe_or (pe_cmpR op_ne (pe_ix ix_tup (pv 1) pe_int (fun _ _ => rfl)) pe_str (nomark _)) (pe_one (pe_cmpR op_notIn_seq (pe_ix ix_tup (pv 1) pe_int (fun _ _ => rfl)) (pv 2) (by with_unfolding_all rfl))))))), ?_⟩
    refine ⟨_, rfl, _, rfl, y, _, dy, _, _, rfl, hy, T.c_Live, T.n_Live_store, rfl, A.ad .p, _, A.dx, _, _, rfl, st.p, T.c_Store, T.n_Store_fields, rfl, ra, A.fa, r, fs, rfl, hra, .inr st.fa, hg, fun H1 x1 => ⟨true, rfl, iteF ?_⟩⟩
    refine ⟨_, rfl, ra, _, 0, .str (nameS r), rfl, rfl, SqT.of (x1 _ _ hra), atI_nat (j := 0) rfl, rfl, ?_⟩
    rcases rdr_name r with ⟨en, x, y', d, rfl⟩ | ⟨en, _⟩
    · refine ⟨false, ?_, iteF ?_⟩
      · rw [en]; rfl
      · refine ⟨_, rfl, ra, _, 1, .str x, rfl, rfl, SqT.of (x1 _ _ hra), atI_nat (j := 1) rfl, _, rfl, D, _, rfl, .inl (SqL.of (x1 _ _ hD)), rfl, by rw [List.all_map]; exact List.all_eq_true.mpr fun _ _ => rfl, ?_⟩
        have : inV (.str x) (rs.map .str) = false := inV_no (hno x (by simp [rdr]))
        rw [this]
        exact q H1 x1
    · refine ⟨true, ?_, iteT (q H1 x1)⟩
      rw [decide_eq_false (fun z => en (by injection z))]
      rfl
def sp_value (K : PySem.W.Frag) : Sp := fun vs H Q _ => ∃ (y : Addr) (A : SA) (m : Nat) (fs : List Str) (s : StS) (x : Str), vs = [.ref y, .str x] ∧ LiveAt K H y A m fs s ∧ GoodW x ∧ WF fs s ∧ s.fro.length = s.now ∧ ∀ H' u, Ext H H' → Dt H' u (shD s (s.hold x)) → Q u H'
theorem p_Live_value (T : Tx w K mg h) : C8.Met P w K mg base 3 (cLiv K) "value" (sp_value K) [] :=
  met T.f_Live_value T.c_Live T.m_Live_value sc_Live_value (fun vs H Q E ⟨_, _, _, _, _, _, e, _⟩ => by rw [e]; rfl) fun cdv A' outer s' H vs Q E hr ⟨y, A, m, fs, s, x, e, lv, hx, wf, hl, q⟩ => by
    subst e
    obtain ⟨dy, hy⟩ := lv.ex
    refine ⟨_, (pss_cons (ps_if (pt_not (pt_val (C8.pe_c (p_is_word T) hr (by decide) (by rfl) (pa_cons (pv 1) pa_nil)))) (pss_one ps_never) pss_nil)
  (pss_one (ps_ret (C8.pe_mt (p_Store_told_value T) hr (by decide) (pe_fld (pv 0) (by rfl)) (pa_cons (pv 1) pa_nil))))), ?_⟩
    exact ⟨_, rfl, x, rfl, hx, true, rfl, iteF ⟨_, rfl, y, _, dy, _, _, rfl, hy, T.c_Live, T.n_Live_store, rfl, A.ad .p, A.dx, _, rfl, lv.st.p, rfl, _, rfl, A, m, fs, s, x, rfl, lv.st, fun u hu => wf.hold x u hu, hl, q⟩⟩
def sp_made (K : PySem.W.Frag) : Sp := fun vs H Q _ => ∃ (y : Addr) (A : SA) (m : Nat) (fs : List Str) (s : StS), vs = [.ref y] ∧ LiveAt K H y A m fs s ∧ Q (.int (s.fro.length : Nat)) H
theorem p_Live_made (T : Tx w K mg h) : C8.Met P w K mg base 1 (cLiv K) "made" (sp_made K) [] :=
  met T.f_Live_made T.c_Live T.m_Live_made sc_Live_made (fun vs H Q E ⟨_, _, _, _, _, e, _⟩ => by rw [e]; rfl) fun cdv A' outer s' H vs Q E hr ⟨y, A, m, fs, s, e, lv, q⟩ => by
    subst e
    obtain ⟨dy, hy⟩ := lv.ex
    refine ⟨_, (pss_one (ps_ret (pe_callB call_len_seq (by rfl) T.z_len (by decide +kernel) (pa_cons (pe_fld (pe_fld (pv 0) (by rfl)) (by rfl)) pa_nil)))), ?_⟩
    refine ⟨_, rfl, y, _, dy, _, _, rfl, hy, T.c_Live, T.n_Live_store, rfl, A.ad .p, _, A.dx, _, _, rfl, lv.st.p, T.c_Store, T.n_Store_frosts, rfl, A.ad .fr, _, rfl, .inl (SqL.of lv.st.fr), ?_⟩
    rw [List.length_map]
    exact q
def sp_reached (K : PySem.W.Frag) : Sp := fun vs H Q _ => ∃ (y : Addr) (A : SA) (m : Nat) (fs : List Str) (s : StS), vs = [.ref y] ∧ LiveAt K H y A m fs s ∧ s.hits.length ≤ 1000 ∧ ∀ H' p, Ext H H' → H p = none → Dp K H' (.ref p) (.list ((srtH s.hits).map hitD)) → Q (.ref p) H'
theorem p_Live_reached (T : Tx w K mg h) : C8.Met P w K mg base 1 (cLiv K) "reached" (sp_reached K) [] :=
  met T.f_Live_reached T.c_Live T.m_Live_reached sc_Live_reached (fun vs H Q E ⟨_, _, _, _, _, e, _⟩ => by rw [e]; rfl) fun cdv A' outer s' H vs Q E hr ⟨y, A, m, fs, s, e, lv, hl, q⟩ => by
    subst e
    obtain ⟨dy, hy⟩ := lv.ex
    obtain ⟨vs, h1, h2⟩ := lv.st.ht
    refine ⟨_, (pss_one (ps_ret (pe_callB (cr_sortedD hr.units (enc := hitD) alike_hit (.inl hit_tup) dep_hit) (by rfl) T.z_sorted (by decide +kernel) (pa_cons (pe_fld (pe_fld (pv 0) (by rfl)) (by rfl)) pa_nil)))), ?_⟩
    exact ⟨_, rfl, y, _, dy, _, _, rfl, hy, T.c_Live, T.n_Live_store, rfl, A.ad .p, _, A.dx, _, _, rfl, lv.st.p, T.c_Store, T.n_Store_hits, rfl, A.ad .ht, _, s.hits, rfl, SqL.of h1, dp_is h2, small_le (by omega), fun ys p _ hys np => q _ p (Ext.upd np) np (.lst (SqL.of upd_same) (DpAll.keepR (.of (Ext.upd np)) (is_dp hys)))⟩
def sp_behind (K : PySem.W.Frag) : Sp := fun vs H Q _ => ∃ (y na : Addr) (A : SA) (m : Nat) (fs : List Str) (s : StS) (ns : List Str), vs = [.ref y, .ref na] ∧ LiveAt K H y A m fs s ∧ H na = some (.lst (ns.map .str)) ∧ Fields fs ∧ WF fs s ∧ s.nst + s.now ≤ 200 ∧ ns.Nodup ∧ ns.length ≤ 6 ∧ (∀ x ∈ ns, GoodW x) ∧
  ∀ H' r, Ext H H' → HeapAt K H' r fs ((hdOf fs s ns).nrm srt fs) → Q (.ref r) H'
theorem p_Live_behind (T : Tx w K mg h) : C8.Met P w K mg base 9 (cLiv K) "behind" (sp_behind K) [] :=
  met T.f_Live_behind T.c_Live T.m_Live_behind sc_Live_behind (fun vs H Q E ⟨_, _, _, _, _, _, _, e, _⟩ => by rw [e]; rfl) fun cdv A' outer s' H vs Q E hr ⟨y, na, A, m, fs, s, ns, e, lv, hna, hF, wf, hsm, hnd, hnl, hng, q⟩ => by
    subst e
    obtain ⟨dy, hy⟩ := lv.ex
    refine ⟨_, (pss_cons (ps_if (pt_not (pt_val (C8.pe_c (p_is_word_list T) hr (by decide) (by rfl) (pa_cons (pv 1) (pa_cons pe_int (pa_cons pe_int pa_nil)))))) (pss_one ps_never) pss_nil)
  (pss_one (ps_ret (C8.pe_mt (p_Store_heap_of T) hr (by decide) (pe_fld (pv 0) (by rfl)) (pa_cons (pv 1) pa_nil))))), ?_⟩
    refine ⟨_, rfl, na, ns, 0, 6, rfl, .inl hna, hng, hnd, by omega, by omega, hnl, fun H1 x1 => ⟨true, rfl, iteF ?_⟩⟩
    have st1 := lv.st.ext x1
    exact ⟨_, rfl, y, _, dy, _, _, rfl, x1 _ _ hy, T.c_Live, T.n_Live_store, rfl, A.ad .p, A.dx, _, rfl, st1.p, rfl, _, rfl, A, m, fs, s, na, ns, rfl, x1 _ _ hna, st1, hF, wf, hsm, hnd, hnl, hng, fun H2 r x2 hr => q H2 r (x1.trans x2) hr⟩
end
end TW
set_option maxHeartbeats 4000000
/-! ## Live: rows -/
namespace TW
open PySem PySem.Spec PyProof.Rows L2 TwN
theorem rdrs_take {rs : List RowS} {j : Nat} {r : RowS} (h : rs[j]? = some r) : rdrs (rs.take (j + 1)) = rdrs (rs.take j) ++ rdr r := by
  rw [← take_snoc h, rdrs_snoc]
theorem rdrs_mem {rs : List RowS} {j : Nat} {r : RowS} (h : rs[j]? = some r) {x : Str} (hx : x ∈ rdr r) {l : List Str} (hn : (l ++ rdrs rs).Nodup) : x ∉ l ++ rdrs (rs.take j) := by
  have e : rdrs rs = rdrs (rs.take j) ++ (rdr r ++ rdrs (rs.drop (j + 1))) := by
    have hj := (List.getElem?_eq_some_iff.mp h).1
    have e1 : rs = rs.take j ++ (r :: rs.drop (j + 1)) := by
      have := (List.getElem?_eq_some_iff.mp h).2
      rw [← this, ← List.drop_eq_getElem_cons hj, List.take_append_drop]
    have e2 : rdrs rs = rdrs (rs.take j ++ (r :: rs.drop (j + 1))) := by rw [← e1]
    rw [e2]
    unfold rdrs
    rw [List.flatMap_append, List.flatMap_cons]
  rw [e, ← List.append_assoc] at hn
  intro hm
  exact (List.nodup_append.mp hn).2.2 x hm x (List.mem_append_left _ hx) rfl
theorem rdr_len (r : RowS) : (rdr r).length ≤ 1 := by cases r <;> simp [rdr]
theorem rdrs_len : ∀ rs : List RowS, (rdrs rs).length ≤ rs.length
  | [] => Nat.le_refl _
  | r :: rs => by
    have h1 := rdr_len r
    have h2 := rdrs_len rs
    show (rdr r ++ rdrs rs).length ≤ rs.length + 1
    rw [List.length_append]
    omega
section
variable {P : Program} {w : World} {K : PySem.W.Frag} {mg : Str → Option Value} {base h : Heap}
def sp_check (K : PySem.W.Frag) : Sp := fun vs H Q _ => ∃ (y la : Addr) (A : SA) (m : Nat) (fs : List Str) (s : StS) (ls : List V) (rs : List RowS), vs = [.ref y, .ref la] ∧ LiveAt K H y A m fs s ∧ H la = some (.lst ls) ∧ RowsAt H ls rs ∧ (∀ r ∈ rs, RowGood fs r) ∧ (s.wat.map (·.1) ++ rdrs rs).Nodup ∧ s.wat.length ≤ 1000 ∧ rs.length ≤ 1000 ∧
  ∀ H', Ext H H' → Q .non H'
theorem p_Live_check_plain_rows (T : Tx w K mg h) : C8.Met P w K mg base 7 (cLiv K) "check_plain_rows" (sp_check K) [] :=
  met T.f_Live_check_plain_rows T.c_Live T.m_Live_check_plain_rows sc_Live_check_plain_rows (fun vs H Q E ⟨_, _, _, _, _, _, _, _, e, _⟩ => by rw [e]; rfl) fun cdv A' outer s' H vs Q E hr ⟨y, la, A, m, fs, s, ls, rs, e, lv, hla, hrs, hg, hnd, hwl, hrl, q⟩ => by
    subst e
    obtain ⟨dy, hy⟩ := lv.ex
    refine ⟨_, (pss_cons (ps_if (pt_not (pt_val (pe_callB call_isi (by rfl) T.z_isinstance (by decide +kernel) (pa_cons (pv 1) (pa_cons (pe_bltn (v := .ty "list") (by rfl) T.z_list (by decide +kernel) rfl) pa_nil))))) (pss_one ps_never) pss_nil)
  (pss_cons (ps_set (i := 2) sc_Live_check_plain_rows.nd rfl (by first | exact Or.inl rfl | exact Or.inr rfl) (C8.pe_mt0 (p_Live_readers_told T) hr (by decide) (pv 0)))
  (pss_one (ps_for PassesOwn.never (by rfl) (pi_list (pv 1)) (pg_name (i := 3) sc_Live_check_plain_rows.nd rfl (by first | exact Or.inl rfl | exact Or.inr rfl))
  (pss_cons (ps_if (pt_not (pt_val (C8.pe_mt (p_Live_takes T) hr (by decide) (pv 0) (pa_cons (pv 3) (pa_cons (pv 2) pa_nil))))) (pss_one ps_never) pss_nil)
  (pss_one (ps_if (pt_cmpR op_eq (pe_ix ix_tup (pv 3) pe_int (fun _ _ => rfl)) pe_str (nomark _)) (pss_one (ps_expr (pe_bm PySem.F.plainAttrs_list PySem.F.slot_list_append PySem.F.type_list_append mt_append (pv 2) (pa_cons (pe_ix ix_tup (pv 3) pe_int (fun _ _ => rfl)) pa_nil)))) pss_nil))))))), ?_⟩
    refine ⟨_, rfl, _, _, .type "list", _, true, rfl, .ty _, .base (.lst hla), kit_ty (by decide +kernel), true, rfl, iteF ?_⟩
    refine ⟨_, rfl, y, dy, _, rfl, hy, rfl, y, A, m, fs, s, rfl, lv, hwl, fun H1 D x1 nD hD => ?_⟩
    refine ⟨_, rfl, la, rfl, ⟨_, SqL.of (x1 _ _ hla)⟩, for_it (walk_list (xs := ls)) (fun j σ' H' => ∃ a, σ' = [some (.ref y), some (.ref la), some (.ref D), a] ∧ H' D = some (.lst ((s.wat.map (·.1) ++ rdrs (rs.take j)).map .str)) ∧ Ext H H') ⟨_, rfl, by rw [show rdrs (rs.take 0) = [] from rfl, List.append_nil]; exact hD, x1⟩
      (fun _ _ _ _ ⟨_, _, _, x⟩ => SqL.of (x _ _ hla)) (fun j v σ' Hz H2 hj ⟨a, e1, hD2, x2⟩ ⟨e2, ev⟩ => ?_) fun σ' H2 ⟨a, e1, hD2, x2⟩ => q H2 x2⟩
    subst e1 e2
    have hj : j < rs.length := by rw [← hrs.len]; exact hj
    have er : rs[j]? = some rs[j] := List.getElem?_eq_getElem hj
    obtain ⟨ra, h1, h2⟩ := hrs.at_ j _ er
    have ev : v = .ref ra := Option.some.inj (ev.symm.trans h1)
    subst ev
    generalize rs[j] = r at er h2
    have gr := hg r (List.mem_of_getElem? er)
    refine ⟨_, rfl, y, dy, _, rfl, x2 _ _ hy, rfl, _, rfl, _, rfl, y, ra, D, A, m, fs, s, r, _, rfl, lv.ext x2, x2 _ _ h2, hD2, gr, fun x hx => rdrs_mem er hx hnd, fun H3 x3 => ⟨true, rfl, iteF ?_⟩⟩
    have x23 := x2.trans x3
    refine ⟨_, rfl, ra, _, 0, .str (nameS r), rfl, rfl, SqT.of (x23 _ _ h2), atI_nat (j := 0) rfl, rfl, ?_⟩
    rcases rdr_name r with ⟨en, x, y', d, rfl⟩ | ⟨en, er0⟩
    · have hl := rdrs_len (rs.take j)
      rw [List.length_take] at hl
      refine ⟨true, by rw [en]; rfl, iteT ⟨_, rfl, .inl ⟨rfl, _, SqL.of (x3 _ _ hD2)⟩, _, rfl, ra, _, 1, .str x, rfl, rfl, SqT.of (x23 _ _ h2), atI_nat (j := 1) rfl, D, _, _, rfl, rfl, x3 _ _ hD2, ?_, _, rfl, ?_, extSet x23 nD⟩⟩
      · rw [List.length_map, List.length_append, List.length_map]
        exact small_lt (by omega)
      · rw [upd_same, rdrs_take er]
        simp [rdr]
    · refine ⟨false, bl_f (fun z => en (by injection z)), iteF ⟨_, rfl, ?_, x23⟩⟩
      rw [rdrs_take er, er0, List.append_nil]
      exact x3 _ _ hD2
def sp_do (K : PySem.W.Frag) : Sp := fun vs H Q E => ∃ (y ra : Addr) (A : SA) (m : Nat) (fs : List Str) (s : StS) (r : RowS), vs = [.ref y, .ref ra] ∧ LiveAt K H y A m fs s ∧ H ra = some (.tup (rowV r)) ∧ Fields fs ∧ SOk fs s ∧ (∀ w ∈ s.wat, w.2.2 ≤ 1000) ∧ m ≤ 10000 ∧ RowGood fs r ∧ (∀ x ∈ rdr r, x ∉ s.wat.map (·.1)) ∧
  ∀ H1, Ext H H1 → PostR K A m fs s H1 Q E (perf fs s r)
theorem p_Live_do (T : Tx w K mg h) : MetX P w K mg base 7 (cLiv K) "do" (sp_do K) :=
  metX T.f_Live_do T.c_Live T.m_Live_do sc_Live_do (fun vs H Q E ⟨_, _, _, _, _, _, _, e, _⟩ => by rw [e]; rfl) fun cdv A' outer s' H vs Q E hr ⟨y, ra, A, m, fs, s, r, e, lv, hra, hF, ok, hw, hm, hg, hno, q⟩ => by
    subst e
    obtain ⟨dy, hy⟩ := lv.ex
    refine ⟨_, (pss_cons (ps_if (pt_not (pt_val (C8.pe_mt (p_Live_takes T) hr (by decide) (pv 0) (pa_cons (pv 1) (pa_cons (C8.pe_mt0 (p_Live_readers_told T) hr (by decide) (pv 0)) pa_nil))))) (pss_one ps_never) pss_nil)
  (pss_one (ps_expr (pe_mtS (W := (fun cls d _ H => E cls d H)) (p_Store_perform T) (takes_of rfl rfl rfl rfl) hr (by decide) (pe_fld (pv 0) (by rfl)) (pa_cons (pv 1) pa_nil))))), ?_⟩
    refine ⟨_, rfl, y, dy, _, rfl, hy, rfl, _, rfl, _, rfl, y, dy, _, rfl, hy, rfl, y, A, m, fs, s, rfl, lv, ok.wl, fun H1 D x1 nD hD => ?_⟩
    refine ⟨y, ra, D, A, m, fs, s, r, _, rfl, lv.ext x1, x1 _ _ hra, hD, hg, hno, fun H2 x2 => ⟨true, rfl, iteF ?_⟩⟩
    have x3 := x1.trans x2
    have st3 := lv.st.ext x3
    exact ⟨_, rfl, y, _, dy, _, _, rfl, x3 _ _ hy, T.c_Live, T.n_Live_store, rfl, A.ad .p, A.dx, _, rfl, st3.p, rfl, _, rfl, A, m, fs, s, ra, r, rfl, x3 _ _ hra, st3, hF, ok, hw, hm, hg, (q H2 x3).imp (fun _ z => z) fun _ _ _ z => z⟩
end
end TW
set_option maxHeartbeats 4000000
/-! ## Live: the trial, the attempt -/
namespace TW
open PySem PySem.Spec PyProof.Rows L2 TwN
def wordO : Out Str → Str
  | .done _ => "done"
  | .stop _ (.hollow _) => "hollow"
  | .stop _ (.refused _) => "refused"
  | .stop _ (.ok _) => "done"
def stopV : Out Str → V
  | .done _ => .non
  | .stop i _ => .int (i : Nat)
/-- what the rows ask for -/
structure RunOk (fs : List Str) (rs : List RowS) (s : StS) (m : Nat) : Prop where
  F : Fields fs
  good : ∀ r ∈ rs, RowGood fs r
  nd : (s.wat.map (·.1) ++ rdrs rs).Nodup
  ok : ∀ i s1, i ≤ rs.length → runTo fs rs s i = some s1 → SOk fs s1 ∧ ∀ w ∈ s1.wat, w.2.2 ≤ 1000
  len : rs.length ≤ 1000
  m : m + rs.length ≤ 10000
section
variable {P : Program} {w : World} {K : PySem.W.Frag} {mg : Str → Option Value} {base h : Heap}
def sp_trial (K : PySem.W.Frag) : Sp := fun vs H Q _ => ∃ (y la : Addr) (A : SA) (m : Nat) (fs : List Str) (s : StS) (ls : List V) (rs : List RowS) (out : Out Str), vs = [.ref y, .ref la] ∧ LiveAt K H y A m fs s ∧ H la = some (.lst ls) ∧ RowsAt H ls rs ∧ RunOk fs rs s m ∧ Ends fs rs s out ∧
  ∀ H' t v, Ext H H' → H t = none → H' t = some (.tup [.str (wordO out), stopV out, v]) → Q (.ref t) H'
theorem p_Live_trial (T : Tx w K mg h) : C8.Met P w K mg base 9 (cLiv K) "trial" (sp_trial K) [] := by
  obtain ⟨fE, fdE, psE, dsE, kcE, hmE, hFE, hbE, dE⟩ := (p_Kept_enter (P := P) (base := base) T).ex
  cases dE
  exact met T.f_Live_trial T.c_Live T.m_Live_trial sc_Live_trial (fun vs H Q E ⟨_, _, _, _, _, _, _, _, _, e, _⟩ => by rw [e]; rfl) fun cdv A' outer s' H vs Q E hr ⟨y, la, A, m, fs, s, ls, rs, out, e, lv, hla, hrs, ro, he, q⟩ => by
    subst e
    obtain ⟨dy, hy⟩ := lv.ex
    obtain ⟨ok0, hw0⟩ := ro.ok 0 s (Nat.zero_le _) rfl
    refine ⟨_, (pss_cons (ps_expr (C8.pe_mt (p_Live_check_plain_rows T) hr (by decide) (pv 0) (pa_cons (pv 1) pa_nil)))
  (pss_cons (ps_set (i := 2) sc_Live_trial.nd rfl (by first | exact Or.inl rfl | exact Or.inr rfl) pe_str)
  (pss_cons (ps_set (i := 3) sc_Live_trial.nd rfl (by first | exact Or.inl rfl | exact Or.inr rfl) pe_non)
  (pss_cons (ps_with0 (C8.pe_mk (p_Kept_init T) hr (by decide) (by rfl) (pa_cons (pv 0) pa_nil)) hmE T.m_Kept_exit hFE (p_Kept_exit T) hbE (fX_ok T).2 (hr.mono (by decide)) (L2H.roomH_of (hr.mono (by decide)))
  (pss_cons (ps_for PassesOwn.never (by rfl) (pi_enum (by rfl) T.z_enumerate (pa_cons (pv 1) pa_nil)) (pg_tup (by rfl) (pgs_cons (pg_name (i := 4) sc_Live_trial.nd rfl (by first | exact Or.inl rfl | exact Or.inr rfl)) (pgs_cons (pg_name (i := 5) sc_Live_trial.nd rfl (by first | exact Or.inl rfl | exact Or.inr rfl)) pgs_nil)))
  (pss_cons (ps_try_many rfl rfl takes_none5 (fun W pn xe tk px => by exact (pss_one (ps_expr (pe_mtS (W := W) (p_Store_perform T) tk hr (by decide) (pe_fldK (K := K) rfl (pv 0) (by rfl)) (pa_cons (pv 5) pa_nil)))))
  (.cons ⟨by rfl, by decide, .inl T.g_Hollow⟩ (fun a oe cls d pn hz hf => by exact (pss_one (ps_set (i := 2) sc_Live_trial.nd rfl (by first | exact Or.inl rfl | exact Or.inr rfl) pe_str))) (.cons ⟨by rfl, by decide, .inl T.g_Refused⟩ (fun a oe cls d pn hz hf => by exact (pss_one (ps_set (i := 2) sc_Live_trial.nd rfl (by first | exact Or.inl rfl | exact Or.inr rfl) pe_str))) .nil)))
  (pss_one (ps_if (pt_cmpR op_ne (pv 2) pe_str (nomark _)) (pss_cons (ps_set (i := 3) sc_Live_trial.nd rfl (by first | exact Or.inl rfl | exact Or.inr rfl) (pv 4))
  (pss_one ps_break)) pss_nil))))
  (pss_one (ps_set (i := 6) sc_Live_trial.nd rfl (by first | exact Or.inl rfl | exact Or.inr rfl) (C8.pe_mt0 (p_Live_reached T) hr (by decide) (pv 0))))))
  (pss_one (ps_ret (pe_tup (pa_cons (pv 2) (pa_cons (pv 3) (pa_cons (pv 6) pa_nil)))))))))), ?_⟩
    refine ⟨_, rfl, y, dy, _, rfl, hy, rfl, _, rfl, y, la, A, m, fs, s, ls, rs, rfl, lv, hla, hrs, ro.good, ro.nd, ok0.wl, ro.len, fun H1 x1 => ?_⟩
    refine ⟨_, rfl, fun k dk nk ndk nkk => ?_⟩
    have xk : Ext H1 (upd (upd H1 dk (.own k)) k (.ins (cKep K) dk [])) := (Ext.upd ndk).trans (Ext.upd (by rw [upd_ne nkk.symm]; exact nk))
    refine ⟨k, dk, y, dy, _, rfl, upd_same, xk _ _ (x1 _ _ hy), fun H2 hk2 fr2 => ⟨rfl, k, dk, _, rfl, hk2, ?_⟩⟩
    have x12 : Ext H1 H2 := fun b o hb => by rw [fr2 b (ne_of_none hb nk)]; exact xk _ _ hb
    have hy2 := x12 _ _ (x1 _ _ hy)
    have nyk : y ≠ k := ne_of_none (x1 _ _ hy) nk
    refine ⟨k, dk, y, dy, _, A, m, fs, s, rfl, hk2, hy2, (lv.st.ext x1).ext x12, ro.F, ok0.sm, fun H3 A3 st3 hk3 hy3 fr3 f3 => ?_⟩
    have hla3 : ∀ {Hc : Hp}, (∀ b o, b ≠ k → b ≠ y → H2 b = some o → Hc b = some o) → Hc la = some (.lst ls) := fun {Hc} F => F _ _ (ne_of_none (x1 _ _ hla) nk) (ne_of hla hy (by intro z; cases z)) (x12 _ _ (x1 _ _ hla))
    refine ⟨_, rfl, la, ls, rfl, SqL.of (hla3 fr3), for_it (walk_enum (xs := ls)) (fun i σ' H' => ∃ (s1 : StS) (A1 : SA) (a4 a5 : Option V), σ' = [some (.ref y), some (.ref la), some (.str "done"), some .non, a4, a5, none] ∧ runTo fs rs s i = some s1 ∧ Sto (cSto K) H' A1 (m + i) fs s1 ∧ A1.ad .p = A3.ad .p ∧
      (∀ b, foot A1 s1 b → H2 b = none) ∧ (∀ b o, b ≠ k → b ≠ y → H2 b = some o → H' b = some o) ∧ H' k = some (.ins (cKep K) dk [("live", .ref y), ("saved", .ref (A.ad .p))]) ∧ H' y = some (.ins (cLiv K) dy [("store", .ref (A3.ad .p))]))
      ⟨s, A3, _, _, rfl, rfl, st3, rfl, f3, fr3, hk3, hy3⟩ (fun _ _ _ _ ⟨_, _, _, _, _, _, _, _, _, F, _⟩ => SqL.of (hla3 F)) (fun i v σ' Hz H4 hi ⟨s1, A1, a4, a5, e1, er, st4, p4, f4, F4, hk4, hy4⟩ ⟨T1, ix, rv, ev, nT, eH, ex, ey⟩ => ?_) fun σ' H4 ⟨s1, A1, a4, a5, e1, er, st4, p4, f4, F4, hk4, hy4⟩ => ?_⟩
    · subst e1 eH ev
      have ex : ix = .int (i : Nat) := (Option.some.inj ex).symm
      subst ex
      have hir : i < rs.length := by rw [← hrs.len]; exact hi
      have hri : rs[i]? = some rs[i] := List.getElem?_eq_getElem hir
      obtain ⟨ra, h1, h2⟩ := hrs.at_ i _ hri
      have ey : rv = .ref ra := Option.some.inj (ey.symm.trans h1)
      subst ey
      obtain ⟨ok1, hw1⟩ := ro.ok i s1 (Nat.le_of_lt hir) er
      generalize rs[i] = r at hri h2
      have gr := ro.good r (List.mem_of_getElem? hri)
      have x45 : Ext Hz (upd Hz T1 (.tup [.int (i : Nat), .ref ra])) := Ext.upd nT
      have ht5 : upd Hz T1 (.tup [.int (i : Nat), .ref ra]) T1 = some (.tup [.int (i : Nat), .ref ra]) := upd_same
      generalize upd Hz T1 (.tup [.int (i : Nat), .ref ra]) = H5 at x45 ht5
      have st5 := st4.ext x45
      have F5 : ∀ b o, b ≠ k → b ≠ y → H2 b = some o → H5 b = some o := fun b o h1 h2 e => x45 _ _ (F4 b o h1 h2 e)
      have hk5 := x45 _ _ hk4
      have hy5 := x45 _ _ hy4
      have hra5 : H5 ra = some (.tup (rowV r)) := F5 _ _ (ne_of_none (x1 _ _ h2) nk) (ne_of h2 hy (by intro z; cases z)) (x12 _ _ (x1 _ _ h2))
      have none5 : ∀ b, H5 b = none → H2 b = none := fun b hb => by
        cases e : H2 b with
        | none => rfl
        | some o =>
          by_cases z : b = k
          · rw [z, hk5] at hb; cases hb
          · by_cases z2 : b = y
            · rw [z2, hy5] at hb; cases hb
            · rw [F5 b o z z2 e] at hb; cases hb
      refine ⟨T1, _, rfl, SqT.of ht5, rfl, _, _, rfl, _, _, rfl, rfl, ?_⟩
      refine ⟨_, rfl, y, _, dy, _, _, rfl, hy5, T.c_Live, T.n_Live_store, rfl, A1.ad .p, A1.dx, _, by rw [p4], st5.p, rfl, _, rfl, A1, m + i, fs, s1, ra, r, by rw [p4], hra5, st5, ro.F, ok1, hw1, by have := ro.m; omega, gr, ?_⟩
      cases hp : perf fs s1 r with
      | ok s2 =>
        refine .ok fun A6 H6 st6 c6 f6 p6 _ => ?_
        have nf5 : ∀ b o, H2 b = some o → ¬ foot A1 s1 b := fun b o hb hf => by rw [f4 b hf] at hb; cases hb
        refine ⟨_, rfl, rfl, false, rfl, iteF ⟨s2, A6, _, _, rfl, runTo_ok er hri hp, st6, p6.trans p4, fun b hb => ?_, fun b o h1 h2 e => c6.old b o (F5 b o h1 h2 e) (nf5 b o e), c6.old _ _ hk5 (nf5 _ _ hk2), c6.old _ _ hy5 (nf5 _ _ hy2)⟩⟩
        rcases f6 b hb with z | z
        · exact f4 b z
        · exact none5 b z
      | hollow x =>
        have eo : out = .stop i (.hollow x) := he.uniq (.stop hir er hri hp fun _ z => by cases z)
        subst eo
        refine .hollow fun d nd => ⟨true, T.x_Hollow_Hollow, fun _ a na => ?_, (fun z => by cases z)⟩
        refine ⟨_, rfl, rfl, true, rfl, iteT ⟨_, rfl, ?_⟩⟩
        have hk6 := (Ext.upd (o := .xd (nmX x)) nd) _ _ hk5
        have hy6 := (Ext.upd (o := .xd (nmX x)) nd) _ _ hy5
        refine ⟨_, rfl, y, dy, _, rfl, hy6, rfl, y, A1, _, fs, s1, rfl, ⟨⟨dy, by rw [p4]; exact hy6⟩, st5.ext (Ext.upd (o := .xd (nmX x)) nd)⟩, ok1.hl, fun H7 p x7 np dp => ?_⟩
        have hy7 := x7 _ _ hy6
        refine ⟨k, dk, y, dy, _, _, _, _, _, rfl, x7 _ _ hk6, hy7, ⟨_, rfl, _, rfl, _, rfl, by show 3 ≤ sizeLine; decide, fun t nt => ?_⟩⟩
        have xx : Ext H (upd H7 y (.ins (cLiv K) dy [("store", .ref (A.ad .p))])) := fun b o hb => by
          by_cases z : b = y
          · rw [z, upd_same, ← hy, ← z, hb]
          · rw [upd_ne z]
            exact x7 _ _ ((fun b o h1 h2 e => (Ext.upd (o := .xd (nmX x)) nd) _ _ (F5 b o h1 h2 e)) b o (ne_of_none (x1 _ _ hb) nk) z (x12 _ _ (x1 _ _ hb)))
        exact q _ t _ (xx.trans (Ext.upd nt)) (ext_none xx nt) upd_same
      | refused x =>
        have eo : out = .stop i (.refused x) := he.uniq (.stop hir er hri hp fun _ z => by cases z)
        subst eo
        refine .refused fun d nd => ⟨false, T.x_Refused_Hollow, (fun z => by cases z), fun _ => ⟨true, T.x_Refused_Refused, fun _ a na => ?_, (fun z => by cases z)⟩⟩
        refine ⟨_, rfl, rfl, true, rfl, iteT ⟨_, rfl, ?_⟩⟩
        have hk6 := (Ext.upd (o := .xd (nmX x)) nd) _ _ hk5
        have hy6 := (Ext.upd (o := .xd (nmX x)) nd) _ _ hy5
        refine ⟨_, rfl, y, dy, _, rfl, hy6, rfl, y, A1, _, fs, s1, rfl, ⟨⟨dy, by rw [p4]; exact hy6⟩, st5.ext (Ext.upd (o := .xd (nmX x)) nd)⟩, ok1.hl, fun H7 p x7 np dp => ?_⟩
        have hy7 := x7 _ _ hy6
        refine ⟨k, dk, y, dy, _, _, _, _, _, rfl, x7 _ _ hk6, hy7, ⟨_, rfl, _, rfl, _, rfl, by show 3 ≤ sizeLine; decide, fun t nt => ?_⟩⟩
        have xx : Ext H (upd H7 y (.ins (cLiv K) dy [("store", .ref (A.ad .p))])) := fun b o hb => by
          by_cases z : b = y
          · rw [z, upd_same, ← hy, ← z, hb]
          · rw [upd_ne z]
            exact x7 _ _ ((fun b o h1 h2 e => (Ext.upd (o := .xd (nmX x)) nd) _ _ (F5 b o h1 h2 e)) b o (ne_of_none (x1 _ _ hb) nk) z (x12 _ _ (x1 _ _ hb)))
        exact q _ t _ (xx.trans (Ext.upd nt)) (ext_none xx nt) upd_same
    · subst e1
      rw [hrs.len] at er
      have eo : out = .done s1 := he.uniq (.done er)
      subst eo
      obtain ⟨ok1, hw1⟩ := ro.ok _ s1 (Nat.le_refl _) er
      have hk6 := hk4
      have hy6 := hy4
      refine ⟨_, rfl, y, dy, _, rfl, hy6, rfl, y, A1, _, fs, s1, rfl, ⟨⟨dy, by rw [p4]; exact hy6⟩, st4⟩, ok1.hl, fun H7 p x7 np dp => ?_⟩
      have hy7 := x7 _ _ hy6
      refine ⟨k, dk, y, dy, _, _, _, _, _, rfl, x7 _ _ hk6, hy7, ⟨_, rfl, _, rfl, _, rfl, by show 3 ≤ sizeLine; decide, fun t nt => ?_⟩⟩
      have xx : Ext H (upd H7 y (.ins (cLiv K) dy [("store", .ref (A.ad .p))])) := fun b o hb => by
        by_cases z : b = y
        · rw [z, upd_same, ← hy, ← z, hb]
        · rw [upd_ne z]
          exact x7 _ _ (F4 b o (ne_of_none (x1 _ _ hb) nk) z (x12 _ _ (x1 _ _ hb)))
      exact q _ t _ (xx.trans (Ext.upd nt)) (ext_none xx nt) upd_same
end
end TW
set_option maxHeartbeats 4000000
/-! ## Live: the attempt -/
namespace TW
open PySem PySem.Spec PyProof.Rows L2 TwN
section
variable {X : Cx} {K : PySem.W.Frag} {o value : Expr} {ta tv : TE} {f : Str} {pos pos' : Pos}
theorem ps_fldK (hK : X.K = K) (ha : PE X o ta) (hv : PE X value tv) (hs : swapsWith value (some (.Attribute o f pos')) pos.line X.env = pure false) : PS X (.Assign [.Attribute o f pos'] value pos) (sFld K ta tv f) := by subst hK; exact ps_fld ha hv hs
end
section
variable {P : Program} {w : World} {K : PySem.W.Frag} {mg : Str → Option Value} {base h : Heap}
inductive PostT (K : PySem.W.Frag) (y : Addr) (m n : Nat) (fs : List Str) (H : Hp) (Q : VK) (E : XK) : Out Str → Prop
  | done {s' : StS} (h : ∀ H' A', LiveAt K H' y A' m fs s' → (∀ b o, b ≠ y → H b = some o → H' b = some o) → (∀ b, foot A' s' b → H b = none) → Q (.int (n : Nat)) H') : PostT K y m n fs H Q E (.done s')
  | hollow {i : Nat} {x : Str} (h : ∀ H' d, Ext H H' → H' d = some (.xd (nmX x)) → E (.ref (He.ga K "Hollow")) (some d) H') : PostT K y m n fs H Q E (.stop i (.hollow x))
  | refused {i : Nat} {x : Str} (h : ∀ H' d, Ext H H' → H' d = some (.xd (nmX x)) → E (.ref (He.ga K "Refused")) (some d) H') : PostT K y m n fs H Q E (.stop i (.refused x))
theorem PostT.isDone {y : Addr} {m n : Nat} {fs : List Str} {H : Hp} {Q : VK} {E : XK} {s' : StS} : PostT K y m n fs H Q E (.done s') → ∀ H' A', LiveAt K H' y A' m fs s' → (∀ b o, b ≠ y → H b = some o → H' b = some o) → (∀ b, foot A' s' b → H b = none) → Q (.int (n : Nat)) H'
  | .done h => h
theorem PostT.isHollow {y : Addr} {m n i : Nat} {fs : List Str} {H : Hp} {Q : VK} {E : XK} {x : Str} : PostT K y m n fs H Q E (.stop i (.hollow x)) → ∀ H' d, Ext H H' → H' d = some (.xd (nmX x)) → E (.ref (He.ga K "Hollow")) (some d) H'
  | .hollow h => h
theorem PostT.isRefused {y : Addr} {m n i : Nat} {fs : List Str} {H : Hp} {Q : VK} {E : XK} {x : Str} : PostT K y m n fs H Q E (.stop i (.refused x)) → ∀ H' d, Ext H H' → H' d = some (.xd (nmX x)) → E (.ref (He.ga K "Refused")) (some d) H'
  | .refused h => h
theorem PostT.imp {y : Addr} {m n : Nat} {fs : List Str} {H : Hp} {Q Q' : VK} {E E' : XK} {out : Out Str} (h : PostT K y m n fs H Q E out) (hq : ∀ v H', Q v H' → Q' v H') (he : ∀ c d H', E c d H' → E' c d H') : PostT K y m n fs H Q' E' out := by
  cases h with
  | done h => exact .done fun H' A' a b c => hq _ _ (h H' A' a b c)
  | hollow h => exact .hollow fun H' d a b => he _ _ _ (h H' d a b)
  | refused h => exact .refused fun H' d a b => he _ _ _ (h H' d a b)
def sp_attempt (K : PySem.W.Frag) : Sp := fun vs H Q E => ∃ (y la : Addr) (A : SA) (m : Nat) (fs : List Str) (s : StS) (ls : List V) (rs : List RowS) (out : Out Str), vs = [.ref y, .ref la] ∧ LiveAt K H y A m fs s ∧ H la = some (.lst ls) ∧ RowsAt H ls rs ∧ RunOk fs rs s m ∧ Ends fs rs s out ∧
  PostT K y (m + rs.length) rs.length fs H Q E out
theorem p_Live_attempt (T : Tx w K mg h) : MetX P w K mg base 9 (cLiv K) "attempt" (sp_attempt K) := by
  obtain ⟨fE, fdE, psE, dsE, kcE, hmE, hFE, hbE, dE⟩ := (p_Kept_enter (P := P) (base := base) T).ex
  cases dE
  exact metX T.f_Live_attempt T.c_Live T.m_Live_attempt sc_Live_attempt (fun vs H Q E ⟨_, _, _, _, _, _, _, _, _, e, _⟩ => by rw [e]; rfl) fun cdv A' outer s' H vs Q E hr ⟨y, la, A, m, fs, s, ls, rs, out, e, lv, hla, hrs, ro, he, q⟩ => by
    subst e
    obtain ⟨dy, hy⟩ := lv.ex
    obtain ⟨ok0, hw0⟩ := ro.ok 0 s (Nat.zero_le _) rfl
    refine ⟨_, (pss_cons (ps_expr (C8.pe_mt (p_Live_check_plain_rows T) hr (by decide) (pv 0) (pa_cons (pv 1) pa_nil)))
  (pss_cons (ps_withN (i := 2) rfl rfl rfl (takes_of rfl rfl rfl rfl) (C8.pe_mk (p_Kept_init T) hr (by decide) (by rfl) (pa_cons (pv 0) pa_nil)) hmE T.m_Kept_exit hFE (p_Kept_exit T) hbE (fX_ok T).2 (hr.mono (by decide)) (L2H.roomH_of (hr.mono (by decide))) sc_Live_attempt.nd rfl rfl (fun W pn xe tk px => by exact
  (pss_cons (ps_for px (by rfl) (pi_listK (K := K) rfl (pv 1)) (pg_name (i := 3) sc_Live_attempt.nd rfl (by first | exact Or.inl rfl | exact Or.inr rfl))
  (pss_one (ps_expr (pe_mtS (W := W) (p_Store_perform T) tk hr (by decide) (pe_fldK (K := K) rfl (pv 0) (by rfl)) (pa_cons (pv 3) pa_nil)))))
  (pss_one (ps_fldK (K := K) rfl (pv 2) (pe_fldK (K := K) rfl (pv 0) (by rfl)) (by rfl))))))
  (pss_one (ps_ret (pe_callB call_len_seq (by rfl) T.z_len (by decide +kernel) (pa_cons (pv 1) pa_nil)))))), ?_⟩
    refine ⟨_, rfl, y, dy, _, rfl, hy, rfl, _, rfl, y, la, A, m, fs, s, ls, rs, rfl, lv, hla, hrs, ro.good, ro.nd, ok0.wl, ro.len, fun H1 x1 => ?_⟩
    refine ⟨_, rfl, fun k dk nk ndk nkk => ?_⟩
    have xk : Ext H1 (upd (upd H1 dk (.own k)) k (.ins (cKep K) dk [])) := (Ext.upd ndk).trans (Ext.upd (by rw [upd_ne nkk.symm]; exact nk))
    refine ⟨k, dk, y, dy, _, rfl, upd_same, xk _ _ (x1 _ _ hy), fun H2 hk2 fr2 => ⟨rfl, k, dk, _, rfl, hk2, ?_⟩⟩
    have x12 : Ext H1 H2 := fun b o hb => by rw [fr2 b (ne_of_none hb nk)]; exact xk _ _ hb
    have hy2 := x12 _ _ (x1 _ _ hy)
    have nyk : y ≠ k := ne_of_none (x1 _ _ hy) nk
    refine ⟨k, dk, y, dy, _, A, m, fs, s, rfl, hk2, hy2, (lv.st.ext x1).ext x12, ro.F, ok0.sm, fun H3 A3 st3 hk3 hy3 fr3 f3 => ?_⟩
    have hla3 : ∀ {Hc : Hp}, (∀ b o, b ≠ k → b ≠ y → H2 b = some o → Hc b = some o) → Hc la = some (.lst ls) := fun {Hc} F => F _ _ (ne_of_none (x1 _ _ hla) nk) (ne_of hla hy (by intro z; cases z)) (x12 _ _ (x1 _ _ hla))
    refine ⟨_, rfl, la, rfl, ⟨_, SqL.of (hla3 fr3)⟩, for_it (walk_list (xs := ls)) (fun i σ' H' => ∃ (s1 : StS) (A1 : SA) (a3 : Option V), σ' = [some (.ref y), some (.ref la), some (.ref k), a3] ∧ runTo fs rs s i = some s1 ∧ Sto (cSto K) H' A1 (m + i) fs s1 ∧ A1.ad .p = A3.ad .p ∧
      (∀ b, foot A1 s1 b → H2 b = none) ∧ (∀ b o, b ≠ k → b ≠ y → H2 b = some o → H' b = some o) ∧ H' k = some (.ins (cKep K) dk [("live", .ref y), ("saved", .ref (A.ad .p))]) ∧ H' y = some (.ins (cLiv K) dy [("store", .ref (A3.ad .p))]))
      ⟨s, A3, _, rfl, rfl, st3, rfl, f3, fr3, hk3, hy3⟩ (fun _ _ _ _ ⟨_, _, _, _, _, _, _, _, F, _⟩ => SqL.of (hla3 F)) (fun i v σ' Hz H5 hi ⟨s1, A1, a3, e1, er, st5, p4, f4, F5, hk5, hy5⟩ ⟨eH, ev⟩ => ?_) fun σ' H4 ⟨s1, A1, a3, e1, er, st4, p4, f4, F4, hk4, hy4⟩ => ?_⟩
    · subst e1 eH
      have hir : i < rs.length := by rw [← hrs.len]; exact hi
      have hri : rs[i]? = some rs[i] := List.getElem?_eq_getElem hir
      obtain ⟨ra, h1, h2⟩ := hrs.at_ i _ hri
      have ev : v = .ref ra := Option.some.inj (ev.symm.trans h1)
      subst ev
      obtain ⟨ok1, hw1⟩ := ro.ok i s1 (Nat.le_of_lt hir) er
      generalize rs[i] = r at hri h2
      have gr := ro.good r (List.mem_of_getElem? hri)
      have hra5 : H5 ra = some (.tup (rowV r)) := F5 _ _ (ne_of_none (x1 _ _ h2) nk) (ne_of h2 hy (by intro z; cases z)) (x12 _ _ (x1 _ _ h2))
      have none5 : ∀ b, H5 b = none → H2 b = none := fun b hb => by
        cases e : H2 b with
        | none => rfl
        | some o =>
          by_cases z : b = k
          · rw [z, hk5] at hb; cases hb
          · by_cases z2 : b = y
            · rw [z2, hy5] at hb; cases hb
            · rw [F5 b o z z2 e] at hb; cases hb
      have xx : ∀ {Hc : Hp}, Ext H5 Hc → Ext H (upd Hc y (.ins (cLiv K) dy [("store", .ref (A.ad .p))])) := fun {Hc} xc b o hb => by
        by_cases z : b = y
        · rw [z, upd_same, ← hy, ← z, hb]
        · rw [upd_ne z]
          exact xc _ _ (F5 b o (ne_of_none (x1 _ _ hb) nk) z (x12 _ _ (x1 _ _ hb)))
      refine ⟨_, rfl, y, _, dy, _, _, rfl, hy5, T.c_Live, T.n_Live_store, rfl, A1.ad .p, A1.dx, _, by rw [p4], st5.p, rfl, _, rfl, A1, m + i, fs, s1, ra, r, by rw [p4], hra5, st5, ro.F, ok1, hw1, by have := ro.m; omega, gr, ?_⟩
      cases hp : perf fs s1 r with
      | ok s2 =>
        refine .ok fun A6 H6 st6 c6 f6 p6 _ => ?_
        have nf5 : ∀ b o, H2 b = some o → ¬ foot A1 s1 b := fun b o hb hf => by rw [f4 b hf] at hb; cases hb
        refine ⟨s2, A6, _, rfl, runTo_ok er hri hp, st6, p6.trans p4, fun b hb => ?_, fun b o h1 h2 e => c6.old b o (F5 b o h1 h2 e) (nf5 b o e), c6.old _ _ hk5 (nf5 _ _ hk2), c6.old _ _ hy5 (nf5 _ _ hy2)⟩
        rcases f6 b hb with z | z
        · exact f4 b z
        · exact none5 b z
      | hollow x =>
        have eo : out = .stop i (.hollow x) := he.uniq (.stop hir er hri hp fun _ z => by cases z)
        subst eo
        refine .hollow fun d nd => ⟨.ref (He.ga K "Hollow"), rfl, fun e tb => ?_⟩
        have x5 : Ext H5 (upd H5 d (.xd (nmX x))) := Ext.upd nd
        refine ⟨k, dk, y, dy, _, _, _, _, _, rfl, x5 _ _ hk5, x5 _ _ hy5, rfl, q.isHollow _ d (xx x5) ?_⟩
        rw [upd_ne (ne_of_none hy5 nd).symm, upd_same]
      | refused x =>
        have eo : out = .stop i (.refused x) := he.uniq (.stop hir er hri hp fun _ z => by cases z)
        subst eo
        refine .refused fun d nd => ⟨.ref (He.ga K "Refused"), rfl, fun e tb => ?_⟩
        have x5 : Ext H5 (upd H5 d (.xd (nmX x))) := Ext.upd nd
        refine ⟨k, dk, y, dy, _, _, _, _, _, rfl, x5 _ _ hk5, x5 _ _ hy5, rfl, q.isRefused _ d (xx x5) ?_⟩
        rw [upd_ne (ne_of_none hy5 nd).symm, upd_same]
    · subst e1
      rw [hrs.len] at er st4
      have eo : out = .done s1 := he.uniq (.done er)
      subst eo
      have q := q.isDone
      refine ⟨_, rfl, y, _, dy, _, _, rfl, hy4, T.c_Live, T.n_Live_store, rfl, _, rfl, k, _, dk, _, rfl, hk4, T.c_Kept, T.n_Kept_saved, (show 2 < 1000 by decide), ?_⟩
      have hk5 : upd H4 k (.ins (cKep K) dk (putF "saved" (.ref (A3.ad .p)) [("live", .ref y), ("saved", .ref (A.ad .p))])) k = some (.ins (cKep K) dk [("live", .ref y), ("saved", .ref (A3.ad .p))]) := upd_same
      have c5 : Chg (fun b => b = k) H4 (upd H4 k (.ins (cKep K) dk (putF "saved" (.ref (A3.ad .p)) [("live", .ref y), ("saved", .ref (A.ad .p))]))) := Chg.put rfl fun xs z => by rw [hk4] at z; cases z
      generalize upd H4 k (.ins (cKep K) dk (putF "saved" (.ref (A3.ad .p)) [("live", .ref y), ("saved", .ref (A.ad .p))])) = H5 at hk5 c5
      have hy5 := c5.old _ _ hy4 nyk
      have st5 := st4.stay c5 fun b hb z => by
        have := f4 b hb
        rw [z, hk2] at this
        cases this
      refine ⟨k, dk, y, dy, _, _, _, _, _, rfl, hk5, hy5, ?_⟩
      have nfy : ¬ foot A1 s1 y := fun z => by
        have := f4 y z
        rw [hy2] at this
        cases this
      have c6 : Chg (fun b => b = y) H5 (upd H5 y (.ins (cLiv K) dy [("store", .ref (A3.ad .p))])) := Chg.put rfl fun xs z => by rw [hy5] at z; cases z
      have fr : ∀ b o, b ≠ y → H b = some o → upd H5 y (.ins (cLiv K) dy [("store", .ref (A3.ad .p))]) b = some o := fun b o hb e => by
        have nbk := ne_of_none (x1 _ _ e) nk
        rw [upd_ne hb]
        exact c5.old b o (F4 b o nbk hb (x12 _ _ (x1 _ _ e))) nbk
      refine ⟨_, rfl, la, ls, rfl, .inl (SqL.of (fr _ _ (ne_of hla hy (by intro z; cases z)) hla)), ?_⟩
      rw [hrs.len]
      refine q _ A1 ⟨⟨dy, by rw [p4]; exact upd_same⟩, st5.stay c6 fun b hb z => nfy (z ▸ hb)⟩ fr fun b hb => ?_
      exact ext_none (x1.trans x12) (f4 b hb)
end
end TW
set_option maxHeartbeats 4000000
/-! ## the law: draws -/
namespace TW
open PySem PySem.Spec PyProof.Rows L2 TwN
/-- the pool of draws -/
structure Pool (H : L2.Hp) (pa ca : Addr) : Prop where
  ex : ∃ (i : Nat) (n : Int) (cs : List Int), H pa = some (.lst [.ref ca, .int (i : Nat), .int n]) ∧ H ca = some (.lst (cs.map .int))
theorem Pool.ne {H : Hp} {pa ca : Addr} (h : Pool H pa ca) : pa ≠ ca := by
  obtain ⟨i, n, cs, h1, h2⟩ := h.ex
  intro z
  rw [z, h2] at h1
  cases cs with
  | nil => cases h1
  | cons c r => cases h1
theorem Pool.ext {H H' : Hp} {pa ca : Addr} (h : Pool H pa ca) (e : Ext H H') : Pool H' pa ca := by
  obtain ⟨i, n, cs, h1, h2⟩ := h.ex
  exact ⟨i, n, cs, e _ _ h1, e _ _ h2⟩
theorem Pool.keep {H H' : Hp} {pa ca : Addr} (h : Pool H pa ca) (e1 : H' pa = H pa) (e2 : H' ca = H ca) : Pool H' pa ca := by
  obtain ⟨i, n, cs, h1, h2⟩ := h.ex
  exact ⟨i, n, cs, e1.trans h1, e2.trans h2⟩
/-- all but the pool stays -/
def PX (pa ca : Addr) (H H' : Hp) : Prop := ∀ b o, b ≠ pa → b ≠ ca → H b = some o → H' b = some o
theorem PX.rfl' {pa ca : Addr} {H : Hp} : PX pa ca H H := fun _ _ _ _ h => h
theorem PX.trans {pa ca : Addr} {H H1 H2 : Hp} (a : PX pa ca H H1) (b : PX pa ca H1 H2) : PX pa ca H H2 := fun c o h1 h2 h => b c o h1 h2 (a c o h1 h2 h)
theorem PX.of {pa ca : Addr} {H H' : Hp} (e : Ext H H') : PX pa ca H H' := fun b o _ _ h => e b o h
theorem mod_nat (c : Int) {lim : Nat} (h : 0 < lim) : ∃ n : Nat, n < lim ∧ (c % (lim : Int)) = (n : Int) := by
  have h1 := Int.emod_nonneg c (show (lim : Int) ≠ 0 by omega)
  have h2 := Int.emod_lt_of_pos c (show (0 : Int) < lim by omega)
  exact ⟨(c % (lim : Int)).toNat, by omega, by omega⟩
theorem if_ans {c : TT} {t u v : TS} {D : L2.Ends} {σ : L2.St} {H : Hp} (b : Bool) (h : ∀ Q : Bool → Hp → Prop, Q b H → c σ H Q) (k : if b = true then t { D with nx := v D } σ H else u { D with nx := v D } σ H) : tSeq (tIfS c t u) v D σ H := h _ k
theorem cm {i : Int} (h0 : 0 ≤ i) (h1 : i < 2147483647) : -(2 ^ 64) < i ∧ i < 2 ^ 64 := ⟨by omega, by omega⟩
theorem ixN_nat {n k : Nat} (h : k < n) : ixN n (k : Int) = some k := by
  unfold ixN
  rw [if_pos (by omega), if_pos (by omega)]
  congr 1
section
variable {P : Program} {w : World} {K : PySem.W.Frag} {mg : Str → Option Value} {base h : Heap}
def sp_draw : Sp := fun vs H Q _ => ∃ (pa ca : Addr) (lim : Nat), vs = [.ref pa, .int (lim : Nat)] ∧ Pool H pa ca ∧ 0 < lim ∧ lim < 1073741824 ∧ ∀ H' (n : Nat), Pool H' pa ca → (∀ b, b ≠ pa → b ≠ ca → H' b = H b) → n < lim → Q (.int (n : Nat)) H'
theorem p_law_draw (T : Tx w K mg h) : C8.Cal P w K mg base 1 "_law_draw" sp_draw [] :=
  cal T.f_law_draw T.g_law_draw sc_law_draw (fun vs H Q E ⟨_, _, _, e, _⟩ => by rw [e]; rfl) fun cdv A outer s H vs Q E hr ⟨pa, ca, lim, e, hp, hl0, hl1, q⟩ => by
    subst e
    have npc := hp.ne
    obtain ⟨i, n, cs, h1, h2⟩ := hp.ex
    refine ⟨_, (pss_cons (ps_set (i := 2) sc_law_draw.nd rfl (by first | exact Or.inl rfl | exact Or.inr rfl) (pe_ix ix_list (pv 0) pe_int (fun _ _ => rfl)))
  (pss_cons (ps_set (i := 3) sc_law_draw.nd rfl (by first | exact Or.inl rfl | exact Or.inr rfl) (pe_ix ix_list (pv 0) pe_int (fun _ _ => rfl)))
  (pss_cons (ps_asg (pe_op op_add (pe_ix ix_list (pv 0) pe_int (fun _ _ => rfl)) pe_int) (pg_sub (pv 0) pe_int set_list))
  (pss_cons (ps_if (PW.pt (pw_and (pt_cmpR op_lt (pv 3) (pe_callB call_len_seq (by rfl) T.z_len (by decide +kernel) (pa_cons (pv 2) pa_nil)) (nomark _)) (pw_and1 (pt_cmpR op_ge (pe_ix ix_list (pv 2) (pv 3) (fun _ _ => rfl)) (pe_op op_pow pe_int pe_int) (nomark _))))) (pss_cons (ps_set (i := 4) sc_law_draw.nd rfl (by first | exact Or.inl rfl | exact Or.inr rfl) (pe_op op_mod (pe_callTy call_int1 (by rfl) T.z_int (by decide +kernel) (pa_cons (pe_ix ix_list (pv 2) (pv 3) (fun _ _ => rfl)) pa_nil)) (pv 1)))
  (pss_cons (ps_asg (pe_op op_fdiv (pe_ix ix_list (pv 2) (pv 3) (fun _ _ => rfl)) (pv 1)) (pg_sub (pv 2) (pv 3) set_list))
  (pss_cons (ps_if (pt_cmpR op_lt (pe_ix ix_list (pv 2) (pv 3) (fun _ _ => rfl)) (pe_op op_pow pe_int pe_int) (nomark _)) (pss_one (ps_asg (pe_op op_add (pv 3) pe_int) (pg_sub (pv 0) pe_int set_list))) pss_nil)
  (pss_one (ps_ret (pv 4)))))) pss_nil)
  (pss_cons (ps_asg (pe_op op_add (pv 3) pe_int) (pg_sub (pv 0) pe_int set_list))
  (pss_cons (ps_set (i := 5) sc_law_draw.nd rfl (by first | exact Or.inl rfl | exact Or.inr rfl) pe_int)
  (pss_cons (ps_if (pt_cmpR op_gt (pe_callB call_len_seq (by rfl) T.z_len (by decide +kernel) (pa_cons (pv 2) pa_nil)) pe_int (nomark _)) (pss_one (ps_set (i := 5) sc_law_draw.nd rfl (by first | exact Or.inl rfl | exact Or.inr rfl) (pe_ix ix_list (pv 2) (pe_op op_mod (pv 3) (pe_callB call_len_seq (by rfl) T.z_len (by decide +kernel) (pa_cons (pv 2) pa_nil))) (fun _ _ => rfl)))) pss_nil)
  (pss_cons (ps_set (i := 6) sc_law_draw.nd rfl (by first | exact Or.inl rfl | exact Or.inr rfl) (pe_op op_mod (pe_op op_mul (pe_callTy call_int1 (by rfl) T.z_int (by decide +kernel) (pa_cons (pe_op op_add (pe_op op_add (pe_op op_mod (pe_callTy call_int1 (by rfl) T.z_int (by decide +kernel) (pa_cons (pv 5) pa_nil)) pe_int) (pe_op op_mul pe_int (pe_ix ix_list (pv 0) pe_int (fun _ _ => rfl)))) pe_int) pa_nil)) pe_int) pe_int))
  (pss_cons (ps_set (i := 6) sc_law_draw.nd rfl (by first | exact Or.inl rfl | exact Or.inr rfl) (pe_op op_mod (pe_callTy call_int1 (by rfl) T.z_int (by decide +kernel) (pa_cons (pe_op op_mul (pv 6) (pe_op op_add (pe_op op_fdiv (pv 6) pe_int) pe_int)) pa_nil)) pe_int))
  (pss_cons (ps_set (i := 6) sc_law_draw.nd rfl (by first | exact Or.inl rfl | exact Or.inr rfl) (pe_op op_mod (pe_callTy call_int1 (by rfl) T.z_int (by decide +kernel) (pa_cons (pe_op op_mul (pv 6) (pe_op op_add (pe_op op_fdiv (pv 6) pe_int) pe_int)) pa_nil)) pe_int))
  (pss_one (ps_ret (pe_op op_mod (pe_callTy call_int1 (by rfl) T.z_int (by decide +kernel) (pa_cons (pe_op op_fdiv (pv 6) pe_int) pa_nil)) (pv 1)))))))))))))), ?_⟩
    refine ⟨_, rfl, pa, _, 0, .ref ca, rfl, rfl, SqL.of h1, atI_nat (j := 0) rfl, _, rfl, pa, _, 1, .int (i : Nat), rfl, rfl, SqL.of h1, atI_nat (j := 1) rfl, ?_⟩
    refine ⟨_, rfl, pa, _, 2, .int n, rfl, rfl, SqL.of h1, atI_nat (j := 2) rfl, _, _, rfl, rfl, _, rfl, pa, _, 2, 2, rfl, rfl, h1, rfl, ?_⟩
    have h3 : upd H pa (.lst ([V.ref ca, .int (i : Nat), .int n].set 2 (.int (n + 1)))) pa = some (.lst [.ref ca, .int (i : Nat), .int (n + 1)]) := upd_same
    have h4 : upd H pa (.lst ([V.ref ca, .int (i : Nat), .int n].set 2 (.int (n + 1)))) ca = some (.lst (cs.map .int)) := by rw [upd_ne npc.symm]; exact h2
    have fr : ∀ b, b ≠ pa → b ≠ ca → upd H pa (.lst ([V.ref ca, .int (i : Nat), .int n].set 2 (.int (n + 1)))) b = H b := fun b hb _ => upd_ne hb
    generalize upd H pa (.lst ([V.ref ca, .int (i : Nat), .int n].set 2 (.int (n + 1)))) = H1 at h3 h4 fr
    have iat : ∀ {l : List Int} {j : Nat} {c : Int}, l[j]? = some c → atI (l.map V.int) ((j : Nat) : Int) = some (V.int c) := fun {l j c} e => atI_nat (by rw [List.getElem?_map, e]; rfl)
    have fin : ∀ H' (n' : Nat), (∃ (i' : Nat) (m : Int) (cs' : List Int), H' pa = some (.lst [.ref ca, .int (i' : Nat), .int m]) ∧ H' ca = some (.lst (cs'.map .int))) → (∀ b, b ≠ pa → b ≠ ca → H' b = H1 b) → n' < lim → Q (.int (n' : Nat)) H' := fun H' n' a b c => q H' n' ⟨a⟩ (fun x hx hy => (b x hx hy).trans (fr x hx hy)) c
    dsimp only
    by_cases hc : ∃ c, cs[i]? = some c ∧ (10 : Int) ^ (18 : Int).toNat ≤ c
    · obtain ⟨c, hci, hc18⟩ := hc
      have hil := (List.getElem?_eq_some_iff.mp hci).1
      refine if_ans true (fun Q' q' => ?_) ?_
      · refine ⟨_, rfl, _, rfl, ca, _, rfl, .inl (SqL.of h4), _, _, rfl, rfl, true, bl_t (by rw [List.length_map]; omega), iteT ⟨_, rfl, _, rfl, ca, _, (i : Int), .int c, rfl, rfl, SqL.of h4, iat hci, _, _, rfl, rfl, ⟨by decide, by decide, by decide⟩, _, _, rfl, rfl, true, bl_t hc18, q'⟩⟩
      · refine iteT ?_
        obtain ⟨d, hd, ed⟩ := mod_nat c hl0
        refine ⟨_, rfl, _, rfl, ca, _, (i : Int), .int c, rfl, rfl, SqL.of h4, iat hci, .inl ⟨c, rfl, _, rfl, _, _, rfl, rfl, by omega, ?_⟩⟩
        refine ⟨_, rfl, _, rfl, ca, _, (i : Int), .int c, rfl, rfl, SqL.of h4, iat hci, _, rfl, _, _, rfl, rfl, ⟨by omega, by omega⟩, _, rfl, _, rfl, ca, _, (i : Int), i, rfl, rfl, h4, ixN_nat (by rw [List.length_map]; exact hil), ?_⟩
        have h5 : upd H1 ca (.lst ((cs.map V.int).set i (.int (c / (lim : Int))))) ca = some (.lst ((cs.set i (c / (lim : Int))).map V.int)) := by rw [upd_same, List.map_set]
        have h6 : upd H1 ca (.lst ((cs.map V.int).set i (.int (c / (lim : Int))))) pa = some (.lst [.ref ca, .int (i : Nat), .int (n + 1)]) := by rw [upd_ne npc]; exact h3
        have fr5 : ∀ b, b ≠ pa → b ≠ ca → upd H1 ca (.lst ((cs.map V.int).set i (.int (c / (lim : Int))))) b = H1 b := fun b _ hb => upd_ne hb
        generalize upd H1 ca (.lst ((cs.map V.int).set i (.int (c / (lim : Int))))) = H2 at h5 h6 fr5
        have e5 : (cs.set i (c / (lim : Int)))[i]? = some (c / (lim : Int)) := by rw [List.getElem?_set_self hil]
        refine ⟨_, rfl, _, rfl, ca, _, (i : Int), .int (c / (lim : Int)), rfl, rfl, SqL.of h5, iat e5, _, _, rfl, rfl, ⟨by decide, by decide, by decide⟩, _, _, rfl, rfl, ?_⟩
        by_cases hlt : c / (lim : Int) < (10 : Int) ^ (18 : Int).toNat
        · refine ⟨true, bl_t hlt, iteT ?_⟩
          refine ⟨_, rfl, _, _, rfl, rfl, _, rfl, pa, _, 1, 1, rfl, rfl, h6, rfl, ?_⟩
          refine ⟨_, rfl, ?_⟩
          show Q (.int (c % (lim : Int))) _
          rw [ed]
          exact (fin _ d ⟨i + 1, n + 1, _, upd_same, by rw [upd_ne npc.symm]; exact h5⟩ (fun b h1 h2 => by rw [upd_ne h1]; exact fr5 b h1 h2) hd)
        · refine ⟨false, bl_f hlt, iteF ⟨_, rfl, ?_⟩⟩
          show Q (.int (c % (lim : Int))) _
          rw [ed]
          exact fin _ d ⟨i, n + 1, _, h6, h5⟩ fr5 hd
    · refine if_ans false (fun Q' q' => ?_) ?_
      · by_cases hil : i < cs.length
        · have hci : cs[i]? = some cs[i] := List.getElem?_eq_getElem hil
          refine ⟨_, rfl, _, rfl, ca, _, rfl, .inl (SqL.of h4), _, _, rfl, rfl, true, bl_t (by rw [List.length_map]; omega), iteT ⟨_, rfl, _, rfl, ca, _, (i : Int), .int cs[i], rfl, rfl, SqL.of h4, iat hci, _, _, rfl, rfl, ⟨by decide, by decide, by decide⟩, _, _, rfl, rfl, false, bl_f (fun z => hc ⟨_, hci, z⟩), q'⟩⟩
        · exact ⟨_, rfl, _, rfl, ca, _, rfl, .inl (SqL.of h4), _, _, rfl, rfl, false, bl_f (by rw [List.length_map]; omega), iteF q'⟩
      · refine iteF ?_
        refine ⟨_, rfl, _, _, rfl, rfl, _, rfl, pa, _, 1, 1, rfl, rfl, h3, rfl, ?_⟩
        have h5 : upd H1 pa (.lst ([V.ref ca, .int (i : Nat), .int (n + 1)].set 1 (.int ((i : Int) + 1)))) pa = some (.lst [.ref ca, .int ((i + 1 : Nat) : Int), .int (n + 1)]) := upd_same
        have h6 : upd H1 pa (.lst ([V.ref ca, .int (i : Nat), .int (n + 1)].set 1 (.int ((i : Int) + 1)))) ca = some (.lst (cs.map .int)) := by rw [upd_ne npc.symm]; exact h4
        have fr5 : ∀ b, b ≠ pa → b ≠ ca → upd H1 pa (.lst ([V.ref ca, .int (i : Nat), .int (n + 1)].set 1 (.int ((i : Int) + 1)))) b = H1 b := fun b hb _ => upd_ne hb
        generalize upd H1 pa (.lst ([V.ref ca, .int (i : Nat), .int (n + 1)].set 1 (.int ((i : Int) + 1)))) = H2 at h5 h6 fr5
        dsimp only
        by_cases hn : 0 < cs.length
        · refine ⟨_, rfl, ca, _, rfl, .inl (SqL.of h6), _, _, rfl, rfl, true, bl_t (by rw [List.length_map]; omega), iteT ?_⟩
          have hm : i % cs.length < cs.length := Nat.mod_lt _ hn
          have hci : cs[i % cs.length]? = some cs[i % cs.length] := List.getElem?_eq_getElem hm
          have em : (i : Int) % ((cs.map V.int).length : Int) = ((i % cs.length : Nat) : Int) := by rw [List.length_map]; omega
          refine ⟨_, rfl, _, rfl, _, rfl, ca, _, rfl, .inl (SqL.of h6), _, _, rfl, rfl, by rw [List.length_map]; omega, ca, _, _, .int cs[i % cs.length], rfl, rfl, SqL.of h6, by rw [em]; exact iat hci, ?_⟩
          refine ⟨_, rfl, .inl ⟨_, rfl, _, _, rfl, rfl, (by show (0 : Int) < _; omega), _, rfl, pa, _, 2, .int (n + 1), rfl, rfl, SqL.of h5, atI_nat (j := 2) rfl, _, _, rfl, rfl, .inl ⟨by decide, by decide⟩, _, _, rfl, rfl, _, _, rfl, rfl, .inl ⟨_, rfl, _, _, rfl, rfl, .inr ⟨by decide, by decide⟩, _, _, rfl, rfl, (by show (0 : Int) < _; omega), ?_⟩⟩⟩
          have b1 := fun x : Int => Int.emod_nonneg x (show (2147483647 : Int) ≠ 0 by decide)
          have b2 := fun x : Int => Int.emod_lt_of_pos x (show (0 : Int) < 2147483647 by decide)
          refine ⟨_, rfl, _, rfl, _, _, rfl, rfl, ⟨by decide, by decide⟩, _, _, rfl, rfl, _, _, rfl, rfl, .inl (cm (b1 _) (b2 _)), .inl ⟨_, rfl, _, _, rfl, rfl, (by show (0 : Int) < _; omega), ?_⟩⟩
          refine ⟨_, rfl, _, rfl, _, _, rfl, rfl, ⟨by decide, by decide⟩, _, _, rfl, rfl, _, _, rfl, rfl, .inl (cm (b1 _) (b2 _)), .inl ⟨_, rfl, _, _, rfl, rfl, (by show (0 : Int) < _; omega), ?_⟩⟩
          refine ⟨_, rfl, _, _, rfl, rfl, ⟨by decide, by decide⟩, .inl ⟨_, rfl, _, rfl, _, _, rfl, rfl, by omega, ?_⟩⟩
          have key : ∀ x : Int, Q (.int (x % (lim : Int))) H2 := fun x => by
            obtain ⟨d, hd, ed⟩ := mod_nat x hl0
            rw [ed]
            exact fin _ d ⟨i + 1, n + 1, cs, h5, h6⟩ fr5 hd
          exact key _
        · refine ⟨_, rfl, ca, _, rfl, .inl (SqL.of h6), _, _, rfl, rfl, false, bl_f (by rw [List.length_map]; omega), iteF ?_⟩
          refine ⟨_, rfl, .inl ⟨_, rfl, _, _, rfl, rfl, (by show (0 : Int) < _; omega), _, rfl, pa, _, 2, .int (n + 1), rfl, rfl, SqL.of h5, atI_nat (j := 2) rfl, _, _, rfl, rfl, .inl ⟨by decide, by decide⟩, _, _, rfl, rfl, _, _, rfl, rfl, .inl ⟨_, rfl, _, _, rfl, rfl, .inr ⟨by decide, by decide⟩, _, _, rfl, rfl, (by show (0 : Int) < _; omega), ?_⟩⟩⟩
          have b1 := fun x : Int => Int.emod_nonneg x (show (2147483647 : Int) ≠ 0 by decide)
          have b2 := fun x : Int => Int.emod_lt_of_pos x (show (0 : Int) < 2147483647 by decide)
          refine ⟨_, rfl, _, rfl, _, _, rfl, rfl, ⟨by decide, by decide⟩, _, _, rfl, rfl, _, _, rfl, rfl, .inl (cm (b1 _) (b2 _)), .inl ⟨_, rfl, _, _, rfl, rfl, (by show (0 : Int) < _; omega), ?_⟩⟩
          refine ⟨_, rfl, _, rfl, _, _, rfl, rfl, ⟨by decide, by decide⟩, _, _, rfl, rfl, _, _, rfl, rfl, .inl (cm (b1 _) (b2 _)), .inl ⟨_, rfl, _, _, rfl, rfl, (by show (0 : Int) < _; omega), ?_⟩⟩
          refine ⟨_, rfl, _, _, rfl, rfl, ⟨by decide, by decide⟩, .inl ⟨_, rfl, _, rfl, _, _, rfl, rfl, by omega, ?_⟩⟩
          have key : ∀ x : Int, Q (.int (x % (lim : Int))) H2 := fun x => by
            obtain ⟨d, hd, ed⟩ := mod_nat x hl0
            rw [ed]
            exact fin _ d ⟨i + 1, n + 1, cs, h5, h6⟩ fr5 hd
          exact key _
end
end TW
set_option maxHeartbeats 4000000
/-! ## the law: what is drawn -/
namespace TW
open PySem PySem.Spec PyProof.Rows L2 TwN
section
variable {P : Program} {w : World} {K : PySem.W.Frag} {mg : Str → Option Value} {base h : Heap}
def sp_pick : Sp := fun vs H Q _ => ∃ (pa ca la : Addr) (xs : List V), vs = [.ref pa, .ref la] ∧ Pool H pa ca ∧ la ≠ pa ∧ la ≠ ca ∧ H la = some (.lst xs) ∧ 0 < xs.length ∧ xs.length < 1000000 ∧ ∀ H' v, Pool H' pa ca → (∀ b, b ≠ pa → b ≠ ca → H' b = H b) → v ∈ xs → Q v H'
theorem p_law_pick (T : Tx w K mg h) : C8.Cal P w K mg base 2 "_law_pick" sp_pick [] :=
  cal T.f_law_pick T.g_law_pick sc_law_pick (fun vs H Q E ⟨_, _, _, _, e, _⟩ => by rw [e]; rfl) fun cdv A outer s H vs Q E hr ⟨pa, ca, la, xs, e, hp, n1, n2, hl, h0, h1, q⟩ => by
    subst e
    refine ⟨_, (pss_one (ps_ret (pe_ix ix_list (pv 1) (C8.pe_c (p_law_draw T) hr (by decide) (by rfl) (pa_cons (pv 0) (pa_cons (pe_callB call_len_seq (by rfl) T.z_len (by decide +kernel) (pa_cons (pv 1) pa_nil)) pa_nil))) (fun _ _ => rfl)))), ?_⟩
    refine ⟨_, rfl, _, rfl, _, rfl, la, xs, rfl, .inl (SqL.of hl), pa, ca, xs.length, rfl, hp, h0, by omega, fun H' n hp' fr hn => ?_⟩
    exact ⟨la, xs, (n : Int), xs[n], rfl, rfl, SqL.of ((fr la n1 n2).trans hl), atI_nat (List.getElem?_eq_getElem hn), q H' _ hp' fr (List.getElem_mem hn)⟩
def sp_lvalue : Sp := fun vs H Q _ => ∃ (pa ca : Addr) (n : Nat), vs = [.ref pa, .int (n : Nat)] ∧ Pool H pa ca ∧ n ≤ 1000 ∧ ∀ H' (v : Option Nat), Pool H' pa ca → (∀ b, b ≠ pa → b ≠ ca → H' b = H b) → (∀ j, v = some j → j < n) → Q (oV v) H'
theorem p_law_value (T : Tx w K mg h) : C8.Cal P w K mg base 2 "_law_value" sp_lvalue [] :=
  cal T.f_law_value T.g_law_value sc_law_value (fun vs H Q E ⟨_, _, _, e, _⟩ => by rw [e]; rfl) fun cdv A outer s H vs Q E hr ⟨pa, ca, n, e, hp, hn, q⟩ => by
    subst e
    refine ⟨_, (pss_cons (ps_set (i := 2) sc_law_value.nd rfl (by first | exact Or.inl rfl | exact Or.inr rfl) (C8.pe_c (p_law_draw T) hr (by decide) (by rfl) (pa_cons (pv 0) (pa_cons (pe_op op_add (pe_op op_mul pe_int (pv 1)) pe_int) pa_nil))))
  (pss_cons (ps_if (pt_cmpR op_ge (pv 2) (pe_op op_mul pe_int (pv 1)) (nomark _)) (pss_one (ps_ret pe_non)) pss_nil)
  (pss_one (ps_ret (pe_op op_mod (pe_callTy call_int1 (by rfl) T.z_int (by decide +kernel) (pa_cons (pv 2) pa_nil)) (pv 1)))))), ?_⟩
    refine ⟨_, rfl, _, rfl, _, _, rfl, rfl, .inl ⟨by decide, by decide⟩, _, _, rfl, rfl, pa, ca, 5 * n + 1, rfl, hp, by omega, by omega, fun H' d hp' fr hd => ?_⟩
    refine ⟨_, rfl, _, rfl, _, _, rfl, rfl, .inl ⟨by decide, by decide⟩, _, _, rfl, rfl, ?_⟩
    by_cases h4 : 4 * n ≤ d
    · exact ⟨true, bl_t (by omega), iteT (q H' none hp' fr fun j z => by cases z)⟩
    · refine ⟨false, bl_f (by omega), iteF ⟨_, rfl, .inl ⟨_, rfl, _, rfl, _, _, rfl, rfl, (by show (0 : Int) < _; omega), ?_⟩⟩⟩
      have e : ((d : Nat) : Int) % ((n : Nat) : Int) = ((d % n : Nat) : Int) := by omega
      show Q (.int (((d : Nat) : Int) % ((n : Nat) : Int))) H'
      rw [e]
      exact q H' (some (d % n)) hp' fr fun j z => by
        cases z
        exact Nat.mod_lt _ (by omega)
end
end TW
set_option maxHeartbeats 4000000
/-! ## the law: words that are drawn -/
namespace TW
open PySem PySem.Spec PyProof.Rows L2 TwN
theorem glue_list : ∀ (r : List Nat) (acc : Array Nat), ((r.map fun c => (⟨#[c]⟩ : Str)).foldl (fun (acc : Array Nat) (p : Str) => acc ++ (Str.ofString "").cps ++ p.cps) acc).toList = acc.toList ++ r
  | [], acc => by simp
  | c :: r, acc => by
    rw [List.map_cons, List.foldl_cons, glue_list r]
    have : (Str.ofString "").cps = #[] := by decide
    rw [this]
    simp
theorem join_letters (cs : List Nat) : (Txt.join "" (cs.map fun c => (⟨#[c]⟩ : Str))).cps.toList = cs := by
  cases cs with
  | nil => rfl
  | cons c r =>
    show ((r.map fun c => (⟨#[c]⟩ : Str)).foldl (fun (acc : Array Nat) (p : Str) => acc ++ (Str.ofString "").cps ++ p.cps) #[c]).toList = c :: r
    rw [glue_list]
    rfl
theorem sum_ones : ∀ cs : List Nat, ((cs.map fun c => (⟨#[c]⟩ : Str)).map (·.length)).sum = cs.length
  | [] => rfl
  | c :: r => by
    rw [List.map_cons, List.map_cons, List.sum_cons, sum_ones r]
    show 1 + r.length = r.length + 1
    omega
def rep8 (c : Nat) : Str := ⟨#[c, c, c, c, c, c, c, c]⟩
theorem mul8 (c : Nat) : Txt.mul ⟨#[c]⟩ 8 = rep8 c := rfl
theorem mulOk8 (c : Nat) : MulOk ⟨#[c]⟩ 8 := ⟨by decide, fun _ _ => by show ¬ ((1 : Nat) : Int) > (2 ^ 63 - 1) / 8; decide, fun _ _ => by rfl⟩
theorem rep8_inj {a b : Nat} (h : rep8 a = rep8 b) : a = b := by
  unfold rep8 at h
  injection h with h
  injection h with h
  injection h
theorem rep8_good {c : Nat} (h : 97 ≤ c ∧ c ≤ 122) : GoodW (rep8 c) := ⟨by show 1 ≤ 8; decide, by show 8 ≤ 8; decide, fun x hx => by
  have : x = c := by simpa [rep8] using hx
  rw [this]; exact h⟩
def abc : Str := Str.ofString "abcdefghijklmnopqrstuvwxyz"
theorem abc_at {i : Nat} (h : i < 26) : abc.cps[i]? = some (97 + i) := by
  have : ∀ k : Fin 26, abc.cps[k.val]? = some (97 + k.val) := by decide +kernel
  exact this ⟨i, h⟩
theorem abc_len : abc.cps.size = 26 := by decide +kernel
section
variable {P : Program} {w : World} {K : PySem.W.Frag} {mg : Str → Option Value} {base h : Heap}
def sp_word : Sp := fun vs H Q _ => ∃ (pa ca ta : Addr) (ts : List Str), vs = [.ref pa, .ref ta] ∧ Pool H pa ca ∧ ta ≠ pa ∧ ta ≠ ca ∧ H ta = some (.lst (ts.map .str)) ∧ ts.length ≤ 25 ∧ ∀ H' x, Pool H' pa ca → PX pa ca H H' → GoodW x → x ∉ ts → Q (.str x) H'
theorem p_law_word (T : Tx w K mg h) : C8.Cal P w K mg base 2 "_law_word" sp_word [] :=
  cal T.f_law_word T.g_law_word sc_law_word (fun vs H Q E ⟨_, _, _, _, e, _⟩ => by rw [e]; rfl) fun cdv A outer s H vs Q E hr ⟨pa, ca, ta, ts, e, hp, n1, n2, ht, hl, q⟩ => by
    subst e
    refine ⟨_, (pss_cons (ps_set (i := 2) sc_law_word.nd rfl (by first | exact Or.inl rfl | exact Or.inr rfl) pe_str)
  (pss_cons (ps_set (i := 3) sc_law_word.nd rfl (by first | exact Or.inl rfl | exact Or.inr rfl) (pe_op op_add pe_int (C8.pe_c (p_law_draw T) hr (by decide) (by rfl) (pa_cons (pv 0) (pa_cons pe_int pa_nil)))))
  (pss_cons (ps_set (i := 4) sc_law_word.nd rfl (by first | exact Or.inl rfl | exact Or.inr rfl) (pe_join pe_str (by exact (pe_lc (own := [("_law_k", 5)]) (g := gName 5) (by rfl) sc_law_word.nd (pi_range1 (by rfl) T.z_range (pa_cons (pv 3) pa_nil)) (blkOk_by (own := [("_law_k", 5)]) (N := ["_law_pool", "_law_taken", "_law_letters", "_law_size", "_law_word_here", "_law_k", "_law_letter"]) (sc := defScope s_law_word) (by decide +kernel)) (fun _ _ _ _ _ => (pg_name (i := 5) sc_law_word.nd rfl (by first | exact Or.inl rfl | exact Or.inr rfl))) (fun _ _ _ _ _ => pts_nil) (fun _ _ _ _ _ => (by exact (pe_item_str (pv 2) (C8.pe_c (p_law_draw T) hr (by decide) (by rfl) (pa_cons (pv 0) (pa_cons pe_int pa_nil))) (fun _ _ => rfl))))))))
  (pss_cons (ps_if (pt_cmpR op_notIn_seq (pv 4) (pv 1) (by with_unfolding_all rfl)) (pss_one (ps_ret (pv 4))) pss_nil)
  (pss_cons (ps_for PassesOwn.never (by rfl) (pi_str (pv 2)) (pg_name (i := 6) sc_law_word.nd rfl (by first | exact Or.inl rfl | exact Or.inr rfl))
  (pss_one (ps_if (pt_cmpR op_notIn_seq (pe_op op_mul_str (pv 6) pe_int) (pv 1) (by with_unfolding_all rfl)) (pss_one (ps_ret (pe_op op_mul_str (pv 6) pe_int))) pss_nil)))
  (pss_one (ps_ret (pv 4)))))))), ?_⟩
    refine ⟨_, rfl, pa, ca, 8, rfl, hp, by omega, by omega, fun H1 d hp1 fr1 hd => ⟨_, _, rfl, rfl, ?_⟩⟩
    have x1 : PX pa ca H H1 := fun b o h1 h2 e => (fr1 b h1 h2).trans e
    refine ⟨⟨_, rfl⟩, _, rfl, _, rfl, by omega, by omega, fun D nD => lc_it walk_range (fun i H' => ∃ cs : List Nat, H' D = some (.lst ((cs.map fun c => (⟨#[c]⟩ : Str)).map .str)) ∧ cs.length = i ∧ (∀ c ∈ cs, 97 ≤ c ∧ c ≤ 122) ∧ Pool H' pa ca ∧ PX pa ca H1 H') ⟨[], upd_same, rfl, (fun c hc => by cases hc), hp1.ext (Ext.upd nD), PX.of (Ext.upd nD)⟩ (fun _ _ _ _ => trivial)
      (fun i v Hz H2 hi ⟨cs, hD, hcl, hcs, hp2, x2⟩ ⟨e2, ev⟩ => ?_) fun H2 ⟨cs, hD, hcl, hcs, hp2, x2⟩ => ?_⟩
    · subst e2
      have nDp : D ≠ pa := fun z => by
        obtain ⟨_, _, _, h1, _⟩ := hp1.ex
        rw [z, h1] at nD
        cases nD
      have nDc : D ≠ ca := fun z => by
        obtain ⟨_, _, _, _, h1⟩ := hp1.ex
        rw [z, h1] at nD
        cases nD
      have hi : i < (1 + (d : Int)).toNat := hi
      refine ⟨rfl, _, rfl, _, rfl, pa, ca, 26, rfl, hp2, by omega, by omega, fun H3 n hp3 fr3 hn => ⟨_, (n : Int), 97 + n, rfl, rfl, by omega, by omega, by show (n : Int) < ((26 : Nat) : Int); omega, abc_at hn, _, (fr3 D nDp nDc).trans hD, ?_, cs ++ [97 + n], ?_, ?_, ?_, ?_, ?_⟩⟩
      · rw [List.length_map, List.length_map]
        exact small_lt (by omega)
      · rw [upd_same, List.map_append, List.map_append]
        rfl
      · rw [List.length_append, hcl]; rfl
      · intro c hc
        rcases List.mem_append.mp hc with hc | hc
        · exact hcs c hc
        · rw [List.mem_singleton.mp hc]; omega
      · exact hp3.keep (upd_ne nDp.symm) (upd_ne nDc.symm)
      · intro b o h1 h2 e
        rw [upd_ne (ne_of_none e nD), fr3 b h1 h2]
        exact x2 b o h1 h2 e
    · have hcl2 : cs.length = 1 + d := by rw [hcl]; omega
      have gw : GoodW (Txt.join "" (cs.map fun c => (⟨#[c]⟩ : Str))) := by
        have e := join_letters cs
        have el : (Txt.join "" (cs.map fun c => (⟨#[c]⟩ : Str))).length = cs.length := by
          have e2 := congrArg List.length e
          simpa [Str.length] using e2
        exact ⟨by rw [el]; omega, by rw [el]; omega, fun c hc => hcs c (by rw [e] at hc; exact hc)⟩
      refine ⟨"", D, cs.map (fun c => ⟨#[c]⟩), rfl, rfl, .inl (SqL.of hD), ?_, ?_⟩
      · rw [sum_ones, List.length_map]
        show cs.length + cs.length * 0 ≤ _
        omega
      generalize Txt.join "" (cs.map fun c => (⟨#[c]⟩ : Str)) = x at gw
      have x2' := x1.trans x2
      have ht2 := x2' _ _ n1 n2 ht
      refine ⟨_, rfl, _, rfl, ta, _, rfl, .inl (SqL.of ht2), rfl, all_flat ts, ?_⟩
      by_cases hx : x ∈ ts
      · rw [inV_yes hx]
        refine ⟨false, rfl, iteF ?_⟩
        refine ⟨_, rfl, abc, rfl, for_it walk_str (fun i σ' H' => ∃ (a5 a6 : Option V), σ' = [some (.ref pa), some (.ref ta), some (.str abc), some (.int (1 + (d : Int))), some (.str x), a5, a6] ∧ H' = H2 ∧ ∀ k, k < i → rep8 (97 + k) ∈ ts) ⟨_, _, rfl, rfl, fun k hk => absurd hk (Nat.not_lt_zero _)⟩ (fun _ _ _ _ _ => trivial)
          (fun i v σ' Hz H3 hi ⟨a5, a6, e1, e2, hk⟩ ⟨e3, c, hc, e4⟩ => ?_) fun σ' H3 ⟨a5, a6, e1, e2, hk⟩ => ?_⟩
        · subst e1 e2 e3 e4
          have hi26 : i < 26 := by rw [← abc_len]; exact hi
          rw [abc_at hi26] at hc
          have ec : c = 97 + i := (Option.some.inj hc).symm
          subst ec
          refine ⟨_, rfl, _, 8, rfl, rfl, mulOk8 _, _, rfl, ta, _, rfl, .inl (SqL.of ht2), rfl, all_flat ts, ?_⟩
          rw [mul8]
          by_cases hm : rep8 (97 + i) ∈ ts
          · rw [inV_yes hm]
            refine ⟨false, rfl, iteF ⟨_, _, rfl, rfl, fun k hk' => ?_⟩⟩
            by_cases e : k = i
            · rw [e]; exact hm
            · exact hk k (by omega)
          · rw [inV_no hm]
            exact ⟨true, rfl, iteT ⟨_, rfl, _, 8, rfl, rfl, mulOk8 _, q _ _ hp2 x2' (show GoodW (rep8 (97 + i)) from rep8_good ⟨by omega, by omega⟩) hm⟩⟩
        · exfalso
          have h26 : ∀ k, k < 26 → rep8 (97 + k) ∈ ts := fun k hk' => hk k (by rw [abc_len]; exact hk')
          have nd : ((List.range 26).map fun k => rep8 (97 + k)).Nodup := List.Pairwise.map _ (fun a b h e => h (by have := rep8_inj e; omega)) List.nodup_range
          have := nodup_le nd (d := ts) fun y hy => by
            obtain ⟨k, hk', rfl⟩ := List.mem_map.mp hy
            exact h26 k (List.mem_range.mp hk')
          rw [List.length_map, List.length_range] at this
          omega
      · rw [inV_no hx]
        exact ⟨true, rfl, iteT ⟨_, rfl, q _ _ hp2 x2' gw hx⟩⟩
end
end TW
set_option maxHeartbeats 4000000
/-! ## the law: words, objects, names -/
namespace TW
open PySem PySem.Spec PyProof.Rows L2 TwN
theorem Pool.off {H : Hp} {pa ca D : Addr} (h : Pool H pa ca) (nD : H D = none) : D ≠ pa ∧ D ≠ ca := by
  obtain ⟨_, _, _, h1, h2⟩ := h.ex
  exact ⟨fun z => (by rw [z, h1] at nD; cases nD), fun z => (by rw [z, h2] at nD; cases nD)⟩
/-- something new is stored anew -/
theorem PX.set {pa ca D : Addr} {H H' : Hp} {o : HO} (a : PX pa ca H H') (nD : H D = none) : PX pa ca H (upd H' D o) := fun b u h1 h2 e => by
  rw [upd_ne (ne_of_none e nD)]
  exact a b u h1 h2 e
theorem Pool.set {H : Hp} {pa ca D : Addr} {o : HO} (h : Pool H pa ca) (h1 : D ≠ pa) (h2 : D ≠ ca) : Pool (upd H D o) pa ca := h.keep (upd_ne h1.symm) (upd_ne h2.symm)
section
variable {P : Program} {w : World} {K : PySem.W.Frag} {mg : Str → Option Value} {base h : Heap}
def sp_words : Sp := fun vs H Q _ => ∃ (pa ca : Addr) (lo hi : Nat), vs = [.ref pa, .int (lo : Nat), .int (hi : Nat)] ∧ Pool H pa ca ∧ lo ≤ hi ∧ hi ≤ 20 ∧ ∀ (H' : L2.Hp) (D : Addr) (ws : List Str), Pool H' pa ca → PX pa ca H H' → H D = none → H' D = some (.lst (ws.map .str)) → ws.Nodup → (∀ x ∈ ws, GoodW x) → lo ≤ ws.length → ws.length ≤ hi → Q (.ref D) H'
theorem p_law_words (T : Tx w K mg h) : C8.Cal P w K mg base 3 "_law_words" sp_words [] :=
  cal T.f_law_words T.g_law_words sc_law_words (fun vs H Q E ⟨_, _, _, _, e, _⟩ => by rw [e]; rfl) fun cdv A outer s H vs Q E hr ⟨pa, ca, lo, hi, e, hp, hlh, hhi, q⟩ => by
    subst e
    refine ⟨_, (pss_cons (ps_set (i := 3) sc_law_words.nd rfl (by first | exact Or.inl rfl | exact Or.inr rfl) (pe_lst pa_nil))
  (pss_cons (ps_for PassesOwn.never (by rfl) (pi_range1 (by rfl) T.z_range (pa_cons (pe_op op_add (pv 1) (C8.pe_c (p_law_draw T) hr (by decide) (by rfl) (pa_cons (pv 0) (pa_cons (pe_op op_add (pe_op op_sub (pv 2) (pv 1)) pe_int) pa_nil)))) pa_nil)) (pg_name (i := 4) sc_law_words.nd rfl (by first | exact Or.inl rfl | exact Or.inr rfl))
  (pss_one (ps_expr (pe_bm PySem.F.plainAttrs_list PySem.F.slot_list_append PySem.F.type_list_append mt_append (pv 3) (pa_cons (C8.pe_c (p_law_word T) hr (by decide) (by rfl) (pa_cons (pv 0) (pa_cons (pv 3) pa_nil))) pa_nil)))))
  (pss_one (ps_ret (pv 3))))), ?_⟩
    refine ⟨by show 0 ≤ sizeLine; decide, fun D nD => ?_⟩
    obtain ⟨dp, dc⟩ := hp.off nD
    have hp0 : Pool (upd H D (.lst [])) pa ca := hp.set dp dc
    have x0 : PX pa ca H (upd H D (.lst [])) := PX.rfl'.set nD
    have hD0 : upd H D (.lst []) D = some (.lst []) := upd_same
    generalize upd H D (.lst []) = H0 at hp0 x0 hD0
    refine ⟨_, rfl, _, rfl, _, rfl, _, rfl, _, _, rfl, rfl, _, _, rfl, rfl, pa, ca, hi - lo + 1, by rw [show (((hi - lo + 1 : Nat) : Nat) : Int) = (hi : Int) - (lo : Int) + 1 by omega]; rfl, hp0, by omega, by omega, fun H1 d hp1 fr1 hd => ?_⟩
    refine ⟨_, _, rfl, rfl, _, rfl, by omega, by omega, for_it walk_range (fun i σ' H' => ∃ (a4 : Option V) (ws : List Str), σ' = [some (.ref pa), some (.int (lo : Nat)), some (.int (hi : Nat)), some (.ref D), a4] ∧ Pool H' pa ca ∧ PX pa ca H H' ∧ H' D = some (.lst (ws.map .str)) ∧ ws.Nodup ∧ (∀ x ∈ ws, GoodW x) ∧ ws.length = i)
      ⟨_, [], rfl, hp1, x0.trans (fun b o h1 h2 e => (fr1 b h1 h2).trans e), (fr1 D dp dc).trans hD0, List.nodup_nil, (fun x hx => by cases hx), rfl⟩ (fun _ _ _ _ _ => trivial) (fun i v σ' Hz H2 hi2 ⟨a4, ws, e1, hp2, x2, hD2, nd, gd, hl⟩ ⟨e2, ev⟩ => ?_) fun σ' H2 ⟨a4, ws, e1, hp2, x2, hD2, nd, gd, hl⟩ => ?_⟩
    · subst e1 e2
      have hi3 : i < ((lo : Int) + (d : Int)).toNat := hi2
      refine ⟨_, rfl, .inl ⟨rfl, _, SqL.of hD2⟩, _, rfl, _, rfl, pa, ca, D, ws, rfl, hp2, dp, dc, hD2, by omega, fun H3 x hp3 x3 gx nx => ⟨D, _, _, rfl, rfl, x3 _ _ dp dc hD2, ?_, _, ws ++ [x], rfl, hp3.set dp dc, (x2.trans x3).set nD, ?_, ?_, ?_, ?_⟩⟩
      · rw [List.length_map]
        exact small_lt (by omega)
      · rw [upd_same, List.map_append]
        rfl
      · rw [List.nodup_append]
        exact ⟨nd, by simp, fun a ha b hb e => nx (by rw [List.mem_singleton.mp hb] at e; exact e ▸ ha)⟩
      · intro y hy
        rcases List.mem_append.mp hy with hy | hy
        · exact gd y hy
        · rw [List.mem_singleton.mp hy]; exact gx
      · rw [List.length_append, hl]; rfl
    · subst e1
      exact ⟨_, rfl, q H2 D ws hp2 x2 nD hD2 nd gd (by rw [hl]; omega) (by rw [hl]; omega)⟩
end
end TW
set_option maxHeartbeats 4000000
/-! ## the law: objects, names -/
namespace TW
open PySem PySem.Spec PyProof.Rows L2 TwN
section
variable {P : Program} {w : World} {K : PySem.W.Frag} {mg : Str → Option Value} {base h : Heap}
theorem itemKV_put {fs : List Str} (nd : fs.Nodup) {g : Str → Option Nat} {j : Nat} {f : Str} (hf : fs[j]? = some f) (v : Option Nat) : putK (itemKV (fs.take j) g) (strK f) (oV v) = itemKV (fs.take (j + 1)) (fun x => if x = f then v else g x) := by
  unfold itemKV
  rw [kvF_nodup nd hf]
  exact kvF_congr fun x _ => by by_cases e : x = f <;> simp [e]
theorem ObjsOk.upto {H : Hp} {fs : List Str} {n : Nat} {ob ob' : Nat → Str → Option Nat} {os : List V} (h : ObjsOk H fs n ob os) (e : ∀ i, i < n → ∀ f ∈ fs, ob' i f = ob i f) : ObjsOk H fs n ob' os :=
  ⟨h.1, fun i hi => by
    obtain ⟨a, h1, h2⟩ := h.2 i hi
    refine ⟨a, h1, ?_⟩
    rw [h2]
    exact congrArg (fun z => some (HO.dK z)) (kvF_congr fun f hf => by
      show oV (ob i f) = oV (ob' i f)
      rw [e i hi f hf])⟩
def sp_lobjects : Sp := fun vs H Q _ => ∃ (pa ca fa : Addr) (fs : List Str) (n : Nat), vs = [.ref pa, .ref fa, .int (n : Nat)] ∧ Pool H pa ca ∧ fa ≠ pa ∧ fa ≠ ca ∧ H fa = some (.lst (fs.map .str)) ∧ fs.Nodup ∧ fs.length ≤ 10 ∧ n ≤ 100 ∧
  ∀ (H' : L2.Hp) (D : Addr) (os : List V) (ob : Nat → Str → Option Nat), Pool H' pa ca → PX pa ca H H' → H D = none → H' D = some (.lst os) → ObjsOk H' fs n ob os → (∀ i f j, i < n → f ∈ fs → ob i f = some j → j < n) → (∀ a, V.ref a ∈ os → H a = none) → Q (.ref D) H'
theorem p_law_objects (T : Tx w K mg h) : C8.Cal P w K mg base 3 "_law_objects" sp_lobjects [] :=
  cal T.f_law_objects T.g_law_objects sc_law_objects (fun vs H Q E ⟨_, _, _, _, _, e, _⟩ => by rw [e]; rfl) fun cdv A outer s H vs Q E hr ⟨pa, ca, fa, fs, n, e, hp, n1, n2, hfa, nd, hfl, hn, q⟩ => by
    subst e
    refine ⟨_, (pss_cons (ps_set (i := 3) sc_law_objects.nd rfl (by first | exact Or.inl rfl | exact Or.inr rfl) (pe_lst pa_nil))
  (pss_cons (ps_for PassesOwn.never (by rfl) (pi_range1 (by rfl) T.z_range (pa_cons (pv 2) pa_nil)) (pg_name (i := 4) sc_law_objects.nd rfl (by first | exact Or.inl rfl | exact Or.inr rfl))
  (pss_cons (ps_set (i := 5) sc_law_objects.nd rfl (by first | exact Or.inl rfl | exact Or.inr rfl) pe_dnewK)
  (pss_cons (ps_for PassesOwn.never (by rfl) (pi_list (pv 1)) (pg_name (i := 6) sc_law_objects.nd rfl (by first | exact Or.inl rfl | exact Or.inr rfl))
  (pss_one (ps_dput (hu_of hr) (pv 5) (pv 6) (C8.pe_c (p_law_value T) hr (by decide) (by rfl) (pa_cons (pv 0) (pa_cons (pv 2) pa_nil))) (by rfl))))
  (pss_one (ps_expr (pe_bm PySem.F.plainAttrs_list PySem.F.slot_list_append PySem.F.type_list_append mt_append (pv 3) (pa_cons (pv 5) pa_nil)))))))
  (pss_one (ps_ret (pv 3))))), ?_⟩
    refine ⟨by show 0 ≤ sizeLine; decide, fun D nD => ?_⟩
    obtain ⟨dp, dc⟩ := hp.off nD
    have hp0 : Pool (upd H D (.lst [])) pa ca := hp.set dp dc
    have x0 : PX pa ca H (upd H D (.lst [])) := PX.rfl'.set nD
    have hD0 : upd H D (.lst []) D = some (.lst []) := upd_same
    generalize upd H D (.lst []) = H0 at hp0 x0 hD0
    refine ⟨_, rfl, _, rfl, by omega, by omega, for_it walk_range (fun i σ' H' => ∃ (a4 a5 a6 : Option V) (os : List V) (ob : Nat → Str → Option Nat), σ' = [some (.ref pa), some (.ref fa), some (.int (n : Nat)), some (.ref D), a4, a5, a6] ∧ Pool H' pa ca ∧ PX pa ca H H' ∧ H' D = some (.lst os) ∧ ObjsOk H' fs i ob os ∧ (∀ k f j, k < i → f ∈ fs → ob k f = some j → j < n) ∧ (∀ a, V.ref a ∈ os → H a = none))
      ⟨_, _, _, [], fun _ _ => none, rfl, hp0, x0, hD0, ⟨rfl, fun i hi => absurd hi (Nat.not_lt_zero _)⟩, (fun k f j hk => absurd hk (Nat.not_lt_zero _)), (fun a ha => by cases ha)⟩ (fun _ _ _ _ _ => trivial) (fun i v σ' Hz H1 hi ⟨a4, a5, a6, os, ob, e1, hp1, x1, hD1, ho1, hb1, hf1⟩ ⟨e2, ev⟩ => ?_) fun σ' H1 ⟨a4, a5, a6, os, ob, e1, hp1, x1, hD1, ho1, hb1, hf1⟩ => ?_⟩
    · subst e1 e2 ev
      have hi : i < n := by simpa using hi
      refine fun d nd1 => ?_
      obtain ⟨ddp, ddc⟩ := hp1.off nd1
      have ndD : d ≠ D := (ne_of_none hD1 nd1).symm
      have x12 : Ext H1 (upd H1 d (.dK [])) := Ext.upd nd1
      have hp2 : Pool (upd H1 d (.dK [])) pa ca := hp1.ext x12
      have hd2 : upd H1 d (.dK []) d = some (.dK []) := upd_same
      generalize upd H1 d (.dK []) = H2 at x12 hp2 hd2
      refine ⟨_, rfl, fa, rfl, ⟨_, SqL.of (x12 _ _ (x1 _ _ n1 n2 hfa))⟩, for_it (walk_list (xs := fs.map .str)) (fun j σ' H' => ∃ (a6 : Option V) (g : Str → Option Nat), σ' = [some (.ref pa), some (.ref fa), some (.int (n : Nat)), some (.ref D), some (.int (0 + (i : Nat))), some (.ref d), a6] ∧ Pool H' pa ca ∧ PX pa ca H1 H' ∧ H' d = some (.dK (itemKV (fs.take j) g)) ∧ (∀ f j, g f = some j → j < n))
        ⟨_, fun _ => none, rfl, hp2, PX.of x12, hd2, (fun f j z => by cases z)⟩ (fun _ _ _ _ ⟨_, _, _, _, x, _⟩ => SqL.of (x _ _ n1 n2 (x1 _ _ n1 n2 hfa))) (fun j v σ' Hz H3 hj ⟨a6, g, e1, hp3, x3, hd3, hg3⟩ ⟨e2, ev⟩ => ?_) fun σ' H3 ⟨a6, g, e1, hp3, x3, hd3, hg3⟩ => ?_⟩
      · subst e1 e2
        obtain ⟨f, hf, rfl⟩ := map_at ev
        refine ⟨_, rfl, _, rfl, pa, ca, n, rfl, hp3, by omega, fun H4 v hp4 fr4 hv => ?_⟩
        have hd4 := (fr4 d ddp ddc).trans hd3
        refine ⟨_, rfl, _, rfl, d, _, rfl, DPut.k (k := strK f) hd4 (by unfold itemKV; rw [kvF_len, List.length_take]; exact small_lt (by omega)), _, fun x => if x = f then v else g x, rfl, hp4.set ddp ddc, (x3.trans fun b o h1 h2 e => (fr4 b h1 h2).trans e).set nd1, by rw [upd_same, itemKV_put nd hf], fun x k hk => ?_⟩
        have hk : (if x = f then v else g x) = some k := hk
        by_cases e : x = f
        · rw [if_pos e] at hk; exact hv k hk
        · rw [if_neg e] at hk; exact hg3 x k hk
      · subst e1
        have ef : fs.take (fs.map V.str).length = fs := by rw [List.length_map, List.take_length]
        rw [ef] at hd3
        have hD3 := x3 _ _ dp dc hD1
        refine ⟨_, rfl, .inl ⟨rfl, _, SqL.of hD3⟩, _, rfl, D, os, _, rfl, rfl, hD3, small_lt (by rw [ho1.1]; omega), _, _, _, os ++ [.ref d], fun k => if k = i then g else ob k, rfl, hp3.set dp dc, (x1.trans x3).set nD, upd_same, ?_, ?_, ?_⟩
        · refine ObjsOk.keepL ?_ hD3
          refine ObjsOk.push (i := i) ?_ (by rw [hd3, if_pos rfl])
          refine (ho1.of fun k a hk ha => ?_).upto fun k hk f hf => by rw [if_neg (by omega)]
          obtain ⟨b, g1, g2⟩ := ho1.2 k hk
          have : a = b := by
            have := ha.symm.trans g1
            injection this with this
            injection this
          subst this
          have na := hf1 a (List.mem_of_getElem? ha)
          obtain ⟨q1, q2⟩ := hp.off na
          rw [g2, x3 _ _ q1 q2 g2]
        · intro k f j hk hf hj
          have hj : (if k = i then g else ob k) f = some j := hj
          by_cases e : k = i
          · rw [if_pos e] at hj; exact hg3 f j hj
          · rw [if_neg e] at hj; exact hb1 k f j (by omega) hf hj
        · intro a ha
          rcases List.mem_append.mp ha with ha | ha
          · exact hf1 a ha
          · have e : a = d := by simpa using ha
            rw [e]
            cases z : H d with
            | none => rfl
            | some o => rw [x1 _ _ ddp ddc z] at nd1; cases nd1
    · subst e1
      have en : ((n : Nat) : Int).toNat = n := by simp
      rw [en] at ho1 hb1
      exact ⟨_, rfl, q H1 D os ob hp1 x1 nD hD1 ho1 hb1 hf1⟩
def sp_lnames : Sp := fun vs H Q _ => ∃ (pa ca na : Addr) (ns : List Str) (n : Nat), vs = [.ref pa, .ref na, .int (n : Nat)] ∧ Pool H pa ca ∧ na ≠ pa ∧ na ≠ ca ∧ H na = some (.lst (ns.map .str)) ∧ ns.Nodup ∧ ns.length ≤ 10 ∧ n ≤ 100 ∧
  ∀ (H' : L2.Hp) (D : Addr) (nm : List (Str × Option Nat)), Pool H' pa ca → PX pa ca H H' → H D = none → H' D = some (.dK (nmKV nm)) → nm.map (·.1) = ns → (∀ p ∈ nm, ∀ j, p.2 = some j → j < n) → Q (.ref D) H'
theorem nmKV_put {nm : List (Str × Option Nat)} {x : Str} (h : x ∉ nm.map (·.1)) (v : Option Nat) : putK (nmKV nm) (strK x) (oV v) = nmKV (nm ++ [(x, v)]) := by
  have e : nmKV nm = kvF (fun p : Str × Option Nat => strK p.1) (fun p => oV p.2) nm := rfl
  rw [putK_new _ (by
    rw [e]
    exact kvF_no fun p hp z => h (List.mem_map.mpr ⟨p, hp, strK_inj _ _ z⟩))]
  unfold nmKV
  rw [List.map_append]
  rfl
theorem nmKV_put2 {nm : List (Str × Option Nat)} {x : Str} (h : x ∉ nm.map (·.1)) (u v : Option Nat) : putK (nmKV (nm ++ [(x, u)])) (strK x) (oV v) = nmKV (nm ++ [(x, v)]) := by
  unfold putK
  have h1 : ((nmKV (nm ++ [(x, u)])).any fun kv => decide (kv.1 = strK x)) = true := by
    rw [List.any_eq_true]
    exact ⟨(strK x, oV u), by unfold nmKV; rw [List.map_append]; simp, by simp⟩
  rw [if_pos h1]
  unfold nmKV
  rw [List.map_append, List.map_append, List.map_append]
  congr 1
  · rw [List.map_map]
    refine List.map_congr_left fun p hp => ?_
    show (if strK p.1 = strK x then (strK p.1, oV v) else (strK p.1, oV p.2)) = _
    rw [if_neg fun z => h (List.mem_map.mpr ⟨p, hp, strK_inj _ _ z⟩)]
  · simp
theorem p_law_names (T : Tx w K mg h) : C8.Cal P w K mg base 2 "_law_names" sp_lnames [] :=
  cal T.f_law_names T.g_law_names sc_law_names (fun vs H Q E ⟨_, _, _, _, _, e, _⟩ => by rw [e]; rfl) fun cdv A outer s H vs Q E hr ⟨pa, ca, na, ns, n, e, hp, n1, n2, hna, nd, hnl, hn, q⟩ => by
    subst e
    refine ⟨_, (pss_cons (ps_set (i := 3) sc_law_names.nd rfl (by first | exact Or.inl rfl | exact Or.inr rfl) pe_dnewK)
  (pss_cons (ps_for PassesOwn.never (by rfl) (pi_list (pv 1)) (pg_name (i := 4) sc_law_names.nd rfl (by first | exact Or.inl rfl | exact Or.inr rfl))
  (pss_cons (ps_set (i := 5) sc_law_names.nd rfl (by first | exact Or.inl rfl | exact Or.inr rfl) (C8.pe_c (p_law_draw T) hr (by decide) (by rfl) (pa_cons (pv 0) (pa_cons (pe_op op_add (pe_op op_mul pe_int (pv 2)) pe_int) pa_nil))))
  (pss_cons (ps_dput (hu_of hr) (pv 3) (pv 4) pe_non (by rfl))
  (pss_one (ps_if (pt_cmpR op_lt (pv 5) (pe_op op_mul pe_int (pv 2)) (nomark _)) (pss_one (ps_dput (hu_of hr) (pv 3) (pv 4) (pe_op op_mod (pe_callTy call_int1 (by rfl) T.z_int (by decide +kernel) (pa_cons (pv 5) pa_nil)) (pv 2)) (by rfl))) pss_nil)))))
  (pss_one (ps_ret (pv 3))))), ?_⟩
    refine fun D nD => ?_
    obtain ⟨dp, dc⟩ := hp.off nD
    have hp0 : Pool (upd H D (.dK [])) pa ca := hp.set dp dc
    have x0 : PX pa ca H (upd H D (.dK [])) := PX.rfl'.set nD
    have hD0 : upd H D (.dK []) D = some (.dK []) := upd_same
    generalize upd H D (.dK []) = H0 at hp0 x0 hD0
    refine ⟨_, rfl, na, rfl, ⟨_, SqL.of (x0 _ _ n1 n2 hna)⟩, for_it (walk_list (xs := ns.map .str)) (fun i σ' H' => ∃ (a4 a5 : Option V) (nm : List (Str × Option Nat)), σ' = [some (.ref pa), some (.ref na), some (.int (n : Nat)), some (.ref D), a4, a5] ∧ Pool H' pa ca ∧ PX pa ca H H' ∧ H' D = some (.dK (nmKV nm)) ∧ nm.map (·.1) = ns.take i ∧ (∀ p ∈ nm, ∀ j, p.2 = some j → j < n))
      ⟨_, _, [], rfl, hp0, x0, hD0, rfl, (fun p hp => by cases hp)⟩ (fun _ _ _ _ ⟨_, _, _, _, _, x, _⟩ => SqL.of (x _ _ n1 n2 hna)) (fun i v σ' Hz H1 hi ⟨a4, a5, nm, e1, hp1, x1, hD1, hm1, hb1⟩ ⟨e2, ev⟩ => ?_) fun σ' H1 ⟨a4, a5, nm, e1, hp1, x1, hD1, hm1, hb1⟩ => ?_⟩
    · subst e1 e2
      obtain ⟨x, hx, rfl⟩ := map_at ev
      have hnot : x ∉ nm.map (·.1) := fun z => by
        rw [hm1] at z
        have h9 : (ns.take i ++ [x]).Nodup := by rw [take_snoc hx]; exact nd.sublist (List.take_sublist _ _)
        exact (List.nodup_append.mp h9).2.2 x z x (List.mem_singleton.mpr rfl) rfl
      have hil : i < ns.length := (List.getElem?_eq_some_iff.mp hx).1
      have hnm : nm.length = i := by
        have := congrArg List.length hm1
        rw [List.length_map, List.length_take] at this
        omega
      refine ⟨_, rfl, _, rfl, _, _, rfl, rfl, .inl ⟨by decide, by decide⟩, _, _, rfl, rfl, pa, ca, 3 * n + 1, rfl, hp1, by omega, by omega, fun H2 d hp2 fr2 hd => ?_⟩
      have hD2 := (fr2 D dp dc).trans hD1
      have x2 : PX pa ca H H2 := x1.trans fun b o h1 h2 e => (fr2 b h1 h2).trans e
      refine ⟨_, rfl, _, rfl, D, _, rfl, DPut.k (k := strK x) hD2 (by unfold nmKV; rw [List.length_map]; exact small_lt (by omega)), ?_⟩
      have en : putK (nmKV nm) (strK x) V.non = nmKV (nm ++ [(x, none)]) := nmKV_put hnot none
      rw [en]
      have hD3 : upd H2 D (.dK (nmKV (nm ++ [(x, none)]))) D = some (.dK (nmKV (nm ++ [(x, none)]))) := upd_same
      have hp3 : Pool (upd H2 D (.dK (nmKV (nm ++ [(x, none)])))) pa ca := hp2.set dp dc
      have x3 : PX pa ca H (upd H2 D (.dK (nmKV (nm ++ [(x, none)])))) := x2.set nD
      generalize upd H2 D (.dK (nmKV (nm ++ [(x, none)]))) = H3 at hD3 hp3 x3
      have key : ∀ v : Option Nat, (nm ++ [(x, v)]).map (·.1) = ns.take (i + 1) := fun v => by rw [List.map_append, hm1, ← take_snoc hx]; rfl
      refine ⟨_, rfl, _, rfl, _, _, rfl, rfl, .inl ⟨by decide, by decide⟩, _, _, rfl, rfl, ?_⟩
      by_cases hlt : d < 3 * n
      · refine ⟨true, bl_t (by omega), iteT ?_⟩
        refine ⟨_, rfl, .inl ⟨_, rfl, _, rfl, _, _, rfl, rfl, (by show (0 : Int) < _; omega), _, rfl, _, rfl, D, _, rfl, DPut.k (k := strK x) hD3 (by unfold nmKV; rw [List.length_map, List.length_append]; exact small_lt (by have : ([(x, (none : Option Nat))] : List (Str × Option Nat)).length = 1 := rfl; omega)), ?_⟩⟩
        have em : ((d : Nat) : Int) % ((n : Nat) : Int) = ((d % n : Nat) : Int) := by omega
        have ep : putK (nmKV (nm ++ [(x, none)])) (strK x) (V.int (((d : Nat) : Int) % ((n : Nat) : Int))) = nmKV (nm ++ [(x, some (d % n))]) := by rw [em]; exact nmKV_put2 hnot none (some (d % n))
        refine ⟨_, _, nm ++ [(x, some (d % n))], rfl, hp3.set dp dc, x3.set nD, ?_, key _, fun p hp j hj => ?_⟩
        · rw [upd_same]
          exact congrArg (fun z => some (HO.dK z)) ep
        · rcases List.mem_append.mp hp with hp | hp
          · exact hb1 p hp j hj
          · rw [List.mem_singleton.mp hp] at hj
            cases hj
            exact Nat.mod_lt _ (by omega)
      · refine ⟨false, bl_f (by omega), iteF ⟨_, _, nm ++ [(x, none)], rfl, hp3, x3, hD3, key _, fun p hp j hj => ?_⟩⟩
        rcases List.mem_append.mp hp with hp | hp
        · exact hb1 p hp j hj
        · rw [List.mem_singleton.mp hp] at hj
          cases hj
    · subst e1
      rw [List.length_map, List.take_length] at hm1
      exact ⟨_, rfl, q H1 D nm hp1 x1 nD hD1 hm1 hb1⟩
end
end TW
set_option maxHeartbeats 4000000
/-! ## the law: data that are shown; numbers of puts -/
namespace TW
open PySem PySem.Spec PyProof.Rows L2 TwN
/-- data whose text is short -/
structure Shw (k n : Nat) (d : PyData) : Prop where
  sho : d.showable = true
  nod : d.hasDict = false
  can : d.canLay0 = true
  ish : d.intsShort 13 = true
  dep : d.depth ≤ k
  wt : d.weight ≤ n
theorem Shw.mono {k n k' n' : Nat} {d : PyData} (h : Shw k n d) (hk : k ≤ k') (hn : n ≤ n') : Shw k' n' d := ⟨h.sho, h.nod, h.can, h.ish, Nat.le_trans h.dep hk, Nat.le_trans h.wt hn⟩
theorem Shw.fits {k n : Nat} {d : PyData} (h : Shw k n d) (hk : k ≤ 60) (hn : n ≤ 1000000) : d.shown.length ≤ sizeLine := by
  have hl : PyData.layable0 d = true := by
    unfold PyData.layable0
    rw [h.can, decide_eq_true (Nat.le_trans h.dep (by omega)), decide_eq_true (Nat.le_trans h.wt (by omega))]
    rfl
  exact PyData.shown_fits_of_layable0 (by decide) (by decide) hl h.ish
theorem Shw.shaped {k n : Nat} {d : PyData} (h : Shw k n d) (hk : k ≤ 60) : SeqAt.shaped d = true := Lay.shaped (k := k) ⟨h.can, h.dep⟩ (by omega)
theorem Shw.eqv {k n : Nat} {d : PyData} (h : Shw k n d) : PyData.eqv d d = true := SeqAt.eqv_refl d h.can
theorem shw_int {i : Nat} (h : i < 10 ^ 12) : Shw 0 50 (.int (i : Nat)) := by
  have hl : i.log2 < 40 := by
    by_cases h0 : i = 0
    · subst h0; decide
    · rw [Nat.log2_lt h0]
      exact Nat.lt_of_lt_of_le h (by decide)
  refine ⟨?_, rfl, rfl, ?_, by simp [PyData.depth], ?_⟩
  · show decide (((i : Nat) : Int).natAbs.log2 < 1920) = true
    rw [Int.natAbs_natCast]
    exact decide_eq_true (by omega)
  · show decide ((PyData.shown (.int ((i : Nat) : Int))).length ≤ 13) = true
    exact decide_eq_true (PyData.shown_int_le (by rw [Int.natAbs_natCast]; exact h))
  · simp only [PyData.weight]
    split
    · omega
    · rw [Int.natAbs_natCast]; omega
theorem shw_str {x : Str} (h : GoodW x) : Shw 0 8 (.str x) := ⟨rfl, rfl, (Lay.str h).1, rfl, (Lay.str h).2, by
  have := h.hi
  simpa [PyData.weight, Str.length] using this⟩
theorem shw_bool (b : Bool) : Shw 0 0 (.bool b) := ⟨rfl, rfl, rfl, rfl, by simp [PyData.depth], by simp [PyData.weight]⟩
theorem Shw.all {k n : Nat} : ∀ {l : List PyData}, (∀ d ∈ l, Shw k n d) → PyData.showableAll l = true ∧ PyData.hasDictAll l = false ∧ PyData.canLayAll0 l = true ∧ PyData.intsShortAll 13 l = true ∧ PyData.depthAll l ≤ k ∧ PyData.weightAll l ≤ l.length * (n + 1)
  | [], _ => ⟨rfl, rfl, rfl, rfl, by simp [PyData.depthAll], by simp [PyData.weightAll]⟩
  | d :: l, h => by
    obtain ⟨a1, a2, a3, a4, a5, a6⟩ := Shw.all fun x hx => h x (List.mem_cons_of_mem _ hx)
    have hd := h d List.mem_cons_self
    refine ⟨?_, ?_, ?_, ?_, ?_, ?_⟩
    · simp only [PyData.showableAll, hd.sho, a1, Bool.and_self]
    · simp only [PyData.hasDictAll, hd.nod, a2, Bool.or_self]
    · simp only [PyData.canLayAll0, hd.can, a3, Bool.and_self]
    · simp only [PyData.intsShortAll, hd.ish, a4, Bool.and_self]
    · have := hd.dep
      simp only [PyData.depthAll]
      omega
    · have := hd.wt
      simp only [PyData.weightAll, List.length_cons, Nat.add_mul]
      omega
theorem Shw.tup {k n : Nat} {l : List PyData} (h : ∀ d ∈ l, Shw k n d) : Shw (k + 1) (l.length * (n + 1)) (.tuple l) := by
  obtain ⟨a1, a2, a3, a4, a5, a6⟩ := Shw.all h
  refine ⟨by simp only [PyData.showable, a1], by simp only [PyData.hasDict, a2], by simp only [PyData.canLay0, a3], by simp only [PyData.intsShort, a4], by simp only [PyData.depth]; omega, by simp only [PyData.weight]; exact a6⟩
theorem Shw.lst {k n : Nat} {l : List PyData} (h : ∀ d ∈ l, Shw k n d) : Shw (k + 1) (l.length * (n + 1)) (.list l) := by
  obtain ⟨a1, a2, a3, a4, a5, a6⟩ := Shw.all h
  refine ⟨by simp only [PyData.showable, a1], by simp only [PyData.hasDict, a2], by simp only [PyData.canLay0, a3], by simp only [PyData.intsShort, a4], by simp only [PyData.depth]; omega, by simp only [PyData.weight]; exact a6⟩
theorem gw_of {x : Str} (h : (decide (1 ≤ x.length) && decide (x.length ≤ 8) && x.cps.toList.all fun c => decide (97 ≤ c) && decide (c ≤ 122)) = true) : GoodW x := by
  rw [Bool.and_eq_true, Bool.and_eq_true, List.all_eq_true] at h
  obtain ⟨⟨h1, h2⟩, h3⟩ := h
  refine ⟨of_decide_eq_true h1, of_decide_eq_true h2, fun c hc => ?_⟩
  have := h3 c hc
  rw [Bool.and_eq_true] at this
  exact ⟨of_decide_eq_true this.1, of_decide_eq_true this.2⟩
theorem gw_none : GoodW "none" := gw_of (by decide +kernel)
theorem gw_own : GoodW "own" := gw_of (by decide +kernel)
theorem gw_start : GoodW "start" := gw_of (by decide +kernel)
theorem gw_done : GoodW "done" := gw_of (by decide +kernel)
/-! ### the numbers of the puts -/
def HitB (s : StS) : Prop := ∀ p ∈ s.hits, p.1 ≤ s.puts
theorem hitB_fold {fs : List Str} {s : StS} {t : Tg} : ∀ {ws : List (Str × Option Tg × Nat)} {h : List (Nat × Str)}, (∀ p ∈ h, p.1 ≤ s.puts) → ∀ p ∈ ws.foldl (hit1 fs s t) h, p.1 ≤ s.puts
  | [], _, hh => hh
  | w :: ws, h, hh => hitB_fold (ws := ws) fun p hp => by
    unfold hit1 at hp
    split at hp
    · rcases List.mem_append.mp hp with hp | hp
      · exact hh p hp
      · rw [List.mem_singleton.mp hp]
        exact Nat.le_refl _
    · exact hh p hp
theorem HitB.perf {fs : List Str} {s s' : StS} (h : HitB s) {r : RowS} (e : perf fs s r = .ok s') : HitB s' := by
  cases r with
  | move x y => cases e; exact h
  | none x => cases e; exact h
  | new x =>
    have e' : newP s x = s' := by injection e
    subst e'
    exact h
  | look x y f =>
    have e : lookP s x y f = .ok s' := e
    cases hy : s.hold y with
    | none => rw [lookP_none hy] at e; cases e
    | some t => rw [lookP_some hy] at e; cases e; exact h
  | put x f y =>
    have e : putP fs s x f y = .ok s' := e
    cases hx : s.hold x with
    | none => rw [putP_none hx] at e; cases e
    | some t =>
      cases hfr : isFro s t with
      | true => rw [putP_fro hx hfr] at e; cases e
      | false =>
        rw [putP_some hx hfr] at e
        cases e
        intro p hp
        exact Nat.le_succ_of_le (hitB_fold h p hp)
  | copy x y frz d =>
    have e' : copyP fs s x y frz d = s' := by injection e
    subst e'
    obtain ⟨n, f1, f2, f3, f4, f5, f6, f7, f8, f9⟩ := copyOf_facts fs s frz (s.hold y) d
    intro p hp
    have hp : p ∈ (copyOf fs s frz (s.hold y) d).1.hits := hp
    rw [f5] at hp
    show p.1 ≤ (copyOf fs s frz (s.hold y) d).1.puts
    rw [f7]
    exact h p hp
  | watch r x d => cases e; exact h
/-! ### rows as data -/
def partD : V → PyData
  | .str x => .str x
  | .int i => .int i
  | _ => .none
def rowD (r : RowS) : PyData := .tuple ((rowV r).map partD)
theorem dtall_row {H : Hp} (r : RowS) : DtAll H (rowV r) ((rowV r).map partD) := by
  cases r with
  | move x y => exact .cons (.str _) (.cons (.str _) (.cons (.str _) .nil))
  | none x => exact .cons (.str _) (.cons (.str _) .nil)
  | new x => exact .cons (.str _) (.cons (.str _) .nil)
  | look x y f => exact .cons (.str _) (.cons (.str _) (.cons (.str _) (.cons (.str _) .nil)))
  | put x f y => exact .cons (.str _) (.cons (.str _) (.cons (.str _) (.cons (.str _) .nil)))
  | copy x y b d => exact .cons (.str _) (.cons (.str _) (.cons (.str _) (.cons (.str _) (.cons (.int _) .nil))))
  | watch r x d => exact .cons (.str _) (.cons (.str _) (.cons (.str _) (.cons (.int _) .nil)))
theorem dt_row {H : Hp} {a : Addr} {r : RowS} (h : H a = some (.tup (rowV r))) : Dt H (.ref a) (rowD r) := .tup h (dtall_row r)
theorem gw_kind (b : Bool) : GoodW (kindS b) := by cases b <;> exact gw_of (by decide +kernel)
theorem gw_name (r : RowS) : GoodW (nameS r) := by
  have key : ∀ x : Str, x ∈ ([("move" : Str), "none", "new", "look", "put", "copy", "watch"] : List Str) → GoodW x := fun x hx => by
    have : (([("move" : Str), "none", "new", "look", "put", "copy", "watch"] : List Str).all fun x => decide (1 ≤ x.length) && decide (x.length ≤ 8) && x.cps.toList.all fun c => decide (97 ≤ c) && decide (c ≤ 122)) = true := by decide +kernel
    exact gw_of (List.all_eq_true.mp this x hx)
  cases r <;> exact key _ (by simp [nameS])
theorem shw_part {fs : List Str} (hf : ∀ f ∈ fs, GoodW f) {c : Nat} {v : V} (h : GoodP fs c v) : Shw 0 50 (partD v) := by
  cases h with
  | f h => exact (shw_str (hf _ h)).mono (by omega) (by omega)
  | k b => exact (shw_str (gw_kind b)).mono (by omega) (by omega)
  | d h => exact shw_int (by omega)
  | v h => exact (shw_str h).mono (by omega) (by omega)
  | r h => exact (shw_str h).mono (by omega) (by omega)
theorem eachP_all {R : Nat → V → Prop} : ∀ {cs : List Nat} {vs : List V}, RowGood.EachP R cs vs → ∀ v ∈ vs, ∃ c, R c v
  | [], [], _, v, hv => by cases hv
  | c :: cs, u :: vs, h, v, hv => by
    rcases List.mem_cons.mp hv with e | hv
    · exact ⟨c, e ▸ h.1⟩
    · exact eachP_all h.2 v hv
theorem shw_row {fs : List Str} (hf : ∀ f ∈ fs, GoodW f) {r : RowS} (h : RowGood fs r) : Shw 1 255 (rowD r) := by
  have hh := args_hi r
  refine (Shw.tup (k := 0) (n := 50) fun d hd => ?_).mono (Nat.le_refl _) ?_
  · obtain ⟨v, hv, rfl⟩ := List.mem_map.mp hd
    rcases List.mem_cons.mp hv with e | hv
    · rw [e]
      exact (shw_str (gw_name r)).mono (by omega) (by omega)
    · obtain ⟨c, hc⟩ := eachP_all h v hv
      exact shw_part hf hc
  · rw [List.length_map]
    show ((argsV r).length + 1) * 51 ≤ 255
    omega
def rowsD (rs : List RowS) : PyData := .list (rs.map rowD)
theorem shw_rows {fs : List Str} (hf : ∀ f ∈ fs, GoodW f) {rs : List RowS} (h : ∀ r ∈ rs, RowGood fs r) (hl : rs.length ≤ 1000) : Shw 2 256000 (rowsD rs) := by
  refine (Shw.lst (k := 1) (n := 255) fun d hd => ?_).mono (Nat.le_refl _) ?_
  · obtain ⟨r, hr, rfl⟩ := List.mem_map.mp hd
    exact shw_row hf (h r hr)
  · rw [List.length_map]
    omega
theorem rows_dp {K : PySem.W.Frag} {H : Hp} : ∀ {ls : List V} {rs : List RowS}, RowsAt H ls rs → DpAll K H ls (rs.map rowD)
  | ls, [], h => by
    have := h.len
    rw [List.length_nil] at this
    rw [List.length_eq_zero_iff.mp this]
    exact .nil
  | [], r :: rs, h => by
    have := h.len
    cases this
  | v :: ls, r :: rs, h => by
    obtain ⟨a, h1, h2⟩ := h.at_ 0 r rfl
    have e : v = .ref a := Option.some.inj h1
    subst e
    refine .cons (dt_row h2).dp (rows_dp ⟨by have := h.len; simpa using this, fun i r' hr => ?_⟩)
    obtain ⟨b, g1, g2⟩ := h.at_ (i + 1) r' hr
    exact ⟨b, g1, g2⟩
theorem rows_data {K : PySem.W.Frag} {H : Hp} {a : Addr} {ls : List V} {rs : List RowS} (h : H a = some (.lst ls)) (hr : RowsAt H ls rs) : Dp K H (.ref a) (rowsD rs) := .lst (SqL.of h) (rows_dp hr)
/-! ### what a live tells, as data -/
def toldD (s : StS) (ns : List Str) : PyData := .list (ns.map fun x => shD s (s.hold x))
def hitsD (s : StS) : PyData := .list ((srtH s.hits).map hitD)
def stateD (s : StS) (ns : List Str) : PyData := .list [toldD s ns, .int (s.fro.length : Nat), hitsD s]
theorem shw_sh {s : StS} {t : Option Tg} (h : ∀ u, t = some u → s.inn u) (hb : s.nst + s.now ≤ 200) : Shw 1 153 (shD s t) := by
  cases t with
  | none => exact (Shw.tup (k := 0) (n := 50) (l := [.str "none"]) fun d hd => by rw [List.mem_singleton.mp hd]; exact (shw_str gw_none).mono (by omega) (by omega)).mono (by omega) (Nat.le_of_ble_eq_true rfl)
  | some t =>
    have hi := h t rfl
    cases t with
    | st n =>
      have hi : n < s.nst := hi
      refine (Shw.tup (k := 0) (n := 50) (l := [.str "start", .int (n : Nat)]) fun d hd => ?_).mono (by omega) (Nat.le_of_ble_eq_true rfl)
      rcases List.mem_cons.mp hd with rfl | hd
      · exact (shw_str gw_start).mono (by omega) (by omega)
      · rw [List.mem_singleton.mp hd]
        exact shw_int (by omega)
    | ow k =>
      have hi : k < s.now := hi
      refine (Shw.tup (k := 0) (n := 50) (l := [.str "own", .int (k : Nat), .bool (s.fro.getD k false)]) fun d hd => ?_).mono (by omega) (Nat.le_of_ble_eq_true rfl)
      rcases List.mem_cons.mp hd with rfl | hd
      · exact (shw_str gw_own).mono (by omega) (by omega)
      rcases List.mem_cons.mp hd with rfl | hd
      · exact shw_int (by omega)
      · rw [List.mem_singleton.mp hd]
        exact (shw_bool _).mono (by omega) (by omega)
theorem shw_hit {p : Nat × Str} (h : GoodW p.2) (hb : p.1 < 10 ^ 12) : Shw 1 102 (hitD p) := by
  refine (Shw.tup (k := 0) (n := 50) (l := [.int (p.1 : Nat), .str p.2]) fun d hd => ?_).mono (by omega) (Nat.le_of_ble_eq_true rfl)
  rcases List.mem_cons.mp hd with rfl | hd
  · exact shw_int hb
  · rw [List.mem_singleton.mp hd]
    exact (shw_str h).mono (by omega) (by omega)
theorem srtH_mem {l : List (Nat × Str)} {p : Nat × Str} (h : p ∈ srtH l) : p ∈ l := by
  unfold srtH at h
  exact List.mem_mergeSort.mp h
theorem srtH_len (l : List (Nat × Str)) : (srtH l).length = l.length := List.length_mergeSort l
theorem shw_state {fs : List Str} {s : StS} {ns : List Str} (ok : SOk fs s) (hp : s.puts ≤ 1000) (hh : HitB s) (hl : ns.length ≤ 6) : Shw 3 400000 (stateD s ns) := by
  have h1 : Shw 2 924 (toldD s ns) := by
    refine (Shw.lst (k := 1) (n := 153) fun d hd => ?_).mono (by omega) ?_
    · obtain ⟨x, hx, rfl⟩ := List.mem_map.mp hd
      exact shw_sh (fun u hu => ok.wf.hold x u hu) ok.sm
    · rw [List.length_map]; omega
  have h3 : Shw 2 103000 (hitsD s) := by
    refine (Shw.lst (k := 1) (n := 102) fun d hd => ?_).mono (by omega) ?_
    · obtain ⟨p, hpm, rfl⟩ := List.mem_map.mp hd
      have hm := srtH_mem hpm
      exact shw_hit (ok.gd.hits p hm) (Nat.lt_of_le_of_lt (Nat.le_trans (hh p hm) hp) (by decide))
    · rw [List.length_map, srtH_len]
      have := ok.hl
      omega
  refine (Shw.lst (k := 2) (n := 103000) (l := [toldD s ns, .int (s.fro.length : Nat), hitsD s]) fun d hd => ?_).mono (by omega) (by show 3 * (103000 + 1) ≤ 400000; omega)
  rcases List.mem_cons.mp hd with rfl | hd
  · exact h1.mono (by omega) (by omega)
  rcases List.mem_cons.mp hd with rfl | hd
  · have := ok.sm
    have := ok.fl
    exact (shw_int (by omega)).mono (by omega) (by omega)
  · rw [List.mem_singleton.mp hd]
    exact h3
end TW
set_option maxHeartbeats 4000000
/-! ## the law: a row is drawn -/
namespace TW
open PySem PySem.Spec PyProof.Rows L2 TwN
/-- the places from which rows are drawn -/
structure DA where
  pa : Addr
  ca : Addr
  wa : Addr
  fa : Addr
  ra : Addr
  sa : Addr
  la : Addr
structure Draw (H : L2.Hp) (a : DA) (ws fs : List Str) (c : Nat) (sp rs : List Str) : Prop where
  pool : Pool H a.pa a.ca
  wl : H a.wa = some (.lst (ws.map .str))
  fl : H a.fa = some (.lst (fs.map .str))
  room : H a.ra = some (.lst [.int 0, .int (c : Nat), .ref a.sa, .ref a.la])
  spare : H a.sa = some (.lst (sp.map .str))
  more : H a.la = some (.lst (rs.map .str))
  nd : [a.pa, a.ca, a.wa, a.fa, a.ra, a.sa, a.la].Nodup
structure DrawOk (ws fs : List Str) (c : Nat) (sp rs : List Str) : Prop where
  gw : ∀ x ∈ ws, GoodW x
  gs : ∀ x ∈ sp, GoodW x
  gr : ∀ x ∈ rs, GoodW x
  F : Fields fs
  wlo : 1 ≤ ws.length
  whi : ws.length ≤ 6
  shi : sp.length ≤ 6
  rhi : rs.length ≤ 100
theorem Draw.ext {H H' : Hp} {a : DA} {ws fs : List Str} {c : Nat} {sp rs : List Str} (h : Draw H a ws fs c sp rs) (e : Ext H H') : Draw H' a ws fs c sp rs :=
  ⟨h.pool.ext e, e _ _ h.wl, e _ _ h.fl, e _ _ h.room, e _ _ h.spare, e _ _ h.more, h.nd⟩
/-- all but the places that are drawn from stays -/
def DX (a : DA) (H H' : Hp) : Prop := ∀ b o, b ≠ a.pa → b ≠ a.ca → b ≠ a.ra → b ≠ a.sa → b ≠ a.la → H b = some o → H' b = some o
theorem DX.trans {a : DA} {H H1 H2 : Hp} (x : DX a H H1) (y : DX a H1 H2) : DX a H H2 := fun b o h1 h2 h3 h4 h5 h => y b o h1 h2 h3 h4 h5 (x b o h1 h2 h3 h4 h5 h)
theorem DX.of {a : DA} {H H' : Hp} (e : Ext H H') : DX a H H' := fun b o _ _ _ _ _ h => e b o h
theorem DX.pool {a : DA} {H H' : Hp} (fr : ∀ b, b ≠ a.pa → b ≠ a.ca → H' b = H b) : DX a H H' := fun b o h1 h2 _ _ _ h => (fr b h1 h2).trans h
theorem Draw.ne {H : Hp} {a : DA} {ws fs : List Str} {c : Nat} {sp rs : List Str} (h : Draw H a ws fs c sp rs) :
    (a.wa ≠ a.pa ∧ a.wa ≠ a.ca ∧ a.wa ≠ a.ra ∧ a.wa ≠ a.sa ∧ a.wa ≠ a.la) ∧ (a.fa ≠ a.pa ∧ a.fa ≠ a.ca ∧ a.fa ≠ a.ra ∧ a.fa ≠ a.sa ∧ a.fa ≠ a.la) ∧ (a.ra ≠ a.pa ∧ a.ra ≠ a.ca ∧ a.ra ≠ a.sa ∧ a.ra ≠ a.la) ∧ (a.sa ≠ a.pa ∧ a.sa ≠ a.ca ∧ a.sa ≠ a.la) ∧ (a.la ≠ a.pa ∧ a.la ≠ a.ca) ∧ a.pa ≠ a.ca := by
  have := h.nd
  simp only [List.nodup_cons, List.mem_cons, List.not_mem_nil, or_false, not_or, List.nodup_nil, and_true, not_false_eq_true] at this
  obtain ⟨⟨h1, h2, h3, h4, h5, h6⟩, ⟨g1, g2, g3, g4, g5⟩, ⟨k1, k2, k3, k4⟩, ⟨l1, l2, l3⟩, ⟨m1, m2⟩, n1⟩ := this
  exact ⟨⟨Ne.symm h2, Ne.symm g1, k2, k3, k4⟩, ⟨Ne.symm h3, Ne.symm g2, l1, l2, l3⟩, ⟨Ne.symm h4, Ne.symm g3, m1, m2⟩, ⟨Ne.symm h5, Ne.symm g4, n1⟩, ⟨Ne.symm h6, Ne.symm g5⟩, h1⟩
/-- behind a draw -/
theorem Draw.drawn {H H' : Hp} {a : DA} {ws fs : List Str} {c : Nat} {sp rs : List Str} (h : Draw H a ws fs c sp rs) (hp : Pool H' a.pa a.ca) (fr : ∀ b, b ≠ a.pa → b ≠ a.ca → H' b = H b) : Draw H' a ws fs c sp rs := by
  obtain ⟨⟨h1, h2, _⟩, ⟨g1, g2, _⟩, ⟨k1, k2, _⟩, ⟨l1, l2, _⟩, ⟨m1, m2⟩, _⟩ := h.ne
  exact ⟨hp, (fr _ h1 h2).trans h.wl, (fr _ g1 g2).trans h.fl, (fr _ k1 k2).trans h.room, (fr _ l1 l2).trans h.spare, (fr _ m1 m2).trans h.more, h.nd⟩
theorem Draw.pop {H : Hp} {a : DA} {ws fs : List Str} {c : Nat} {sp rs : List Str} {x : Str} (h : Draw H a ws fs c (sp ++ [x]) rs) : Draw (upd H a.sa (.lst (sp.map .str))) a ws fs c sp rs := by
  obtain ⟨⟨_, _, _, h4, _⟩, ⟨_, _, _, g4, _⟩, ⟨_, _, k3, _⟩, ⟨l1, l2, l3⟩, ⟨m1, m2⟩, _⟩ := h.ne
  exact ⟨h.pool.set l1 l2, by rw [upd_ne h4]; exact h.wl, by rw [upd_ne g4]; exact h.fl, by rw [upd_ne k3]; exact h.room, upd_same, by rw [upd_ne l3.symm]; exact h.more, h.nd⟩
theorem Draw.push {H : Hp} {a : DA} {ws fs : List Str} {c : Nat} {sp rs : List Str} (h : Draw H a ws fs c sp rs) (x : Str) : Draw (upd H a.la (.lst ((rs ++ [x]).map .str))) a ws fs c sp (rs ++ [x]) := by
  obtain ⟨⟨_, _, _, _, h5⟩, ⟨_, _, _, _, g5⟩, ⟨_, _, _, k4⟩, ⟨l1, l2, l3⟩, ⟨m1, m2⟩, _⟩ := h.ne
  exact ⟨h.pool.set m1 m2, by rw [upd_ne h5]; exact h.wl, by rw [upd_ne g5]; exact h.fl, by rw [upd_ne k4]; exact h.room, by rw [upd_ne l3]; exact h.spare, upd_same, h.nd⟩
theorem Draw.less {H : Hp} {a : DA} {ws fs : List Str} {c : Nat} {sp rs : List Str} (h : Draw H a ws fs c sp rs) (c' : Nat) : Draw (upd H a.ra (.lst [.int 0, .int (c' : Nat), .ref a.sa, .ref a.la])) a ws fs c' sp rs := by
  obtain ⟨⟨_, _, h3, _, _⟩, ⟨_, _, g3, _, _⟩, ⟨k1, k2, k3, k4⟩, ⟨l1, l2, l3⟩, ⟨m1, m2⟩, _⟩ := h.ne
  exact ⟨h.pool.set k1 k2, by rw [upd_ne h3]; exact h.wl, by rw [upd_ne g3]; exact h.fl, upd_same, by rw [upd_ne k3.symm]; exact h.spare, by rw [upd_ne k4.symm]; exact h.more, h.nd⟩
theorem Draw.gone {H H' : Hp} {a : DA} {ws fs : List Str} {c : Nat} {sp rs : List Str} {t : Addr} (h : Draw H' a ws fs c sp rs) (x : DX a H H') (nt : H' t = none) : H t = none := by
  obtain ⟨t1, t2⟩ := h.pool.off nt
  cases e : H t with
  | none => rfl
  | some o =>
    have := x t o t1 t2 (ne_of_none h.room nt).symm (ne_of_none h.spare nt).symm (ne_of_none h.more nt).symm e
    rw [nt] at this
    cases this
theorem nx_ {D : L2.Ends} {σ : L2.St} {H : Hp} (h : D.nx σ H) : tNext D σ H := h
theorem if_ansE {c : TT} {t u v : TS} {D : L2.Ends} {σ : L2.St} {H : Hp} (b : Bool) (h : ∀ Q : Bool → Hp → Prop, (∀ H', Ext H H' → Q b H') → c σ H Q) (k : ∀ H', Ext H H' → if b = true then t { D with nx := v D } σ H' else u { D with nx := v D } σ H') : tSeq (tIfS c t u) v D σ H := h _ k
theorem inV_int (n : Nat) (l : List Nat) : inV (.int (n : Nat)) (l.map fun k => V.int (k : Nat)) = decide (n ∈ l) := by
  induction l with
  | nil => rfl
  | cons k r ih =>
    show (eqV (.int (k : Nat)) (.int (n : Nat)) || inV (.int (n : Nat)) (r.map fun k => V.int (k : Nat))) = _
    rw [ih]
    show ((((k : Nat) : Int) == ((n : Nat) : Int)) || decide (n ∈ r)) = _
    rw [int_beq]
    by_cases h : k = n
    · subst h; simp
    · by_cases h2 : n ∈ r
      · simp [h2]
      · simp [h, h2]
        exact fun z => h z.symm
theorem rg_none {fs : List Str} {x : Str} (h : GoodW x) : RowGood fs (.none x) := by
  show RowGood.EachP (GoodP fs) (Str.ofString "v").cps.toList [.str x]
  rw [show (Str.ofString "v").cps.toList = [118] by decide +kernel]
  exact ⟨.v h, trivial⟩
theorem rg_new {fs : List Str} {x : Str} (h : GoodW x) : RowGood fs (.new x) := by
  show RowGood.EachP (GoodP fs) (Str.ofString "v").cps.toList [.str x]
  rw [show (Str.ofString "v").cps.toList = [118] by decide +kernel]
  exact ⟨.v h, trivial⟩
theorem rg_move {fs : List Str} {x y : Str} (h : GoodW x) (h2 : GoodW y) : RowGood fs (.move x y) := by
  show RowGood.EachP (GoodP fs) (Str.ofString "vv").cps.toList [.str x, .str y]
  rw [show (Str.ofString "vv").cps.toList = [118, 118] by decide +kernel]
  exact ⟨.v h, .v h2, trivial⟩
theorem rg_look {fs : List Str} {x y f : Str} (h : GoodW x) (h2 : GoodW y) (hf : f ∈ fs) : RowGood fs (.look x y f) := by
  show RowGood.EachP (GoodP fs) (Str.ofString "vvf").cps.toList [.str x, .str y, .str f]
  rw [show (Str.ofString "vvf").cps.toList = [118, 118, 102] by decide +kernel]
  exact ⟨.v h, .v h2, .f hf, trivial⟩
theorem rg_put {fs : List Str} {x y f : Str} (h : GoodW x) (h2 : GoodW y) (hf : f ∈ fs) : RowGood fs (.put x f y) := by
  show RowGood.EachP (GoodP fs) (Str.ofString "vfv").cps.toList [.str x, .str f, .str y]
  rw [show (Str.ofString "vfv").cps.toList = [118, 102, 118] by decide +kernel]
  exact ⟨.v h, .f hf, .v h2, trivial⟩
theorem rg_copy {fs : List Str} {x y : Str} (h : GoodW x) (h2 : GoodW y) (b : Bool) {d : Nat} (hd : d ≤ 4) : RowGood fs (.copy x y b d) := by
  show RowGood.EachP (GoodP fs) (Str.ofString "vvkd").cps.toList [.str x, .str y, .str (kindS b), .int (d : Nat)]
  rw [show (Str.ofString "vvkd").cps.toList = [118, 118, 107, 100] by decide +kernel]
  exact ⟨.v h, .v h2, .k b, .d hd, trivial⟩
theorem rg_watch {fs : List Str} {r x : Str} (h : GoodW r) (h2 : GoodW x) {d : Nat} (hd : d ≤ 4) : RowGood fs (.watch r x d) := by
  show RowGood.EachP (GoodP fs) (Str.ofString "rvd").cps.toList [.str r, .str x, .int (d : Nat)]
  rw [show (Str.ofString "rvd").cps.toList = [114, 118, 100] by decide +kernel]
  exact ⟨.r h, .v h2, .d hd, trivial⟩
section
variable {P : Program} {w : World} {K : PySem.W.Frag} {mg : Str → Option Value} {base h : Heap}
def sp_plain : Sp := fun vs H Q _ => ∃ (a : DA) (ws fs : List Str) (c : Nat) (sp rs : List Str), vs = [.ref a.pa, .ref a.wa, .ref a.fa, .ref a.ra] ∧ Draw H a ws fs c sp rs ∧ DrawOk ws fs c sp rs ∧
  ∀ (H' : L2.Hp) (t : Addr) (r : RowS) (c' : Nat) (sp' rs' : List Str), Draw H' a ws fs c' sp' rs' → DX a H H' → H t = none → H' t = some (.tup (rowV r)) → RowGood fs r → sp = sp' ++ rdr r → c = c' + cps r → (∀ x ∈ rs', GoodW x) → rs'.length ≤ rs.length + 1 → Q (.ref t) H'
theorem p_law_plain (T : Tx w K mg h) : C8.Cal P w K mg base 3 "_law_plain" sp_plain [] :=
  cal T.f_law_plain T.g_law_plain sc_law_plain (fun vs H Q E ⟨_, _, _, _, _, _, e, _⟩ => by rw [e]; rfl) fun cdv A outer s H vs Q E hr ⟨a, ws, fs, c, sp, rs, e, hD, ok, q⟩ => by
    subst e
    obtain ⟨⟨w1, w2, w3, w4, w5⟩, ⟨f1, f2, f3, f4, f5⟩, ⟨r1, r2, r3, r4⟩, ⟨s1, s2, s3⟩, ⟨l1, l2⟩, npc⟩ := hD.ne
    have wlo := ok.wlo
    have whi := ok.whi
    have shi := ok.shi
    have rhi := ok.rhi
    have flo := ok.F.lo
    have fhi := ok.F.hi
    refine ⟨_, (pss_cons (ps_set (i := 4) sc_law_plain.nd rfl (by first | exact Or.inl rfl | exact Or.inr rfl) (C8.pe_c (p_law_draw T) hr (by decide) (by rfl) (pa_cons (pv 0) (pa_cons pe_int pa_nil))))
  (pss_cons (ps_set (i := 5) sc_law_plain.nd rfl (by first | exact Or.inl rfl | exact Or.inr rfl) (C8.pe_c (p_law_pick T) hr (by decide) (by rfl) (pa_cons (pv 0) (pa_cons (pv 1) pa_nil))))
  (pss_cons (ps_set (i := 6) sc_law_plain.nd rfl (by first | exact Or.inl rfl | exact Or.inr rfl) (C8.pe_c (p_law_pick T) hr (by decide) (by rfl) (pa_cons (pv 0) (pa_cons (pe_op op_cat (pe_op op_rep (pe_ix ix_list (pv 3) pe_int (fun _ _ => rfl)) pe_int) (pe_lst (pa_cons (pv 5) pa_nil))) pa_nil))))
  (pss_cons (ps_if (pt_cmpR op_eq (pv 4) pe_int (nomark _)) (pss_one (ps_ret (pe_tup (pa_cons pe_str (pa_cons (pv 5) pa_nil))))) pss_nil)
  (pss_cons (ps_if (PW.pt (pw_and (pt_cmpR op_in_seq (pv 4) (pe_tup (pa_cons pe_int (pa_cons pe_int pa_nil))) (by with_unfolding_all rfl)) (pw_and1 (pt_cmpR op_gt (pe_callB call_len_seq (by rfl) T.z_len (by decide +kernel) (pa_cons (pe_ix ix_list (pv 3) pe_int (fun _ _ => rfl)) pa_nil)) pe_int (nomark _))))) (pss_one (ps_ret (pe_tup (pa_cons pe_str (pa_cons (pe_bm0 PySem.F.plainAttrs_list PySem.F.slot_list_pop PySem.F.type_list_pop mt_pop (pe_ix ix_list (pv 3) pe_int (fun _ _ => rfl))) (pa_cons (pv 6) (pa_cons (C8.pe_c (p_law_draw T) hr (by decide) (by rfl) (pa_cons (pv 0) (pa_cons pe_int pa_nil))) pa_nil))))))) pss_nil)
  (pss_cons (ps_if (pt_cmpR op_in_seq (pv 4) (pe_tup (pa_cons pe_int (pa_cons pe_int (pa_cons pe_int pa_nil)))) (by with_unfolding_all rfl)) (pss_one (ps_ret (pe_tup (pa_cons pe_str (pa_cons (pv 6) (pa_cons (C8.pe_c (p_law_pick T) hr (by decide) (by rfl) (pa_cons (pv 0) (pa_cons (pv 2) pa_nil))) (pa_cons (C8.pe_c (p_law_pick T) hr (by decide) (by rfl) (pa_cons (pv 0) (pa_cons (pe_op op_cat (pv 1) (pe_ix ix_list (pv 3) pe_int (fun _ _ => rfl))) pa_nil))) pa_nil))))))) pss_nil)
  (pss_cons (ps_expr (pe_bm PySem.F.plainAttrs_list PySem.F.slot_list_append PySem.F.type_list_append mt_append (pe_ix ix_list (pv 3) pe_int (fun _ _ => rfl)) (pa_cons (pv 5) pa_nil)))
  (pss_cons (ps_if (pt_cmpR op_eq (pv 4) pe_int (nomark _)) (pss_one (ps_ret (pe_tup (pa_cons pe_str (pa_cons (pv 5) pa_nil))))) pss_nil)
  (pss_cons (ps_if (pt_cmpR op_eq (pv 4) pe_int (nomark _)) (pss_one (ps_ret (pe_tup (pa_cons pe_str (pa_cons (pv 5) (pa_cons (pv 6) pa_nil)))))) pss_nil)
  (pss_cons (ps_if (PW.pt (pw_and (pt_cmpR op_in_seq (pv 4) (pe_tup (pa_cons pe_int (pa_cons pe_int pa_nil))) (by with_unfolding_all rfl)) (pw_and1 (pt_cmpR op_gt (pe_ix ix_list (pv 3) pe_int (fun _ _ => rfl)) pe_int (nomark _))))) (pss_cons (ps_asg (pe_op op_sub (pe_ix ix_list (pv 3) pe_int (fun _ _ => rfl)) pe_int) (pg_sub (pv 3) pe_int set_list))
  (pss_one (ps_ret (pe_tup (pa_cons pe_str (pa_cons (pv 5) (pa_cons (pv 6) (pa_cons (C8.pe_c (p_law_pick T) hr (by decide) (by rfl) (pa_cons (pv 0) (pa_cons (pe_lst (pa_cons pe_str (pa_cons pe_str pa_nil))) pa_nil))) (pa_cons (C8.pe_c (p_law_draw T) hr (by decide) (by rfl) (pa_cons (pv 0) (pa_cons pe_int pa_nil))) pa_nil))))))))) pss_nil)
  (pss_one (ps_ret (pe_tup (pa_cons pe_str (pa_cons (pv 5) (pa_cons (pv 6) (pa_cons (C8.pe_c (p_law_pick T) hr (by decide) (by rfl) (pa_cons (pv 0) (pa_cons (pv 2) pa_nil))) pa_nil))))))))))))))))), ?_⟩
    refine ⟨_, rfl, a.pa, a.ca, 12, rfl, hD.pool, by omega, by omega, fun H1 kd hp1 fr1 hkd => ?_⟩
    have D1 := hD.drawn hp1 fr1
    have x1 : DX a H H1 := DX.pool fr1
    refine ⟨_, rfl, _, rfl, a.pa, a.ca, a.wa, _, rfl, hp1, w1, w2, D1.wl, by rw [List.length_map]; omega, by rw [List.length_map]; omega, fun H2 vx hp2 fr2 hvx => ?_⟩
    obtain ⟨x, hx, rfl⟩ := List.mem_map.mp hvx
    have D2 := D1.drawn hp2 fr2
    have x2 : DX a H H2 := x1.trans (DX.pool fr2)
    refine ⟨_, rfl, _, rfl, a.ra, _, 3, .ref a.la, rfl, rfl, SqL.of D2.room, atI_nat (j := 3) rfl, a.la, 8, _, rfl, rfl, D2.more, by decide, by decide, small_le (by rw [List.length_map]; show rs.length * 8 ≤ _; omega), fun p np => ?_⟩
    have e3 : Ext H2 (upd H2 p (.lst (List.replicate (8 : Int).toNat (rs.map V.str)).flatten)) := Ext.upd np
    have hp3 : upd H2 p (.lst (List.replicate (8 : Int).toNat (rs.map V.str)).flatten) p = some (.lst (List.replicate (8 : Int).toNat (rs.map V.str)).flatten) := upd_same
    refine ⟨_, rfl, small_le (by show 1 ≤ _; omega), fun l nl => ?_⟩
    generalize upd H2 p (.lst (List.replicate (8 : Int).toNat (rs.map V.str)).flatten) = H3 at e3 hp3 nl
    have e4 : Ext H3 (upd H3 l (.lst [.str x])) := Ext.upd nl
    have hl4 : upd H3 l (.lst [.str x]) l = some (.lst [.str x]) := upd_same
    have lenR : (List.replicate (8 : Int).toNat (rs.map V.str)).flatten.length ≤ 800 := by
      rw [List.length_flatten, List.map_replicate, List.sum_replicate_nat, List.length_map]
      show 8 * rs.length ≤ 800
      omega
    have memR : ∀ v ∈ (List.replicate (8 : Int).toNat (rs.map V.str)).flatten, ∃ y ∈ rs, v = .str y := fun v hv => by
      obtain ⟨l, hl, hv⟩ := List.mem_flatten.mp hv
      rw [(List.mem_replicate.mp hl).2] at hv
      obtain ⟨y, hy, e⟩ := List.mem_map.mp hv
      exact ⟨y, hy, e.symm⟩
    refine ⟨p, l, _, _, rfl, rfl, e4 _ _ hp3, hl4, small_le (by show _ + 1 ≤ _; omega), fun k nk => ?_⟩
    generalize upd H3 l (.lst [.str x]) = H4 at e4 hl4 nk
    generalize (List.replicate (8 : Int).toNat (rs.map V.str)).flatten = big at lenR memR nk
    have e5 : Ext H4 (upd H4 k (.lst (big ++ [.str x]))) := Ext.upd nk
    have hk5 : upd H4 k (.lst (big ++ [.str x])) k = some (.lst (big ++ [.str x])) := upd_same
    have e25 := (e3.trans e4).trans e5
    generalize upd H4 k (.lst (big ++ [.str x])) = H5 at e5 hk5 e25
    have D5 := D2.ext e25
    obtain ⟨k1, k2⟩ := (D2.pool.ext (e3.trans e4)).off nk
    refine ⟨a.pa, a.ca, k, _, rfl, D5.pool, k1, k2, hk5, by rw [List.length_append]; show 0 < _ + 1; omega, by rw [List.length_append]; show _ + 1 < _; omega, fun H6 vy hp6 fr6 hvy => ?_⟩
    have D6 := D5.drawn hp6 fr6
    have x6 : DX a H H6 := (x2.trans (DX.of e25)).trans (DX.pool fr6)
    have gy : ∃ y, vy = .str y ∧ GoodW y := by
      rcases List.mem_append.mp hvy with hv | hv
      · obtain ⟨y, hy, e⟩ := memR _ hv
        exact ⟨y, e, ok.gr y hy⟩
      · exact ⟨x, List.mem_singleton.mp hv, ok.gw x hx⟩
    obtain ⟨y, rfl, gy⟩ := gy
    have gx := ok.gw x hx
    clear hvy memR lenR hk5 hl4 hp3 D5 D2 x2 D1 x1 hp1 fr1 hp2 fr2 hp6 fr6
    have fin : ∀ (H' : Hp) (r : RowS) (c' : Nat) (sp' rs' : List Str) (t : Addr), Draw H' a ws fs c' sp' rs' → DX a H H' → H' t = none → RowGood fs r → sp = sp' ++ rdr r → c = c' + cps r → (∀ x ∈ rs', GoodW x) → rs'.length ≤ rs.length + 1 → Q (.ref t) (upd H' t (.tup (rowV r))) := fun H' r c' sp' rs' t hD' x' nt g1 g2 g3 g4 g5 => by
      exact q _ t r c' sp' rs' (hD'.ext (Ext.upd nt)) (x'.trans (DX.of (Ext.upd nt))) (hD'.gone x' nt) upd_same g1 g2 g3 g4 g5
    have nil0 : ∀ r : RowS, rdr r = [] → sp = sp ++ rdr r := fun r e => by rw [e, List.append_nil]
    by_cases hk0 : kd = 0
    · exact ⟨_, rfl, rfl, true, bl_t (by rw [hk0]; rfl), iteT ⟨_, rfl, small_le (by show 2 ≤ _; omega), fun t nt => fin H6 (.none x) c sp rs t D6 x6 nt (rg_none gx) (nil0 _ rfl) rfl ok.gr (by omega)⟩⟩
    refine ⟨_, rfl, rfl, false, bl_f (fun z => hk0 (by injection z with z; omega)), iteF (nx_ ?_)⟩
    dsimp only
    refine if_ansE (decide (kd ∈ [3, 4]) && decide (0 < sp.length)) (fun Q' q' => ?_) fun H7 e7 => ?_
    · refine ⟨_, rfl, small_le (by show 2 ≤ _; omega), fun p np => ⟨p, _, rfl, .inr (SqT.of upd_same), rfl, rfl, decide (kd ∈ [3, 4]), congrArg V.bl (inV_int kd [3, 4]), ?_⟩⟩
      have e7 : Ext H6 (upd H6 p (.tup [.int 3, .int 4])) := Ext.upd np
      have D7 := D6.ext e7
      cases hb : decide (kd ∈ [3, 4]) with
      | false =>
        rw [hb] at q'
        exact iteF (q' _ e7)
      | true =>
        rw [hb] at q'
        exact iteT ⟨_, rfl, a.ra, _, 2, .ref a.sa, rfl, rfl, SqL.of D7.room, atI_nat (j := 2) rfl, a.sa, _, rfl, .inl (SqL.of D7.spare), _, _, rfl, rfl, decide (0 < sp.length), by rw [List.length_map]; exact congrArg V.bl (decide_eq_decide.mpr (by omega)), q' _ e7⟩
    have D7 := D6.ext e7
    have x7 := x6.trans (DX.of e7)
    clear e7 D6 x6
    by_cases h34 : kd ∈ [3, 4] ∧ 0 < sp.length
    · rw [decide_eq_true h34.1, decide_eq_true h34.2]
      refine iteT ?_
      obtain ⟨sp0, z, rfl⟩ : ∃ l z, sp = l ++ [z] := by
        rcases List.eq_nil_or_concat sp with e | ⟨l, z, e⟩
        · rw [e] at h34; exact absurd h34.2 (Nat.lt_irrefl 0)
        · exact ⟨l, z, by rw [e, List.concat_eq_append]⟩
      have hdl : ((sp0 ++ [z]).map V.str).dropLast = sp0.map V.str := by rw [List.map_append]; exact List.dropLast_concat
      have hlast : ((sp0 ++ [z]).map V.str)[((sp0 ++ [z]).map V.str).length - 1]? = some (.str z) := by
        rw [List.length_map, List.length_append, List.map_append]
        show (sp0.map V.str ++ [V.str z])[sp0.length + 1 - 1]? = _
        rw [Nat.add_sub_cancel, List.getElem?_append_right (by rw [List.length_map]; omega), List.length_map, Nat.sub_self]
        rfl
      refine ⟨_, rfl, a.ra, _, 2, .ref a.sa, rfl, rfl, SqL.of D7.room, atI_nat (j := 2) rfl, .inl ⟨rfl, _, SqL.of D7.spare⟩, a.sa, _, _, rfl, rfl, D7.spare, hlast, ?_⟩
      rw [hdl]
      have D8 := D7.pop
      have x8 : DX a H (upd H7 a.sa (.lst (sp0.map V.str))) := x7.trans fun b o _ _ _ h4 _ e => by rw [upd_ne h4]; exact e
      generalize upd H7 a.sa (.lst (sp0.map V.str)) = H8 at D8 x8
      refine ⟨_, rfl, _, rfl, a.pa, a.ca, 5, rfl, D8.pool, by omega, by omega, fun H9 d hp9 fr9 hd => ⟨small_le (by show 4 ≤ _; omega), fun t nt => ?_⟩⟩
      exact fin H9 (.watch z y d) c sp0 rs t (D8.drawn hp9 fr9) (x8.trans (DX.pool fr9)) nt (rg_watch (ok.gs z (by simp)) gy (by omega)) rfl rfl ok.gr (by omega)
    have hb34 : (decide (kd ∈ [3, 4]) && decide (0 < sp.length)) = false := by
      rw [← Bool.decide_and]
      exact decide_eq_false h34
    rw [hb34]
    refine iteF (nx_ ?_)
    dsimp only
    refine if_ansE (decide (kd ∈ [5, 6, 7])) (fun Q' q' => ?_) fun H8 e8 => ?_
    · exact ⟨_, rfl, small_le (by show 3 ≤ _; omega), fun p np => ⟨p, _, rfl, .inr (SqT.of upd_same), rfl, rfl, decide (kd ∈ [5, 6, 7]), congrArg V.bl (inV_int kd [5, 6, 7]), q' _ (Ext.upd np)⟩⟩
    have D8 := D7.ext e8
    have x8 := x7.trans (DX.of e8)
    clear e8 D7 x7
    by_cases h567 : kd ∈ [5, 6, 7]
    · rw [decide_eq_true h567]
      refine iteT ?_
      refine ⟨_, rfl, _, rfl, _, rfl, a.pa, a.ca, a.fa, _, rfl, D8.pool, f1, f2, D8.fl, by rw [List.length_map]; omega, by rw [List.length_map]; omega, fun H9 vf hp9 fr9 hvf => ?_⟩
      obtain ⟨f, hf, rfl⟩ := List.mem_map.mp hvf
      have D9 := D8.drawn hp9 fr9
      have x9 := x8.trans (DX.pool fr9)
      refine ⟨_, rfl, _, rfl, _, rfl, a.ra, _, 3, .ref a.la, rfl, rfl, SqL.of D9.room, atI_nat (j := 3) rfl, a.wa, a.la, _, _, rfl, rfl, D9.wl, D9.more, small_le (by rw [List.length_map, List.length_map]; omega), fun m nm => ?_⟩
      obtain ⟨m1, m2⟩ := D9.pool.off nm
      have e10 : Ext H9 (upd H9 m (.lst (ws.map V.str ++ rs.map V.str))) := Ext.upd nm
      have hm10 : upd H9 m (.lst (ws.map V.str ++ rs.map V.str)) m = some (.lst (ws.map V.str ++ rs.map V.str)) := upd_same
      generalize upd H9 m (.lst (ws.map V.str ++ rs.map V.str)) = H10 at e10 hm10
      have D10 := D9.ext e10
      refine ⟨a.pa, a.ca, m, _, rfl, D10.pool, m1, m2, hm10, by rw [List.length_append, List.length_map]; omega, by rw [List.length_append, List.length_map, List.length_map]; omega, fun H11 vz hp11 fr11 hvz => ⟨small_le (by show 4 ≤ _; omega), fun t nt => ?_⟩⟩
      have gz : ∃ z, vz = .str z ∧ GoodW z := by
        rcases List.mem_append.mp hvz with hv | hv
        · obtain ⟨z, hz, e⟩ := List.mem_map.mp hv
          exact ⟨z, e.symm, ok.gw z hz⟩
        · obtain ⟨z, hz, e⟩ := List.mem_map.mp hv
          exact ⟨z, e.symm, ok.gr z hz⟩
      obtain ⟨z, rfl, gz⟩ := gz
      exact fin H11 (.put y f z) c sp rs t (D10.drawn hp11 fr11) ((x9.trans (DX.of e10)).trans (DX.pool fr11)) nt (rg_put gy gz hf) (nil0 _ rfl) rfl ok.gr (by omega)
    rw [decide_eq_false h567]
    refine iteF (nx_ ?_)
    refine ⟨_, rfl, a.ra, _, 3, .ref a.la, rfl, rfl, SqL.of D8.room, atI_nat (j := 3) rfl, .inl ⟨rfl, _, SqL.of D8.more⟩, _, rfl, a.la, _, _, rfl, rfl, D8.more, small_lt (by rw [List.length_map]; omega), ?_⟩
    have em : rs.map V.str ++ [V.str x] = (rs ++ [x]).map V.str := by rw [List.map_append]; rfl
    rw [em]
    have D9 := D8.push x
    have x9 : DX a H (upd H8 a.la (.lst ((rs ++ [x]).map V.str))) := x8.trans fun b o _ _ _ _ h5 e => by rw [upd_ne h5]; exact e
    generalize upd H8 a.la (.lst ((rs ++ [x]).map V.str)) = H9 at D9 x9
    have gr9 : ∀ z ∈ rs ++ [x], GoodW z := fun z hz => by
      rcases List.mem_append.mp hz with hz | hz
      · exact ok.gr z hz
      · rw [List.mem_singleton.mp hz]; exact gx
    have lr9 : (rs ++ [x]).length ≤ rs.length + 1 := by rw [List.length_append]; exact Nat.le_refl _
    generalize rs ++ [x] = rs9 at D9 gr9 lr9
    by_cases hk1 : kd = 1
    · exact ⟨_, rfl, rfl, true, bl_t (by rw [hk1]; rfl), iteT ⟨_, rfl, small_le (by show 2 ≤ _; omega), fun t nt => fin H9 (.new x) c sp rs9 t D9 x9 nt (rg_new gx) (nil0 _ rfl) rfl gr9 lr9⟩⟩
    refine ⟨_, rfl, rfl, false, bl_f (fun z => hk1 (by injection z with z; omega)), iteF (nx_ ?_)⟩
    by_cases hk2 : kd = 2
    · exact ⟨_, rfl, rfl, true, bl_t (by rw [hk2]; rfl), iteT ⟨_, rfl, _, rfl, small_le (by show 3 ≤ _; omega), fun t nt => fin H9 (.move x y) c sp rs9 t D9 x9 nt (rg_move gx gy) (nil0 _ rfl) rfl gr9 lr9⟩⟩
    refine ⟨_, rfl, rfl, false, bl_f (fun z => hk2 (by injection z with z; omega)), iteF (nx_ ?_)⟩
    dsimp only
    refine if_ansE (decide (kd ∈ [8, 9]) && decide (0 < c)) (fun Q' q' => ?_) fun H10 e10 => ?_
    · refine ⟨_, rfl, small_le (by show 2 ≤ _; omega), fun p np => ⟨p, _, rfl, .inr (SqT.of upd_same), rfl, rfl, decide (kd ∈ [8, 9]), congrArg V.bl (inV_int kd [8, 9]), ?_⟩⟩
      have e7 : Ext H9 (upd H9 p (.tup [.int 8, .int 9])) := Ext.upd np
      have D7 := D9.ext e7
      cases hb : decide (kd ∈ [8, 9]) with
      | false =>
        rw [hb] at q'
        exact iteF (q' _ e7)
      | true =>
        rw [hb] at q'
        exact iteT ⟨_, rfl, a.ra, _, 1, .int (c : Nat), rfl, rfl, SqL.of D7.room, atI_nat (j := 1) rfl, _, _, rfl, rfl, decide (0 < c), congrArg V.bl (decide_eq_decide.mpr (by omega)), q' _ e7⟩
    have D10 := D9.ext e10
    have x10 := x9.trans (DX.of e10)
    clear e10 D9 x9
    by_cases h89 : kd ∈ [8, 9] ∧ 0 < c
    · rw [decide_eq_true h89.1, decide_eq_true h89.2]
      refine iteT ?_
      obtain ⟨c', rfl⟩ : ∃ c', c = c' + 1 := ⟨c - 1, by omega⟩
      refine ⟨_, rfl, a.ra, _, 1, .int ((c' + 1 : Nat) : Int), rfl, rfl, SqL.of D10.room, atI_nat (j := 1) rfl, _, _, rfl, rfl, _, rfl, a.ra, _, 1, 1, rfl, rfl, D10.room, rfl, ?_⟩
      have D11 : Draw (upd H10 a.ra (.lst ([V.int 0, .int ((c' + 1 : Nat) : Int), .ref a.sa, .ref a.la].set 1 (.int (((c' + 1 : Nat) : Int) - 1))))) a ws fs c' sp rs9 := by
        rw [show (((c' + 1 : Nat) : Int) - 1) = ((c' : Nat) : Int) by omega]
        exact D10.less c'
      have x11 : DX a H (upd H10 a.ra (.lst ([V.int 0, .int ((c' + 1 : Nat) : Int), .ref a.sa, .ref a.la].set 1 (.int (((c' + 1 : Nat) : Int) - 1))))) := x10.trans fun b o _ _ h3 _ _ e => by rw [upd_ne h3]; exact e
      generalize upd H10 a.ra (.lst ([V.int 0, .int ((c' + 1 : Nat) : Int), .ref a.sa, .ref a.la].set 1 (.int (((c' + 1 : Nat) : Int) - 1)))) = H11 at D11 x11
      refine ⟨_, rfl, _, rfl, _, rfl, small_le (by show 2 ≤ _; omega), fun m nm => ?_⟩
      obtain ⟨m1, m2⟩ := D11.pool.off nm
      have e12 : Ext H11 (upd H11 m (.lst [.str "freeze", .str "thaw"])) := Ext.upd nm
      have hm12 : upd H11 m (.lst [.str "freeze", .str "thaw"]) m = some (.lst [.str "freeze", .str "thaw"]) := upd_same
      generalize upd H11 m (.lst [.str "freeze", .str "thaw"]) = H12 at e12 hm12
      have D12 := D11.ext e12
      refine ⟨a.pa, a.ca, m, _, rfl, D12.pool, m1, m2, hm12, by show 0 < 2; omega, by show 2 < _; omega, fun H13 vk hp13 fr13 hvk => ?_⟩
      have D13 := D12.drawn hp13 fr13
      have x13 := (x11.trans (DX.of e12)).trans (DX.pool fr13)
      have gk : ∃ b, vk = .str (kindS b) := by
        rcases List.mem_cons.mp hvk with e | hv
        · exact ⟨true, e⟩
        · exact ⟨false, List.mem_singleton.mp hv⟩
      obtain ⟨b, rfl⟩ := gk
      refine ⟨_, rfl, a.pa, a.ca, 5, rfl, D13.pool, by omega, by omega, fun H14 d hp14 fr14 hd => ⟨small_le (by show 5 ≤ _; omega), fun t nt => ?_⟩⟩
      exact fin H14 (.copy x y b d) c' sp rs9 t (D13.drawn hp14 fr14) (x13.trans (DX.pool fr14)) nt (rg_copy gx gy b (by omega)) (nil0 _ rfl) rfl gr9 lr9
    have hb89 : (decide (kd ∈ [8, 9]) && decide (0 < c)) = false := by
      rw [← Bool.decide_and]
      exact decide_eq_false h89
    rw [hb89]
    refine iteF (nx_ ?_)
    refine ⟨_, rfl, _, rfl, _, rfl, _, rfl, a.pa, a.ca, a.fa, _, rfl, D10.pool, f1, f2, D10.fl, by rw [List.length_map]; omega, by rw [List.length_map]; omega, fun H11 vf hp11 fr11 hvf => ⟨small_le (by show 4 ≤ _; omega), fun t nt => ?_⟩⟩
    obtain ⟨f, hf, rfl⟩ := List.mem_map.mp hvf
    exact fin H11 (.look x y f) c sp rs9 t (D10.drawn hp11 fr11) (x10.trans (DX.pool fr11)) nt (rg_look gx gy hf) (nil0 _ rfl) rfl gr9 lr9
end
end TW
set_option maxHeartbeats 4000000
/-! ## the law: exact, name, do, attempt -/
namespace TW
open PySem PySem.Spec PyProof.Rows L2 TwN
section
variable {P : Program} {w : World} {K : PySem.W.Frag} {mg : Str → Option Value} {base h : Heap}
def sp_exact (K : PySem.W.Frag) : Sp := fun vs H Q _ => ∃ (a b : Addr) (k n : Nat) (d : PyData), vs = [.ref a, .ref b] ∧ Dp K H (.ref a) d ∧ Dp K H (.ref b) d ∧ Shw k n d ∧ k ≤ 60 ∧ n ≤ 1000000 ∧ Q (.bl true) H
theorem p_law_exact (T : Tx w K mg h) : CalG P w K mg base 1 "_law_exact" (sp_exact K) :=
  calG T.f_law_exact T.g_law_exact sc_law_exact (fun vs H Q E ⟨_, _, _, _, _, e, _⟩ => by rw [e]; rfl) fun cdv A outer s H vs Q E hr hg ⟨a, b, k, n, d, e, ha, hb, sh, hk, hn, q⟩ => by
    subst e
    refine ⟨_, (pss_one (ps_ret (pe_cmpR op_eq (pe_callB (call_repr hg hr.units) (by rfl) T.z_repr (by decide +kernel) (pa_cons (pv 0) pa_nil)) (pe_callB (call_repr hg hr.units) (by rfl) T.z_repr (by decide +kernel) (pa_cons (pv 1) pa_nil)) (nomark _)))), ?_⟩
    have hd := Nat.le_trans sh.dep hk
    have hf := sh.fits hk hn
    refine ⟨_, rfl, a, d, rfl, ha, sh.sho, sh.nod, hd, hf, _, rfl, b, d, rfl, hb, sh.sho, sh.nod, hd, hf, rfl, ?_⟩
    exact q_t rfl q
def nameR : RowS → Str
  | .look _ y _ => y
  | .move x _ => x | .none x => x | .new x => x | .put x _ _ => x | .copy x _ _ _ => x | .watch r _ _ => r
theorem nameR_of {r : RowS} {x : Str} (h : nameOf r = some x) : nameR r = x := by
  cases r <;> first | exact Option.some.inj h | cases h
theorem row_look (r : RowS) : (∃ x y f, r = .look x y f) ∨ (nameS r ≠ "look" ∧ (rowV r)[1]? = some (.str (nameR r))) := by
  cases r with
  | look x y f => exact .inl ⟨x, y, f, rfl⟩
  | move x y => exact .inr ⟨by show (Str.ofString "move") ≠ "look"; decide, rfl⟩
  | none x => exact .inr ⟨by show (Str.ofString "none") ≠ "look"; decide, rfl⟩
  | new x => exact .inr ⟨by show (Str.ofString "new") ≠ "look"; decide, rfl⟩
  | put x f y => exact .inr ⟨by show (Str.ofString "put") ≠ "look"; decide, rfl⟩
  | copy x y b d => exact .inr ⟨by show (Str.ofString "copy") ≠ "look"; decide, rfl⟩
  | watch r x d => exact .inr ⟨by show (Str.ofString "watch") ≠ "look"; decide, rfl⟩
def sp_lname : Sp := fun vs H Q _ => ∃ (a : Addr) (r : RowS), vs = [.ref a] ∧ H a = some (.tup (rowV r)) ∧ Q (.str (nameR r)) H
theorem p_law_name (T : Tx w K mg h) : C8.Cal P w K mg base 1 "_law_name" sp_lname [] :=
  cal T.f_law_name T.g_law_name sc_law_name (fun vs H Q E ⟨_, _, e, _⟩ => by rw [e]; rfl) fun cdv A outer s H vs Q E hr ⟨a, r, e, ha, q⟩ => by
    subst e
    refine ⟨_, (pss_cons (ps_if (pt_cmpR op_eq (pe_ix ix_tup (pv 0) pe_int (fun _ _ => rfl)) pe_str (nomark _)) (pss_one (ps_ret (pe_ix ix_tup (pv 0) pe_int (fun _ _ => rfl)))) pss_nil)
  (pss_one (ps_ret (pe_ix ix_tup (pv 0) pe_int (fun _ _ => rfl))))), ?_⟩
    refine ⟨_, rfl, a, _, 0, .str (nameS r), rfl, rfl, SqT.of ha, atI_nat (j := 0) rfl, rfl, ?_⟩
    rcases row_look r with ⟨x, y, f, rfl⟩ | ⟨hn, h1⟩
    · exact ⟨true, bl_t rfl, iteT ⟨_, rfl, a, _, 2, .str y, rfl, rfl, SqT.of ha, atI_nat (j := 2) rfl, q⟩⟩
    · exact ⟨false, bl_f (fun z => hn (by injection z)), iteF ⟨_, rfl, a, _, 1, .str (nameR r), rfl, rfl, SqT.of ha, atI_nat (j := 1) h1, q⟩⟩
def sp_ldo (K : PySem.W.Frag) : Sp := fun vs H Q _ => ∃ (y ra : Addr) (A : SA) (m : Nat) (fs : List Str) (s s' : StS) (r : RowS), vs = [.ref y, .ref ra] ∧ LiveAt K H y A m fs s ∧ H ra = some (.tup (rowV r)) ∧ Fields fs ∧ SOk fs s ∧ (∀ w ∈ s.wat, w.2.2 ≤ 1000) ∧ m ≤ 10000 ∧ RowGood fs r ∧ (∀ x ∈ rdr r, x ∉ s.wat.map (·.1)) ∧ perf fs s r = .ok s' ∧
  ∀ H' A' t, LiveAt K H' y A' (m + 1) fs s' → (∀ b o, ¬ foot A s b → H b = some o → H' b = some o) → (∀ b, foot A' s' b → foot A s b ∨ H b = none) → H' t = some (.tup [.str "done", .str ""]) → Q (.ref t) H'
theorem p_law_do (T : Tx w K mg h) : C8.Cal P w K mg base 8 "_law_do" (sp_ldo K) [] :=
  cal T.f_law_do T.g_law_do sc_law_do (fun vs H Q E ⟨_, _, _, _, _, _, _, _, e, _⟩ => by rw [e]; rfl) fun cdv A' outer s0 H vs Q E hr ⟨y, ra, A, m, fs, s, s', r, e, lv, hra, hF, ok, hw, hm, hg, hno, hp, q⟩ => by
    subst e
    obtain ⟨dy, hy⟩ := lv.ex
    refine ⟨_, (pss_cons (ps_try_manyAs (i := 3) rfl rfl sc_law_do.nd rfl rfl takes_none5 (fun W pn xe tk px => by exact (pss_one (ps_set (i := 2) sc_law_do.nd rfl (by first | exact Or.inl rfl | exact Or.inr rfl) (pe_mtS (W := W) (p_Live_do T) tk hr (by decide) (pv 0) (pa_cons (pv 1) pa_nil)))))
  (.cons ⟨by rfl, by decide, .inl T.g_Hollow⟩ (fun a oe cls d pn hz hf => by exact (pss_one (ps_ret (pe_tup (pa_cons pe_str (pa_cons (pe_xf T.xh.x T.xh.n hz hf (pv 3)) pa_nil)))))) (.cons ⟨by rfl, by decide, .inl T.g_Refused⟩ (fun a oe cls d pn hz hf => by exact (pss_one (ps_ret (pe_tup (pa_cons pe_str (pa_cons (pe_xf T.xr.x T.xr.n hz hf (pv 3)) pa_nil)))))) .nil)))
  (pss_one (ps_ret (pe_tup (pa_cons pe_str (pa_cons (pe_ifExp (pt_cmp (pc_isN (pv 2))) pe_str pe_str) pa_nil)))))), ?_⟩
    refine ⟨_, rfl, y, dy, _, rfl, hy, rfl, _, rfl, y, ra, A, m, fs, s, r, rfl, lv, hra, hF, ok, hw, hm, hg, hno, fun H1 x1 => ?_⟩
    rw [hp]
    refine .ok fun A2 H2 st2 c2 f2 p2 fa2 => ?_
    have x2 : ∀ b o, ¬ foot A s b → H b = some o → H2 b = some o := fun b o hb e => c2.old b o (x1 _ _ e) hb
    have hy2 := x2 _ _ lv.nf hy
    have f2' : ∀ b, foot A2 s' b → foot A s b ∨ H b = none := fun b hb => (f2 b hb).imp id fun z => ext_none x1 z
    refine ⟨_, rfl, true, rfl, iteT ⟨small_le (by show 2 ≤ _; omega), fun t nt => ?_⟩⟩
    exact q _ A2 t ⟨⟨dy, by rw [p2]; exact Ext.upd nt _ _ hy2⟩, st2.ext (Ext.upd nt)⟩ (fun b o hb e => Ext.upd nt _ _ (x2 b o hb e)) f2' upd_same
inductive PostL (K : PySem.W.Frag) (y : Addr) (m n : Nat) (fs : List Str) (H : L2.Hp) (Q : VK) : Out Str → Prop
  | done {s' : StS} (h : ∀ H' A' t, LiveAt K H' y A' m fs s' → (∀ b o, b ≠ y → H b = some o → H' b = some o) → (∀ b, foot A' s' b → H b = none) → H t = none → H' t = some (.tup [.str "done", .int (n : Nat)]) → Q (.ref t) H') : PostL K y m n fs H Q (.done s')
  | hollow {i : Nat} {x : Str} (h : ∀ H' t, Ext H H' → H t = none → H' t = some (.tup [.str "hollow", .str x]) → Q (.ref t) H') : PostL K y m n fs H Q (.stop i (.hollow x))
  | refused {i : Nat} {x : Str} (h : ∀ H' t, Ext H H' → H t = none → H' t = some (.tup [.str "refused", .str x]) → Q (.ref t) H') : PostL K y m n fs H Q (.stop i (.refused x))
def sp_lattempt (K : PySem.W.Frag) : Sp := fun vs H Q E => ∃ (y la : Addr) (A : SA) (m : Nat) (fs : List Str) (s : StS) (ls : List V) (rs : List RowS) (out : Out Str), vs = [.ref y, .ref la] ∧ LiveAt K H y A m fs s ∧ H la = some (.lst ls) ∧ RowsAt H ls rs ∧ RunOk fs rs s m ∧ Ends fs rs s out ∧
  PostL K y (m + rs.length) rs.length fs H Q out
theorem p_law_attempt (T : Tx w K mg h) : C8.Cal P w K mg base 10 "_law_attempt" (sp_lattempt K) [] :=
  cal T.f_law_attempt T.g_law_attempt sc_law_attempt (fun vs H Q E ⟨_, _, _, _, _, _, _, _, _, e, _⟩ => by rw [e]; rfl) fun cdv A' outer s0 H vs Q E hr ⟨y, la, A, m, fs, s, ls, rs, out, e, lv, hla, hrs, ro, he, q⟩ => by
    subst e
    obtain ⟨dy, hy⟩ := lv.ex
    refine ⟨_, (pss_cons (ps_try_manyAs (i := 3) rfl rfl sc_law_attempt.nd rfl rfl takes_none5 (fun W pn xe tk px => by exact (pss_one (ps_set (i := 2) sc_law_attempt.nd rfl (by first | exact Or.inl rfl | exact Or.inr rfl) (pe_mtS (W := W) (p_Live_attempt T) tk hr (by decide) (pv 0) (pa_cons (pv 1) pa_nil)))))
  (.cons ⟨by rfl, by decide, .inl T.g_Hollow⟩ (fun a oe cls d pn hz hf => by exact (pss_one (ps_ret (pe_tup (pa_cons pe_str (pa_cons (pe_xf T.xh.x T.xh.n hz hf (pv 3)) pa_nil)))))) (.cons ⟨by rfl, by decide, .inl T.g_Refused⟩ (fun a oe cls d pn hz hf => by exact (pss_one (ps_ret (pe_tup (pa_cons pe_str (pa_cons (pe_xf T.xr.x T.xr.n hz hf (pv 3)) pa_nil)))))) .nil)))
  (pss_one (ps_ret (pe_tup (pa_cons pe_str (pa_cons (pv 2) pa_nil)))))), ?_⟩
    refine ⟨_, rfl, y, dy, _, rfl, hy, rfl, _, rfl, y, la, A, m, fs, s, ls, rs, out, rfl, lv, hla, hrs, ro, he, ?_⟩
    cases q with
    | done q =>
      refine .done fun H' A1 lv1 fr f1 => ?_
      obtain ⟨dy1, hy1⟩ := lv1.ex
      refine ⟨_, rfl, small_le (by show 2 ≤ _; omega), fun t nt => q _ A1 t (lv1.ext (Ext.upd nt)) (fun b o hb e => Ext.upd nt _ _ (fr b o hb e)) f1 ?_ upd_same⟩
      cases e : H t with
      | none => rfl
      | some o =>
        by_cases z : t = y
        · rw [z, hy1] at nt; cases nt
        · rw [fr t o z e] at nt; cases nt
    | hollow q =>
      refine .hollow fun H' d x1 hd => ⟨true, T.x_Hollow_Hollow, fun _ a na => ?_, (fun z => by cases z)⟩
      exact ⟨_, rfl, rfl, rfl, d, _, _, rfl, hd, rfl, small_le (by show 2 ≤ _; omega), fun t nt => q _ t (x1.trans (Ext.upd nt)) (ext_none x1 nt) upd_same⟩
    | refused q =>
      refine .refused fun H' d x1 hd => ⟨false, T.x_Refused_Hollow, (fun z => by cases z), fun _ => ⟨true, T.x_Refused_Refused, fun _ a na => ?_, (fun z => by cases z)⟩⟩
      exact ⟨_, rfl, rfl, rfl, d, _, _, rfl, hd, rfl, small_le (by show 2 ≤ _; omega), fun t nt => q _ t (x1.trans (Ext.upd nt)) (ext_none x1 nt) upd_same⟩
end
end TW
set_option maxHeartbeats 4000000
/-! ## the law: the state of a live -/
namespace TW
open PySem PySem.Spec PyProof.Rows L2 TwN
/-- a state that was told -/
structure StateAt (K : PySem.W.Frag) (H : L2.Hp) (D : Addr) (fs : List Str) (s : StS) (ns : List Str) : Prop where
  ex : ∃ a1 a3 a4 : Addr, H D = some (.lst [.ref a1, .int (s.fro.length : Nat), .ref a3, .ref a4]) ∧ Dp K H (.ref a1) (toldD s ns) ∧ Dp K H (.ref a3) (hitsD s) ∧ HeapAt K H a4 fs ((hdOf fs s ns).nrm srt fs)
theorem StateAt.ext {K : PySem.W.Frag} {H H' : Hp} {D : Addr} {fs : List Str} {s : StS} {ns : List Str} (h : StateAt K H D fs s ns) (e : Ext H H') : StateAt K H' D fs s ns := by
  obtain ⟨a1, a3, a4, h1, h2, h3, h4⟩ := h.ex
  exact ⟨a1, a3, a4, e _ _ h1, Dp.keepR (.of e) h2, Dp.keepR (.of e) h3, h4.ext e⟩
/-- what a state is told of -/
structure TellOk (fs : List Str) (s : StS) (ns : List Str) : Prop where
  F : Fields fs
  ok : SOk fs s
  nd : ns.Nodup
  hi : ns.length ≤ 6
  gw : ∀ x ∈ ns, GoodW x
  pu : s.puts ≤ 1000
  hb : HitB s
theorem dpall_snoc {K : PySem.W.Frag} {H : Hp} : ∀ {vs : List V} {ds : List PyData} {v : V} {d : PyData}, DpAll K H vs ds → Dp K H v d → DpAll K H (vs ++ [v]) (ds ++ [d])
  | [], [], _, _, .nil, h => .cons h .nil
  | _ :: _, _ :: _, _, _, .cons h t, h2 => .cons h (dpall_snoc t h2)
section
variable {P : Program} {w : World} {K : PySem.W.Frag} {mg : Str → Option Value} {base h : Heap}
def sp_lstate (K : PySem.W.Frag) : Sp := fun vs H Q _ => ∃ (y na : Addr) (A : SA) (m : Nat) (fs : List Str) (s : StS) (ns : List Str), vs = [.ref y, .ref na] ∧ LiveAt K H y A m fs s ∧ H na = some (.lst (ns.map .str)) ∧ TellOk fs s ns ∧
  ∀ H' D, Ext H H' → H D = none → StateAt K H' D fs s ns → Q (.ref D) H'
theorem p_law_state (T : Tx w K mg h) : C8.Cal P w K mg base 10 "_law_state" (sp_lstate K) [] :=
  cal T.f_law_state T.g_law_state sc_law_state (fun vs H Q E ⟨_, _, _, _, _, _, _, e, _⟩ => by rw [e]; rfl) fun cdv A' outer s0 H vs Q E hr ⟨y, na, A, m, fs, s, ns, e, lv, hna, tk, q⟩ => by
    subst e
    obtain ⟨dy, hy⟩ := lv.ex
    refine ⟨_, (pss_cons (ps_setLc (i := 2) (own := [("_law_word_here", 3)]) (g := gName 3) (by rfl) sc_law_state.nd rfl rfl (sw_true rfl rfl rfl (by decide +kernel)) (pi_list (pv 1)) (blkOk_by (own := [("_law_word_here", 3)]) (N := ["_law_live", "_law_words_here", "_law_told", "_law_word_here"]) (sc := defScope s_law_state) (by decide +kernel)) (fun _ _ _ _ _ => (pg_name (i := 3) sc_law_state.nd rfl (by first | exact Or.inl rfl | exact Or.inr rfl))) (fun _ _ _ _ _ => pts_nil) (fun _ _ _ _ _ => (by exact (C8.pe_mt (p_Live_value T) hr (by decide) (pv 0) (pa_cons (pv 3) pa_nil)))))
  (pss_one (ps_ret (pe_lst (pa_cons (pv 2) (pa_cons (C8.pe_mt0 (p_Live_made T) hr (by decide) (pv 0)) (pa_cons (C8.pe_mt0 (p_Live_reached T) hr (by decide) (pv 0)) (pa_cons (C8.pe_mt (p_Live_behind T) hr (by decide) (pv 0) (pa_cons (pv 1) pa_nil)) pa_nil)))))))), ?_⟩
    refine ⟨_, rfl, na, rfl, ⟨_, SqL.of hna⟩, fun D nD => lc_it (walk_list (xs := ns.map .str)) (fun i H' => ∃ us : List V, H' D = some (.lst us) ∧ DtAll H' us ((ns.take i).map fun x => shD s (s.hold x)) ∧ us.length = i ∧ Ext H H') ⟨[], upd_same, .nil, rfl, Ext.upd nD⟩ (fun _ _ _ ⟨_, _, _, _, x⟩ => SqL.of (x _ _ hna))
      (fun i v Hz H1 hi ⟨us, hD, hd, hl, x1⟩ ⟨e2, ev⟩ => ?_) fun H1 ⟨us, hD, hd, hl, x1⟩ => ?_⟩
    · subst e2
      obtain ⟨x, hx, rfl⟩ := map_at ev
      refine ⟨rfl, _, rfl, y, dy, _, rfl, x1 _ _ hy, rfl, _, rfl, y, A, m, fs, s, x, rfl, lv.ext x1, tk.gw x (List.mem_of_getElem? hx), tk.ok.wf, tk.ok.fl, fun H2 u x2 hu => ?_⟩
      have x12 := x1.trans x2
      refine ⟨us, x2 _ _ hD, small_lt ?_, us ++ [u], upd_same, ?_, by rw [List.length_append, hl]; rfl, extSet x12 nD⟩
      · have := (List.getElem?_eq_some_iff.mp hx).1
        have := tk.hi
        omega
      · rw [List.take_add_one, hx]
        have kk : KeepT H2 (upd H2 D (.lst (us ++ [u]))) := KeepT.at_ (x2 _ _ hD) fun _ z => by cases z
        rw [show (some x).toList = [x] from rfl]
        exact DtAll.snocM (f := fun x => shD s (s.hold x)) ((hd.keep (ext_keep x2)).keep kk) (hu.keep kk)
    · rw [List.length_map, List.take_length] at hd
      have ok := tk.ok
      have lv1 := lv.ext x1
      refine ⟨_, rfl, _, rfl, y, dy, _, rfl, x1 _ _ hy, rfl, y, A, m, fs, s, rfl, lv1, ?_⟩
      refine ⟨_, rfl, y, dy, _, rfl, x1 _ _ hy, rfl, y, A, m, fs, s, rfl, lv1, ok.hl, fun H2 p2 x2 np2 hp2 => ?_⟩
      have x12 := x1.trans x2
      refine ⟨_, rfl, y, dy, _, rfl, x12 _ _ hy, rfl, _, rfl, y, na, A, m, fs, s, ns, rfl, lv.ext x12, x12 _ _ hna, tk.F, ok.wf, ok.sm, tk.nd, tk.hi, tk.gw, fun H3 b x3 hb => ?_⟩
      refine ⟨small_le (by show 4 ≤ _; omega), fun t nt => ?_⟩
      have x4 := Ext.upd (o := .lst [V.ref D, .int (s.fro.length : Nat), .ref p2, .ref b]) nt
      refine q _ t ((x12.trans x3).trans x4) (ext_none (x12.trans x3) nt) ⟨D, p2, b, upd_same, ?_, Dp.keepR (.of (x3.trans x4)) hp2, hb.ext x4⟩
      refine Dp.lst (SqL.of (((x2.trans x3).trans x4) _ _ hD)) ?_
      exact DtAll.dp (hd.keep (ext_keep ((x2.trans x3).trans x4)))
def sp_is_state (K : PySem.W.Frag) : Sp := fun vs H Q _ => ∃ (y na D : Addr) (A : SA) (m : Nat) (fs : List Str) (s : StS) (ns : List Str), vs = [.ref y, .ref na, .ref D] ∧ LiveAt K H y A m fs s ∧ H na = some (.lst (ns.map .str)) ∧ TellOk fs s ns ∧ StateAt K H D fs s ns ∧
  ∀ H', Ext H H' → Q (.bl true) H'
theorem p_law_is_state (T : Tx w K mg h) : CalG P w K mg base 11 "_law_is_state" (sp_is_state K) :=
  calG T.f_law_is_state T.g_law_is_state sc_law_is_state (fun vs H Q E ⟨_, _, _, _, _, _, _, _, e, _⟩ => by rw [e]; rfl) fun cdv A' outer s0 H vs Q E hr hg ⟨y, na, D, A, m, fs, s, ns, e, lv, hna, tk, sd, q⟩ => by
    subst e
    refine ⟨_, (pss_cons (ps_set (i := 3) sc_law_is_state.nd rfl (by first | exact Or.inl rfl | exact Or.inr rfl) (C8.pe_c (p_law_state T) hr (by decide) (by rfl) (pa_cons (pv 0) (pa_cons (pv 1) pa_nil))))
  (pss_one (ps_ret (pe_and (pe_cG (p_law_exact T) hr hg (by decide) (by rfl) (pa_cons (pe_slice sl_list (pv 3) po_none (po_some pe_int)) (pa_cons (pe_slice sl_list (pv 2) po_none (po_some pe_int)) pa_nil))) (pe_one (pe_cmpR op_isBl (pe_cmpR (op_eqG (rcG_heap T) (hr.mono (by decide))) (pe_ix ix_list (pv 3) pe_int (fun _ _ => rfl)) (pe_ix ix_list (pv 2) pe_int (fun _ _ => rfl)) (nomark _)) pe_bl (nomark _))))))), ?_⟩
    refine ⟨_, rfl, _, rfl, y, na, A, m, fs, s, ns, rfl, lv, hna, tk, fun H1 C x1 nC sc => ?_⟩
    obtain ⟨c1, c3, c4, hC, dc1, dc3, hc4⟩ := sc.ex
    obtain ⟨a1, a3, a4, hD, da1, da3, ha4⟩ := (sd.ext x1).ex
    refine ⟨_, rfl, 3, rfl, C, _, rfl, SqL.of hC, fun p np => ?_⟩
    have x2 := Ext.upd (o := .lst (cutV [V.ref c1, .int (s.fro.length : Nat), .ref c3, .ref c4] none (some 3))) np
    have hp : upd H1 p (.lst (cutV [V.ref c1, .int (s.fro.length : Nat), .ref c3, .ref c4] none (some 3))) p = some (.lst [V.ref c1, .int (s.fro.length : Nat), .ref c3]) := upd_same
    generalize upd H1 p (.lst (cutV [V.ref c1, .int (s.fro.length : Nat), .ref c3, .ref c4] none (some 3))) = H2 at x2 hp
    refine ⟨_, rfl, 3, rfl, D, _, rfl, SqL.of (x2 _ _ hD), fun r nr => ?_⟩
    have x3 := Ext.upd (o := .lst (cutV [V.ref a1, .int (s.fro.length : Nat), .ref a3, .ref a4] none (some 3))) nr
    have hr3 : upd H2 r (.lst (cutV [V.ref a1, .int (s.fro.length : Nat), .ref a3, .ref a4] none (some 3))) r = some (.lst [V.ref a1, .int (s.fro.length : Nat), .ref a3]) := upd_same
    generalize upd H2 r (.lst (cutV [V.ref a1, .int (s.fro.length : Nat), .ref a3, .ref a4] none (some 3))) = H3 at x3 hr3
    have x13 := x2.trans x3
    have da : Dp K H3 (.ref r) (stateD s ns) := .lst (SqL.of hr3) (.cons (Dp.keepR (.of x13) da1) (.cons (.int _) (.cons (Dp.keepR (.of x13) da3) .nil)))
    have dc : Dp K H3 (.ref p) (stateD s ns) := .lst (SqL.of (x3 _ _ hp)) (.cons (Dp.keepR (.of x13) dc1) (.cons (.int _) (.cons (Dp.keepR (.of x13) dc3) .nil)))
    have sh := shw_state tk.ok tk.pu tk.hb tk.hi
    refine ⟨p, r, 3, 400000, stateD s ns, rfl, dc, da, sh, by omega, by omega, true, rfl, iteT ?_⟩
    refine ⟨_, rfl, C, _, 3, .ref c4, rfl, rfl, SqL.of (x13 _ _ hC), atI_nat (j := 3) rfl, _, rfl, D, _, 3, .ref a4, rfl, rfl, SqL.of (x13 _ _ hD), atI_nat (j := 3) rfl, ?_⟩
    have hc := hc4.ext x13
    have ha := ha4.ext x13
    obtain ⟨u1, u2, u3, u4, u5, u6, g1, _⟩ := id hc.ex
    obtain ⟨v1, v2, v3, v4, v5, v6, g2, _⟩ := id ha.ex
    have gn : ∀ q ∈ (HD.nrm srt fs (hdOf fs s ns)).nm, GoodW q.1 := names_good fun q hq => by
      obtain ⟨x, hx, rfl⟩ := List.mem_map.mp hq
      exact tk.gw x hx
    refine ⟨⟨c4, a4, _, _, _, _, rfl, rfl, g1, g2, fs, _, hc, ha, tk.F, gn⟩, fun H4 x4 => ⟨true, true, rfl, rfl, q _ ((x1.trans x13).trans x4)⟩⟩
end
end TW
set_option maxHeartbeats 4000000
/-! ## the law: what stands between the rounds -/
namespace TW
open PySem PySem.Spec PyProof.Rows L2 TwN
/-! ### runs of rows -/
theorem ends_ex (fs : List Str) (rs : List RowS) (s : StS) : ∃ out, Ends fs rs s out := by
  have key : ∀ i, i ≤ rs.length → (∃ s1, runTo fs rs s i = some s1) ∨ ∃ out, Ends fs rs s out := fun i => by
    induction i with
    | zero => exact fun _ => .inl ⟨s, rfl⟩
    | succ i ih =>
      intro hi
      rcases ih (Nat.le_of_lt hi) with ⟨s1, h1⟩ | h
      · have hr : rs[i]? = some rs[i] := List.getElem?_eq_getElem hi
        cases hp : perf fs s1 rs[i] with
        | ok s2 => exact .inl ⟨s2, runTo_ok h1 hr hp⟩
        | hollow x => exact .inr ⟨_, .stop hi h1 hr hp fun _ z => by cases z⟩
        | refused x => exact .inr ⟨_, .stop hi h1 hr hp fun _ z => by cases z⟩
      · exact .inr h
  rcases key rs.length (Nat.le_refl _) with ⟨s1, h1⟩ | h
  · exact ⟨_, .done h1⟩
  · exact h
theorem runTo_step {fs : List Str} {rs : List RowS} {s s1 s2 : StS} {i : Nat} {r : RowS} (h2 : runTo fs rs s (i + 1) = some s2) (h1 : runTo fs rs s i = some s1) (hr : rs[i]? = some r) : perf fs s1 r = .ok s2 := by
  unfold runTo at h2
  rw [h1, hr] at h2
  cases hp : perf fs s1 r with
  | ok s' => simp only [hp] at h2; rw [Option.some.inj h2]
  | hollow x => simp only [hp] at h2; cases h2
  | refused x => simp only [hp] at h2; cases h2
theorem runTo_all {fs : List Str} {rs : List RowS} {s s' : StS} (h : runTo fs rs s rs.length = some s') {i : Nat} (hi : i ≤ rs.length) : ∃ s1, runTo fs rs s i = some s1 :=
  runTo_mono (k := rs.length - i) (by rw [show i + (rs.length - i) = rs.length by omega]; exact h)
/-- a state that is in order, behind c copies and n rows -/
structure Good1 (fs : List Str) (s : StS) (c n : Nat) : Prop where
  wf : WF fs s
  gd : SGd GoodW fs s
  bd : Bnd s c n
  hb : HitB s
  wd : ∀ w ∈ s.wat, w.2.2 ≤ 4
theorem wd_perf {fs : List Str} {s s' : StS} {r : RowS} (h : ∀ w ∈ s.wat, w.2.2 ≤ 4) (ok : rowOk fs r) (e : perf fs s r = .ok s') : ∀ w ∈ s'.wat, w.2.2 ≤ 4 := by
  cases r with
  | move x y => cases e; exact h
  | none x => cases e; exact h
  | new x =>
    have e' : newP s x = s' := by injection e
    subst e'
    exact h
  | look x y f =>
    have e : lookP s x y f = .ok s' := e
    cases hy : s.hold y with
    | none => rw [lookP_none hy] at e; cases e
    | some t => rw [lookP_some hy] at e; cases e; exact h
  | put x f y =>
    have e : putP fs s x f y = .ok s' := e
    cases hx : s.hold x with
    | none => rw [putP_none hx] at e; cases e
    | some t =>
      cases hfr : isFro s t with
      | true => rw [putP_fro hx hfr] at e; cases e
      | false => rw [putP_some hx hfr] at e; cases e; exact h
  | copy x y frz d =>
    have e' : copyP fs s x y frz d = s' := by injection e
    subst e'
    obtain ⟨n, f1, f2, f3, f4, _⟩ := copyOf_facts fs s frz (s.hold y) d
    intro w hw
    have hw : w ∈ (copyOf fs s frz (s.hold y) d).1.wat := hw
    rw [f4] at hw
    exact h w hw
  | watch r x d =>
    cases e
    intro w hw
    rcases List.mem_append.mp hw with hw | hw
    · exact h w hw
    · rw [List.mem_singleton.mp hw]
      exact ok
theorem Good1.run {fs : List Str} {rs : List RowS} {s : StS} {c n : Nat} (F : Fields fs) (g : Good1 fs s c n) (hr : ∀ r ∈ rs, RowGood fs r) (hn : n + rs.length ≤ 24) {i : Nat} {s1 : StS} (hi : i ≤ rs.length) (e : runTo fs rs s i = some s1) : Good1 fs s1 (c + cpsL (rs.take i)) (n + i) := by
  obtain ⟨w, b, _⟩ := runTo_facts F.hi g.wf g.bd (fun r h => row_ok (hr r h)) hn i s1 hi e
  have key : ∀ i s1, i ≤ rs.length → runTo fs rs s i = some s1 → SGd GoodW fs s1 ∧ HitB s1 ∧ ∀ w ∈ s1.wat, w.2.2 ≤ 4 := fun i => by
    induction i with
    | zero => intro s1 _ e; cases e; exact ⟨g.gd, g.hb, g.wd⟩
    | succ i ih =>
      intro s2 hi e2
      obtain ⟨s1, e1⟩ := runTo_mono (k := 1) e2
      have hri : rs[i]? = some rs[i] := List.getElem?_eq_getElem hi
      have hp := runTo_step e2 e1 hri
      obtain ⟨g1, g2, g3⟩ := ih s1 (Nat.le_of_lt hi) e1
      have gr := hr rs[i] (List.getElem_mem _)
      exact ⟨g1.perf (row_G gr) hp, g2.perf hp, wd_perf g3 (row_ok gr) hp⟩
  obtain ⟨g1, g2, g3⟩ := key i s1 hi e
  exact ⟨w, g1, b, g2, g3⟩
theorem Good1.ok {fs : List Str} {s : StS} {c n : Nat} (g : Good1 fs s c n) (hc : c ≤ 8) (hn : n ≤ 24) : SOk fs s ∧ s.puts ≤ 1000 := by
  obtain ⟨b1, b2, b3, b4, b5, b6, b7⟩ := g.bd
  exact ⟨⟨g.wf, g.gd, b3, by omega, by omega, by omega, by omega⟩, by omega⟩
theorem Good1.mono {fs : List Str} {s : StS} {c n c' n' : Nat} (g : Good1 fs s c n) (hc : c ≤ c') (hn : n ≤ n') : Good1 fs s c' n' := by
  obtain ⟨b1, b2, b3, b4, b5, b6, b7⟩ := g.bd
  exact ⟨g.wf, g.gd, ⟨b1, by omega, b3, by omega, by omega, by omega, by omega⟩, g.hb, g.wd⟩
theorem cpsL_take (rs : List RowS) (i : Nat) : cpsL (rs.take i) ≤ cpsL rs := by
  have e : cpsL rs = cpsL (rs.take i) + cpsL (rs.drop i) := by
    have : rs = rs.take i ++ rs.drop i := (List.take_append_drop i rs).symm
    unfold cpsL
    rw [← List.sum_append, ← List.map_append, List.take_append_drop]
  omega
theorem runOk_of {fs : List Str} {rs : List RowS} {s : StS} {c n m : Nat} (F : Fields fs) (g : Good1 fs s c n) (hr : ∀ r ∈ rs, RowGood fs r) (hn : n + rs.length ≤ 24) (hc : c + cpsL rs ≤ 8) (hm : m ≤ 100) (nd : (s.wat.map (·.1) ++ rdrs rs).Nodup) : RunOk fs rs s m :=
  ⟨F, hr, nd, fun i s1 hi e => by
    have g1 := g.run F hr hn hi e
    have := cpsL_take rs i
    exact ⟨(g1.ok (by omega) (by omega)).1, fun w hw => Nat.le_trans (g1.wd w hw) (by omega)⟩, by omega, by omega⟩
/-! ### lives that stay -/
section
variable {K : PySem.W.Frag} {H H' : L2.Hp} {y : Addr} {A : SA} {m : Nat} {fs : List Str} {s : StS}
theorem LiveAt.stay (h : LiveAt K H y A m fs s) {F : Addr → Prop} (c : Chg F H H') (hd : ∀ b, foot A s b → ¬ F b) (hy : ¬ F y) : LiveAt K H' y A m fs s := by
  obtain ⟨dy, h1⟩ := h.ex
  exact ⟨⟨dy, c.old _ _ h1 hy⟩, h.st.stay c hd⟩
theorem Sto.chgOf {C : Addr} (h : Sto C H A m fs s) (fr : ∀ b o, ¬ foot A s b → H b = some o → H' b = some o) : Chg (foot A s) H H' :=
  ⟨fun b o e n => fr b o n e, fun b xs e => fr b _ (fun ⟨r, hr, eb⟩ => h.ntup hr xs (by rw [← eb]; exact e)) e⟩
theorem LiveAt.chgOf (h : LiveAt K H y A m fs s) (fr : ∀ b o, b ≠ y → H b = some o → H' b = some o) : Chg (fun b => b = y) H H' := by
  obtain ⟨dy, h1⟩ := h.ex
  exact ⟨fun b o e n => fr b o n e, fun b xs e => fr b _ (fun z => by rw [z, h1] at e; cases e) e⟩
end
theorem PX.chg {pa ca : Addr} {H H' : Hp} (hp : Pool H pa ca) (x : PX pa ca H H') : Chg (fun b => b = pa ∨ b = ca) H H' := by
  obtain ⟨i, n, cs, h1, h2⟩ := hp.ex
  exact ⟨fun b o e hn => x b o (fun z => hn (.inl z)) (fun z => hn (.inr z)) e, fun b xs e => x b _ (fun z => by rw [z, h1] at e; cases e) (fun z => by rw [z, h2] at e; cases e) e⟩
/-- no store stands at a live -/
theorem foot_off {K : PySem.W.Frag} {H : Hp} {y y2 : Addr} {A B : SA} {m m2 : Nat} {fs fs2 : List Str} {s s2 : StS} (h : LiveAt K H y A m fs s) (h2 : LiveAt K H y2 B m2 fs2 s2) : ¬ foot B s2 y := fun z => by
  obtain ⟨dy, g1⟩ := h.ex
  have h3 : LiveAt K H y B m2 fs2 s2 → False := fun l => l.nf z
  obtain ⟨r, hr, e⟩ := z
  obtain ⟨o, k2, k3⟩ := h2.st.at_ r hr
  rw [e, k2] at g1
  have e1 : o = .ins (cLiv K) dy [("store", .ref (A.ad .p))] := Option.some.inj g1
  cases r with
  | p =>
    rw [show o = _ from k3] at e1
    injection e1 with _ _ e1
    injection e1 with _ e1
    cases e1
  | cd => rw [show o = _ from k3] at e1; cases e1
  | ho => obtain ⟨_, k3, _⟩ := k3; rw [k3] at e1; cases e1
  | fr => rw [show o = _ from k3] at e1; cases e1
  | wt => obtain ⟨_, k3, _⟩ := k3; rw [k3] at e1; cases e1
  | ht => obtain ⟨_, k3, _⟩ := k3; rw [k3] at e1; cases e1
  | sn => obtain ⟨_, k3, _⟩ := k3; rw [k3] at e1; cases e1
  | ce t => obtain ⟨_, k3, _⟩ := k3; rw [k3] at e1; cases e1
/-! ### what stands between the rounds -/
structure Plc where
  pa : Addr
  ca : Addr
  wa : Addr
  fa : Addr
  ra : Addr
def Plc.all (p : Plc) : List Addr := [p.pa, p.ca, p.wa, p.fa, p.ra]
structure Inv (K : PySem.W.Frag) (H : L2.Hp) (p : Plc) (y1 y2 : Addr) (A1 A2 : SA) (m : Nat) (fs ws rd : List Str) (s : StS) (k : Nat) : Prop where
  pool : Pool H p.pa p.ca
  wl : H p.wa = some (.lst (ws.map .str))
  fl : H p.fa = some (.lst (fs.map .str))
  rl : H p.ra = some (.lst (rd.map .str))
  nd : p.all.Nodup
  one : LiveAt K H y1 A1 m fs s
  two : LiveAt K H y2 A2 m fs s
  ne : y1 ≠ y2
  off1 : ∀ b, foot A1 s b → b ∉ p.all
  off2 : ∀ b, foot A2 s b → b ∉ p.all
  dis : ∀ b, foot A1 s b → ¬ foot A2 s b
  hm : m ≤ 6 + 6 * k
  g : Good1 fs s (2 * k) (6 * k)
  F : Fields fs
  wnd : ws.Nodup
  wlo : 1 ≤ ws.length
  whi : ws.length ≤ 6
  gw : ∀ x ∈ ws, GoodW x
  rnd : (s.wat.map (·.1) ++ rd).Nodup
  rgw : ∀ x ∈ rd, GoodW x
  rhi : rd.length ≤ 6
section
variable {K : PySem.W.Frag} {H H' : L2.Hp} {p : Plc} {y1 y2 : Addr} {A1 A2 : SA} {m : Nat} {fs ws rd : List Str} {s : StS} {k : Nat}
theorem Inv.tell (h : Inv K H p y1 y2 A1 A2 m fs ws rd s k) (hk : k ≤ 4) : TellOk fs s ws := by
  obtain ⟨a, b⟩ := h.g.ok (by omega) (by omega)
  exact ⟨h.F, a, h.wnd, h.whi, h.gw, b, h.g.hb⟩
theorem Plc.ne {p : Plc} (h : p.all.Nodup) : p.pa ≠ p.ca ∧ (p.wa ≠ p.pa ∧ p.wa ≠ p.ca ∧ p.wa ≠ p.fa ∧ p.wa ≠ p.ra) ∧ (p.fa ≠ p.pa ∧ p.fa ≠ p.ca ∧ p.fa ≠ p.ra) ∧ (p.ra ≠ p.pa ∧ p.ra ≠ p.ca) := by
  unfold Plc.all at h
  simp only [List.nodup_cons, List.mem_cons, List.not_mem_nil, or_false, not_or, List.nodup_nil, and_true, not_false_eq_true] at h
  obtain ⟨⟨h1, h2, h3, h4⟩, ⟨g1, g2, g3⟩, ⟨k1, k2⟩, l1⟩ := h
  exact ⟨h1, ⟨Ne.symm h2, Ne.symm g1, k1, k2⟩, ⟨Ne.symm h3, Ne.symm g2, l1⟩, ⟨Ne.symm h4, Ne.symm g3⟩⟩
theorem Plc.offs {p : Plc} {b : Addr} (h : b ∉ p.all) : b ≠ p.pa ∧ b ≠ p.ca ∧ b ≠ p.wa ∧ b ≠ p.fa ∧ b ≠ p.ra := by
  unfold Plc.all at h
  simp only [List.mem_cons, List.not_mem_nil, or_false, not_or] at h
  exact h
/-- behind draws -/
theorem Inv.px (h : Inv K H p y1 y2 A1 A2 m fs ws rd s k) (hp : Pool H' p.pa p.ca) (x : PX p.pa p.ca H H') : Inv K H' p y1 y2 A1 A2 m fs ws rd s k := by
  obtain ⟨_, ⟨w1, w2, _⟩, ⟨f1, f2, _⟩, ⟨r1, r2⟩⟩ := Plc.ne h.nd
  have c := x.chg h.pool
  obtain ⟨i, n, cs, q1, q2⟩ := h.pool.ex
  have ny : ∀ {y : Addr} {A : SA}, LiveAt K H y A m fs s → ¬ (y = p.pa ∨ y = p.ca) := fun {y A} l z => by
    obtain ⟨dy, hy⟩ := l.ex
    rcases z with z | z
    · rw [z, q1] at hy; cases hy
    · rw [z, q2] at hy; cases hy
  refine ⟨hp, x _ _ w1 w2 h.wl, x _ _ f1 f2 h.fl, x _ _ r1 r2 h.rl, h.nd, h.one.stay c (fun b hb z => ?_) (ny h.one), h.two.stay c (fun b hb z => ?_) (ny h.two), h.ne, h.off1, h.off2, h.dis, h.hm, h.g, h.F, h.wnd, h.wlo, h.whi, h.gw, h.rnd, h.rgw, h.rhi⟩
  · have := Plc.offs (h.off1 b hb)
    rcases z with z | z
    · exact this.1 z
    · exact this.2.1 z
  · have := Plc.offs (h.off2 b hb)
    rcases z with z | z
    · exact this.1 z
    · exact this.2.1 z
theorem Inv.ext (h : Inv K H p y1 y2 A1 A2 m fs ws rd s k) (e : Ext H H') : Inv K H' p y1 y2 A1 A2 m fs ws rd s k := h.px (h.pool.ext e) (PX.of e)
theorem Inv.next (h : Inv K H p y1 y2 A1 A2 m fs ws rd s k) : Inv K H p y1 y2 A1 A2 m fs ws rd s (k + 1) :=
  ⟨h.pool, h.wl, h.fl, h.rl, h.nd, h.one, h.two, h.ne, h.off1, h.off2, h.dis, by have := h.hm; omega, h.g.mono (by omega) (by omega), h.F, h.wnd, h.wlo, h.whi, h.gw, h.rnd, h.rgw, h.rhi⟩
end
/-! ### rows that are drawn, one by one -/
theorem RowsAt.push {H H' : Hp} {ls : List V} {rs : List RowS} (h : RowsAt H ls rs) (k : KeepT H H') {t : Addr} {r : RowS} (ht : H' t = some (.tup (rowV r))) : RowsAt H' (ls ++ [.ref t]) (rs ++ [r]) := by
  have h' := h.keep k
  refine ⟨by rw [List.length_append, List.length_append, h'.len]; rfl, fun i r' hr => ?_⟩
  by_cases hi : i < rs.length
  · rw [List.getElem?_append_left hi] at hr
    obtain ⟨a, h1, h2⟩ := h'.at_ i r' hr
    exact ⟨a, by rw [List.getElem?_append_left (by rw [h'.len]; exact hi)]; exact h1, h2⟩
  · have hlt := (List.getElem?_eq_some_iff.mp hr).1
    rw [List.length_append] at hlt
    have ei : i = rs.length := by
      have : ([r] : List RowS).length = 1 := rfl
      omega
    subst ei
    rw [List.getElem?_append_right (Nat.le_refl _), Nat.sub_self] at hr
    have er : r = r' := Option.some.inj hr
    subst er
    exact ⟨t, by rw [List.getElem?_append_right (Nat.le_of_eq h'.len), h'.len, Nat.sub_self]; rfl, ht⟩
theorem DX.keepT {a : DA} {H H' : Hp} {ws fs sp rs : List Str} {c : Nat} (h : Draw H a ws fs c sp rs) (x : DX a H H') : KeepT H H' := by
  obtain ⟨i, n, cs, h1, h2⟩ := h.pool.ex
  exact fun b xs e => x b _ (fun z => by rw [z, h1] at e; cases e) (fun z => by rw [z, h2] at e; cases e) (fun z => by rw [z, h.room] at e; cases e) (fun z => by rw [z, h.spare] at e; cases e) (fun z => by rw [z, h.more] at e; cases e) e
theorem Draw.off {H : Hp} {a : DA} {ws fs sp rs : List Str} {c : Nat} (h : Draw H a ws fs c sp rs) {D : Addr} (nD : H D = none) : D ≠ a.pa ∧ D ≠ a.ca ∧ D ≠ a.ra ∧ D ≠ a.sa ∧ D ≠ a.la ∧ D ≠ a.wa ∧ D ≠ a.fa := by
  obtain ⟨t1, t2⟩ := h.pool.off nD
  exact ⟨t1, t2, (ne_of_none h.room nD).symm, (ne_of_none h.spare nD).symm, (ne_of_none h.more nD).symm, (ne_of_none h.wl nD).symm, (ne_of_none h.fl nD).symm⟩
/-- something else is stored anew -/
theorem Draw.set {H : Hp} {a : DA} {ws fs sp rs : List Str} {c : Nat} (h : Draw H a ws fs c sp rs) {D : Addr} {o : HO} (n : D ≠ a.pa ∧ D ≠ a.ca ∧ D ≠ a.ra ∧ D ≠ a.sa ∧ D ≠ a.la ∧ D ≠ a.wa ∧ D ≠ a.fa) : Draw (upd H D o) a ws fs c sp rs := by
  obtain ⟨n1, n2, n3, n4, n5, n6, n7⟩ := n
  exact ⟨h.pool.set n1 n2, by rw [upd_ne n6.symm]; exact h.wl, by rw [upd_ne n7.symm]; exact h.fl, by rw [upd_ne n3.symm]; exact h.room, by rw [upd_ne n4.symm]; exact h.spare, by rw [upd_ne n5.symm]; exact h.more, h.nd⟩
theorem nd7 {a b c d e f g : Addr} (h : [a, b, c, d].Nodup) (he : e ∉ [a, b, c, d]) (hf : f ∉ [a, b, c, d]) (hg : g ∉ [a, b, c, d]) (h1 : e ≠ f) (h2 : e ≠ g) (h3 : f ≠ g) : [a, b, c, d, e, f, g].Nodup := by
  show ([a, b, c, d] ++ [e, f, g]).Nodup
  rw [List.nodup_append]
  refine ⟨h, by simp [h1, h2, h3], fun x hx y hy z => ?_⟩
  subst z
  rcases List.mem_cons.mp hy with z | hy
  · rw [z] at hx; exact he hx
  rcases List.mem_cons.mp hy with z | hy
  · rw [z] at hx; exact hf hx
  · rw [List.mem_singleton.mp hy] at hx; exact hg hx
theorem perm_draw {rd sp sp' : List Str} {rows : List RowS} {r : RowS} (h : rd.Perm (sp ++ rdrs rows)) (e : sp = sp' ++ rdr r) : rd.Perm (sp' ++ rdrs (rows ++ [r])) := by
  subst e
  rw [rdrs_snoc]
  refine h.trans ?_
  rw [List.append_assoc]
  exact List.Perm.append_left _ List.perm_append_comm
end TW
set_option maxHeartbeats 4000000
/-! ## the law: a round -/
namespace TW
open PySem PySem.Spec PyProof.Rows L2 TwN
section
variable {P : Program} {w : World} {K : PySem.W.Frag} {mg : Str → Option Value} {base h : Heap}
/-- the rows that are drawn so far -/
structure RowsIn (H0 H : L2.Hp) (p : Plc) (a : DA) (fs ws rd : List Str) (D : Addr) (i : Nat) (us : List V) (rows : List RowS) (c : Nat) (sp rs : List Str) : Prop where
  hD : H D = some (.lst us)
  ra : RowsAt H us rows
  len : rows.length = i
  dr : Draw H a ws fs c sp rs
  gr : ∀ x ∈ rs, GoodW x
  rl : rs.length ≤ 6 + i
  cp : 2 = c + cpsL rows
  pm : rd.Perm (sp ++ rdrs rows)
  pre : sp <+: rd
  rg : ∀ r ∈ rows, RowGood fs r
  px : PX p.pa p.ca H0 H
def lenAt (a : Addr) (_ : L2.St) (H : L2.Hp) : Nat := match H a with
  | some (.lst xs) => xs.length
  | _ => 0
def sp_round (K : PySem.W.Frag) : Sp := fun vs H Q _ => ∃ (p : Plc) (y1 y2 : Addr) (A1 A2 : SA) (m : Nat) (fs ws rd : List Str) (s : StS) (k : Nat), vs = [.ref p.pa, .ref y1, .ref y2, .ref p.wa, .ref p.fa, .ref p.ra] ∧ Inv K H p y1 y2 A1 A2 m fs ws rd s k ∧ k ≤ 3 ∧
  ∀ (H' : L2.Hp) (A1' A2' : SA) (m' : Nat) (rd' : List Str) (s' : StS), Inv K H' p y1 y2 A1' A2' m' fs ws rd' s' (k + 1) → Q (.bl true) H'
theorem p_law_round (T : Tx w K mg h) : CalG P w K mg base 12 "_law_round" (sp_round K) :=
  calG T.f_law_round T.g_law_round sc_law_round (fun vs H Q E ⟨_, _, _, _, _, _, _, _, _, _, _, e, _⟩ => by rw [e]; rfl) fun cdv A' outer s0 H vs Q E hr hg ⟨p, y1, y2, A1, A2, m, fs, ws, rd, s, k, e, iv, hk, q⟩ => by
    subst e
    obtain ⟨npc, ⟨w1, w2, w3, w4⟩, ⟨f1, f2, f3⟩, ⟨r1, r2⟩⟩ := Plc.ne iv.nd
    have rhi := iv.rhi
    have whi := iv.whi
    refine ⟨_, (pss_cons (ps_set (i := 6) sc_law_round.nd rfl (by first | exact Or.inl rfl | exact Or.inr rfl) (pe_callTy call_list_of (by rfl) T.z_list (by decide +kernel) (pa_cons (pv 5) pa_nil)))
  (pss_cons (ps_set (i := 7) sc_law_round.nd rfl (by first | exact Or.inl rfl | exact Or.inr rfl) (pe_lst (pa_cons pe_int (pa_cons pe_int (pa_cons (pv 6) (pa_cons (pe_callTy call_list_of (by rfl) T.z_list (by decide +kernel) (pa_cons (pv 3) pa_nil)) pa_nil))))))
  (pss_cons (ps_setLc (i := 8) (own := [("_law_k", 9)]) (g := gName 9) (by rfl) sc_law_round.nd rfl rfl (sw_true rfl rfl rfl (by decide +kernel)) (pi_range1 (by rfl) T.z_range (pa_cons (C8.pe_c (p_law_draw T) hr (by decide) (by rfl) (pa_cons (pv 0) (pa_cons pe_int pa_nil))) pa_nil)) (blkOk_by (own := [("_law_k", 9)]) (N := ["_law_pool", "_law_one", "_law_two", "_law_words_here", "_law_fields", "_law_readers", "_law_spare", "_law_room", "_law_rows", "_law_k", "_law_before", "_law_tried", "_law_passed", "_law_told", "_law_row"]) (sc := defScope s_law_round) (by decide +kernel)) (fun _ _ _ _ _ => (pg_name (i := 9) sc_law_round.nd rfl (by first | exact Or.inl rfl | exact Or.inr rfl))) (fun _ _ _ _ _ => pts_nil) (fun _ _ _ _ _ => (by exact (C8.pe_c (p_law_plain T) hr (by decide) (by rfl) (pa_cons (pv 0) (pa_cons (pv 3) (pa_cons (pv 4) (pa_cons (pv 7) pa_nil))))))))
  (pss_cons (ps_set (i := 10) sc_law_round.nd rfl (by first | exact Or.inl rfl | exact Or.inr rfl) (C8.pe_c (p_law_state T) hr (by decide) (by rfl) (pa_cons (pv 1) (pa_cons (pv 3) pa_nil))))
  (pss_cons (ps_set (i := 11) sc_law_round.nd rfl (by first | exact Or.inl rfl | exact Or.inr rfl) (C8.pe_mt (p_Live_trial T) hr (by decide) (pv 1) (pa_cons (pe_callTy call_list_of (by rfl) T.z_list (by decide +kernel) (pa_cons (pv 8) pa_nil)) pa_nil)))
  (pss_cons (ps_if (pt_not (pt_val (pe_cG (p_law_is_state T) hr hg (by decide) (by rfl) (pa_cons (pv 1) (pa_cons (pv 3) (pa_cons (pv 10) pa_nil)))))) (pss_one (ps_ret pe_bl)) pss_nil)
  (pss_cons (ps_set (i := 12) sc_law_round.nd rfl (by first | exact Or.inl rfl | exact Or.inr rfl) (pe_callTy call_list_of (by rfl) T.z_list (by decide +kernel) (pa_cons (pv 8) pa_nil)))
  (pss_cons (ps_set (i := 13) sc_law_round.nd rfl (by first | exact Or.inl rfl | exact Or.inr rfl) (C8.pe_c (p_law_attempt T) hr (by decide) (by rfl) (pa_cons (pv 1) (pa_cons (pv 12) pa_nil))))
  (pss_cons (ps_if (PW.pt (pw_or (pt_cmpR (op_neD hr.units) (pv 12) (pv 8) (nomark _)) (pw_or1 (pt_cmpR op_ne (pe_ix ix_tup (pv 13) pe_int (fun _ _ => rfl)) (pe_ix ix_tup (pv 11) pe_int (fun _ _ => rfl)) (nomark _))))) (pss_one (ps_ret pe_bl)) pss_nil)
  (pss_cons (ps_if (pt_cmpR op_ne (pe_ix ix_tup (pv 11) pe_int (fun _ _ => rfl)) pe_str (nomark _)) (pss_one (ps_ret (pe_and (pe_cmpR op_eq (pe_ix ix_tup (pv 13) pe_int (fun _ _ => rfl)) (C8.pe_c (p_law_name T) hr (by decide) (by rfl) (pa_cons (pe_ix ix_list (pv 8) (pe_ix ix_tup (pv 11) pe_int (fun _ _ => rfl)) (fun _ _ => rfl)) pa_nil)) (nomark _)) (pe_one (pe_cG (p_law_is_state T) hr hg (by decide) (by rfl) (pa_cons (pv 1) (pa_cons (pv 3) (pa_cons (pv 10) pa_nil)))))))) pss_nil)
  (pss_cons (ps_for PassesOwn.never (by rfl) (pi_list (pv 8)) (pg_name (i := 14) sc_law_round.nd rfl (by first | exact Or.inl rfl | exact Or.inr rfl))
  (pss_one (ps_if (pt_cmpR op_ne (pe_ix ix_tup (C8.pe_c (p_law_do T) hr (by decide) (by rfl) (pa_cons (pv 2) (pa_cons (pv 14) pa_nil))) pe_int (fun _ _ => rfl)) pe_str (nomark _)) (pss_one (ps_ret pe_bl)) pss_nil)))
  (pss_cons (ps_while PassesOwn.never (pt_cmpR op_gt (pe_callB call_len_seq (by rfl) T.z_len (by decide +kernel) (pa_cons (pv 5) pa_nil)) (pe_callB call_len_seq (by rfl) T.z_len (by decide +kernel) (pa_cons (pv 6) pa_nil)) (nomark _))
  (pss_one (ps_expr (pe_bm0 PySem.F.plainAttrs_list PySem.F.slot_list_pop PySem.F.type_list_pop mt_pop (pv 5)))))
  (pss_one (ps_ret (pe_and (pe_cG (p_law_exact T) hr hg (by decide) (by rfl) (pa_cons (pv 13) (pa_cons (pe_tup (pa_cons pe_str (pa_cons (pe_callB call_len_seq (by rfl) T.z_len (by decide +kernel) (pa_cons (pv 8) pa_nil)) pa_nil))) pa_nil))) (pe_one (pe_cG (p_law_is_state T) hr hg (by decide) (by rfl) (pa_cons (pv 1) (pa_cons (pv 3) (pa_cons (C8.pe_c (p_law_state T) hr (by decide) (by rfl) (pa_cons (pv 2) (pa_cons (pv 3) pa_nil))) pa_nil)))))))))))))))))))), ?_⟩
    refine ⟨_, rfl, p.ra, _, rfl, .inl (SqL.of iv.rl), fun sa nsa => ?_⟩
    have e1 : Ext H (upd H sa (.lst (rd.map .str))) := Ext.upd nsa
    have hsa1 : upd H sa (.lst (rd.map .str)) sa = some (.lst (rd.map .str)) := upd_same
    generalize upd H sa (.lst (rd.map .str)) = H1 at e1 hsa1
    refine ⟨_, rfl, _, rfl, p.wa, _, rfl, .inl (SqL.of (e1 _ _ iv.wl)), fun la nla => ⟨small_le (by show 4 ≤ _; omega), fun rm nrm => ?_⟩⟩
    have e2 : Ext H1 (upd H1 la (.lst (ws.map .str))) := Ext.upd nla
    have hla2 : upd H1 la (.lst (ws.map .str)) la = some (.lst (ws.map .str)) := upd_same
    generalize upd H1 la (.lst (ws.map .str)) = H2 at e2 hla2 nrm
    have e3 : Ext H2 (upd H2 rm (.lst [.int 0, .int 2, .ref sa, .ref la])) := Ext.upd nrm
    have hrm3 : upd H2 rm (.lst [.int 0, .int 2, .ref sa, .ref la]) rm = some (.lst [.int 0, .int 2, .ref sa, .ref la]) := upd_same
    generalize upd H2 rm (.lst [.int 0, .int 2, .ref sa, .ref la]) = H3 at e3 hrm3
    have iv3 := iv.ext ((e1.trans e2).trans e3)
    have nrm0 : H rm = none := ext_none (e1.trans e2) nrm
    have nla0 : H la = none := ext_none e1 nla
    have d3 : Draw H3 ⟨p.pa, p.ca, p.wa, p.fa, rm, sa, la⟩ ws fs 2 rd ws := by
      have off4 : ∀ b, H b = none → b ∉ [p.pa, p.ca, p.wa, p.fa] := fun b hb hm => by
        obtain ⟨t1, t2⟩ := iv.pool.off hb
        have t3 := (ne_of_none iv.wl hb).symm
        have t4 := (ne_of_none iv.fl hb).symm
        simp only [List.mem_cons, List.not_mem_nil, or_false] at hm
        rcases hm with z | z | z | z
        · exact t1 z
        · exact t2 z
        · exact t3 z
        · exact t4 z
      refine ⟨iv3.pool, iv3.wl, iv3.fl, hrm3, (e2.trans e3) _ _ hsa1, e3 _ _ hla2, nd7 ?_ (off4 rm nrm0) (off4 sa nsa) (off4 la nla0) ?_ ?_ ?_⟩
      · exact (List.nodup_append.mp (show ([p.pa, p.ca, p.wa, p.fa] ++ [p.ra]).Nodup from iv.nd)).1
      · exact (ne_of_none (e2 _ _ hsa1) nrm).symm
      · exact (ne_of_none hla2 nrm).symm
      · exact ne_of_none hsa1 nla
    have x3 : PX p.pa p.ca H H3 := PX.of ((e1.trans e2).trans e3)
    refine ⟨_, rfl, p.pa, p.ca, 7, rfl, iv3.pool, by omega, by omega, fun H4 n hp4 fr4 hn => ?_⟩
    have d4 := d3.drawn hp4 fr4
    have x4 : PX p.pa p.ca H H4 := x3.trans fun b o h1 h2 e => (fr4 b h1 h2).trans e
    refine ⟨_, rfl, by omega, by omega, fun D nD => lc_it walk_range (fun i H' => ∃ us rows c sp rs, RowsIn H H' p ⟨p.pa, p.ca, p.wa, p.fa, rm, sa, la⟩ fs ws rd D i us rows c sp rs) ?_ (fun _ _ _ _ => trivial)
      (fun i v Hz H5 hi ⟨us, rows, c, sp, rs, R⟩ ⟨e5, ev⟩ => ?_) fun H5 ⟨us, rows, c, sp, rs, R⟩ => ?_⟩
    · refine ⟨[], [], 2, rd, ws, upd_same, ⟨rfl, fun i r hr => by simp at hr⟩, rfl, d4.set (d4.off nD), iv.gw, by omega, rfl, ?_, List.prefix_refl _, (fun r hr => by cases hr), fun b o h1 h2 e => ?_⟩
      · show rd.Perm (rd ++ [])
        rw [List.append_nil]
      · have := x4 b o h1 h2 e
        rw [upd_ne (ne_of_none this nD)]
        exact this
    · subst e5
      have hi : i < n := by simpa using hi
      have hl := R.rl
      have sphi : sp.length ≤ 6 := Nat.le_trans R.pre.length_le rhi
      have nDa := d4.off nD
      refine ⟨rfl, _, rfl, _, rfl, _, rfl, _, rfl, ⟨p.pa, p.ca, p.wa, p.fa, rm, sa, la⟩, ws, fs, c, sp, rs, rfl, R.dr, ⟨iv.gw, fun x hx => iv.rgw x (R.pre.subset hx), R.gr, iv.F, iv.wlo, whi, sphi, by omega⟩, fun H6 t r c' sp' rs' d6 x6 nt ht gr es ec gr' lr' => ?_⟩
      have hD6 : H6 D = some (.lst us) := by
        obtain ⟨n1, n2, n3, n4, n5, _⟩ := nDa
        exact x6 D _ n1 n2 n3 n4 n5 R.hD
      have kt := DX.keepT R.dr x6
      have ra6 := R.ra.push kt ht
      have usl : us.length = i := by rw [R.ra.len, R.len]
      refine ⟨us, hD6, small_lt (by omega), us ++ [.ref t], rows ++ [r], c', sp', rs', upd_same, ra6.keep (KeepT.at_ hD6 fun _ z => by cases z), by rw [List.length_append, R.len]; rfl, d6.set nDa, gr', by omega, ?_, perm_draw R.pm es, ?_, ?_, fun b o h1 h2 e => ?_⟩
      · have := R.cp
        rw [cpsL_snoc]
        omega
      · exact (show sp' <+: sp from ⟨rdr r, es.symm⟩).trans R.pre
      · intro r' hr'
        rcases List.mem_append.mp hr' with hr' | hr'
        · exact R.rg r' hr'
        · rw [List.mem_singleton.mp hr']; exact gr
      · have h5 := R.px b o h1 h2 e
        have n0 : b ≠ rm := ne_of_none e nrm0
        have n1 : b ≠ sa := ne_of_none e nsa
        have n2 : b ≠ la := ne_of_none e nla0
        rw [upd_ne (ne_of_none (x4 b o h1 h2 e) nD)]
        exact x6 b o h1 h2 n0 n1 n2 h5
    · obtain ⟨hD, hra, hlen, dr, _, _, hcp, hpm, hpre, hrg, px⟩ := R
      have iv5 := iv.px dr.pool px
      have hlen : rows.length ≤ 6 := by
        have : ((n : Nat) : Int).toNat = n := by simp
        omega
      have nfD : ¬ foot A2 s D := fun z => by
        obtain ⟨o, ho⟩ := iv.two.st.there z
        have := Plc.offs (iv.off2 D z)
        rw [x4 D o this.1 this.2.1 ho] at nD
        cases nD
      have nfsa : ¬ foot A2 s sa := fun z => by
        obtain ⟨o, ho⟩ := iv.two.st.there z
        rw [nsa] at ho
        cases ho
      have hsp : H5 sa = some (.lst (sp.map .str)) := dr.spare
      have nraD : p.ra ≠ D := ne_of_none (x4 _ _ r1 r2 iv.rl) nD
      have nras : p.ra ≠ sa := ne_of_none iv.rl nsa
      clear px x4 fr4 hp4 d4 d3 x3 nD iv3 hla2 nrm hrm3 e3 hn dr
      have tk := iv.tell (by omega)
      have ndr : (s.wat.map (·.1) ++ rdrs rows).Nodup := by
        have h1 : (s.wat.map (·.1) ++ (rdrs rows ++ sp)).Nodup := ((hpm.trans List.perm_append_comm).append_left _).nodup_iff.mp iv.rnd
        rw [← List.append_assoc] at h1
        exact (List.nodup_append.mp h1).1
      have hm := iv.hm
      have ro : RunOk fs rows s m := runOk_of iv.F iv.g hrg (by omega) (by omega) (by omega) ndr
      obtain ⟨out, he⟩ := ends_ex fs rows s
      obtain ⟨dy1, hy1⟩ := iv5.one.ex
      refine ⟨_, rfl, _, rfl, y1, p.wa, A1, m, fs, s, ws, rfl, iv5.one, iv5.wl, tk, fun H6 B x6 nB sb => ?_⟩
      have iv6 := iv5.ext x6
      refine ⟨_, rfl, y1, dy1, _, rfl, x6 _ _ hy1, rfl, _, rfl, D, us, rfl, .inl (SqL.of (x6 _ _ hD)), fun l1 nl1 => ?_⟩
      have x7 : Ext H6 (upd H6 l1 (.lst us)) := Ext.upd nl1
      have hl7 : upd H6 l1 (.lst us) l1 = some (.lst us) := upd_same
      generalize upd H6 l1 (.lst us) = H7 at x7 hl7
      have x57 := x6.trans x7
      refine ⟨y1, l1, A1, m, fs, s, us, rows, out, rfl, iv5.one.ext x57, hl7, hra.keep (ext_keep x57), ro, he, fun H8 t v x8 nt ht => ?_⟩
      have x58 := x57.trans x8
      have iv8 := iv5.ext x58
      refine ⟨_, rfl, _, rfl, _, rfl, y1, p.wa, B, A1, m, fs, s, ws, rfl, iv8.one, iv8.wl, tk, sb.ext (x7.trans x8), fun H9 x9 => ⟨true, rfl, iteF (nx_ ?_)⟩⟩
      have x59 := x58.trans x9
      refine ⟨_, rfl, D, us, rfl, .inl (SqL.of (x59 _ _ hD)), fun l2 nl2 => ?_⟩
      have x10 : Ext H9 (upd H9 l2 (.lst us)) := Ext.upd nl2
      have hl10 : upd H9 l2 (.lst us) l2 = some (.lst us) := upd_same
      generalize upd H9 l2 (.lst us) = H10 at x10 hl10
      have x510 := x59.trans x10
      have iv10 := iv5.ext x510
      have sb10 : StateAt K H10 B fs s ws := sb.ext (((x7.trans x8).trans x9).trans x10)
      have ht10 := (x9.trans x10) _ _ ht
      have hD10 := x510 _ _ hD
      have hra10 := hra.keep (ext_keep x510)
      have hsp10 := x510 _ _ hsp
      have shr := shw_rows iv.F.good hrg (by omega)
      clear sb ht hD hra hsp hl7 nl1 nt nl2 nB iv5 iv6 iv8 hy1
      refine ⟨_, rfl, _, rfl, y1, l2, A1, m, fs, s, us, rows, out, rfl, iv10.one, hl10, hra10, ro, he, ?_⟩
      cases he with
      | @stop i s1 r e hi hrun hrow hp hne =>
        cases e with
        | ok s' => exact absurd rfl (hne s')
        | hollow x =>
          have hnm : nameR r = x := nameR_of (perf_hollow hp)
          obtain ⟨ar, g1, g2⟩ := hra10.at_ i r hrow
          refine .hollow fun H11 td x11 ntd htd => ?_
          have ht11 := x11 _ _ ht10
          have ra11 := hra10.keep (ext_keep x11)
          refine ⟨_, rfl, _, rfl, rowsD rows, rowsD rows, rows_data (x11 _ _ hl10) ra11, rows_data (x11 _ _ hD10) ra11, shr.shaped (by omega), shr.shaped (by omega), false, by rw [shr.eqv]; rfl, iteF ?_⟩
          refine ⟨_, rfl, td, _, 0, .str "hollow", rfl, rfl, SqT.of htd, atI_nat (j := 0) rfl, _, rfl, t, _, 0, .str "hollow", rfl, rfl, SqT.of ht11, atI_nat (j := 0) rfl, rfl, false, bl_nt rfl, iteF (nx_ ?_)⟩
          refine ⟨_, rfl, t, _, 0, .str "hollow", rfl, rfl, SqT.of ht11, atI_nat (j := 0) rfl, rfl, true, bl_nf (by decide), iteT ?_⟩
          refine ⟨_, rfl, td, _, 1, .str x, rfl, rfl, SqT.of htd, atI_nat (j := 1) rfl, _, rfl, _, rfl, t, _, 1, .int (i : Nat), rfl, rfl, SqT.of ht11, atI_nat (j := 1) rfl, D, us, (i : Int), .ref ar, rfl, rfl, SqL.of (x11 _ _ hD10), atI_nat g1, ar, r, rfl, x11 _ _ g2, rfl, true, bl_t (by rw [hnm]), iteT ?_⟩
          exact ⟨_, rfl, _, rfl, _, rfl, y1, p.wa, B, A1, m, fs, s, ws, rfl, (iv10.ext x11).one, (iv10.ext x11).wl, tk, sb10.ext x11, fun H12 x12 => q H12 A1 A2 m rd s (iv10.ext (x11.trans x12)).next⟩
        | refused x =>
          have hnm : nameR r = x := nameR_of (perf_refused hp)
          obtain ⟨ar, g1, g2⟩ := hra10.at_ i r hrow
          refine .refused fun H11 td x11 ntd htd => ?_
          have ht11 := x11 _ _ ht10
          have ra11 := hra10.keep (ext_keep x11)
          refine ⟨_, rfl, _, rfl, rowsD rows, rowsD rows, rows_data (x11 _ _ hl10) ra11, rows_data (x11 _ _ hD10) ra11, shr.shaped (by omega), shr.shaped (by omega), false, by rw [shr.eqv]; rfl, iteF ?_⟩
          refine ⟨_, rfl, td, _, 0, .str "refused", rfl, rfl, SqT.of htd, atI_nat (j := 0) rfl, _, rfl, t, _, 0, .str "refused", rfl, rfl, SqT.of ht11, atI_nat (j := 0) rfl, rfl, false, bl_nt rfl, iteF (nx_ ?_)⟩
          refine ⟨_, rfl, t, _, 0, .str "refused", rfl, rfl, SqT.of ht11, atI_nat (j := 0) rfl, rfl, true, bl_nf (by decide), iteT ?_⟩
          refine ⟨_, rfl, td, _, 1, .str x, rfl, rfl, SqT.of htd, atI_nat (j := 1) rfl, _, rfl, _, rfl, t, _, 1, .int (i : Nat), rfl, rfl, SqT.of ht11, atI_nat (j := 1) rfl, D, us, (i : Int), .ref ar, rfl, rfl, SqL.of (x11 _ _ hD10), atI_nat g1, ar, r, rfl, x11 _ _ g2, rfl, true, bl_t (by rw [hnm]), iteT ?_⟩
          exact ⟨_, rfl, _, rfl, _, rfl, y1, p.wa, B, A1, m, fs, s, ws, rfl, (iv10.ext x11).one, (iv10.ext x11).wl, tk, sb10.ext x11, fun H12 x12 => q H12 A1 A2 m rd s (iv10.ext (x11.trans x12)).next⟩
      | @done s' hrun =>
        refine .done fun H11 A1' td lv11 fr11 f11 ntd htd => ?_
        have c11 := iv10.one.chgOf fr11
        have hq : ∀ b o, H10 b = some o → b ≠ y1 → H11 b = some o := fun b o e n => fr11 b o n e
        obtain ⟨dy1, hy1⟩ := iv10.one.ex
        have yl : ∀ {b : Addr} {xs : List V}, H10 b = some (.lst xs) → b ≠ y1 := fun {b xs} hb => ne_of hb hy1 (by intro z; cases z)
        have yt : ∀ {b : Addr} {xs : List V}, H10 b = some (.tup xs) → b ≠ y1 := fun {b xs} hb => ne_of hb hy1 (by intro z; cases z)
        have ht11 := hq _ _ ht10 (yt ht10)
        have ra11 := hra10.keep c11.tup
        have hD11 := hq _ _ hD10 (yl hD10)
        have hl11 := hq _ _ hl10 (yl hl10)
        have hsp11 := hq _ _ hsp10 (yl hsp10)
        have lv2 : LiveAt K H11 y2 A2 m fs s := iv10.two.stay c11 (fun b hb z => foot_off iv10.one iv10.two (z ▸ hb)) (fun z => iv10.ne z.symm)
        refine ⟨_, rfl, _, rfl, rowsD rows, rowsD rows, rows_data hl11 ra11, rows_data hD11 ra11, shr.shaped (by omega), shr.shaped (by omega), false, by rw [shr.eqv]; rfl, iteF ?_⟩
        refine ⟨_, rfl, td, _, 0, .str "done", rfl, rfl, SqT.of htd, atI_nat (j := 0) rfl, _, rfl, t, _, 0, .str "done", rfl, rfl, SqT.of ht11, atI_nat (j := 0) rfl, rfl, false, bl_nt rfl, iteF (nx_ ?_)⟩
        refine ⟨_, rfl, t, _, 0, .str "done", rfl, rfl, SqT.of ht11, atI_nat (j := 0) rfl, rfl, false, bl_nt rfl, iteF (nx_ ?_)⟩
        have hsl : us.length = rows.length := hra10.len
        refine ⟨_, rfl, D, rfl, ⟨_, SqL.of hD11⟩, for_it (walk_list (xs := us)) (fun i σ' H' => ∃ (s1 : StS) (A3 : SA) (a14 : Option V), σ' = [some (.ref p.pa), some (.ref y1), some (.ref y2), some (.ref p.wa), some (.ref p.fa), some (.ref p.ra), some (.ref sa), some (.ref rm), some (.ref D), none, some (.ref B), some (.ref t), some (.ref l2), some (.ref td), a14] ∧ runTo fs rows s i = some s1 ∧ LiveAt K H' y2 A3 (m + i) fs s1 ∧ (∀ b o, ¬ foot A2 s b → H11 b = some o → H' b = some o) ∧ (∀ b, foot A3 s1 b → foot A2 s b ∨ H11 b = none))
          ⟨s, A2, _, rfl, rfl, lv2, (fun b o _ e => e), (fun b hb => .inl hb)⟩ (fun i σ' H' hi ⟨s1, A3, a14, e1, er, lv, fr, ft⟩ => SqL.of (fr _ _ nfD hD11)) (fun i v σ' Hz H12 hi ⟨s1, A3, a14, e1, er, lv, fr, ft⟩ ⟨e2, ev⟩ => ?_) fun σ' H12 ⟨s1, A3, a14, e1, er, lv, fr, ft⟩ => ?_⟩
        · subst e1 e2
          have hir : i < rows.length := by rw [← hsl]; exact hi
          have hri : rows[i]? = some rows[i] := List.getElem?_eq_getElem hir
          obtain ⟨ar, g1, g2⟩ := ra11.at_ i _ hri
          have ev : v = .ref ar := Option.some.inj (ev.symm.trans g1)
          subst ev
          obtain ⟨s2, er2⟩ := runTo_all hrun (show i + 1 ≤ rows.length from hir)
          have hp := runTo_step er2 er hri
          have gr := hrg _ (List.getElem_mem hir)
          obtain ⟨ok1, hw1⟩ := ro.ok i s1 (Nat.le_of_lt hir) er
          obtain ⟨_, _, nm⟩ := runTo_facts iv.F.hi iv.g.wf iv.g.bd (fun r h => row_ok (hrg r h)) (by omega) i s1 (Nat.le_of_lt hir) er
          have hno : ∀ x ∈ rdr rows[i], x ∉ s1.wat.map (·.1) := fun x hx => by
            rw [nm]
            exact rdrs_mem hri hx ndr
          generalize rows[i] = r at hri g2 hp gr hno
          have nfar : ¬ foot A2 s ar := fun ⟨r', hr', eb⟩ => lv2.st.ntup hr' _ (by rw [← eb]; exact g2)
          refine ⟨_, rfl, _, rfl, y2, ar, A3, m + i, fs, s1, s2, r, rfl, lv, fr _ _ nfar g2, iv.F, ok1, hw1, by omega, gr, hno, hp, fun H13 A4 tt lv13 fr13 ft13 htt => ?_⟩
          refine ⟨tt, _, 0, .str "done", rfl, rfl, SqT.of htt, atI_nat (j := 0) rfl, rfl, false, bl_nt rfl, iteF ⟨s2, A4, _, rfl, er2, lv13, fun b o n e => ?_, fun b hb => ?_⟩⟩
          · refine fr13 b o (fun z => ?_) (fr b o n e)
            rcases ft b z with z | z
            · exact n z
            · rw [z] at e; cases e
          · rcases ft13 b hb with z | z
            · exact ft b z
            · by_cases n : foot A2 s b
              · exact .inl n
              · refine .inr ?_
                cases e : H11 b with
                | none => rfl
                | some o => rw [fr b o n e] at z; cases z
        · subst e1
          rw [hsl] at er lv
          have es : s' = s1 := by rw [hrun] at er; exact Option.some.inj er
          subst es
          have c12 := lv2.st.chgOf fr
          have inAll : ∀ b ∈ p.all, ∃ xs, H10 b = some (.lst xs) := fun b hb => by
            obtain ⟨i, n, cs, q1, q2⟩ := iv10.pool.ex
            unfold Plc.all at hb
            simp only [List.mem_cons, List.not_mem_nil, or_false] at hb
            rcases hb with z | z | z | z | z
            · exact ⟨_, by rw [z]; exact q1⟩
            · exact ⟨_, by rw [z]; exact q2⟩
            · exact ⟨_, by rw [z]; exact iv10.wl⟩
            · exact ⟨_, by rw [z]; exact iv10.fl⟩
            · exact ⟨_, by rw [z]; exact iv10.rl⟩
          have pk11 : ∀ b ∈ p.all, H11 b = H10 b := fun b hb => by
            obtain ⟨xs, e⟩ := inAll b hb
            rw [e]
            exact hq _ _ e (yl e)
          have pk : ∀ b ∈ p.all, H12 b = H10 b := fun b hb => by
            obtain ⟨xs, e⟩ := inAll b hb
            rw [e]
            exact fr b _ (fun z => iv10.off2 b z hb) ((pk11 b hb).trans e)
          have m1 : p.pa ∈ p.all := by unfold Plc.all; simp
          have m2 : p.ca ∈ p.all := by unfold Plc.all; simp
          have m3 : p.wa ∈ p.all := by unfold Plc.all; simp
          have m4 : p.fa ∈ p.all := by unfold Plc.all; simp
          have m5 : p.ra ∈ p.all := by unfold Plc.all; simp
          have hrd12 : H12 p.ra = some (.lst (rd.map .str)) := (pk _ m5).trans iv10.rl
          have nfA1 : ∀ b, foot A1' s' b → ¬ foot A2 s b := fun b h1 h2 => by
            obtain ⟨o, ho⟩ := iv10.two.st.there h2
            rw [f11 b h1] at ho
            cases ho
          have lv1 : LiveAt K H12 y1 A1' (m + rows.length) fs s' := lv11.stay c12 nfA1 (foot_off lv11 lv2)
          have htd12 := fr td _ (fun z => by
            obtain ⟨o, ho⟩ := iv10.two.st.there z
            rw [ntd] at ho
            cases ho) htd
          have hD12 := fr D _ nfD hD11
          have hsp12 := fr sa _ nfsa hsp11
          have off1 : ∀ b, foot A1' s' b → b ∉ p.all := fun b h1 h2 => by
            obtain ⟨xs, e⟩ := inAll b h2
            rw [f11 b h1] at e
            cases e
          have off2 : ∀ b, foot A3 s' b → b ∉ p.all := fun b h1 h2 => by
            rcases ft b h1 with z | z
            · exact iv10.off2 b z h2
            · obtain ⟨xs, e⟩ := inAll b h2
              rw [← pk11 b h2, z] at e
              cases e
          have dis : ∀ b, foot A1' s' b → ¬ foot A3 s' b := fun b h1 h2 => by
            rcases ft b h2 with z | z
            · exact nfA1 b h1 z
            · obtain ⟨o, ho⟩ := lv11.st.there h1
              rw [z] at ho
              cases ho
          refine while_by (fun σ' H' => ∃ j, σ' = [some (.ref p.pa), some (.ref y1), some (.ref y2), some (.ref p.wa), some (.ref p.fa), some (.ref p.ra), some (.ref sa), some (.ref rm), some (.ref D), none, some (.ref B), some (.ref t), some (.ref l2), some (.ref td), a14] ∧ H' p.ra = some (.lst ((rd.take j).map .str)) ∧ sp.length ≤ j ∧ j ≤ rd.length ∧ ∀ b o, b ≠ p.ra → H12 b = some o → H' b = some o)
            (lenAt p.ra) ⟨rd.length, rfl, by rw [List.take_length]; exact hrd12, hpre.length_le, Nat.le_refl _, fun b o _ e => e⟩ (fun σ3 H13 ⟨j, es, hr13, hj1, hj2, fr13⟩ => ?_)
            (fun σ3 H3 Q3 Q3' hq ⟨v1, h1, p1, ys1, h2, h3, v2, h4, p2, ys2, h5, h6, i1, j1, h7, h8, b, hb, q3⟩ => ⟨v1, h1, p1, ys1, h2, h3, v2, h4, p2, ys2, h5, h6, i1, j1, h7, h8, b, hb, hq _ _ q3⟩)
          subst es
          have hsp13 := fr13 _ _ nras.symm hsp12
          have hlj : (rd.take j).length = j := by rw [List.length_take]; omega
          refine ⟨_, rfl, p.ra, _, rfl, .inl (SqL.of hr13), _, rfl, sa, _, rfl, .inl (SqL.of hsp13), _, _, rfl, rfl, decide (sp.length < j), ?_, ?_⟩
          · rw [List.length_map, List.length_map, hlj]
            exact congrArg V.bl (decide_eq_decide.mpr (by omega))
          by_cases hlt : sp.length < j
          · rw [decide_eq_true hlt]
            obtain ⟨j', rfl⟩ : ∃ j', j = j' + 1 := ⟨j - 1, by omega⟩
            have hx : rd[j']? = some rd[j'] := List.getElem?_eq_getElem (by omega)
            have et : (rd.take (j' + 1)).map V.str = (rd.take j').map V.str ++ [.str rd[j']] := by
              rw [List.take_add_one, hx, List.map_append]
              rfl
            have hl' : ((rd.take j').map V.str).length = j' := by rw [List.length_map, List.length_take]; omega
            refine iteT ⟨_, rfl, .inl ⟨rfl, _, SqL.of hr13⟩, p.ra, _, .str rd[j'], rfl, rfl, hr13, ?_, ⟨j', rfl, ?_, by omega, by omega, fun b o hb e => ?_⟩, ?_⟩
            · rw [et, List.length_append, hl']
              show ((rd.take j').map V.str ++ [.str rd[j']])[j' + 1 - 1]? = _
              rw [Nat.add_sub_cancel, List.getElem?_append_right (Nat.le_of_eq hl'), hl', Nat.sub_self]
              rfl
            · rw [upd_same, et, List.dropLast_concat]
            · rw [upd_ne hb]
              exact fr13 b o hb e
            · unfold lenAt
              rw [upd_same, hr13]
              show ((rd.take (j' + 1)).map V.str).dropLast.length < ((rd.take (j' + 1)).map V.str).length
              rw [List.length_dropLast, List.length_map, hlj]
              omega
          · rw [decide_eq_false hlt]
            have ej : j = sp.length := by omega
            subst ej
            have esp : rd.take sp.length = sp := (List.prefix_iff_eq_take.mp hpre).symm
            rw [esp] at hr13
            refine iteF ?_
            have c13 : Chg (fun b => b = p.ra) H12 H13 := ⟨fun b o e n => fr13 b o n e, fun b xs e => fr13 b _ (fun z => by rw [z, hrd12] at e; cases e) e⟩
            have pk13 : ∀ b ∈ p.all, b ≠ p.ra → H13 b = H10 b := fun b hb hn => by
              obtain ⟨xs, e⟩ := inAll b hb
              rw [e]
              exact fr13 b _ hn ((pk b hb).trans e)
            have lv1' := lv1.stay c13 (fun b hb z => off1 b hb (z ▸ m5)) (fun z => by
              obtain ⟨dy, hy⟩ := lv1.ex
              rw [z, hrd12] at hy
              cases hy)
            have lv2' := lv.stay c13 (fun b hb z => off2 b hb (z ▸ m5)) (fun z => by
              obtain ⟨dy, hy⟩ := lv.ex
              rw [z, hrd12] at hy
              cases hy)
            have g' := (iv.g.run iv.F hrg (by omega) (Nat.le_refl _) hrun).mono (c' := 2 * (k + 1)) (n' := 6 * (k + 1)) (by rw [List.take_length]; omega) (by omega)
            obtain ⟨_, _, nm⟩ := runTo_facts iv.F.hi iv.g.wf iv.g.bd (fun r h => row_ok (hrg r h)) (by omega) _ s' (Nat.le_refl _) hrun
            rw [List.take_length] at nm
            have iv13 : Inv K H13 p y1 y2 A1' A3 (m + rows.length) fs ws sp s' (k + 1) := by
              refine ⟨iv10.pool.keep (pk13 _ m1 r1.symm) (pk13 _ m2 r2.symm), (pk13 _ m3 w4).trans iv10.wl, (pk13 _ m4 f3).trans iv10.fl, hr13, iv.nd, lv1', lv2', iv.ne, off1, off2, dis, by omega, g', iv.F, iv.wnd, iv.wlo, iv.whi, iv.gw, ?_, fun x hx => iv.rgw x (hpre.subset hx), Nat.le_trans hpre.length_le rhi⟩
              rw [nm, List.append_assoc]
              exact ((hpm.trans List.perm_append_comm).append_left _).nodup_iff.mp iv.rnd
            have tk' := iv13.tell (by omega)
            have hD13 := fr13 _ _ nraD.symm hD12
            have htd13 := fr13 _ _ (ne_of_none iv10.rl ntd).symm htd12
            refine ⟨_, rfl, _, rfl, D, us, rfl, .inl (SqL.of hD13), small_le (by show 2 ≤ _; omega), fun tt ntt => ?_⟩
            rw [hsl]
            have x14 : Ext H13 (upd H13 tt (.tup [.str "done", .int (rows.length : Nat)])) := Ext.upd ntt
            have htt : upd H13 tt (.tup [.str "done", .int (rows.length : Nat)]) tt = some (.tup [.str "done", .int (rows.length : Nat)]) := upd_same
            generalize upd H13 tt (.tup [.str "done", .int (rows.length : Nat)]) = H14 at x14 htt
            have shd : Shw 1 102 (.tuple [.str "done", .int (rows.length : Nat)]) := (Shw.tup (k := 0) (n := 50) (l := [.str "done", .int (rows.length : Nat)]) fun d hd => by
              rcases List.mem_cons.mp hd with rfl | hd
              · exact (shw_str gw_done).mono (by omega) (by omega)
              · rw [List.mem_singleton.mp hd]
                exact shw_int (by omega)).mono (by omega) (Nat.le_of_ble_eq_true rfl)
            have dtt : ∀ {a : Addr}, H14 a = some (.tup [.str "done", .int (rows.length : Nat)]) → Dp K H14 (.ref a) (.tuple [.str "done", .int (rows.length : Nat)]) := fun {a} ha => .tup (SqT.of ha) (.cons (.str _) (.cons (.int _) .nil))
            refine ⟨td, tt, 1, 102, _, rfl, dtt (x14 _ _ htd13), dtt htt, shd, by omega, by omega, true, rfl, iteT ?_⟩
            have iv14 := iv13.ext x14
            refine ⟨_, rfl, _, rfl, _, rfl, _, rfl, y2, p.wa, A3, m + rows.length, fs, s', ws, rfl, iv14.two, iv14.wl, tk', fun H15 B2 x15 nB2 sb2 => ?_⟩
            have iv15 := iv14.ext x15
            exact ⟨y1, p.wa, B2, A1', m + rows.length, fs, s', ws, rfl, iv15.one, iv15.wl, tk', sb2, fun H16 x16 => q H16 A1' A3 (m + rows.length) sp s' (iv15.ext x16)⟩
end
end TW
set_option maxHeartbeats 4000000
/-! ## the law itself -/
namespace TW
open PySem PySem.Spec PyProof.Rows L2 TwN
theorem if_join {c : TT} {t u v : TS} {D : L2.Ends} {σ : L2.St} {H : Hp} (M : L2.St → Hp → Prop) (k : ∀ σ' H', M σ' H' → v D σ' H') (h : ∀ E : L2.Ends, (∀ σ' H', M σ' H' → E.nx σ' H') → tIfS c t u E σ H) : tSeq (tIfS c t u) v D σ H := h _ k
theorem cut_ints (ns : List Int) (lo hi : Option Int) : ∃ cs : List Int, cutV (ns.map V.int) lo hi = cs.map V.int := by
  unfold cutV
  rw [← List.map_drop, ← List.map_take]
  exact ⟨_, rfl⟩
section
variable {P : Program} {w : World} {K : PySem.W.Frag} {mg : Str → Option Value} {base h : Heap}
def sp_law (K : PySem.W.Frag) : Sp := fun vs H Q _ => ∃ (a : Addr) (ns : List Int), vs = [.ref a] ∧ SqL K H a (ns.map V.int) ∧ ∀ H', Q (.bl true) H'
theorem law_body (T : Tx w K mg h) (cdv : Value) (A' : Around) (outer : List Env) (s0' : Shared) (H : Hp) (vs : List V) (Q : VK) (E : XK) (hr : Room 12 (A'.deeper (envOfC "law" (defScope s_law) s0'.heap.objs.size (He.ga K "law") cdv)))
    (hg : (A'.deeper (envOfC "law" (defScope s_law) s0'.heap.objs.size (He.ga K "law") cdv)).guards = some []) (hs : sp_law K vs H Q E) :
    ∃ t, PSs (cxOf C8.CX0 P w K mg base ["_law_script", "_law_pool", "_law_words_here", "_law_fields", "_law_readers", "_law_count", "_law_objects_here", "_law_names_here", "_law_one", "_law_two", "_law_k"] "law" (defScope s_law) (He.ga K "law") cdv A' outer s0' H E).nox (defBody s_law) t ∧
      t { nx := fun _ H' => Q .non H', rt := Q } (L2.start ["_law_script", "_law_pool", "_law_words_here", "_law_fields", "_law_readers", "_law_count", "_law_objects_here", "_law_names_here", "_law_one", "_law_two", "_law_k"] vs) H := by
  obtain ⟨a, ns, e, ha, q⟩ := hs
  subst e
  refine ⟨_, (pss_cons (ps_set (i := 1) sc_law.nd rfl (by first | exact Or.inl rfl | exact Or.inr rfl) (pe_lst (pa_cons (pe_callTy call_list_of (by rfl) T.z_list (by decide +kernel) (pa_cons (pe_slice sl_list (pv 0) po_none (po_some pe_int)) pa_nil)) (pa_cons pe_int (pa_cons pe_int pa_nil)))))
  (pss_cons (ps_set (i := 2) sc_law.nd rfl (by first | exact Or.inl rfl | exact Or.inr rfl) (C8.pe_c (p_law_words T) hr (by decide) (by rfl) (pa_cons (pv 1) (pa_cons pe_int (pa_cons pe_int pa_nil)))))
  (pss_cons (ps_set (i := 3) sc_law.nd rfl (by first | exact Or.inl rfl | exact Or.inr rfl) (C8.pe_c (p_law_words T) hr (by decide) (by rfl) (pa_cons (pv 1) (pa_cons pe_int (pa_cons pe_int pa_nil)))))
  (pss_cons (ps_set (i := 4) sc_law.nd rfl (by first | exact Or.inl rfl | exact Or.inr rfl) (C8.pe_c (p_law_words T) hr (by decide) (by rfl) (pa_cons (pv 1) (pa_cons pe_int (pa_cons pe_int pa_nil)))))
  (pss_cons (ps_set (i := 5) sc_law.nd rfl (by first | exact Or.inl rfl | exact Or.inr rfl) (C8.pe_c (p_law_draw T) hr (by decide) (by rfl) (pa_cons (pv 1) (pa_cons pe_int pa_nil))))
  (pss_cons (ps_if (pt_cmpR op_eq (pv 5) pe_int (nomark _)) (pss_one (ps_set (i := 5) sc_law.nd rfl (by first | exact Or.inl rfl | exact Or.inr rfl) (C8.pe_c (p_law_draw T) hr (by decide) (by rfl) (pa_cons (pv 1) (pa_cons pe_int pa_nil))))) pss_nil)
  (pss_cons (ps_set (i := 6) sc_law.nd rfl (by first | exact Or.inl rfl | exact Or.inr rfl) (C8.pe_c (p_law_objects T) hr (by decide) (by rfl) (pa_cons (pv 1) (pa_cons (pv 3) (pa_cons (pv 5) pa_nil)))))
  (pss_cons (ps_set (i := 7) sc_law.nd rfl (by first | exact Or.inl rfl | exact Or.inr rfl) (C8.pe_c (p_law_names T) hr (by decide) (by rfl) (pa_cons (pv 1) (pa_cons (pv 2) (pa_cons (pv 5) pa_nil)))))
  (pss_cons (ps_set (i := 8) sc_law.nd rfl (by first | exact Or.inl rfl | exact Or.inr rfl) (C8.pe_mk (p_Live_init T) hr (by decide) (by rfl) (pa_cons (C8.pe_mk (p_Heap_init T) hr (by decide) (by rfl) (pa_cons (pv 3) (pa_cons (pv 6) (pa_cons (pv 7) pa_nil)))) pa_nil)))
  (pss_cons (ps_set (i := 9) sc_law.nd rfl (by first | exact Or.inl rfl | exact Or.inr rfl) (C8.pe_mk (p_Live_init T) hr (by decide) (by rfl) (pa_cons (C8.pe_mk (p_Heap_init T) hr (by decide) (by rfl) (pa_cons (pv 3) (pa_cons (pv 6) (pa_cons (pv 7) pa_nil)))) pa_nil)))
  (pss_cons (ps_for PassesOwn.never (by rfl) (pi_range1 (by rfl) T.z_range (pa_cons (pe_op op_add pe_int (C8.pe_c (p_law_draw T) hr (by decide) (by rfl) (pa_cons (pv 1) (pa_cons pe_int pa_nil)))) pa_nil)) (pg_name (i := 10) sc_law.nd rfl (by first | exact Or.inl rfl | exact Or.inr rfl))
  (pss_one (ps_if (pt_not (pt_val (pe_cG (p_law_round T) hr hg (by decide) (by rfl) (pa_cons (pv 1) (pa_cons (pv 8) (pa_cons (pv 9) (pa_cons (pv 2) (pa_cons (pv 3) (pa_cons (pv 4) pa_nil))))))))) (pss_one (ps_ret pe_bl)) pss_nil)))
  (pss_one (ps_ret (pe_cG (p_law_is_state T) hr hg (by decide) (by rfl) (pa_cons (pv 8) (pa_cons (pv 2) (pa_cons (C8.pe_c (p_law_state T) hr (by decide) (by rfl) (pa_cons (pv 9) (pa_cons (pv 2) pa_nil))) pa_nil))))))))))))))))), ?_⟩
  obtain ⟨cs, ecs⟩ := cut_ints ns none (some 63)
  refine ⟨_, rfl, 63, rfl, a, _, rfl, ha, fun c0 nc0 => ?_⟩
  rw [ecs]
  have hc0 : upd H c0 (.lst (cs.map V.int)) c0 = some (.lst (cs.map V.int)) := upd_same
  generalize upd H c0 (.lst (cs.map V.int)) = H1 at hc0
  refine ⟨c0, _, rfl, .inl (SqL.of hc0), fun ca nca => ⟨small_le (by show 3 ≤ _; omega), fun pa npa => ?_⟩⟩
  have hca : upd H1 ca (.lst (cs.map V.int)) ca = some (.lst (cs.map V.int)) := upd_same
  generalize upd H1 ca (.lst (cs.map V.int)) = H2 at hca npa
  have hp3 : Pool (upd H2 pa (.lst [.ref ca, .int 0, .int 0])) pa ca := ⟨0, 0, cs, upd_same, by rw [upd_ne (ne_of_none hca npa)]; exact hca⟩
  generalize upd H2 pa (.lst [.ref ca, .int 0, .int 0]) = H3 at hp3
  refine ⟨_, rfl, pa, ca, 1, 6, rfl, hp3, by omega, by omega, fun H4 wa ws hp4 x4 nwa hwa wnd gw wlo whi => ?_⟩
  refine ⟨_, rfl, pa, ca, 1, 2, rfl, hp4, by omega, by omega, fun H5 fa fs hp5 x5 nfa hfa fnd gf flo fhi => ?_⟩
  refine ⟨_, rfl, pa, ca, 0, 6, rfl, hp5, by omega, by omega, fun H6 ra rd hp6 x6 nra hra rnd grd rlo rhi => ?_⟩
  obtain ⟨wp, wc⟩ := hp3.off nwa
  obtain ⟨fp, fc⟩ := hp4.off nfa
  obtain ⟨rp, rc⟩ := hp5.off nra
  have nwf : wa ≠ fa := ne_of_none hwa nfa
  have hwa5 := x5 _ _ wp wc hwa
  have nwr : wa ≠ ra := ne_of_none hwa5 nra
  have nfr : fa ≠ ra := ne_of_none hfa nra
  have hwa6 := x6 _ _ wp wc hwa5
  have hfa6 := x6 _ _ fp fc hfa
  have F : Fields fs := ⟨gf, fnd, flo, fhi⟩
  have npc := hp6.ne
  refine ⟨_, rfl, pa, ca, 8, rfl, hp6, by omega, by omega, fun H7 n7 hp7 fr7 hn7 => ?_⟩
  have x7 : PX pa ca H6 H7 := fun b o h1 h2 e => (fr7 b h1 h2).trans e
  clear hp3 hp4 hp5 x4 x5 x6 hwa hfa nwa nfa nra hca npa nca hwa5 rlo
  dsimp only
  refine if_join (fun σ' H' => ∃ n : Nat, n < 8 ∧ σ' = [some (.ref a), some (.ref pa), some (.ref wa), some (.ref fa), some (.ref ra), some (.int (n : Nat)), none, none, none, none, none] ∧ Pool H' pa ca ∧ PX pa ca H6 H') (fun σ' H8 ⟨n, hn, es, hp8, x8⟩ => ?_) fun E' kE => ?_
  · subst es
    have hra8 := x8 _ _ rp rc hra
    have hwa8 := x8 _ _ wp wc hwa6
    have hfa8 := x8 _ _ fp fc hfa6
    clear hra hwa6 hfa6 x7 fr7 hp7 hp6 x8
    refine ⟨_, rfl, _, rfl, _, rfl, pa, ca, fa, fs, n, rfl, hp8, fp, fc, hfa8, fnd, by omega, by omega, fun H9 oa os ob hp9 x9 noa hoa hos hbo hno => ?_⟩
    obtain ⟨op, oc⟩ := hp8.off noa
    have hra9 := x9 _ _ rp rc hra8
    have hwa9 := x9 _ _ wp wc hwa8
    have hfa9 := x9 _ _ fp fc hfa8
    refine ⟨_, rfl, _, rfl, _, rfl, pa, ca, wa, ws, n, rfl, hp9, wp, wc, hwa9, wnd, by omega, by omega, fun H10 na nm hp10 x10 nna hna hnm hbn => ?_⟩
    have hra10 := x10 _ _ rp rc hra9
    have hwa10 := x10 _ _ wp wc hwa9
    have hfa10 := x10 _ _ fp fc hfa9
    have hoa10 := x10 _ _ op oc hoa
    have hos10 : ObjsOk H10 fs n ob os := hos.of fun i b hi hb => by
      obtain ⟨b', g1, g2⟩ := hos.2 i hi
      have eb : b = b' := by
        have := hb.symm.trans g1
        injection this with this
        injection this
      subst eb
      obtain ⟨_, _, _, q1, q2⟩ := hp9.ex
      rw [g2]
      exact x10 _ _ (fun z => by rw [z, q1] at g2; cases g2) (fun z => by rw [z, q2] at g2; cases g2) g2
    have hv : HV fs (⟨n, ob, nm⟩ : HD Str) := ⟨fun i f j hi hf e => hbo i f j hi hf e, hbn, by rw [hnm]; exact wnd, by
      have := congrArg List.length hnm
      rw [List.length_map] at this
      show nm.length ≤ 6
      omega, by show n ≤ 200; omega⟩
    have hgn : ∀ p ∈ (⟨n, ob, nm⟩ : HD Str).nm, GoodW p.1 := fun p hp => gw _ (by rw [← hnm]; exact List.mem_map.mpr ⟨p, hp, rfl⟩)
    have i1 : Ext H10 H10 := Ext.rfl'
    clear hos hoa hra8 hra9 hwa8 hwa9 hfa8 hfa9 hp8 hp9 x9 x10 noa nna hno
    refine ⟨_, rfl, _, rfl, _, rfl, fun x1 dx1 nx1 ndx1 ne1 => ?_⟩
    have e1a : Ext H10 (upd (upd H10 dx1 (.own x1)) x1 (.ins (He.ga K "Heap") dx1 [])) := (Ext.upd ndx1).trans (Ext.upd (by rw [upd_ne ne1.symm]; exact nx1))
    refine ⟨x1, dx1, fa, oa, na, fs, os, ⟨n, ob, nm⟩, rfl, upd_same, .inl (e1a _ _ (i1 _ _ hfa10)), F, e1a _ _ (i1 _ _ hoa10), (hos10.ext i1).ext e1a, e1a _ _ (i1 _ _ hna), hv, hgn, fun H11 hh1 fr1 => ⟨rfl, fun y1 dy1 ny1 ndy1 ney1 => ?_⟩⟩
    have e1b : Ext H10 H11 := fun b o hb => fr1 b o (ne_of_none hb nx1) (e1a _ _ hb)
    have e1c : Ext H11 (upd (upd H11 dy1 (.own y1)) y1 (.ins (cLiv K) dy1 [])) := (Ext.upd ndy1).trans (Ext.upd (by rw [upd_ne ney1.symm]; exact ny1))
    refine ⟨y1, dy1, x1, fs, ⟨n, ob, nm⟩, rfl, upd_same, hh1.ext e1c, hv, F, by show n ≤ 100; omega, fun H12 A1 lv1 f1 gr1 => ⟨rfl, ?_⟩⟩
    have e1d : Ext H10 H12 := e1b.trans fun b o hb => gr1 b o (ne_of_none hb ny1) (e1c _ _ hb)
    have f1' : ∀ b, foot A1 (s0 fs ⟨n, ob, nm⟩) b → H10 b = none := fun b hb => ext_none (e1b.trans e1c) (f1 b hb)
    have ny1' : H10 y1 = none := ext_none e1b ny1
    have i2 : Ext H10 H12 := e1d
    refine ⟨_, rfl, _, rfl, _, rfl, fun x2 dx2 nx2 ndx2 ne2 => ?_⟩
    have e2a : Ext H12 (upd (upd H12 dx2 (.own x2)) x2 (.ins (He.ga K "Heap") dx2 [])) := (Ext.upd ndx2).trans (Ext.upd (by rw [upd_ne ne2.symm]; exact nx2))
    refine ⟨x2, dx2, fa, oa, na, fs, os, ⟨n, ob, nm⟩, rfl, upd_same, .inl (e2a _ _ (i2 _ _ hfa10)), F, e2a _ _ (i2 _ _ hoa10), (hos10.ext i2).ext e2a, e2a _ _ (i2 _ _ hna), hv, hgn, fun H13 hh2 fr2 => ⟨rfl, fun y2 dy2 ny2 ndy2 ney2 => ?_⟩⟩
    have e2b : Ext H12 H13 := fun b o hb => fr2 b o (ne_of_none hb nx2) (e2a _ _ hb)
    have e2c : Ext H13 (upd (upd H13 dy2 (.own y2)) y2 (.ins (cLiv K) dy2 [])) := (Ext.upd ndy2).trans (Ext.upd (by rw [upd_ne ney2.symm]; exact ny2))
    refine ⟨y2, dy2, x2, fs, ⟨n, ob, nm⟩, rfl, upd_same, hh2.ext e2c, hv, F, by show n ≤ 100; omega, fun H14 A2 lv2 f2 gr2 => ⟨rfl, ?_⟩⟩
    have e2d : Ext H12 H14 := e2b.trans fun b o hb => gr2 b o (ne_of_none hb ny2) (e2c _ _ hb)
    have f2' : ∀ b, foot A2 (s0 fs ⟨n, ob, nm⟩) b → H12 b = none := fun b hb => ext_none (e2b.trans e2c) (f2 b hb)
    have ny2' : H12 y2 = none := ext_none e2b ny2
    have e14 : Ext H10 H14 := e1d.trans e2d
    have lv1' := lv1.ext e2d
    have hl1 : ∃ o, H12 y1 = some o := by
      obtain ⟨dy, hy⟩ := lv1.ex
      exact ⟨_, hy⟩
    have ny12 : y1 ≠ y2 := by
      obtain ⟨o, ho⟩ := hl1
      exact ne_of_none ho ny2'
    have ndp : (⟨pa, ca, wa, fa, ra⟩ : Plc).all.Nodup := by
      unfold Plc.all
      simp [npc, wp.symm, wc.symm, fp.symm, fc.symm, rp.symm, rc.symm, nwf, nwr, nfr]
    have inAll : ∀ b ∈ (⟨pa, ca, wa, fa, ra⟩ : Plc).all, ∃ o, H10 b = some o := fun b hb => by
      obtain ⟨_, _, _, q1, q2⟩ := hp10.ex
      unfold Plc.all at hb
      simp only [List.mem_cons, List.not_mem_nil, or_false] at hb
      rcases hb with z | z | z | z | z
      · exact ⟨_, by rw [z]; exact q1⟩
      · exact ⟨_, by rw [z]; exact q2⟩
      · exact ⟨_, by rw [z]; exact hwa10⟩
      · exact ⟨_, by rw [z]; exact hfa10⟩
      · exact ⟨_, by rw [z]; exact hra10⟩
    have iv : Inv K H14 ⟨pa, ca, wa, fa, ra⟩ y1 y2 A1 A2 6 fs ws rd (s0 fs ⟨n, ob, nm⟩) 0 := by
      refine ⟨hp10.ext e14, e14 _ _ hwa10, e14 _ _ hfa10, e14 _ _ hra10, ndp, lv1', lv2, ny12, fun b hb hm => ?_, fun b hb hm => ?_, fun b h1 h2 => ?_, Nat.le_refl _, ⟨s0_wf hv, s0_gd, s0_bnd (by show n ≤ 7; omega), (fun p hp => by cases hp), (fun w hw => by cases hw)⟩, F, wnd, wlo, whi, gw, rnd, grd, rhi⟩
      · obtain ⟨o, ho⟩ := inAll b hm
        rw [f1' b hb] at ho
        cases ho
      · obtain ⟨o, ho⟩ := inAll b hm
        rw [ext_none e1d (f2' b hb)] at ho
        cases ho
      · obtain ⟨o, ho⟩ := lv1.st.there h1
        rw [f2' b h2] at ho
        cases ho
    clear hv hgn hos10 hoa10 hna hh1 hh2 lv1 lv2 lv1' hl1 f1 f2 f1' f2' gr1 gr2 e14 e1d e2d i1 i2 e1a e1b e1c e2a e2b e2c
    refine ⟨_, rfl, pa, ca, 4, rfl, iv.pool, by omega, by omega, fun H15 n15 hp15 fr15 hn15 => ?_⟩
    have iv15 := iv.px hp15 fun b o h1 h2 e => (fr15 b h1 h2).trans e
    refine ⟨_, _, rfl, rfl, _, rfl, by omega, by omega, for_it walk_range (fun i σ' H' => ∃ (B1 B2 : SA) (m : Nat) (rd' : List Str) (s : StS) (a10 : Option V), σ' = [some (.ref a), some (.ref pa), some (.ref wa), some (.ref fa), some (.ref ra), some (.int (n : Nat)), some (.ref oa), some (.ref na), some (.ref y1), some (.ref y2), a10] ∧ Inv K H' ⟨pa, ca, wa, fa, ra⟩ y1 y2 B1 B2 m fs ws rd' s i)
      ⟨A1, A2, 6, rd, _, _, rfl, iv15⟩ (fun _ _ _ _ _ => trivial) (fun i v σ' Hz H16 hi ⟨B1, B2, m, rd', s, a10, e1, iv16⟩ ⟨e2, ev⟩ => ?_) fun σ' H16 ⟨B1, B2, m, rd', s, a10, e1, iv16⟩ => ?_⟩
    · subst e1 e2
      have hi : i < (1 + (n15 : Int)).toNat := hi
      exact ⟨_, rfl, _, rfl, _, rfl, _, rfl, _, rfl, _, rfl, ⟨pa, ca, wa, fa, ra⟩, y1, y2, B1, B2, m, fs, ws, rd', s, i, rfl, iv16, by omega, fun H17 C1 C2 m' rd2 s' iv17 => ⟨true, rfl, iteF ⟨C1, C2, m', rd2, s', _, rfl, iv17⟩⟩⟩
    · subst e1
      have tk := iv16.tell (by omega)
      refine ⟨_, rfl, _, rfl, _, rfl, _, rfl, y2, wa, B2, m, fs, s, ws, rfl, iv16.two, iv16.wl, tk, fun H17 D x17 nD sd => ?_⟩
      have iv17 := iv16.ext x17
      exact ⟨y1, wa, D, B1, m, fs, s, ws, rfl, iv17.one, iv17.wl, tk, sd, fun H18 x18 => q H18⟩
  · by_cases h0 : n7 = 0
    · refine ⟨_, rfl, rfl, true, bl_t (by rw [h0]; rfl), iteT ?_⟩
      exact ⟨_, rfl, pa, ca, 8, rfl, hp7, by omega, by omega, fun H8 n8 hp8 fr8 hn8 => kE _ _ ⟨n8, hn8, rfl, hp8, x7.trans fun b o h1 h2 e => (fr8 b h1 h2).trans e⟩⟩
    · exact ⟨_, rfl, rfl, false, bl_f (fun z => h0 (by injection z with z; omega)), iteF (nx_ (kE _ _ ⟨n7, hn7, rfl, hp7, x7⟩))⟩
end
end TW
set_option maxHeartbeats 4000000
/-! ## the end: from the head to the law's promise -/
namespace TW
open PySem PySem.Spec PyProof.Rows L2 TwN
section
variable {P : Program} {w : World} {K : PySem.W.Frag} {mg mb : Str → Option Value} {k : Nat} {fl sc : Addr} {fd : FuncData} {x : Str} {sp : Sp} {st : Shared} {us : List Value} {zs : List Int}
/-- the heap of the walk's start: the script alone, if it is not one of the top's own objects -/
theorem start_heap (hK : K.In st.heap) (hsc : st.heap.get? sc = some { cls := .type "list", data := .seq us.toArray }) (hz : IntsAre us zs) (hl : zs.length ≤ sizeLine) :
    ∃ H : L2.Hp, SqL K H sc (zs.map V.int) ∧ HOk P w H st.heap ∧ (∀ b, b ≠ sc → H b = none) ∧ ∀ u, H sc = some u → K.lookup sc = none ∧ ∃ o l, u = .frz o (.lst l) := by
  have rz := vals_ints hz
  have lz := hz.length
  cases q : K.lookup sc with
  | none =>
    refine ⟨fun b => if b = sc then some (.frz { cls := .type "list", data := .seq us.toArray } (.lst (zs.map V.int))) else none, .inl (.inr ⟨_, if_pos rfl⟩), fun b u hu => ?_, fun b hb => if_neg hb, fun u hu => ⟨rfl, _, _, (Option.some.inj ((if_pos rfl).symm.trans hu)).symm⟩⟩
    by_cases hb : b = sc
    · subst hb
      have hu' := (if_pos rfl).symm.trans hu
      cases hu'
      exact ⟨hsc, by rw [List.length_map]; exact hl, us, _, rz, hsc⟩
    · cases (if_neg hb).symm.trans hu
  | some o =>
    have ho := hK sc o q
    rw [hsc] at ho
    cases ho
    exact ⟨fun _ => none, .inr ⟨_, us.toArray, _, q, rfl, rfl, rfl, by rw [List.size_toArray, lz]; exact hl, by simpa using rz⟩, (fun b u hu => by cases hu), (fun _ _ => rfl), (fun u hu => by cases hu)⟩
/-- the law is called at the top: a def that knows that no guard stands -/
theorem top_call (hK : K.In st.heap) (n1 : st.heap.Ns mainGlobals mg) (n2 : st.heap.Ns builtinsNs mb) (n3 : ∀ y : Str, y ≠ "__name__" → mb y = bootBuiltins y) (n4 : st.heap.NoLimit) (n5 : st.gens = #[])
    (hsc : st.heap.get? sc = some { cls := .type "list", data := .seq us.toArray }) (hz : IntsAre us zs) (hl : zs.length ≤ sizeLine) (hr : Room k callerA)
    (hF : ∀ base : Heap, FnG P w K mg base k fl fd [x] sp) (hb : ∀ (s : Shared) (u : Value), BindsTo s fd ⟨[u], []⟩ [(x, u)]) (hsp : ∀ H : L2.Hp, SqL K H sc (zs.map V.int) → sp [.ref sc] H (fun v _ => v = .bl true) fun _ _ _ => False) :
    codeAny (model P w) callerA (.call (.ref fl) ⟨[.ref sc], []⟩) (fun r s' => r = .ok (.ret (.bool true)) ∧ OldK st.heap s'.heap ∧ s'.os = st.os ∧ AllBare s'.gens) st := by
  obtain ⟨H, hS, hH, hoff, hat⟩ := start_heap (P := P) (w := w) hK hsc hz hl
  -- what is not a list of the walk is seen through
  have thru : ∀ {b : Addr} {o : Obj}, st.heap.get? b = some o → H b = none → (hidT st.heap H).get? b = some o := fun e n => hidT_get e n
  have dict0 : ∀ {b : Addr} {m : Str → Option Value}, st.heap.Ns b m → (hidT st.heap H).Ns b m := fun {b m} ⟨o, es, ep, e, d, r⟩ => by
    refine ⟨o, es, ep, thru e (hoff b fun z => ?_), d, r⟩
    rw [z, hsc] at e
    cases e
    exact absurd (show Data.seq us.toArray 0 = Data.dict es ep from d) (fun z => by cases z)
  have kin : K.In (hidT st.heap H) := fun b o e => thru (hK b o e) (by
    cases q : H b with
    | none => rfl
    | some u =>
      by_cases z : b = sc
      · subst z
        rw [(hat u q).1] at e
        cases e
      · rw [hoff b z] at q
        cases q)
  have md : Mod K mg (hidT st.heap H) := by
    obtain ⟨mc, g1, g2⟩ := n4
    exact ⟨kin, dict0 n1, ⟨mb, dict0 n2, n3⟩, ⟨mc, dict0 g1, g2⟩⟩
  have ev : Env0 P w K mg (hidT st.heap H) callerA [] st H := ⟨rfl, md, (fun b o e => of_hidT e), Nat.le_of_eq (hidT_size _ _), trivial, (fun b hb => by cases hb), hH, .of_eq n5⟩
  have go := (hF (hidT st.heap H)).run callerA [] st H ⟨[.ref sc], []⟩ [.ref sc] [.ref sc] _ _ hr rfl ev (hb st (.ref sc)) (.cons rfl .nil) (hsp H hS)
  refine codeAny_mono go fun r s' hq => ?_
  match r, hq with
  | .error e, hq => exact hq.elim
  | .ok .next, hq => exact False.elim hq
  | .ok .brk, hq => exact False.elim hq
  | .ok .cont, hq => exact False.elim hq
  | .ok (.ret u), ⟨v, H', h1, h2, h3, h4, h5, h6⟩ =>
    have h6 : v = .bl true := h6
    subst h6
    have h5 : u = Value.bool true := h5
    subst h5
    refine ⟨rfl, OldK.of_keep fun b o e => ?_, h1, h2⟩
    cases q : H b with
    | none => exact h3.keep b o e q (fun z => by cases z) (by simp)
    | some u =>
      have z : b = sc := Classical.byContradiction fun z => by rw [hoff b z] at q; cases q
      subst z
      obtain ⟨_, o', l, rfl⟩ := hat u q
      have g1 := (hH b _ q).1
      have g2 := (h4 b _ (h3.frzs b o' _ q)).1
      rw [e] at g1
      cases g1
      exact g2
end
theorem end_of {l : PySem.W.OpenLaw} {n k : Nat} {q : Program} {loose : List Str} {XP : (Str → Option Value) → Heap → Prop} {YP : World → Heap → Prop} {d : DefRec} {x : Str} (hn : l.most = some n) (hn2 : n ≤ sizeLine) (hdf : d.params.defaults = []) (hr : Room k callerA)
    (F : ∀ (w : World) (mg : Str → Option Value) (fl : Addr) (h : Heap), YP w h → h.Ns mainGlobals mg → mg d.name = some (.ref fl) → ∃ (K : PySem.W.Frag) (fd : FuncData) (sp : Sp), K.In h ∧ (∀ (s : Shared) (u : Value), BindsTo s fd ⟨[u], []⟩ [(x, u)]) ∧
      (∀ (H : L2.Hp) (a : Addr) (zs : List Int), SqL K H a (zs.map V.int) → sp [.ref a] H (fun v _ => v = .bl true) fun _ _ _ => False) ∧ ∀ base : Heap, FnG l.prog w K mg base k fl fd [x] sp) :
    PySem.W.WalkO q loose XP YP l.row.toRowW d [] (fun f vs => PySem.call f vs) := by
  refine Att.attach_call hn hdf fun w a0 a1 mg mb fl o pm cd doc sc us zs G Y ho hd hcd hmg hsc hz hlen hgn => ?_
  obtain ⟨K, fd, sp, kin, hb, hsp, hF⟩ := F w mg fl _ Y G.T.g hmg
  exact top_call kin G.T.g G.T.b G.T.builtins G.T.nolimit hgn hsc hz (Nat.le_trans hlen hn2) hr hF hb fun H hS => hsp H sc zs hS
/-- the law's def keeps its promise -/
theorem law_fn {P : Program} {w : World} {K : PySem.W.Frag} {mg : Str → Option Value} {h : Heap} (T : Tx w K mg h) : ∃ fd : FuncData, (∀ (s : Shared) (u : Value), BindsTo s fd ⟨[u], []⟩ [("_law_script", u)]) ∧ ∀ base : Heap, FnG P w K mg base 13 (He.ga K "law") fd ["_law_script"] (sp_law K) := by
  obtain ⟨fd, F, b⟩ := T.f_law.ex
  exact ⟨fd, fun s u => F.bindsA (ps := ["_law_script"]) (fun _ _ _ _ _ _ us hl => match us, hl with | [_], _ => rfl) s [u] rfl, fun base => fnG0 F sc_law (fun vs H Q E ⟨_, _, e, _⟩ => by rw [e]; rfl) fun cdv A outer s H vs Q E hr hg hs => law_body T cdv A outer s H vs Q E hr hg hs⟩
end TW
set_option maxHeartbeats 0
open PySem PySem.W PySem.Calls PyProof.Rows
theorem PySem.Challenge.cw_thawedwrites_k38_whole_attempt_all_or_no_holds : PySem.Challenge.rw_thawedwrites_k38_whole_attempt_all_or_no.Holds := by
  w_on; o_law
  refine HandSHeadRun.head_any (r := TW.R) (q := PySem.W.view TW.R.prog [57]) (H := TW.hk) (ob := TW.ob) (M := 9000) (loose := TW.looseL) (d := HandSHeadRun.topDef TW.R.prog 57) (kwd := []) TW.ob_eq
    (by kernel_rfl) (fun s => by kernel_rfl) TW.run (by kernel_rfl) (by kernel_rfl) (by kernel_rfl) (by rfl) (by first | assumption | decide +kernel) (by decide +kernel) ⟨rfl, rfl, rfl, rfl, rfl, by decide +kernel⟩ ?hw ?hc
  case hw => w_witness2
  case hc =>
    refine TW.end_of (l := PySem.Challenge.rw_thawedwrites_k38_whole_attempt_all_or_no) (n := 63) (k := 13) (x := "_law_script") rfl (by decide) (by kernel_rfl) ⟨rfl, by decide, by decide⟩ ?F
    intro w mg fa h Y G hmg0
    obtain ⟨K, KX, c, ex⟩ := Y
    have T : TW.Tx w K mg h := ⟨KX, G, c, ex⟩
    have e : (HandSHeadRun.topDef TW.R.prog 57).name = ("law" : PySem.Str) := by kernel_rfl
    have hmg : mg ("law" : PySem.Str) = some (.ref fa) := (congrArg mg e).symm.trans hmg0
    have ea : fa = He.ga K "law" := PySem.Value.ref.inj (Option.some.inj (hmg.symm.trans T.g_law))
    subst ea
    obtain ⟨fd, hb, hF⟩ := TW.law_fn (P := PySem.Challenge.rw_thawedwrites_k38_whole_attempt_all_or_no.prog) T
    exact ⟨K, fd, TW.sp_law K, KX, hb, fun H a zs hS => ⟨a, zs, rfl, hS, fun _ => rfl⟩, hF⟩
