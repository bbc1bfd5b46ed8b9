import PyProof.Rows.All
import Wide.All
import OpenK.AllK
import Wide.FinOn
import HandS.ForMost
import HandS.More
import HandS.Flow
import HandS.Style
import HandS.Slots
import HandS.SlotsOwn
import HandS.Conv
import HandS.IsInst
import HandS.ListItems
import HandS.DictComp
import HandS.Deep
import HandS.Zip
import HandS.Strs
import HandS.SetFor
import HandS.Sort
import HandS.SortRule
import HandS.SortInts
import HandS.Walk
import HandS.Wide
import HandS.IterVal
import HandS.Defaults
import HandS.Codes
import HandS.TupAny
import HandS.TupSets
import KE.DataMinMax
import KE.KDictPairs
import KE.DatumOrd
import HandS.SortKw
import HandS.Star
import HandS.Evl
import KE.KDictWalk
import PyProof.ConsumeWalk
import PyProof.DictWalks
import KE.KDictZip
import KE.GoesEnum
import KE.KItemsList
import HandS.Head0
import HandS.Head1
import HandS.Head2
import HandS.HeadEnd
import HandS.HeadHook1
import HandS.HeadHook2
import PySem.Challenge.RW_lentpile_k76_whole_fees_and_rates
import KE.KStateDown
import KE.KEqSeq

/-! part LpRules -/
set_option Elab.async false
set_option linter.all false
set_option maxRecDepth 100000

namespace Lp
open PySem PySem.Spec PyProof.Rows L2 SlX
/-! ### heaps -/
theorem same_upd {H : Hp} {p : Addr} {o : HO} (h : H p = none) : Same H (upd H p o) := fun b x e => by
  rw [upd_ne (ne_of_none e h)]
  exact e
/-- what a promise of a value says: the heap may have grown -/
def Ret (v : V) (H : Hp) (Q : VK) : Prop := ∀ H', Same H H' → Q v H'
/-- a new list | a new tuple -/
def RetL (xs : List V) (H : Hp) (Q : VK) : Prop := ∀ p H', Same H H' → H p = none → H' p = some (.lst xs) → Q (.ref p) H'
theorem Ret.go {v : V} {H H' : Hp} {Q : VK} (k : Ret v H Q) (s : Same H H') : Q v H' := k H' s
section
variable {X : Cx} {CX : CXT} {pins : List (Addr × Obj)} {σ : L2.St} {H : Hp} {s : Shared} {a C dx p g : Addr} {vs : List (Option V)} {f : Str} {n i : Nat} {sp : Sp} {E : XK} {v : V} {u : Value}

/-! ### calls by FnR -/
theorem pe_callR {x : Str} {p pos : Pos} {e : Expr} {es : List Expr} {t : TA} (F : FnR X.prog X.w X.K X.mg X.base CX n g sp) (hr : Room n X.A) (hg : Gl X x) (hm : X.mg x = some (.ref g)) (hk : PySem.W.keepIn X.K (.ref g) = true) (hx : Passes CX X E)
    (ha : PA X (e :: es) t) (hdb : (x == ("__debug__" : Str)) = false := by decide) (he : starEach (e :: es) X.env = (false, eval e X.env) :: starEach es X.env := by rfl) (hpl : (backTo pos (starEach es X.env)).any (·.1) = false := by rfl) :
    PE X (.Call (.Name x p) (e :: es) [] pos) (fun σ H Q => t σ H fun vs H1 => sp vs H1 Q E) := by
  refine ⟨fun pins s σ H Q I h => ?_⟩
  refine wpAny_Call_Name_kw (ld_glob I hg hm ?_ hdb)
  refine PySem.W.callWith_K (h₀ := X.base) I.ok.mod.kin hk (thn (ha.run pos pins s σ H _ I h) fun us s2 ⟨vs, H2, I2, r, q⟩ => ⟨I2.kIn, ?_⟩) he hpl
  exact wpAny_call (run_fnR F hr hx I2 r q)
theorem pe_callR0 {x : Str} {p pos : Pos} (F : FnR X.prog X.w X.K X.mg X.base CX n g sp) (hr : Room n X.A) (hg : Gl X x) (hm : X.mg x = some (.ref g)) (hk : PySem.W.keepIn X.K (.ref g) = true) (hx : Passes CX X E)
    (hdb : (x == ("__debug__" : Str)) = false := by decide) :
    PE X (.Call (.Name x p) [] [] pos) (fun σ H Q => sp [] H Q E) := by
  refine ⟨fun pins s σ H Q I h => ?_⟩
  refine wpAny_Call_Name_kw (ld_glob I hg hm ?_ hdb)
  refine PySem.W.callWith_K0 (first := []) I.kIn hk ?_
  exact wpAny_call (run_fnR F hr hx I .nil h)

/-! ### len(o), o an instance with slots and its own __len__ -/
def rLenOwn (C : Addr) (sp : Sp) (E : XK) : List V → Hp → VK → Prop := fun xs H Q => ∃ a dx vs, xs = [V.ref a] ∧ Slt H a C dx vs ∧ sp [.ref a] H (fun z H' => ∃ i : Int, z = .int i ∧ 0 ≤ i ∧ i < 2 ^ 63 ∧ Q z H') E
theorem call_lenOwn (hs : PySem.W.findIn X.K (.ref C) "__len__" = some (some (.ref g))) (hf : PySem.W.isFn X.K (.ref g) = true) (F : FnR X.prog X.w X.K X.mg X.base CX n g sp) (hr : Room (n + 1) X.A) (hx : Passes CX X E) : CallR X (.builtin "len") (rLenOwn C sp E) := by
  intro pins s σ H xs us Q I r h
  obtain ⟨a, dx, vs, rfl, hsl, q⟩ := h
  obtain ⟨u, rfl, ru⟩ := r.one
  cases (show u = Value.ref a from ru)
  obtain ⟨sl, od, _, J, _⟩ := slt_inst I hsl
  obtain ⟨m, hF⟩ := I.fr
  have hr2 : Room n X.A.in1 := Room.in1 hr
  refine PySem.W.len_K hF I.ok.mod.kin J hs hf (wpAny_mono (wpAny_call (run_at (us := [.ref a]) (ws := [.ref a]) F hr2 I.env0.in1 hx I (.cons rfl .nil) q)) (fun w s' z => ?_) fun _ _ x => x)
  obtain ⟨z', H', I', rz, i, ei, h0, h1, qz⟩ := z
  subst ei
  obtain ⟨t, e⟩ := (show ∃ t, w = Value.int i t from rz)
  cases e
  exact ⟨⟨h0, h1⟩, .int i, H', I'.tok _, ⟨_, rfl⟩, qz⟩

/-! ### for x in o, o an instance with slots whose own __iter__ is iter(o.list) -/
/-- a promise that knows the state at the call -/
def FnS (P : Program) (w : World) (K : PySem.W.Frag) (mg : Str → Option Value) (base : Heap) (CX : CXT) (k : Nat) (f : Addr) (sp : Nat → Sp) : Prop :=
  ∀ (A : Around) (outer : List Env) (s : Shared) (H : Hp) (us : List Value) (vs : List V) (Q : VK) (E : XK), Room k A → Env0 P w K mg base A outer s H → Vals vs us → sp s.heap.objs.size vs H Q E →
    codeAny (model P w) A (.call (.ref f) ⟨us, []⟩) (CR CX outer P w H s Q E) s
theorem fnS_of {P : Program} {w : World} {K : PySem.W.Frag} {mg : Str → Option Value} {base : Heap} {k : Nat} {f : Addr} {name qual : Str} {params : Arguments} {body : List Stmt} {scope : Scope} {fd : FuncData}
    {N ps : List Str} {sp : Nat → Sp} (F : FunD K name qual params body scope [] [] f fd) (S : FnScope N ps scope)
    (hb : Binds K fd ps []) (len : ∀ n vs H Q E, sp n vs H Q E → vs.length = ps.length)
    (hbody : ∀ (cdv : Value) (A : Around) (outer : List Env) (s : Shared) (H : Hp) (vs : List V) (Q : VK) (E : XK), Room k (A.deeper (envOfC qual scope s.heap.objs.size f cdv)) → sp s.heap.objs.size vs H Q E →
      ∃ t, PSs (cxOf CX P w K mg base N qual scope f cdv A outer s H E) body t ∧ t { nx := fun _ H' => Q .non H', rt := Q } (start N vs) H) :
    FnS P w K mg base CX (k + 1) f sp := by
  intro A outer s H us vs Q E hr e0 r hsp
  obtain ⟨oc, od, dV, kV, doc, pm, an, cdv, ct, osl, rfl, lk, hcd, _, _⟩ := F.ex
  have hl := len _ _ _ _ _ hsp
  have KX : K.In s.heap := e0.mod.kin.keeps fun b o e => (e0.bs b o e).1
  have lim : s.heap.NoLimit := e0.mod.nolimit.keeps fun b o e => (e0.bs b o e).1
  have hl2 : (us ++ ([] : List Value)).length = ps.length := by
    rw [List.append_nil, ← r.length]
    exact hl
  have hb2 := hb s us KX hl2
  rw [List.append_nil] at hb2
  have hkind : ∀ y ∈ ps.zip us, scope.names.lookup y.1 = some .local ∨ (scope.names.lookup y.1 = some .cell ∧ ((cellsFrom (s.heap.objs.size + 1) scope.names []).lookup y.1).isSome = true) := fun ⟨n, v⟩ hy => by
    rcases S.par n (List.of_mem_zip hy).1 with q | q
    · exact .inl q
    · exact .inr ⟨q, PySem.W.cellsFrom_some _ _ _ (.inl q)⟩
  refine codeAny_call_function hr.depth (KX _ _ lk) rfl S.co S.gen rfl (PySem.W.codeRec_of KX hcd) (hb2 _ _ _ _ ?_)
  refine wpAny_newFunctionEnv_cells S.kind hkind fun env he s1 x => ?_
  subst he
  refine ⟨lim.keeps x.toInCall.keep, codeAny_func ?_⟩
  obtain ⟨t, ht, hq⟩ := hbody cdv A outer s H vs Q E (hr.deeper _) hsp
  have I : Inv (cxOf CX P w K mg base N qual scope f cdv A outer s H E) [] (start N vs) H s1 := inv_start S hr.hd e0 hl r x
  refine wpAny_mono (ht.run [] s1 (start N vs) H _ I hq) (fun fl s' hs => ?_) fun e s' hs => hs
  have fin : ∀ {σ' : L2.St} {H' : Hp} {v : V} {u : Value}, Inv (cxOf CX P w K mg base N qual scope f cdv A outer s H E) [] σ' H' s' → RelV v u → Q v H' → CE outer P w H s Q u s' :=
    fun {σ' H' v u} J rv q => ⟨v, H', J.os, J.bare, J.base, J.hok, rv, q⟩
  cases fl with
  | ret u =>
    obtain ⟨v, σ', H', J, rv, q⟩ := hs
    exact fin J rv q
  | next =>
    obtain ⟨σ', H', J, q⟩ := hs
    exact fin (v := V.non) (u := Value.none) J rfl q
  | brk =>
    obtain ⟨_, _, _, q⟩ := hs
    exact False.elim q
  | cont =>
    obtain ⟨_, _, _, q⟩ := hs
    exact False.elim q
/-- what __iter__ promises: an iterator, new, of the list in slot i -/
def spIter (K : PySem.W.Frag) (C : Addr) (i : Nat) : Nat → Sp := fun n vs H Q _ => ∃ a dx ws l xs, vs = [.ref a] ∧ Slt H a C dx ws ∧ ws[i]? = some (some (.ref l)) ∧ SqL K H l xs ∧
  ∀ it, H it = none → n ≤ it → Q (.ref it) (upd H it (ItO l it 0))
def iOwn (K : PySem.W.Frag) (C : Addr) (i : Nat) (te : TE) : TI := fun σ H R => te σ H fun x H1 => ∃ a dx ws l xs, x = .ref a ∧ Slt H1 a C dx ws ∧ ws[i]? = some (some (.ref l)) ∧ SqL K H1 l xs ∧ R (Itl K l) H1
theorem pi_own {tg e : Expr} {te : TE} (hs : PySem.W.findIn X.K (.ref C) "__iter__" = some (some (.ref g))) (hf : PySem.W.isFn X.K (.ref g) = true)
    (F : FnS X.prog X.w X.K X.mg X.base CX n g (spIter X.K C i)) (hr : Room n X.A) (hx : Passes CX X E) (he : PE X e te) : PI X tg e (iOwn X.K C i te) := by
  refine ⟨fun pins s σ H R I h => ?_⟩
  refine thn (he.run pins s σ H _ I h) fun v s1 ⟨x, H1, I1, r1, a, dx, ws, l, xs, ex, hsl, hw, hq, q⟩ => ?_
  subst ex
  obtain rfl : v = Value.ref a := r1
  obtain ⟨sl, od, _, J, _⟩ := slt_inst I1 hsl
  obtain ⟨m, hF⟩ := I1.fr
  refine PySem.W.owit_iter hF I1.ok.mod.kin J hs hf ?_
  have hsp : spIter X.K C i s1.heap.objs.size [.ref a] H1 (fun v H' => ∃ it, v = .ref it ∧ H1 it = none ∧ s1.heap.objs.size ≤ it ∧ H' = upd H1 it (ItO l it 0)) E :=
    ⟨a, dx, ws, l, xs, rfl, hsl, hw, hq, fun it hn hz => ⟨it, rfl, hn, hz, rfl⟩⟩
  refine wpAny_call (codeAny_mono (F X.A X.stack s1 H1 [.ref a] [.ref a] _ E hr I1.env0 (.cons rfl .nil) hsp) fun r s' hq' => ?_)
  cases r with
  | error e => exact hx pins σ H1 s1 e s' I1 hq'
  | ok fl =>
    cases fl with
    | next => exact False.elim hq'
    | brk => exact False.elim hq'
    | cont => exact False.elim hq'
    | ret u =>
      obtain ⟨v, H', I', rv, it, ev, hn, hz, eH⟩ := I1.after hq'
      subst ev
      subst eH
      obtain rfl : u = Value.ref it := rv
      have hi : upd H1 it (ItO l it 0) it = some (ItO l it 0) := upd_same
      have eo := itO_get I' hi
      have st : s'.heap.IsListIter it l 0 := ⟨_, eo, rfl, rfl⟩
      have hT : s'.TypeIs (.ref it) "list_iterator" := ⟨_, eo, rfl⟩
      unfold PySem.W.OwitIt
      refine wpAny_specialOf (name := Str.ofString "__next__") hT slot_listiter_next.lookup ?_
      have hi' := hi
      unfold ItO at hi'
      have I2 := ItX.inv_drop I' hi'
      have ed : ItX.dropH (upd H1 it (ItO l it 0)) it = H1 := ItX.dropH_upd hn
      have fp := ItX.inv_fp I' hi (Nat.le_trans I1.sz hz)
      rw [ed] at I2 fp
      refine ⟨it, [it], _, _, H1, rfl, I2, turn_list l it, st, fun b hb => ?_, q⟩
      have e : b = it := by simpa using hb
      rw [e]
      exact fp
end
end Lp

/-! part LpRules2 -/
set_option Elab.async false
set_option linter.all false
set_option maxRecDepth 100000

namespace Lp
open PySem PySem.Spec PyProof.Rows L2 SlX
section
variable {X : Cx} {CX : CXT} {pins : List (Addr × Obj)} {σ : L2.St} {H : Hp} {s : Shared} {a C dx p g : Addr} {vs : List (Option V)} {f : Str} {n i : Nat} {sp : Sp} {E : XK} {v : V} {u : Value}

/-! ### a slot as a target; o.f op= e -/
def gSlot (K : PySem.W.Frag) (ta : TE) (f : Str) : TG := fun y σ H Q => ta σ H fun x H2 => ∃ a C dx p vs i, x = .ref a ∧ Slt H2 a C dx vs ∧ SCls K C ∧ Slot1 K C f p i ∧ Q σ (slH H2 a C dx (SlX.putS i y vs))
theorem pg_sl {o : Expr} {pos : Pos} {ta : TE} (ha : PE X o ta) : PG X (.Attribute o f pos) (gSlot X.K ta f) := by
  refine ⟨fun pins s σ H v u Q I r h => ?_⟩
  rw [assign_Attribute]
  refine wpAny_bind (wpAny_holding (thn (ha.run pins s σ H _ I h) fun ov s1 ⟨x, H1, I1, rx, a, C, dx, p, ws, i, ex, hsl, c, t, q⟩ => ?_))
  subst ex
  obtain rfl : ov = Value.ref a := rx
  refine wpAny_bind (wpAny_standAt (wpAny_bind (wpAny_holding (SlX.setslot_ok I1 hsl c t r fun s2 I2 => ?_))))
  exact wpAny_release ⟨σ, _, I2, q⟩
def sSlAug (K : PySem.W.Frag) (ta tv : TE) (rd : V → V → Hp → VK → Prop) (f : Str) : TS := fun D σ H => ta σ H fun x H1 => ∃ a C dx p vs i v, x = .ref a ∧ Slt H1 a C dx vs ∧ SCls K C ∧ Slot1 K C f p i ∧ vs[i]? = some (some v) ∧
  tv σ H1 fun y H2 => rd v y H2 fun z H3 => ∃ vs', Slt H3 a C dx vs' ∧ D.nx σ (slH H3 a C dx (SlX.putS i z vs'))
theorem ps_slAug {o value : Expr} {pos tpos : Pos} {ta tv : TE} {op : Operator} {rd : V → V → Hp → VK → Prop} (ha : PE X o ta) (hv : PE X value tv) (hop : InOp X op rd) :
    PS X (.AugAssign (.Attribute o f tpos) op value pos) (sSlAug X.K ta tv rd f) := by
  refine ⟨fun pins s σ H D I h => ?_⟩
  refine wpAny_AugAssign_AttributeAny (thn (ha.run pins s σ H _ I h) fun ov s1 ⟨x, H1, I1, rx, a, C, dx, p, vs, i, v, ex, ea, c, k, l, q⟩ => ?_)
  subst ex
  obtain rfl : ov = Value.ref a := rx
  refine SlX.getslot_ok I1 ea c k l fun u s2 I2 ru => thn (hv.run pins s2 σ H1 _ I2 q) fun w3 s3 ⟨y, H2, I3, ry, q3⟩ => thn (hop pins s3 σ H2 v y u w3 _ I3 ru ry q3) fun w4 s4 ⟨z, H3, I4, rz, vs', ea', q4⟩ => ?_
  exact SlX.setslot_ok I4 ea' c k rz fun s5 I5 => ⟨σ, _, I5, q4⟩

/-! ### min, max of a list of data -/
open PySem.W in
theorem reads_at {h : Heap} {K : PySem.W.Frag} : ∀ {vs : List Value} {ds : List PyData} {as : List Addr} {i : Nat} {v : Value}, ReadsAll h vs ds as → vs[i]? = some v → ∃ d bs, ds[i]? = some d ∧ Reads h v d bs
  | _, _, _, _, _, .nil, e => by simp at e
  | _, _, _, 0, _, .cons r _, e => by
    have e1 := Option.some.inj e
    subst e1
    exact ⟨_, _, rfl, r⟩
  | _, _, _, i + 1, v, .cons _ t, e => by
    obtain ⟨d, bs, h1, h2⟩ := reads_at (K := K) (i := i) (v := v) t (by simpa using e)
    exact ⟨d, bs, by simpa using h1, h2⟩
theorem dpAll_at {K : PySem.W.Frag} {H : Hp} : ∀ {xs : List V} {ds : List PyData} {i : Nat} {x : V}, DpAll K H xs ds → xs[i]? = some x → ∃ d, ds[i]? = some d ∧ Dp K H x d
  | _, _, _, _, .nil, e => by simp at e
  | _, _, 0, _, .cons r _, e => by
    have e1 := Option.some.inj e
    subst e1
    exact ⟨_, rfl, r⟩
  | _, _, i + 1, v, .cons _ t, e => by
    obtain ⟨d, h1, h2⟩ := dpAll_at (i := i) (x := v) t (by simpa using e)
    exact ⟨d, by simpa using h1, h2⟩
theorem dpAll_at' {K : PySem.W.Frag} {H : Hp} : ∀ {xs : List V} {ds : List PyData} {i : Nat} {d : PyData}, DpAll K H xs ds → ds[i]? = some d → ∃ x, xs[i]? = some x ∧ Dp K H x d
  | _, _, _, _, .nil, e => by simp at e
  | _, _, 0, _, .cons r _, e => by
    have e1 := Option.some.inj e
    subst e1
    exact ⟨_, rfl, r⟩
  | _, _, i + 1, v, .cons _ t, e => by
    obtain ⟨d, h1, h2⟩ := dpAll_at' (i := i) (d := v) t (by simpa using e)
    exact ⟨d, by simpa using h1, h2⟩
theorem vals_back {xs : List V} {us : List Value} {i : Nat} {u : Value} (r : Vals xs us) (e : us[i]? = some u) : ∃ x, xs[i]? = some x ∧ RelV x u := by
  cases q : xs[i]? with
  | none => rw [r.none_of q] at e; cases e
  | some x =>
    obtain ⟨w, h1, h2⟩ := r.get q
    rw [e] at h1
    cases h1
    exact ⟨x, rfl, h2⟩
/-- min(xs), the items data of one ordered kind, not empty: the item at some place j, its datum the least -/
def rMinD (K : PySem.W.Frag) (α : Type) [DecidableEq α] [PySem.W.DatumOrd α] : List V → Hp → VK → Prop := fun xs H Q => ∃ (a : Addr) (ys : List V) (x : α) (zs : List α), xs = [.ref a] ∧ SqL K H a ys ∧ DpAll K H ys ((x :: zs).map PySem.W.Datum.toD) ∧
  ∀ (j : Nat) (v : V), ys[j]? = some v → (x :: zs)[j]? = some (PySem.W.minOf x zs) → Dp K H v (PySem.W.Datum.toD (PySem.W.minOf x zs)) → Q v H
def rMaxD (K : PySem.W.Frag) (α : Type) [DecidableEq α] [PySem.W.DatumOrd α] : List V → Hp → VK → Prop := fun xs H Q => ∃ (a : Addr) (ys : List V) (x : α) (zs : List α), xs = [.ref a] ∧ SqL K H a ys ∧ DpAll K H ys ((x :: zs).map PySem.W.Datum.toD) ∧
  ∀ (j : Nat) (v : V), ys[j]? = some v → (x :: zs)[j]? = some (PySem.W.maxOf x zs) → Dp K H v (PySem.W.Datum.toD (PySem.W.maxOf x zs)) → Q v H
theorem toD_inj {α : Type} [DecidableEq α] [PySem.W.Datum α] {x y : α} (h : PySem.W.Datum.toD x = PySem.W.Datum.toD y) : x = y := by
  have e := PySem.W.Datum.eqv x y
  have e2 := PySem.W.Datum.eqv y y
  rw [h] at e
  rw [e] at e2
  exact of_decide_eq_true (e2.trans (decide_eq_true rfl))
section
variable {α : Type} [DecidableEq α] [PySem.W.DatumOrd α]
theorem cr_minD (hc : X.calm = true) (hu : X.A.units + 1 + PySem.W.Datum.depth α < cLine) : CallR X (.builtin "min") (rMinD X.K α) := by
  intro pins s σ H xs us Q I r h
  obtain ⟨a, ys, x, zs, rfl, hq, hd, q⟩ := h
  obtain ⟨its, rv, hl, hz⟩ := I.list hq
  rw [Vals.ref1 r]
  obtain ⟨as, hr⟩ := Dp.readsAll I _ _ its hd rv
  refine PySem.W.min_list_datum (x := x) (xs := zs) (I.ok.hd hc) hl.isList ⟨as, by simpa using hr⟩ hu fun j v h' tk hv hh hk => ?_
  have hv' : its[j]? = some v := by simpa using hv
  obtain ⟨y, hy, ry⟩ := vals_back rv hv'
  obtain ⟨d, hdj, hdp⟩ := dpAll_at hd hy
  obtain ⟨bs, rd⟩ := Dp.reads I d y v hdp ry
  obtain ⟨cs, rc⟩ := hh
  have ed : d = PySem.W.Datum.toD (PySem.W.minOf x zs) := (Reads.unique (Reads.keeps hk rd) _ _ rc).1
  subst ed
  rw [List.getElem?_map] at hdj
  have hx : (x :: zs)[j]? = some (PySem.W.minOf x zs) := by
    cases e : (x :: zs)[j]? with
    | none => rw [e] at hdj; cases hdj
    | some z =>
      rw [e] at hdj
      have e2 := Option.some.inj hdj
      rw [toD_inj e2]
  exact ⟨y, H, I.kept hk, ry, q j y hy hx hdp⟩
theorem cr_maxD (hc : X.calm = true) (hu : X.A.units + 1 + PySem.W.Datum.depth α < cLine) : CallR X (.builtin "max") (rMaxD X.K α) := by
  intro pins s σ H xs us Q I r h
  obtain ⟨a, ys, x, zs, rfl, hq, hd, q⟩ := h
  obtain ⟨its, rv, hl, hz⟩ := I.list hq
  rw [Vals.ref1 r]
  obtain ⟨as, hr⟩ := Dp.readsAll I _ _ its hd rv
  refine PySem.W.max_list_datum (x := x) (xs := zs) (I.ok.hd hc) hl.isList ⟨as, by simpa using hr⟩ hu fun j v h' tk hv hh hk => ?_
  have hv' : its[j]? = some v := by simpa using hv
  obtain ⟨y, hy, ry⟩ := vals_back rv hv'
  obtain ⟨d, hdj, hdp⟩ := dpAll_at hd hy
  obtain ⟨bs, rd⟩ := Dp.reads I d y v hdp ry
  obtain ⟨cs, rc⟩ := hh
  have ed : d = PySem.W.Datum.toD (PySem.W.maxOf x zs) := (Reads.unique (Reads.keeps hk rd) _ _ rc).1
  subst ed
  rw [List.getElem?_map] at hdj
  have hx : (x :: zs)[j]? = some (PySem.W.maxOf x zs) := by
    cases e : (x :: zs)[j]? with
    | none => rw [e] at hdj; cases hdj
    | some z =>
      rw [e] at hdj
      have e2 := Option.some.inj hdj
      rw [toD_inj e2]
  exact ⟨y, H, I.kept hk, ry, q j y hy hx hdp⟩
end
/-! ### max(xs, default=d), ints -/
def rMaxDef (K : PySem.W.Frag) : List V → List V → Hp → VK → Prop := fun xs zs H Q => ∃ (a : Addr) (ns : List Int) (d : Int), xs = [.ref a] ∧ zs = [.int d] ∧ SqL K H a (ns.map V.int) ∧
  ∀ m : Int, (ns = [] → m = d) → (∀ x, x ∈ ns → x ≤ m) → (ns ≠ [] → m ∈ ns) → Q (.int m) H
theorem dpAll_ints {K : PySem.W.Frag} {H : Hp} : ∀ ns : List Int, DpAll K H (ns.map V.int) (ns.map PyData.int)
  | [] => .nil
  | n :: ns => .cons (.int n) (dpAll_ints ns)
theorem foldl_max : ∀ (ns : List Int) (x : Int), (∀ y, y ∈ x :: ns → y ≤ PySem.W.maxOf x ns) ∧ PySem.W.maxOf x ns ∈ x :: ns
  | [], x => by
    refine ⟨fun y hy => ?_, List.mem_cons_self⟩
    rw [List.mem_singleton.mp hy]
    exact Int.le_refl _
  | z :: ns, x => by
    obtain ⟨h1, h2⟩ := foldl_max ns (if PySem.W.DatumOrd.lt x z = true then z else x)
    have e : PySem.W.maxOf x (z :: ns) = PySem.W.maxOf (if PySem.W.DatumOrd.lt x z = true then z else x) ns := rfl
    rw [e]
    have hlt : PySem.W.DatumOrd.lt x z = decide (x < z) := rfl
    rw [hlt] at h1 h2 ⊢
    by_cases hxz : x < z
    · rw [decide_eq_true hxz] at h1 h2 ⊢
      rw [if_pos rfl] at h1 h2 ⊢
      refine ⟨fun y hy => ?_, List.mem_cons_of_mem _ h2⟩
      rcases List.mem_cons.mp hy with e | hy
      · have := h1 z List.mem_cons_self
        omega
      · exact h1 y hy
    · rw [decide_eq_false hxz] at h1 h2 ⊢
      rw [if_neg Bool.false_ne_true] at h1 h2 ⊢
      refine ⟨fun y hy => ?_, ?_⟩
      · have hx := h1 x List.mem_cons_self
        rcases List.mem_cons.mp hy with e | hy
        · rw [e]; exact hx
        · rcases List.mem_cons.mp hy with e | hy
          · omega
          · exact h1 y (List.mem_cons_of_mem _ hy)
      · rcases List.mem_cons.mp h2 with e | h2
        · rw [e]; exact List.mem_cons_self
        · exact List.mem_cons_of_mem _ (List.mem_cons_of_mem _ h2)
theorem cr_maxDef (hc : X.calm = true) (hu : X.A.units + 1 < cLine) : CallRK X (.builtin "max") [Str.ofString "default"] (rMaxDef X.K) := by
  intro pins s σ H xs zs us ws Q I r rz h
  obtain ⟨a, ns, d, rfl, rfl, hq, q⟩ := h
  obtain ⟨its, rv, hl, hz⟩ := I.list hq
  rw [Vals.ref1 r]
  obtain ⟨w1, rfl, e1⟩ := vals1 rz
  obtain ⟨t, rfl⟩ := e1
  obtain ⟨as, hr⟩ := Dp.readsAll I _ _ its (dpAll_ints ns) rv
  show wpAny _ _ (call (.builtin "max") [.ref a] [(Str.ofString "default", .int d t)]) _ _ _
  refine PySem.W.max_list_datum_default (α := Int) (xs := ns) (I.ok.hd hc) hl.isList ⟨as, (show ReadsAll s.heap its.toArray.toList (ns.map PyData.int) as by simpa using hr)⟩ (by exact hu) (fun e h' tk hk => ?_) fun y ys j v h' tk e hv hh hk => ?_
  · exact ⟨.int d, H, I.kept hk, ⟨t, rfl⟩, q d (fun _ => rfl) (fun x hx => by rw [e] at hx; cases hx) fun z => absurd e z⟩
  · obtain ⟨t', rfl⟩ := PySem.W.int_of_holds hh
    obtain ⟨h1, h2⟩ := foldl_max ys y
    exact ⟨.int _, H, I.kept hk, ⟨t', rfl⟩, q _ (fun z => by rw [e] at z; cases z) (fun x hx => h1 x (by rw [← e]; exact hx)) fun _ => by rw [e]; exact h2⟩
end
end Lp

/-! part LpRules3 -/
set_option Elab.async false
set_option linter.all false
set_option maxRecDepth 100000


namespace Lp
open PySem PySem.Spec PyProof.Rows L2 SlX
section
variable {X : Cx} {CX : CXT} {pins : List (Addr × Obj)} {σ : L2.St} {H : Hp} {s : Shared} {a C dx p g : Addr} {vs : List (Option V)} {f : Str} {n i : Nat} {sp : Sp} {E : XK} {v : V} {u : Value}

/-! ### a tuple display whose object is kept in mind: it has no dict -/
def FzT (H : Hp) (p : Addr) (xs : List V) : Prop := ∃ o : Obj, o.dict = none ∧ o.cls = .type "tuple" ∧ H p = some (.frz o (.tup xs))
theorem FzT.sq {K : PySem.W.Frag} {H : Hp} {p : Addr} {xs : List V} (h : FzT H p xs) : SqT K H p xs := by
  obtain ⟨o, _, _, h⟩ := h
  exact .inl (.inr ⟨o, h⟩)
def tTupF (t : TA) : TE := fun σ H Q => t σ H fun xs H1 => xs.length ≤ sizeLine ∧ ∀ p o, H1 p = none → o.dict = none → o.cls = .type "tuple" → Q (.ref p) (upd H1 p (.frz o (.tup xs)))
theorem pe_tupF {x1} {es : List Expr} {t : TA} {pos : Pos} (h : PA X es t) : PE X (.Tuple es x1 pos) (tTupF t) := by
  refine ⟨fun pins s σ H Q I hq => ?_⟩
  refine wpAny_Tuple_spliced (thn (h.run pos pins s σ H _ I hq) fun us s1 ⟨xs, H1, I1, r, z, q⟩ => ⟨by rw [← r.length]; exact z, ?_⟩)
  have hf : H1 s1.heap.objs.size = none := I1.hok.fresh (Nat.le_refl _)
  refine ⟨.ref s1.heap.objs.size, upd H1 s1.heap.objs.size (.frz _ (.tup xs)), I1.laid (t' := s1.toks) (fun b u e => Heap.get?_push_of_some _ e) (Nat.le_refl _) ?_, rfl, q _ { cls := .type "tuple", data := .seq us.toArray } hf rfl rfl⟩
  exact ⟨Heap.get?_push_size _ rfl, z, us, r, ⟨_, Heap.get?_push_size _ rfl, rfl, _, rfl⟩⟩

/-! ### d.update(t), t a tuple of pairs -/
theorem raws_of (I : Inv X pins σ H s) : ∀ {ps : List Addr} {kvs : List (Key × V)}, Paired (fun p kv => SqT X.K H p [kV kv.1, kv.2]) ps kvs →
    ∃ (prs : List (Key × Value)) (raws : List (Value × Value)), KV kvs prs ∧ prs.length = ps.length ∧ raws.length = ps.length ∧
      ∀ (j : Nat) (b : Addr), ps[j]? = some b → ∃ k u v, prs[j]? = some (k, v) ∧ raws[j]? = some (u, v) ∧ IsTup s.heap b #[u, v] ∧ keyIs k u = true
  | _, _, .nil => ⟨[], [], .nil, rfl, rfl, fun j q e => by simp at e⟩
  | _, _, .cons (a := p) (b := kv) h t => by
    obtain ⟨prs, raws, r, hl, hl2, hp⟩ := raws_of I t
    obtain ⟨its, rv, ht, _⟩ := I.tuple h
    obtain ⟨u, y, ei, ru, ry⟩ := vals2 rv
    subst ei
    refine ⟨(kv.1, y) :: prs, (u, y) :: raws, .cons ⟨rfl, ry⟩ r, by rw [List.length_cons, List.length_cons, hl], by rw [List.length_cons, List.length_cons, hl2], fun j b e => ?_⟩
    cases j with
    | zero =>
      have e' : p = b := Option.some.inj e
      subst e'
      exact ⟨kv.1, u, y, rfl, rfl, ht, kV_is (P := X.prog) (w := X.w) ru⟩
    | succ j =>
      obtain ⟨k, u', v', e1, e2, e3, e4⟩ := hp j b (by simpa using e)
      exact ⟨k, u', v', by simpa using e1, by simpa using e2, e3, e4⟩
def rUpdT (K : PySem.W.Frag) : V → List V → Hp → VK → Prop := fun x xs H Q => ∃ (d : Addr) (kvs : List (Key × V)) (a : Addr) (ps : List Addr) (more : List (Key × V)), x = .ref d ∧ xs = [.ref a] ∧ H d = some (.dK kvs) ∧ FzT H a (ps.map V.ref) ∧
  Paired (fun p kv => SqT K H p [kV kv.1, kv.2]) ps more ∧ kvs.length + more.length ≤ sizeLine ∧ Q .non (upd H d (.dK (mergeK kvs more)))
theorem mt_updT (hcalm : X.calm = true) : MtR X "dict.update" (rUpdT X.K) := by
  intro pins s σ H x xs v us Q I rx rxs h
  obtain ⟨d, kvs, a, ps, more, rfl, rfl, hd, ⟨o, hod, hoc, ha⟩, hp, hz, q⟩ := h
  cases rx
  rw [Vals.ref1 rxs]
  obtain ⟨z, hdm, vs, rel, dd⟩ := dk_of I.hok hd
  obtain ⟨hao, hza, its, rv, ⟨o', ho', hc', n', hdat'⟩⟩ := I.hok a _ ha
  have eo : o' = o := Option.some.inj (ho'.symm.trans hao)
  subst eo
  have ei := refs_at rv
  subst ei
  obtain ⟨prs, raws, relm, hl, hl2, hpr⟩ := raws_of I hp
  have hml : more.length = ps.length := relm.length.trans hl
  obtain ⟨Ts, hTs⟩ : ∃ Ts : Nat → Addr, ∀ j b, ps[j]? = some b → Ts j = b := ⟨fun j => ps.getD j 0, fun j b e => by
    show ps.getD j 0 = b
    rw [List.getD_eq_getElem?_getD, e]
    rfl⟩
  have hit : PairItems s.heap (ps.map Value.ref).toArray Ts raws := ⟨by simp [hl2], fun j k v e => by
    have hj : j < ps.length := by
      have := (List.getElem?_eq_some_iff.mp e).1
      omega
    have eb : ps[j]? = some ps[j] := List.getElem?_eq_getElem hj
    obtain ⟨k', u', v', e1, e2, e3, e4⟩ := hpr j _ eb
    rw [e] at e2
    have e2' := Option.some.inj e2
    injection e2' with e5 e6
    subst e5 e6
    refine ⟨by simp [eb, hTs j _ eb], .inl ?_⟩
    rw [hTs j _ eb]
    exact e3⟩
  have ntup : ∀ b its, IsTup s.heap b its → d ≠ b := fun b its ⟨ob, hob, hbc, _⟩ e => by
    obtain ⟨od, es, ep, hg, hx, _⟩ := dd
    rw [e, hob] at hg
    cases hg
    rw [hx.1] at hbc
    exact absurd (Value.type.inj hbc) (by decide)
  refine call_update_pairs (knd := mixKind X.prog X.w) (kvs := prs) (PairArg.tuple (prog := X.prog) (w := X.w) a (ps.map Value.ref).toArray Ts raws) (I.ok.hd hcalm) ⟨⟨o', n', ho', hc', hod, hdat'⟩, hit⟩ (fun hm => ?_) ⟨?_, fun j key v hr => ?_⟩ dd ?_ fun h' tk hd' k => ?_
  · rcases List.mem_cons.mp hm with e | hm
    · exact ntup a _ ⟨o', ho', hc', n', hdat'⟩ e
    · obtain ⟨j, hj, e⟩ := List.mem_map.mp hm
      have hj' : j < ps.length := by
        have := List.mem_range.mp hj
        omega
      have eb : ps[j]? = some ps[j] := List.getElem?_eq_getElem hj'
      obtain ⟨k', u', v', e1, e2, e3, e4⟩ := hpr j _ eb
      refine ntup _ _ e3 ?_
      rw [← e]
      exact hTs j _ eb
  · omega
  · have hr' : raws[j]? = some (key, v) := hr
    have hj : j < ps.length := by
      have := (List.getElem?_eq_some_iff.mp hr').1
      omega
    have eb : ps[j]? = some ps[j] := List.getElem?_eq_getElem hj
    obtain ⟨k', u', v', e1, e2, e3, e4⟩ := hpr j _ eb
    rw [hr'] at e2
    have e2' := Option.some.inj e2
    injection e2' with e5 e6
    subst e5 e6
    exact ⟨k', e1, e4⟩
  · rw [← rel.length, hl2, ← hml]
    exact hz
  · have hlen : (mergeK kvs more).length ≤ sizeLine := Nat.le_trans (length_mergeK more kvs) hz
    have he : ∃ o, h'.get? d = some o := by
      obtain ⟨od, es, ep, hg, _⟩ := hd'
      exact ⟨od, hg⟩
    exact ⟨.non, upd H d (.dK (mergeK kvs more)), I.write (e := d) (t' := tk) (by rw [hd]; trivial) (.inl rfl) (fun b u hb hu => k b u hb (by simp) hu) he ⟨hlen, hdm, merged vs prs, KV.merge relm rel, hd'⟩, rfl, q⟩
end
end Lp

/-! part LpRep -/
set_option Elab.async false
set_option linter.all false
set_option maxRecDepth 100000

namespace Lp
open PySem PySem.Spec PyProof.Rows L2
open Evl (Ex ex_l ex_t ex_rd fresh_back)
/-! ## what a value stands for -/
structure SP where
  p : V → Hp → Prop
  mono : ∀ {v : V} {H H' : Hp}, Ex H H' → p v H → p v H'
class Rep (K : PySem.W.Frag) (α : Type) where
  sp : α → SP
abbrev Is (K : PySem.W.Frag) {α : Type} [Rep K α] (x : α) : SP := Rep.sp K x
structure Tp (α : Type) where
  l : List α
instance {α : Type} [DecidableEq α] : DecidableEq (Tp α) := fun a b => match a, b with
  | ⟨a⟩, ⟨b⟩ => if h : a = b then isTrue (by rw [h]) else isFalse fun e => h (by injection e)
section
variable {K : PySem.W.Frag}
/-- an exact value -/
def Eq1 (x : V) : SP := ⟨fun v _ => v = x, fun _ h => h⟩
instance : Rep K Int := ⟨fun x => Eq1 (.int x)⟩
instance : Rep K Nat := ⟨fun x => Eq1 (.int (x : Int))⟩
instance : Rep K Bool := ⟨fun x => Eq1 (.bl x)⟩
def opt {α : Type} (f : α → SP) : Option α → SP
  | none => Eq1 .non
  | some x => f x
instance {α : Type} [Rep K α] : Rep K (Option α) := ⟨opt (Is K)⟩
theorem paired_mono {α : Type} {f : α → SP} {H H' : Hp} (e : Ex H H') {vs : List V} {xs : List α} (h : Paired (fun v x => (f x).p v H) vs xs) : Paired (fun v x => (f x).p v H') vs xs :=
  Paired.mapP h fun _ _ q => (f _).mono e q
/-- a list | a tuple, the items told by Ps -/
def LsP (K : PySem.W.Frag) (Ps : List SP) : SP := ⟨fun v H => ∃ a vs, v = .ref a ∧ SqL K H a vs ∧ Paired (fun v P => P.p v H) vs Ps, fun e ⟨a, vs, h1, h2, h3⟩ => ⟨a, vs, h1, ex_l e h2, paired_mono (f := id) e h3⟩⟩
def TuP (K : PySem.W.Frag) (Ps : List SP) : SP := ⟨fun v H => ∃ a vs, v = .ref a ∧ SqT K H a vs ∧ Paired (fun v P => P.p v H) vs Ps, fun e ⟨a, vs, h1, h2, h3⟩ => ⟨a, vs, h1, ex_t e h2, paired_mono (f := id) e h3⟩⟩
instance {α : Type} [Rep K α] : Rep K (List α) := ⟨fun xs => LsP K (xs.map (Is K))⟩
instance {α : Type} [Rep K α] : Rep K (Tp α) := ⟨fun xs => TuP K (xs.l.map (Is K))⟩
instance {α β : Type} [Rep K α] [Rep K β] : Rep K (α × β) := ⟨fun x => TuP K [Is K x.1, Is K x.2]⟩
theorem is_some {α : Type} [Rep K α] {x : α} : Is K (some x) = Is K x := rfl
theorem is_nat {n : Nat} : Is K n = Is K (n : Int) := rfl

/-! ## what is known of the slots -/
abbrev Gm := List (Option SP)
structure Sat (Γ : Gm) (σ : L2.St) (H : Hp) : Prop where
  len : σ.length = Γ.length
  at' : ∀ (i : Nat) (P : SP), Γ[i]? = some (some P) → ∃ v : V, σ[i]? = some (some v) ∧ SP.p P v H
theorem Sat.mono {Γ : Gm} {σ : L2.St} {H H' : Hp} (h : Sat Γ σ H) (e : Ex H H') : Sat Γ σ H' := ⟨h.len, fun i P q => by
  obtain ⟨v, h1, h2⟩ := h.at' i P q
  exact ⟨v, h1, P.mono e h2⟩⟩
theorem Sat.set {Γ : Gm} {σ : L2.St} {H : Hp} {i : Nat} {v : V} {P : SP} (h : Sat Γ σ H) (hv : P.p v H) : Sat (Γ.set i (some P)) (σ.set i (some v)) H := by
  refine ⟨by rw [List.length_set, List.length_set, h.len], fun j R q => ?_⟩
  by_cases hj : i = j
  · subst hj
    have hl : i < Γ.length := by
      have := (List.getElem?_eq_some_iff.mp q).1
      rwa [List.length_set] at this
    rw [List.getElem?_set_self hl] at q
    injection q with q
    injection q with q
    subst q
    exact ⟨v, List.getElem?_set_self (by rw [h.len]; exact hl), hv⟩
  · rw [List.getElem?_set_ne hj] at q
    rw [List.getElem?_set_ne hj]
    exact h.at' j R q
theorem Sat.none {Γ : Gm} {σ : L2.St} {H : Hp} {i : Nat} {x : Option V} (h : Sat Γ σ H) : Sat (Γ.set i none) (σ.set i x) H := by
  refine ⟨by rw [List.length_set, List.length_set, h.len], fun j R q => ?_⟩
  by_cases hj : i = j
  · subst hj
    by_cases hl : i < Γ.length
    · rw [List.getElem?_set_self hl] at q
      cases q
    · rw [List.getElem?_eq_none (by rw [List.length_set]; omega)] at q
      cases q
  · rw [List.getElem?_set_ne hj] at q
    rw [List.getElem?_set_ne hj]
    exact h.at' j R q
/-- less is known -/
def Lq (Γ Γ' : Gm) : Prop := Γ.length = Γ'.length ∧ ∀ (i : Nat) (P : SP), Γ[i]? = some (some P) → Γ'[i]? = some (some P)
theorem Sat.less {Γ Γ' : Gm} {σ : L2.St} {H : Hp} (h : Sat Γ' σ H) (l : Lq Γ Γ') : Sat Γ σ H := ⟨h.len.trans l.1.symm, fun i P q => h.at' i P (l.2 i P q)⟩
theorem lq_refl (Γ : Gm) : Lq Γ Γ := ⟨rfl, fun _ _ h => h⟩
theorem lq_set {Γ Γ' : Gm} {i : Nat} {x : Option SP} (h : Lq Γ Γ') (hn : Γ[i]? = some none ∨ Γ[i]? = none) : Lq Γ (Γ'.set i x) := ⟨by rw [List.length_set]; exact h.1, fun j P q => by
  by_cases hj : i = j
  · subst hj
    rcases hn with hn | hn <;> rw [hn] at q <;> cases q
  · rw [List.getElem?_set_ne hj]
    exact h.2 j P q⟩
theorem lq_cons {x : Option SP} {Γ Γ' : Gm} (h : Lq Γ Γ') : Lq (x :: Γ) (x :: Γ') := ⟨by rw [List.length_cons, List.length_cons, h.1], fun i P q => by
  cases i with
  | zero => exact q
  | succ i => exact h.2 i P q⟩
theorem lq_none {x : Option SP} {Γ Γ' : Gm} (h : Lq Γ Γ') : Lq (none :: Γ) (x :: Γ') := ⟨by rw [List.length_cons, List.length_cons, h.1], fun i P q => by
  cases i with
  | zero => cases q
  | succ i => exact h.2 i P q⟩
theorem lq_nil : Lq [] [] := lq_refl []
def wipeG (Γ : Gm) : List Nat → Gm
  | [] => Γ
  | v :: vs => (wipeG Γ vs).set v none
theorem Sat.wipe {Γ : Gm} {σ : L2.St} {H : Hp} (h : Sat Γ σ H) : ∀ vs : List Nat, Sat (wipeG Γ vs) (wipe σ vs) H
  | [] => h
  | _ :: vs => (h.wipe vs).none
theorem wipe_set {σ : L2.St} {i : Nat} {x : Option V} : ∀ {vs : List Nat}, (i ∈ vs → wipe (σ.set i x) vs = wipe σ vs) ∧ (i ∉ vs → wipe (σ.set i x) vs = (wipe σ vs).set i x)
  | [] => ⟨fun h => by simp at h, fun _ => rfl⟩
  | v :: vs => by
    obtain ⟨h1, h2⟩ := wipe_set (σ := σ) (i := i) (x := x) (vs := vs)
    have e : ∀ s : L2.St, L2.wipe s (v :: vs) = (L2.wipe s vs).set v none := fun _ => rfl
    rw [e, e]
    by_cases hi : i ∈ vs
    · rw [h1 hi]
      exact ⟨fun _ => rfl, fun hn => absurd (List.mem_cons_of_mem _ hi) hn⟩
    · rw [h2 hi]
      refine ⟨fun hm => ?_, fun hn => ?_⟩
      · rcases List.mem_cons.mp hm with e | hm
        · subst e
          rw [List.set_set]
        · exact absurd hm hi
      · have hne : i ≠ v := fun e => hn (by rw [e]; exact List.mem_cons_self)
        rw [List.set_comm _ _ hne]
theorem wipe_in {σ : L2.St} {i : Nat} {x : Option V} {vs : List Nat} (h : i ∈ vs) : wipe (σ.set i x) vs = wipe σ vs := wipe_set.1 h

/-! ## what an expression evaluates to -/
def AllP (vs : List V) (Ps : List SP) (H : Hp) : Prop := Paired (fun v P => SP.p P v H) vs Ps
theorem AllP.mono {vs : List V} {Ps : List SP} {H H' : Hp} (h : AllP vs Ps H) (e : Ex H H') : AllP vs Ps H' := paired_mono (f := id) e h
def EvG (te : TE) (Γ : Gm) (P : SP) : Prop := ∀ (σ : L2.St) (H : Hp) (Q : VK), Sat Γ σ H → (∀ v H2, Ex H H2 → P.p v H2 → Q v H2) → te σ H Q
def EvT (tt : TT) (Γ : Gm) (b : Bool) : Prop := ∀ (σ : L2.St) (H : Hp) (Q : Bool → Hp → Prop), Sat Γ σ H → (∀ H2, Ex H H2 → Q b H2) → tt σ H Q
def EvA (ta : TA) (Γ : Gm) (Ps : List SP) : Prop := ∀ (σ : L2.St) (H : Hp) (Q : List V → Hp → Prop), Sat Γ σ H → (∀ vs H2, Ex H H2 → AllP vs Ps H2 → Q vs H2) → ta σ H Q
variable {Γ Γ' : Gm} {ta tb te : TE} {t u : TT} {P P' : SP} {Ps : List SP} {α β : Type} [Rep K α] [Rep K β]
theorem EvG.to (h : EvG te Γ P) (e : P = P') : EvG te Γ P' := e ▸ h
theorem EvG.weak (h : EvG te Γ P) (e : ∀ v H, P.p v H → P'.p v H) : EvG te Γ P' := fun σ H Q s q => h σ H Q s fun v H2 x y => q v H2 x (e v H2 y)
theorem eg_var {i : Nat} (h : Γ[i]? = some (some P)) : EvG (tVar i) Γ P := fun σ H Q s q => by
  obtain ⟨v, h1, h2⟩ := s.at' i P h
  exact ⟨v, h1, q v H (Ex.refl H) h2⟩
theorem eg_c {v : V} : EvG (tC v) Γ (Eq1 v) := fun σ H Q s q => q v H (Ex.refl H) rfl
theorem eg_int {i : Int} : EvG (tC (.int i)) Γ (Is K i) := eg_c
theorem eg_bl {b : Bool} : EvG (tC (.bl b)) Γ (Is K b) := eg_c
theorem eg_non : EvG (tC .non) Γ (Is K (none : Option α)) := eg_c
/-- two parts in a row -/
theorem EvG.two {ta tb : TE} {P1 P2 : SP} (ha : EvG ta Γ P1) (hb : EvG tb Γ P2) {σ : L2.St} {H : Hp} (s : Sat Γ σ H) {R : V → V → Hp → Prop} (q : ∀ v w H2, Ex H H2 → P1.p v H2 → P2.p w H2 → R v w H2) : ta σ H fun v H1 => tb σ H1 fun w H2 => R v w H2 :=
  ha σ H _ s fun v H1 e1 p1 => hb σ H1 _ (s.mono e1) fun w H2 e2 p2 => q v w H2 (e1.trans e2) (P1.mono e2 p1) p2
theorem eg_opI0 {f : Int → Int → Int} {i j : Int} (ha : EvG ta Γ (Is K i)) (hb : EvG tb Γ (Is K j)) : EvG (tOp (rI0 fun i j => .int (f i j)) ta tb) Γ (Is K (f i j)) := fun σ H Q s q =>
  ha.two hb s fun v w H2 e p1 p2 => ⟨i, j, p1, p2, q _ H2 e rfl⟩
theorem eg_opI {f : Int → Int → Int} {C : Int → Int → Prop} {i j : Int} (ha : EvG ta Γ (Is K i)) (hb : EvG tb Γ (Is K j)) (hc : C i j) : EvG (tOp (rI C fun i j => .int (f i j)) ta tb) Γ (Is K (f i j)) := fun σ H Q s q =>
  ha.two hb s fun v w H2 e p1 p2 => ⟨i, j, p1, p2, hc, q _ H2 e rfl⟩
theorem eg_cmpI {f : Int → Int → Bool} {i j : Int} (ha : EvG ta Γ (Is K i)) (hb : EvG tb Γ (Is K j)) : EvG (tOp (rI0 fun i j => .bl (f i j)) ta tb) Γ (Is K (f i j)) := fun σ H Q s q =>
  ha.two hb s fun v w H2 e p1 p2 => ⟨i, j, p1, p2, q _ H2 e rfl⟩
theorem dec_int {i j : Int} : decide (V.int i = V.int j) = decide (i = j) := by
  by_cases h : i = j
  · rw [h, decide_eq_true rfl, decide_eq_true rfl]
  · rw [decide_eq_false h, decide_eq_false fun e => h (by injection e)]
theorem eg_eqI {i j : Int} (ha : EvG ta Γ (Is K i)) (hb : EvG tb Γ (Is K j)) : EvG (tOp rEq ta tb) Γ (Is K (decide (i = j))) := fun σ H Q s q =>
  ha.two hb s fun v w H2 e p1 p2 => by
    obtain rfl : v = .int i := p1
    obtain rfl : w = .int j := p2
    refine ⟨rfl, q _ H2 e ?_⟩
    rw [dec_int]
    rfl
theorem eg_neI {i j : Int} (ha : EvG ta Γ (Is K i)) (hb : EvG tb Γ (Is K j)) : EvG (tOp rNe ta tb) Γ (Is K (!decide (i = j))) := fun σ H Q s q =>
  ha.two hb s fun v w H2 e p1 p2 => by
    obtain rfl : v = .int i := p1
    obtain rfl : w = .int j := p2
    refine ⟨rfl, q _ H2 e ?_⟩
    rw [dec_int]
    rfl
theorem dec_bl {i j : Bool} : decide (V.bl i = V.bl j) = decide (i = j) := by
  cases i <;> cases j <;> rfl
theorem eg_eqB {i j : Bool} (ha : EvG ta Γ (Is K i)) (hb : EvG tb Γ (Is K j)) : EvG (tOp rEq ta tb) Γ (Is K (decide (i = j))) := fun σ H Q s q =>
  ha.two hb s fun v w H2 e p1 p2 => by
    obtain rfl : v = .bl i := p1
    obtain rfl : w = .bl j := p2
    refine ⟨rfl, q _ H2 e ?_⟩
    rw [dec_bl]
    rfl
theorem eg_neB {i j : Bool} (ha : EvG ta Γ (Is K i)) (hb : EvG tb Γ (Is K j)) : EvG (tOp rNe ta tb) Γ (Is K (!decide (i = j))) := fun σ H Q s q =>
  ha.two hb s fun v w H2 e p1 p2 => by
    obtain rfl : v = .bl i := p1
    obtain rfl : w = .bl j := p2
    refine ⟨rfl, q _ H2 e ?_⟩
    rw [dec_bl]
    rfl
theorem eg_neg {i : Int} (ha : EvG ta Γ (Is K i)) : EvG (tUn (rU fun i => .int (-i)) ta) Γ (Is K (-i)) := fun σ H Q s q =>
  ha σ H _ s fun v H2 e p => ⟨i, p, q _ H2 e rfl⟩
/-- what is never None -/
class NN (K : PySem.W.Frag) (α : Type) [Rep K α] : Prop where
  nn : ∀ (x : α) (H : Hp), ¬ (Is K x).p .non H
instance : NN K Int := ⟨fun _ _ h => by cases h⟩
instance : NN K Nat := ⟨fun _ _ h => by cases h⟩
theorem opt_non [NN K α] {o : Option α} {v : V} {H : Hp} (h : (Is K o).p v H) : decide (v = .non) = o.isNone := by
  cases o with
  | none =>
    obtain rfl : v = .non := h
    rfl
  | some x =>
    refine decide_eq_false fun e => ?_
    subst e
    exact NN.nn x H h
theorem eg_isN [NN K α] {o : Option α} (ha : EvG ta Γ (Is K o)) : EvG (tIsN ta) Γ (Is K o.isNone) := fun σ H Q s q =>
  ha σ H _ s fun v H2 e p => q _ H2 e (by rw [opt_non p]; rfl)
theorem eg_notN [NN K α] {o : Option α} (ha : EvG ta Γ (Is K o)) : EvG (tNotN ta) Γ (Is K o.isSome) := fun σ H Q s q =>
  ha σ H _ s fun v H2 e p => q _ H2 e (by
    rw [opt_non p]
    cases o <;> rfl)
/-! tests -/
theorem et_B {b : Bool} (h : EvG te Γ (Is K b)) : EvT (tB te) Γ b := fun σ H Q s q => h σ H _ s fun v H2 e p => ⟨b, p, q H2 e⟩
theorem et_test {b : Bool} (h : EvG te Γ (Is K b)) : EvT (tTest te) Γ b := fun σ H Q s q => h σ H _ s fun v H2 e p => ⟨b, p, q H2 e⟩
theorem EvT.to {b c : Bool} (h : EvT t Γ b) (e : b = c) : EvT t Γ c := e ▸ h
theorem et_and {a b : Bool} (h1 : EvT t Γ a) (h2 : a = true → EvT u Γ b) : EvT (tAnd t u) Γ (a && b) := fun σ H Q s q => h1 σ H _ s fun H2 e => by
  cases a with
  | true =>
    show u σ H2 Q
    exact h2 rfl σ H2 Q (s.mono e) fun H3 e3 => q H3 (e.trans e3)
  | false =>
    show Q false H2
    exact q H2 e
theorem et_or {a b : Bool} (h1 : EvT t Γ a) (h2 : a = false → EvT u Γ b) : EvT (tOr t u) Γ (a || b) := fun σ H Q s q => h1 σ H _ s fun H2 e => by
  cases a with
  | true =>
    show Q true H2
    exact q H2 e
  | false =>
    show u σ H2 Q
    exact h2 rfl σ H2 Q (s.mono e) fun H3 e3 => q H3 (e.trans e3)
theorem et_not {a : Bool} (h : EvT t Γ a) : EvT (tNot t) Γ (!a) := fun σ H Q s q => h σ H _ s q
theorem et_yes : EvT tYes Γ true := fun σ H Q s q => q H (Ex.refl H)
theorem eg_and {a b : Bool} (h1 : EvG ta Γ (Is K a)) (h2 : a = true → EvG tb Γ (Is K b)) : EvG (tAndV ta tb) Γ (Is K (a && b)) := fun σ H Q s q => h1 σ H _ s fun v H2 e p => ⟨a, p, by
  cases a with
  | true =>
    show tb σ H2 Q
    exact h2 rfl σ H2 Q (s.mono e) fun v H3 e3 p3 => q v H3 (e.trans e3) p3
  | false =>
    show Q (.bl false) H2
    exact q _ H2 e rfl⟩
theorem eg_or {a b : Bool} (h1 : EvG ta Γ (Is K a)) (h2 : a = false → EvG tb Γ (Is K b)) : EvG (tOrV ta tb) Γ (Is K (a || b)) := fun σ H Q s q => h1 σ H _ s fun v H2 e p => ⟨a, p, by
  cases a with
  | true =>
    show Q (.bl true) H2
    exact q _ H2 e rfl
  | false =>
    show tb σ H2 Q
    exact h2 rfl σ H2 Q (s.mono e) fun v H3 e3 p3 => q v H3 (e.trans e3) p3⟩
theorem eg_not {a : Bool} (h : EvG ta Γ (Is K a)) : EvG (tNotV ta) Γ (Is K (!a)) := fun σ H Q s q => h σ H _ s fun v H2 e p => ⟨a, p, q _ H2 e rfl⟩
theorem eg_if {b : Bool} (h : EvT t Γ b) (h1 : b = true → EvG ta Γ P) (h2 : b = false → EvG tb Γ P) : EvG (tIf t ta tb) Γ P := fun σ H Q s q => h σ H _ s fun H2 e => by
  cases b with
  | true =>
    show ta σ H2 Q
    exact h1 rfl σ H2 Q (s.mono e) fun v H3 e3 p3 => q v H3 (e.trans e3) p3
  | false =>
    show tb σ H2 Q
    exact h2 rfl σ H2 Q (s.mono e) fun v H3 e3 p3 => q v H3 (e.trans e3) p3
theorem eg_chain {f f' : Int → Int → Bool} {i j k : Int} {tc : TE} (ha : EvG ta Γ (Is K i)) (hb : EvG tb Γ (Is K j)) (hc : EvG tc Γ (Is K k)) :
    EvG (tChain (rI0 fun i j => .bl (f i j)) (rI0 fun i j => .bl (f' i j)) ta tb tc) Γ (Is K (f i j && f' j k)) := fun σ H Q s q =>
  ha.two hb s fun v w H2 e p1 p2 => ⟨i, j, p1, p2, f i j, rfl, by
    cases h : f i j with
    | true =>
      show tc σ H2 _
      refine hc σ H2 _ (s.mono e) fun x H3 e3 p3 => ?_
      exact ⟨j, k, p2, p3, q _ H3 (e.trans e3) (by rw [h]; rfl)⟩
    | false =>
      show Q (.bl false) H2
      exact q _ H2 e (by rw [h]; rfl)⟩
/-! arguments, displays -/
theorem ea_nil : EvA tNil Γ [] := fun σ H Q s q => q [] H (Ex.refl H) .nil
theorem ea_cons {tr : TA} (h : EvG te Γ P) (hr : EvA tr Γ Ps) : EvA (tCons te tr) Γ (P :: Ps) := fun σ H Q s q =>
  h σ H _ s fun v H2 e p => hr σ H2 _ (s.mono e) fun vs H3 e3 p3 => q _ H3 (e.trans e3) (.cons (P.mono e3 p) p3)
theorem AllP.len {vs : List V} {Ps : List SP} {H : Hp} (h : AllP vs Ps H) : vs.length = Ps.length := Paired.length h
theorem eg_tup {tr : TA} (h : EvA tr Γ Ps) (hl : Ps.length ≤ 100000 := by exact Nat.le_of_ble_eq_true rfl) : EvG (tTup tr) Γ (TuP K Ps) := fun σ H Q s q =>
  h σ H _ s fun vs H2 e p => ⟨by rw [p.len]; exact Evl.sz_of hl, fun x hx => q _ _ (e.trans (Ex.new hx)) ⟨x, vs, rfl, .inl (.inl upd_same), p.mono (Ex.new hx)⟩⟩
theorem eg_lst {tr : TA} (h : EvA tr Γ Ps) (hl : Ps.length ≤ 100000 := by exact Nat.le_of_ble_eq_true rfl) : EvG (tLst tr) Γ (LsP K Ps) := fun σ H Q s q =>
  h σ H _ s fun vs H2 e p => ⟨by rw [p.len]; exact Evl.sz_of hl, fun x hx => q _ _ (e.trans (Ex.new hx)) ⟨x, vs, rfl, .inl (.inl upd_same), p.mono (Ex.new hx)⟩⟩
theorem eg_pair {x : α} {y : β} (ha : EvG ta Γ (Is K x)) (hb : EvG tb Γ (Is K y)) : EvG (tTup (tCons ta (tCons tb tNil))) Γ (Is K (x, y)) := eg_tup (ea_cons ha (ea_cons hb ea_nil)) (Nat.le_of_ble_eq_true rfl)
/-! items -/
theorem paired_at {α β : Type} {F : α → β → Prop} : ∀ {xs : List α} {ys : List β} {i : Nat} {y : β}, Paired F xs ys → ys[i]? = some y → ∃ x, xs[i]? = some x ∧ F x y
  | _, _, _, _, .nil, e => by simp at e
  | _, _, 0, _, .cons r _, e => by
    have e1 := Option.some.inj e
    subst e1
    exact ⟨_, rfl, r⟩
  | _, _, i + 1, y, .cons _ t, e => by
    obtain ⟨d, h1, h2⟩ := paired_at (i := i) (y := y) t (by simpa using e)
    exact ⟨d, by simpa using h1, h2⟩
theorem atI_nat' {xs : List V} {i : Nat} {v : V} (h : xs[i]? = some v) : atI xs (i : Int) = some v := by
  have hl := (List.getElem?_eq_some_iff.mp h).1
  unfold atI
  rw [Evl.ixN_nat hl]
  exact h
theorem eg_ixLP {i : Nat} (ha : EvG ta Γ (LsP K Ps)) (hb : EvG tb Γ (Is K i)) (hx : Ps[i]? = some P) : EvG (tOp (rIxL K) ta tb) Γ P := fun σ H Q s q =>
  ha.two hb s fun v w H2 e p1 p2 => by
    obtain ⟨a, vs, rfl, h2, h3⟩ := p1
    obtain rfl : w = .int (i : Int) := p2
    obtain ⟨x, hx1, hx2⟩ := paired_at h3 hx
    exact ⟨a, vs, i, x, rfl, rfl, h2, atI_nat' hx1, q x H2 e hx2⟩
theorem eg_ixTP {i : Nat} (ha : EvG ta Γ (TuP K Ps)) (hb : EvG tb Γ (Is K i)) (hx : Ps[i]? = some P) : EvG (tOp (rIxT K) ta tb) Γ P := fun σ H Q s q =>
  ha.two hb s fun v w H2 e p1 p2 => by
    obtain ⟨a, vs, rfl, h2, h3⟩ := p1
    obtain rfl : w = .int (i : Int) := p2
    obtain ⟨x, hx1, hx2⟩ := paired_at h3 hx
    exact ⟨a, vs, i, x, rfl, rfl, h2, atI_nat' hx1, q x H2 e hx2⟩
theorem map_at {xs : List α} {i : Nat} {x : α} (h : xs[i]? = some x) : (xs.map (Is K))[i]? = some (Is K x) := by
  rw [List.getElem?_map, h]
  rfl
theorem eg_ixL {xs : List α} {i : Nat} {x : α} (ha : EvG ta Γ (Is K xs)) (hb : EvG tb Γ (Is K i)) (hx : xs[i]? = some x) : EvG (tOp (rIxL K) ta tb) Γ (Is K x) := eg_ixLP (K := K) (Ps := xs.map (Is K)) ha hb (map_at hx)
theorem eg_ixT {xs : List α} {i : Nat} {x : α} (ha : EvG ta Γ (Is K (Tp.mk xs))) (hb : EvG tb Γ (Is K i)) (hx : xs[i]? = some x) : EvG (tOp (rIxT K) ta tb) Γ (Is K x) := eg_ixTP (K := K) (Ps := xs.map (Is K)) ha hb (map_at hx)
theorem eg_fst {x : α × β} (ha : EvG ta Γ (Is K x)) : EvG (tOp (rIxT K) ta (tC (.int 0))) Γ (Is K x.1) := eg_ixTP (K := K) (i := 0) (Ps := [Is K x.1, Is K x.2]) ha eg_c rfl
theorem eg_snd {x : α × β} (ha : EvG ta Γ (Is K x)) : EvG (tOp (rIxT K) ta (tC (.int 1))) Γ (Is K x.2) := eg_ixTP (K := K) (i := 1) (Ps := [Is K x.1, Is K x.2]) ha eg_c rfl
/-! own objects with slots: what is known of the slots, by their places -/
def SatS (Ss : Gm) (vs : List (Option V)) (H : Hp) : Prop := ∀ (i : Nat) (P : SP), Ss[i]? = some (some P) → ∃ w : V, vs[i]? = some (some w) ∧ SP.p P w H
theorem SatS.mono {Ss : Gm} {vs : List (Option V)} {H H' : Hp} (h : SatS Ss vs H) (e : Ex H H') : SatS Ss vs H' := fun i P hP => by
  obtain ⟨w, h1, h2⟩ := h i P hP
  exact ⟨w, h1, P.mono e h2⟩
theorem slt_mono {H H' : Hp} {a C dx : Addr} {vs : List (Option V)} (e : Ex H H') (h : SlX.Slt H a C dx vs) : SlX.Slt H' a C dx vs := by
  rcases h with ⟨h, hv⟩ | ⟨h, h'⟩
  · exact .inl ⟨e _ _ h, hv⟩
  · exact .inr ⟨e _ _ h, e _ _ h'⟩
def ObA (H : Hp) (a C dx : Addr) (Ss : Gm) : Prop := ∃ vs, SlX.Slt H a C dx vs ∧ SatS Ss vs H
theorem ObA.mono {H H' : Hp} {a C dx : Addr} {Ss : Gm} (h : ObA H a C dx Ss) (e : Ex H H') : ObA H' a C dx Ss := by
  obtain ⟨vs, h1, h2⟩ := h
  exact ⟨vs, slt_mono e h1, h2.mono e⟩
def ObP (C : Addr) (Ps : List SP) : SP := ⟨fun v H => ∃ a dx, v = .ref a ∧ ObA H a C dx (Ps.map some), fun e ⟨a, dx, h1, h2⟩ => ⟨a, dx, h1, h2.mono e⟩⟩
theorem some_at {Ps : List SP} {i : Nat} (h : Ps[i]? = some P) : (Ps.map some)[i]? = some (some P) := by
  rw [List.getElem?_map, h]
  rfl
theorem eg_sl {C p : Addr} {f : Str} {i : Nat} (ha : EvG ta Γ (ObP C Ps)) (hc : SlX.SCls K C) (hs : SlX.Slot1 K C f p i) (hx : Ps[i]? = some P) : EvG (SlX.tSl K ta f) Γ P := fun σ H Q s q =>
  ha σ H _ s fun v H2 e h => by
    obtain ⟨a, dx, rfl, vs, h2, h3⟩ := h
    obtain ⟨w, ho, hw⟩ := h3 i P (some_at hx)
    exact ⟨a, C, dx, p, vs, i, w, rfl, h2, hc, hs, ho, q w H2 e hw⟩
/-! ## promises -/
/-- given arguments as Ps tells, gives a thing as R tells, changing nothing -/
def spP {γ : Type} (C : γ → Prop) (Ps : γ → List SP) (R : γ → SP) : Sp := fun vs H Q _ => ∃ g : γ, C g ∧ AllP vs (Ps g) H ∧ ∀ v H2, Ex H H2 → (R g).p v H2 → Q v H2
theorem spP_len {γ : Type} {C : γ → Prop} {Ps : γ → List SP} {R : γ → SP} {n : Nat} (h : ∀ g, (Ps g).length = n) : ∀ vs H Q E, spP C Ps R vs H Q E → vs.length = n := fun vs H Q E ⟨g, _, a, _⟩ => a.len.trans (h g)
theorem eg_call {γ : Type} {C : γ → Prop} {Qs : γ → List SP} {R : γ → SP} {tr : TA} {E : XK} (g : γ) (h : EvA tr Γ (Qs g)) (hc : C g) : EvG (fun σ H Q => tr σ H fun vs H1 => spP C Qs R vs H1 Q E) Γ (R g) := fun σ H Q s q =>
  h σ H _ s fun vs H1 e p => ⟨g, hc, p, fun v H2 e2 r => q v H2 (e.trans e2) r⟩
theorem eg_meth {γ : Type} {C : γ → Prop} {Qs : γ → List SP} {R : γ → SP} {tr : TA} {E : XK} {D : Addr} {Os : List SP} (g : γ) (ha : EvG ta Γ (ObP D Os)) (h : EvA tr Γ Ps) (hq : Qs g = ObP D Os :: Ps) (hc : C g) : EvG (SlX.tMethSl D (spP C Qs R) E ta tr) Γ (R g) := fun σ H Q s q =>
  ha σ H _ s fun v H1 e p => by
    obtain ⟨a, dx, rfl, vs, h2, h3⟩ := id p
    refine ⟨a, dx, vs, rfl, h2, h σ H1 _ (s.mono e) fun ws H2 e2 p2 => ⟨g, hc, ?_, fun v H3 e3 r => q v H3 ((e.trans e2).trans e3) r⟩⟩
    rw [hq]
    exact .cons ((ObP D Os).mono e2 p) p2
/-! ## statements -/
def StX (ts : TS) (Γ : Gm) (N : Gm → Prop) (R : SP → Prop) : Prop := ∀ (D : Ends) (σ : L2.St) (H : Hp), Sat Γ σ H → (∀ Γ2 σ2 H2, N Γ2 → Ex H H2 → Sat Γ2 σ2 H2 → D.nx σ2 H2) → (∀ P v H2, R P → Ex H H2 → P.p v H2 → D.rt v H2) → ts D σ H
variable {t1 t2 : TS} {N N1 : Gm → Prop} {R : SP → Prop}
theorem sx_seq (h1 : StX t1 Γ N1 R) (h2 : ∀ Γ1, N1 Γ1 → StX t2 Γ1 N R) : StX (tSeq t1 t2) Γ N R := fun D σ H s hn hr =>
  h1 _ σ H s (fun Γ2 σ2 H2 n e s2 => h2 Γ2 n D σ2 H2 s2 (fun Γ3 σ3 H3 n3 e3 s3 => hn Γ3 σ3 H3 n3 (e.trans e3) s3) fun P v H3 r e3 p => hr P v H3 r (e.trans e3) p) hr
theorem sx_asg {i : Nat} (h : EvG te Γ P) : StX (tAsg te (gName i)) Γ (fun Γ2 => Γ2 = Γ.set i (some P)) R := fun D σ H s hn hr =>
  h σ H _ s fun v H2 e p => hn _ _ _ rfl e ((s.mono e).set p)
theorem sx_set {i : Nat} (h : EvG te Γ P) (h2 : StX t2 (Γ.set i (some P)) N R) : StX (tSeq (tAsg te (gName i)) t2) Γ N R := sx_seq (sx_asg h) fun _ e => e ▸ h2
theorem sx_ret (h : EvG te Γ P) (hr : R P) : StX (tRet te) Γ N R := fun D σ H s hn hr' => h σ H _ s fun v H2 e p => hr' P v H2 hr e p
theorem sx_retN (hr : R (Eq1 .non)) : StX tRetN Γ N R := fun D σ H s hn hr' => hr' _ _ _ hr (Ex.refl H) rfl
theorem sx_next (h : N Γ) : StX tNext Γ N R := fun D σ H s hn hr => hn _ _ _ h (Ex.refl H) s
theorem sx_if {b : Bool} (h : EvT t Γ b) (h1 : b = true → StX t1 Γ N R) (h2 : b = false → StX t2 Γ N R) : StX (tIfS t t1 t2) Γ N R := fun D σ H s hn hr => h σ H _ s fun H2 e => by
  cases b with
  | true =>
    show t1 D σ H2
    exact h1 rfl D σ H2 (s.mono e) (fun Γ3 σ3 H3 n e3 s3 => hn Γ3 σ3 H3 n (e.trans e3) s3) fun P v H3 r e3 p => hr P v H3 r (e.trans e3) p
  | false =>
    show t2 D σ H2
    exact h2 rfl D σ H2 (s.mono e) (fun Γ3 σ3 H3 n e3 s3 => hn Γ3 σ3 H3 n (e.trans e3) s3) fun P v H3 r e3 p => hr P v H3 r (e.trans e3) p
/-- if c: return .., then the rest -/
theorem sx_ifRet {b : Bool} (h : EvT t Γ b) (h1 : b = true → StX t1 Γ (fun _ => False) R) (h2 : b = false → StX t2 Γ N R) : StX (tSeq (tIfS t t1 tNext) t2) Γ N R :=
  sx_seq (N1 := fun Γ2 => b = false ∧ Γ2 = Γ) (sx_if h (fun hb D σ H s hn hr => h1 hb D σ H s (fun _ _ _ f => f.elim) hr) fun hb => sx_next ⟨hb, rfl⟩) fun Γ1 ⟨hb, e⟩ => e ▸ h2 hb
end
end Lp

/-! part LpRep2 -/
set_option Elab.async false
set_option linter.all false
set_option maxRecDepth 100000

namespace Lp
open PySem PySem.Spec PyProof.Rows L2
open Evl (Ex ex_l ex_t ex_rd fresh_back)
/-! ## what stays when lists and dicts change -/
def Kt (H H' : Hp) : Prop := ∀ (b : Addr) (xs : List V), Rd H b (.tup xs) → Rd H' b (.tup xs)
theorem Kt.refl (H : Hp) : Kt H H := fun _ _ h => h
theorem Kt.trans {H H1 H2 : Hp} (a : Kt H H1) (b : Kt H1 H2) : Kt H H2 := fun x o h => b x o (a x o h)
theorem kt_ex {H H' : Hp} (e : Ex H H') : Kt H H' := fun _ _ h => ex_rd e h
def notTup : HO → Bool
  | .tup _ => false
  | .frz _ (.tup _) => false
  | _ => true
theorem kt_upd {H : Hp} {p : Addr} {o u : HO} (h : H p = some u) (hn : notTup u = true) : Kt H (upd H p o) := fun b xs r => by
  have hb : b ≠ p := fun e => by
    subst e
    rcases r with r | ⟨ob, r⟩ <;> rw [h] at r <;> cases r <;> cases hn
  rcases r with r | ⟨ob, r⟩
  · exact .inl (by rw [upd_ne hb]; exact r)
  · exact .inr ⟨ob, by rw [upd_ne hb]; exact r⟩
theorem kt_new {H : Hp} {p : Addr} {o : HO} (h : H p = none) : Kt H (upd H p o) := kt_ex (Ex.new h)
theorem kt_t {K : PySem.W.Frag} {H H' : Hp} {a : Addr} {xs : List V} (e : Kt H H') (h : SqT K H a xs) : SqT K H' a xs := by
  rcases h with h | h
  · exact .inl (e _ _ h)
  · exact .inr h
def RT (P : SP) : Prop := ∀ (v : V) (H H' : Hp), Kt H H' → P.p v H → P.p v H'
class RepT (K : PySem.W.Frag) (α : Type) [Rep K α] : Prop where
  rt : ∀ x : α, RT (Is K x)
section
variable {K : PySem.W.Frag}
theorem rt_eq {x : V} : RT (Eq1 x) := fun _ _ _ _ h => h
theorem AllP.kt {vs : List V} {Ps : List SP} {H H' : Hp} (h : AllP vs Ps H) (ht : ∀ P ∈ Ps, RT P) (e : Kt H H') : AllP vs Ps H' := by
  induction h with
  | nil => exact .nil
  | cons r t ih => exact .cons (ht _ List.mem_cons_self _ _ _ e r) (ih fun P hP => ht P (List.mem_cons_of_mem _ hP))
theorem rt_tu {Ps : List SP} (h : ∀ P ∈ Ps, RT P) : RT (TuP K Ps) := fun v H H' e ⟨a, vs, h1, h2, h3⟩ => ⟨a, vs, h1, kt_t e h2, AllP.kt h3 h e⟩
instance : RepT K Int := ⟨fun _ => rt_eq⟩
instance : RepT K Nat := ⟨fun _ => rt_eq⟩
instance : RepT K Bool := ⟨fun _ => rt_eq⟩
variable {α β δ : Type} [Rep K α] [Rep K β] [Rep K δ]
instance [RepT K α] : RepT K (Option α) := ⟨fun x => by
  cases x with
  | none => exact rt_eq
  | some x => exact RepT.rt (K := K) x⟩
instance [RepT K α] : RepT K (Tp α) := ⟨fun x => rt_tu fun P hP => by
  obtain ⟨y, _, e⟩ := List.mem_map.mp hP
  rw [← e]
  exact RepT.rt y⟩
instance [RepT K α] [RepT K β] : RepT K (α × β) := ⟨fun x => rt_tu fun P hP => by
  rcases List.mem_cons.mp hP with e | hP
  · rw [e]; exact RepT.rt x.1
  · rcases List.mem_cons.mp hP with e | hP
    · rw [e]; exact RepT.rt x.2
    · cases hP⟩
theorem AllP.append {vs ws : List V} {Ps Qs : List SP} {H : Hp} (h : AllP vs Ps H) (h2 : AllP ws Qs H) : AllP (vs ++ ws) (Ps ++ Qs) H := by
  induction h with
  | nil => exact h2
  | cons r t ih => exact .cons r ih
theorem AllP.at {vs : List V} {Ps : List SP} {H : Hp} (h : AllP vs Ps H) {i : Nat} {v : V} (hv : vs[i]? = some v) : ∃ P, Ps[i]? = some P ∧ SP.p P v H := by
  have hl := h.len
  have hi := (List.getElem?_eq_some_iff.mp hv).1
  obtain ⟨x, hx, hp⟩ := paired_at h (i := i) (y := Ps[i]'(by omega)) (List.getElem?_eq_getElem _)
  rw [hv] at hx
  cases hx
  exact ⟨_, List.getElem?_eq_getElem _, hp⟩
theorem AllP.nth {vs : List V} {Ps : List SP} {H : Hp} (h : AllP vs Ps H) {i : Nat} {P : SP} (hP : Ps[i]? = some P) : ∃ v, vs[i]? = some v ∧ SP.p P v H := paired_at (F := fun v P => SP.p P v H) h hP
theorem all_ints {vs : List V} {H : Hp} : ∀ {ns : List Int}, AllP vs (ns.map (Is K)) H → vs = ns.map V.int
  | [], h => by cases h; rfl
  | n :: ns, h => by
    cases h with
    | cons r t =>
      have e := all_ints t
      rw [e, (show _ = V.int n from r)]
      rfl
theorem all_nats {vs : List V} {H : Hp} : ∀ {ns : List Nat}, AllP vs (ns.map (Is K)) H → vs = ns.map fun n : Nat => V.int (n : Int)
  | [], h => by cases h; rfl
  | n :: ns, h => by
    cases h with
    | cons r t =>
      have e := all_nats t
      rw [e, (show _ = V.int (n : Int) from r)]
      rfl
theorem all_bls {vs : List V} {H : Hp} : ∀ {ns : List Bool}, AllP vs (ns.map (Is K)) H → vs = ns.map V.bl
  | [], h => by cases h; rfl
  | n :: ns, h => by
    cases h with
    | cons r t =>
      have e := all_bls t
      rw [e, (show _ = V.bl n from r)]
      rfl
theorem ints_all {H : Hp} : ∀ {ns : List Int}, AllP (ns.map V.int) (ns.map (Is K)) H
  | [] => .nil
  | n :: ns => .cons rfl ints_all
theorem nats_all {H : Hp} : ∀ {ns : List Nat}, AllP (ns.map fun n : Nat => V.int (n : Int)) (ns.map (Is K)) H
  | [] => .nil
  | n :: ns => .cons rfl nats_all
variable {Γ Γ' : Gm} {ta tb te : TE} {t u : TT} {P P' : SP} {Ps Qs : List SP}

/-! ## iteration -/
def WalkP (J : It) (H1 : Hp) (Ps : List SP) : Prop := ∃ Y : Nat → Hp → V → Hp → Prop, Walk J Ps.length (fun H => Ex H1 H) Y ∧ ∀ i H v H', i < Ps.length → Ex H1 H → Y i H v H' → ∃ P, Ps[i]? = some P ∧ Ex H H' ∧ SP.p P v H'
def EvW (wi : TI) (Γ : Gm) (Ps : List SP) : Prop := ∀ (σ : L2.St) (H : Hp) (R : It → Hp → Prop), Sat Γ σ H → (∀ J H1, Ex H H1 → WalkP J H1 Ps → R J H1) → wi σ H R
theorem walkP_at {J : It} {H1 : Hp} {vs : List V} (w : Walk J vs.length (fun H => Ex H1 H) (YAt vs)) (h : AllP vs Ps H1) : WalkP J H1 Ps :=
  ⟨YAt vs, h.len ▸ w, fun i H v H' _ e ⟨e1, e2⟩ => by
    subst e1
    obtain ⟨P, hP, hp⟩ := h.at e2
    exact ⟨P, hP, Ex.refl _, P.mono e hp⟩⟩
theorem ew_list (h : EvG te Γ (LsP K Ps)) : EvW (iList K te) Γ Ps := fun σ H R s q => h σ H _ s fun v H1 e ⟨a, vs, h1, h2, h3⟩ =>
  ⟨a, h1, ⟨vs, h2⟩, q _ H1 e (walkP_at (walk_list.mono (fun H' e' => ex_l e' h2) fun _ _ _ _ _ _ y => y) h3)⟩
theorem ew_tup (h : EvG te Γ (TuP K Ps)) : EvW (iTup K te) Γ Ps := fun σ H R s q => h σ H _ s fun v H1 e ⟨a, vs, h1, h2, h3⟩ =>
  ⟨a, h1, ⟨vs, h2⟩, q _ H1 e (walkP_at (walk_tup.mono (fun H' e' => ex_t e' h2) fun _ _ _ _ _ _ y => y) h3)⟩
theorem ew_own {C : Addr} {i : Nat} (h : EvG te Γ (ObP C Qs)) (hi : Qs[i]? = some (LsP K Ps)) : EvW (iOwn K C i te) Γ Ps := fun σ H R s q => h σ H _ s fun v H1 e ⟨a, dx, h1, vs, h2, h3⟩ => by
  obtain ⟨w, ho, l, ws, rfl, hl, ha⟩ := h3 i _ (some_at hi)
  exact ⟨a, dx, vs, l, ws, h1, h2, ho, hl, q _ H1 e (walkP_at (walk_list.mono (fun H' e' => ex_l e' hl) fun _ _ _ _ _ _ y => y) ha)⟩
theorem ew_rng1 {ta : TA} {n : Nat} (h : EvA ta Γ [Is K n]) (hn : n ≤ 100000) : EvW (iRng1 ta) Γ ((List.range n).map (Is K)) := fun σ H R s q => h σ H _ s fun vs H1 e p => by
  cases p with
  | cons r t =>
    cases t
    obtain rfl : _ = V.int (n : Int) := r
    refine ⟨(n : Int), rfl, by omega, by omega, q _ H1 e ⟨YFn fun i => .int (0 + (i : Int)), ?_, fun i H v H' hi e1 ⟨e2, e3⟩ => ?_⟩⟩
    · have hl : ((List.range n).map (Is K)).length = n := by simp
      rw [hl]
      exact walk_range.mono (fun _ _ => trivial) fun _ _ _ _ _ _ y => y
    · have hi' : i < n := by simpa using hi
      subst e2
      subst e3
      refine ⟨Is K i, by simp [hi'], Ex.refl _, ?_⟩
      show V.int (0 + (i : Int)) = V.int (i : Int)
      rw [Int.zero_add]

/-! ## targets -/
def TgG (g : TG) (Γ : Gm) (P : SP) (Γ' : Gm) (vs : List Nat) : Prop := ∀ (σ : L2.St) (H : Hp) (v : V) (Q : L2.St → Hp → Prop), Sat Γ σ H → P.p v H → (∀ σ' : L2.St, Sat Γ' σ' H → wipe σ' vs = wipe σ vs → Q σ' H) → g v σ H Q
def TgS (g : TGs) (Γ : Gm) (Ps : List SP) (Γ' : Gm) (vs : List Nat) : Prop := ∀ (σ : L2.St) (H : Hp) (us : List V) (Q : L2.St → Hp → Prop), Sat Γ σ H → AllP us Ps H → (∀ σ' : L2.St, Sat Γ' σ' H → wipe σ' vs = wipe σ vs → Q σ' H) → g us σ H Q
theorem tg_name {i : Nat} {vs : List Nat} (hi : i ∈ vs := by first | exact List.mem_cons_self | decide) : TgG (gName i) Γ P (Γ.set i (some P)) vs := fun σ H v Q s p q => q _ (s.set p) (wipe_in hi)
theorem tgs_nil {vs : List Nat} : TgS gNil Γ [] Γ vs := fun σ H us Q s p q => by
  cases p
  exact ⟨rfl, q σ s rfl⟩
theorem tgs_cons {g : TG} {gs : TGs} {Γ1 Γ2 : Gm} {vs : List Nat} (h : TgG g Γ P Γ1 vs) (h2 : TgS gs Γ1 Ps Γ2 vs) : TgS (gCons g gs) Γ (P :: Ps) Γ2 vs := fun σ H us Q s p q => by
  cases p with
  | cons r t => exact ⟨_, _, rfl, h σ H _ _ s r fun σ1 s1 w1 => h2 σ1 H _ _ s1 t fun σ2 s2 w2 => q σ2 s2 (w2.trans w1)⟩
theorem tg_tup {gs : TGs} {n : Nat} {vs : List Nat} (h : TgS gs Γ Ps Γ' vs) (hn : Ps.length = n := by rfl) : TgG (gTup K n gs) Γ (TuP K Ps) Γ' vs := fun σ H v Q s ⟨a, us, h1, h2, h3⟩ q =>
  ⟨a, us, h1, h2, (AllP.len h3).trans hn, h σ H us Q s h3 q⟩
theorem tg_pair {x : α} {y : β} {g1 g2 : TG} {Γ1 Γ2 : Gm} {vs : List Nat} (h1 : TgG g1 Γ (Is K x) Γ1 vs) (h2 : TgG g2 Γ1 (Is K y) Γ2 vs) : TgG (gTup K 2 (gCons g1 (gCons g2 gNil))) Γ (Is K (x, y)) Γ2 vs :=
  tg_tup (Ps := [Is K x, Is K y]) (tgs_cons h1 (tgs_cons h2 tgs_nil))
theorem wipe_idem' {σ : L2.St} {ws : List Nat} : ∀ {vs : List Nat}, (∀ i ∈ vs, i ∈ ws) → wipe (wipe σ vs) ws = wipe σ ws
  | [], _ => rfl
  | v :: vs, h => (wipe_in (h v List.mem_cons_self)).trans (wipe_idem' fun i hi => h i (List.mem_cons_of_mem _ hi))
theorem wipe_idem {σ : L2.St} {vs : List Nat} : wipe (wipe σ vs) vs = wipe σ vs := wipe_idem' fun _ h => h
/-! ## comprehensions -/
theorem filter_take {γ : Type} {f : γ → Bool} {xs : List γ} {i : Nat} {x : γ} (h : xs[i]? = some x) : (xs.take (i + 1)).filter f = (xs.take i).filter f ++ (if f x = true then [x] else []) := by
  rw [List.take_succ, h, List.filter_append]
  congr 1
  show List.filter f [x] = _
  rw [List.filter_cons]
  rfl
theorem eg_lcF {γ : Type} {xs : List γ} {F : γ → SP} {Γ1 : γ → Gm} {f : γ → Bool} {Rf : γ → SP} {wi : TI} {g : TG} {tt : TT} {vs : List Nat} (hw : EvW wi Γ (xs.map F)) (hr : ∀ x, RT (Rf x))
    (hg : ∀ x, x ∈ xs → TgG g (wipeG Γ vs) (F x) (Γ1 x) vs) (ht : ∀ x, x ∈ xs → EvT tt (Γ1 x) (f x)) (he : ∀ x, x ∈ xs → f x = true → EvG te (Γ1 x) (Rf x)) (hl : xs.length ≤ 100000) (σ : L2.St) (H : Hp) (Q : VK) (s : Sat Γ σ H) (q : ∀ (v : V) (H2 : Hp), Ex H H2 → (LsP K ((xs.filter f).map Rf)).p v H2 → (∀ a, v = .ref a → H a = none) → Q v H2) : tLc wi g tt te vs σ H Q :=
  hw σ H _ s fun J H1 e1 ⟨Y, w, hy⟩ => fun D hD => by
    rw [List.length_map] at w hy
    refine lc_it w (fun i H' => Ex H1 H' ∧ ∃ acc, H' D = some (.lst acc) ∧ AllP acc (((xs.take i).filter f).map Rf) H') ⟨Ex.new hD, [], upd_same, .nil⟩ (fun _ _ _ p => p.1) (fun i x Ha Hb hi p y => ?_) fun H' p => ?_
    · obtain ⟨p1, acc, p2, p3⟩ := p
      obtain ⟨P, hP, e2, hx⟩ := hy i Ha x Hb hi p1 y
      have hxi : xs[i]? = some xs[i] := List.getElem?_eq_getElem hi
      rw [List.getElem?_map, hxi] at hP
      obtain rfl : F xs[i] = P := Option.some.inj hP
      have hm : xs[i] ∈ xs := List.getElem_mem hi
      refine hg _ hm _ Hb x _ ((s.mono (e1.trans (p1.trans e2))).wipe vs) hx fun σ2 s2 w2 => ⟨w2.trans wipe_idem, ht _ hm σ2 Hb _ s2 fun H3 e3 => ?_⟩
      rw [filter_take hxi]
      cases hf : f xs[i] with
      | false =>
        show Ex H1 H3 ∧ _
        refine ⟨(p1.trans e2).trans e3, acc, e3 _ _ (e2 _ _ p2), ?_⟩
        simpa using AllP.mono p3 (e2.trans e3)
      | true =>
        show te σ2 H3 _
        refine he _ hm hf σ2 H3 _ (s2.mono e3) fun v H4 e4 hv => ⟨acc, e4 _ _ (e3 _ _ (e2 _ _ p2)), ?_, Ex.mut (((p1.trans e2).trans e3).trans e4) hD, acc ++ [v], upd_same, ?_⟩
        · have h1 := AllP.len p3
          have h2 := List.length_filter_le f (xs.take i)
          rw [List.length_map] at h1
          rw [List.length_take] at h2
          refine Evl.sz_lt ?_
          omega
        · have hk : Kt H4 (upd H4 D (.lst (acc ++ [v]))) := kt_upd (e4 _ _ (e3 _ _ (e2 _ _ p2))) rfl
          have a1 : AllP acc (((xs.take i).filter f).map Rf) H4 := AllP.mono p3 ((e2.trans e3).trans e4)
          have a2 : AllP [v] [Rf xs[i]] H4 := .cons hv .nil
          have a3 := (a1.append a2).kt (fun P hP => by
            rcases List.mem_append.mp hP with h | h
            · obtain ⟨z, _, ez⟩ := List.mem_map.mp h
              rw [← ez]
              exact hr z
            · rw [List.mem_singleton.mp h]
              exact hr _) hk
          simpa using a3
    · obtain ⟨p1, acc, p2, p3⟩ := p
      rw [List.take_length] at p3
      exact q _ H' (e1.trans p1) ⟨D, acc, rfl, .inl (.inl p2), p3⟩ fun a ea => by
        injection ea with ea
        rw [← ea]
        exact fresh_back e1 hD
theorem eg_lc {γ : Type} {xs : List γ} {F : γ → SP} {Γ1 : γ → Gm} {f : γ → Bool} {Rf : γ → SP} {wi : TI} {g : TG} {tt : TT} {vs : List Nat} (hw : EvW wi Γ (xs.map F)) (hr : ∀ x, RT (Rf x))
    (hg : ∀ x, x ∈ xs → TgG g (wipeG Γ vs) (F x) (Γ1 x) vs) (ht : ∀ x, x ∈ xs → EvT tt (Γ1 x) (f x)) (he : ∀ x, x ∈ xs → f x = true → EvG te (Γ1 x) (Rf x)) (hl : xs.length ≤ 100000) : EvG (tLc wi g tt te vs) Γ (LsP K ((xs.filter f).map Rf)) := fun σ H Q s q =>
  eg_lcF hw hr hg ht he hl σ H Q s fun v H2 e p _ => q v H2 e p
theorem eg_lcI {γ : Type} {xs : List γ} {F : γ → SP} {Γ1 : γ → Gm} (f : γ → Bool) (h : γ → δ) [RepT K δ] {wi : TI} {g : TG} {tt : TT} {vs : List Nat} (hw : EvW wi Γ (xs.map F))
    (hg : ∀ x, x ∈ xs → TgG g (wipeG Γ vs) (F x) (Γ1 x) vs) (ht : ∀ x, x ∈ xs → EvT tt (Γ1 x) (f x)) (he : ∀ x, x ∈ xs → f x = true → EvG te (Γ1 x) (Is K (h x))) (hl : xs.length ≤ 100000) : EvG (tLc wi g tt te vs) Γ (Is K ((xs.filter f).map h)) := by
  have e := eg_lc (K := K) (Rf := fun x => Is K (h x)) hw (fun x => RepT.rt (h x)) hg ht he hl
  have e2 : Is K ((xs.filter f).map h) = LsP K ((xs.filter f).map fun x => Is K (h x)) := by
    show LsP K (((xs.filter f).map h).map (Is K)) = _
    rw [List.map_map]
    rfl
  rw [e2]
  exact e
/-- no test -/
theorem eg_lcM {γ : Type} {xs : List γ} {F : γ → SP} {Γ1 : γ → Gm} (h : γ → δ) [RepT K δ] {wi : TI} {g : TG} {vs : List Nat} (hw : EvW wi Γ (xs.map F))
    (hg : ∀ x, x ∈ xs → TgG g (wipeG Γ vs) (F x) (Γ1 x) vs) (he : ∀ x, x ∈ xs → EvG te (Γ1 x) (Is K (h x))) (hl : xs.length ≤ 100000) : EvG (tLc wi g tYes te vs) Γ (Is K (xs.map h)) := by
  have e := eg_lcI (K := K) (fun _ => true) h hw hg (fun _ _ => et_yes) (fun x hx _ => he x hx) hl
  rw [List.filter_eq_self.mpr fun _ _ => rfl] at e
  exact e
/-! ## a for -/
theorem sx_for {γ : Type} {xs : List γ} {F : γ → SP} {wi : TI} {g : TG} {tb : TS} {N : Gm → Prop} {R : SP → Prop} (I : Nat → Gm → Prop) (hw : EvW wi Γ (xs.map F)) (h0 : I 0 Γ)
    (hs : ∀ i x Γi, xs[i]? = some x → I i Γi → ∃ Γt vs, TgG g Γi (F x) Γt vs ∧ StX tb Γt (I (i + 1)) R) (hd : ∀ Γ', I xs.length Γ' → N Γ') : StX (tFor wi g tb) Γ N R := fun D σ H s hn hr =>
  hw σ H _ s fun J H1 e1 ⟨Y, w, hy⟩ => by
    rw [List.length_map] at w hy
    refine for_it w (fun i σ' H' => Ex H1 H' ∧ ∃ Γi, I i Γi ∧ Sat Γi σ' H') ⟨Ex.refl _, Γ, h0, s.mono e1⟩ (fun _ _ _ _ p => p.1) (fun i x σ' Ha Hb hi p y => ?_) fun σ' H' p => ?_
    · obtain ⟨p1, Γi, p2, p3⟩ := p
      obtain ⟨P, hP, e2, hx⟩ := hy i Ha x Hb hi p1 y
      have hxi : xs[i]? = some xs[i] := List.getElem?_eq_getElem hi
      rw [List.getElem?_map, hxi] at hP
      obtain rfl : F xs[i] = P := Option.some.inj hP
      obtain ⟨Γt, vs, hg, hb⟩ := hs i _ Γi hxi p2
      exact hg σ' Hb x _ (p3.mono e2) hx fun σ2 s2 _ => hb _ σ2 Hb s2 (fun Γ3 σ3 H3 n3 e3 s3 => ⟨(p1.trans e2).trans e3, Γ3, n3, s3⟩) fun P v H3 r e3 hp => hr P v H3 r (((e1.trans p1).trans e2).trans e3) hp
    · obtain ⟨p1, Γi, p2, p3⟩ := p
      exact hn Γi σ' H' (hd Γi p2) (e1.trans p1) p3
/-! ## builtins -/
theorem eg_lenL (h : EvG te Γ (LsP K Ps)) : EvG (tCB (Evl.rLenS K) (tCons te tNil)) Γ (Is K Ps.length) := fun σ H Q s q => h σ H _ s fun v H1 e ⟨a, vs, h1, h2, h3⟩ => by
  subst h1
  exact ⟨a, vs, rfl, .inl h2, q _ H1 e (by rw [AllP.len h3]; rfl)⟩
theorem eg_lenT (h : EvG te Γ (TuP K Ps)) : EvG (tCB (Evl.rLenS K) (tCons te tNil)) Γ (Is K Ps.length) := fun σ H Q s q => h σ H _ s fun v H1 e ⟨a, vs, h1, h2, h3⟩ => by
  subst h1
  exact ⟨a, vs, rfl, .inr h2, q _ H1 e (by rw [AllP.len h3]; rfl)⟩
theorem eg_len {xs : List α} (h : EvG te Γ (Is K xs)) : EvG (tCB (Evl.rLenS K) (tCons te tNil)) Γ (Is K xs.length) := (eg_lenL (Ps := xs.map (Is K)) h).to (by rw [List.length_map])
theorem eg_lenTp {xs : List α} (h : EvG te Γ (Is K (Tp.mk xs))) : EvG (tCB (Evl.rLenS K) (tCons te tNil)) Γ (Is K xs.length) := (eg_lenT (Ps := xs.map (Is K)) h).to (by rw [List.length_map])
theorem eg_sum {xs : List Int} (h : EvG te Γ (Is K xs)) : EvG (tCB (rSum K) (tCons te tNil)) Γ (Is K xs.sum) := fun σ H Q s q => h σ H _ s fun v H1 e ⟨a, vs, h1, h2, h3⟩ => by
  subst h1
  rw [all_ints h3] at h2
  exact ⟨a, xs, rfl, h2, q _ H1 e rfl⟩
theorem eg_all {xs : List Bool} (h : EvG te Γ (Is K xs)) : EvG (tCB (rAll K) (tCons te tNil)) Γ (Is K (xs.all id)) := fun σ H Q s q => h σ H _ s fun v H1 e ⟨a, vs, h1, h2, h3⟩ => by
  subst h1
  rw [all_bls h3] at h2
  exact ⟨a, xs, rfl, h2, q _ H1 e rfl⟩
theorem eg_any {xs : List Bool} (h : EvG te Γ (Is K xs)) : EvG (tCB (rAny K) (tCons te tNil)) Γ (Is K (xs.any id)) := fun σ H Q s q => h σ H _ s fun v H1 e ⟨a, vs, h1, h2, h3⟩ => by
  subst h1
  rw [all_bls h3] at h2
  exact ⟨a, xs, rfl, h2, q _ H1 e rfl⟩
/-- what satisfies a word -/
def Ssm {γ : Type} (p : γ → Prop) (F : γ → SP) : SP := ⟨fun v H => ∃ x, p x ∧ (F x).p v H, fun e ⟨x, h1, h2⟩ => ⟨x, h1, (F x).mono e h2⟩⟩
def LeastOf (ns : List Int) (m : Int) : Prop := m ∈ ns ∧ ∀ y, y ∈ ns → m ≤ y
theorem eg_min {xs : List Int} (h : EvG te Γ (Is K xs)) (hn : xs ≠ []) : EvG (tCB (rMin K) (tCons te tNil)) Γ (Ssm (LeastOf xs) (Is K)) := fun σ H Q s q => h σ H _ s fun v H1 e ⟨a, vs, h1, h2, h3⟩ => by
  subst h1
  rw [all_ints h3] at h2
  exact ⟨a, xs, rfl, h2, List.length_pos_iff.mpr hn, fun m h4 h5 => q _ H1 e ⟨m, ⟨h4, h5⟩, rfl⟩⟩
def SortOf (ns ns' : List Int) : Prop := ns'.Perm ns ∧ ns'.Pairwise (· ≤ ·)
theorem eg_sorted {xs : List Int} (h : EvG te Γ (Is K xs)) : EvG (tCB (rSortedI K) (tCons te tNil)) Γ (Ssm (SortOf xs) (Is K)) := fun σ H Q s q => h σ H _ s fun v H1 e ⟨a, vs, h1, h2, h3⟩ => by
  subst h1
  rw [all_ints h3] at h2
  exact ⟨a, xs, rfl, h2, fun ns' p h4 h5 hp => q _ _ (e.trans (Ex.new hp)) ⟨ns', ⟨h4, h5⟩, p, _, rfl, .inl (.inl upd_same), ints_all⟩⟩
/-- tuple(list), list(tuple) -/
theorem eg_tupOf {r : List V → Hp → VK → Prop} (hr : ∀ xs H Q, (∃ p ys, xs = [V.ref p] ∧ ((SqL K H p ys ∧ ∀ l, H l = none → Q (.ref l) (upd H l (.tup ys))) ∨ (SqT K H p ys ∧ Q (.ref p) H))) → r xs H Q) (h : EvG te Γ (LsP K Ps)) : EvG (tCB r (tCons te tNil)) Γ (TuP K Ps) := fun σ H Q s q => h σ H _ s fun v H1 e ⟨a, vs, h1, h2, h3⟩ => by
  subst h1
  exact hr _ _ _ ⟨a, vs, rfl, .inl ⟨h2, fun l hl => q _ _ (e.trans (Ex.new hl)) ⟨l, vs, rfl, .inl (.inl upd_same), AllP.mono h3 (Ex.new hl)⟩⟩⟩
theorem eg_lstOf (h : EvG te Γ (TuP K Ps)) : EvG (tCB (Evl.rListS K) (tCons te tNil)) Γ (LsP K Ps) := fun σ H Q s q => h σ H _ s fun v H1 e ⟨a, vs, h1, h2, h3⟩ => by
  subst h1
  exact ⟨a, vs, rfl, .inr h2, fun l hl => q _ _ (e.trans (Ex.new hl)) ⟨l, vs, rfl, .inl (.inl upd_same), AllP.mono h3 (Ex.new hl)⟩⟩
theorem eg_max2 {i j : Int} {r : List V → Hp → VK → Prop} (hr : ∀ xs H Q, (∃ i j : Int, xs = [V.int i, V.int j] ∧ Q (.int (if j > i then j else i)) H) → r xs H Q) (ha : EvG ta Γ (Is K i)) (hb : EvG tb Γ (Is K j)) : EvG (tCB r (tCons ta (tCons tb tNil))) Γ (Is K (max i j)) := fun σ H Q s q =>
  ha.two hb s fun v w H2 e p1 p2 => hr _ _ _ ⟨i, j, by rw [show v = V.int i from p1, show w = V.int j from p2], q _ H2 e (by
    show V.int _ = V.int _
    congr 1
    by_cases h : j > i
    · rw [if_pos h]; omega
    · rw [if_neg h]; omega)⟩
theorem eg_min2 {i j : Int} {r : List V → Hp → VK → Prop} (hr : ∀ xs H Q, (∃ i j : Int, xs = [V.int i, V.int j] ∧ Q (.int (if j < i then j else i)) H) → r xs H Q) (ha : EvG ta Γ (Is K i)) (hb : EvG tb Γ (Is K j)) : EvG (tCB r (tCons ta (tCons tb tNil))) Γ (Is K (min i j)) := fun σ H Q s q =>
  ha.two hb s fun v w H2 e p1 p2 => hr _ _ _ ⟨i, j, by rw [show v = V.int i from p1, show w = V.int j from p2], q _ H2 e (by
    show V.int _ = V.int _
    congr 1
    by_cases h : j < i
    · rw [if_pos h]; omega
    · rw [if_neg h]; omega)⟩
/-! ## defs -/
def startG (N : List Str) (Ps : List SP) : Gm := Ps.map some ++ List.replicate (N.length - Ps.length) none
theorem sat_start {N : List Str} {vs : List V} {H : Hp} (h : AllP vs Ps H) : Sat (startG N Ps) (start N vs) H := by
  have hl := h.len
  refine ⟨by simp [startG, L2.start, hl], fun i P hP => ?_⟩
  unfold startG at hP
  by_cases hi : i < Ps.length
  · rw [List.getElem?_append_left (by simpa using hi), List.getElem?_map] at hP
    cases hq : Ps[i]? with
    | none => rw [hq] at hP; cases hP
    | some P' =>
      rw [hq] at hP
      obtain rfl : P' = P := Option.some.inj (Option.some.inj hP)
      obtain ⟨v, hv, hp⟩ := h.nth hq
      refine ⟨v, ?_, hp⟩
      unfold L2.start
      rw [List.getElem?_append_left (by simp; omega), List.getElem?_map, hv]
      rfl
  · rw [List.getElem?_append_right (by simpa using hi)] at hP
    have := List.mem_of_getElem? hP
    rw [List.eq_of_mem_replicate this] at hP
    have h2 := (List.mem_replicate.mp this).2
    cases h2
/-- a def without defaults -/
theorem fn_any {prog : Program} {w : World} {mg : Str → Option Value} {base : Heap} {x qual : Str} {st : Stmt} {f : Addr} {fd : FuncData} {N ps : List Str} {k : Nat} {sp : Sp} (F : FunD K x qual (defArgs st) (defBody st) (defScope st) [] [] f fd) (S : FnScope N ps (defScope st))
    (hb : ∀ (kV doc pm : Value) (an : Option Addr) (cdv ct : Value) (us : List Value), us.length = ps.length → bindArgs (PySem.W.fnOf x qual (defArgs st) (defBody st) (defScope st) .none kV doc pm an cdv ct) ⟨us, []⟩ = pure (ps.zip us))
    (hl : ∀ vs H Q E, sp vs H Q E → vs.length = ps.length)
    (h : ∀ (cdv : Value) (A : Around) (outer : List Env) (s : Shared) (H : Hp) (vs : List V) (Q : VK) (E : XK), Room k (A.deeper (envOfC qual (defScope st) s.heap.objs.size f cdv)) → sp vs H Q E →
      ∃ t, PSs (cxOf CX0 prog w K mg base N qual (defScope st) f cdv A outer s H E) (defBody st) t ∧ t { nx := fun _ H' => Q .non H', rt := Q } (L2.start N vs) H) : FnR prog w K mg base CX0 (k + 1) f sp := by
  have ok : FnOk prog w K mg base CX0 (k + 1) f fd ps sp := F.ok S hl h
  refine (ok.raw (F.bindsN hb) .nil).imp fun vs H Q E q => ?_
  rw [List.append_nil]
  exact q
/-- a def without defaults that changes nothing -/
theorem fn_pure {prog : Program} {w : World} {mg : Str → Option Value} {base : Heap} {x qual : Str} {st : Stmt} {f : Addr} {fd : FuncData} {N ps : List Str} {k : Nat} {γ : Type} {C : γ → Prop} {As : γ → List SP} {R : γ → SP} (F : FunD K x qual (defArgs st) (defBody st) (defScope st) [] [] f fd) (S : FnScope N ps (defScope st))
    (hb : ∀ (kV doc pm : Value) (an : Option Addr) (cdv ct : Value) (us : List Value), us.length = ps.length → bindArgs (PySem.W.fnOf x qual (defArgs st) (defBody st) (defScope st) .none kV doc pm an cdv ct) ⟨us, []⟩ = pure (ps.zip us))
    (hl : ∀ g, (As g).length = ps.length)
    (h : ∀ (cdv : Value) (A : Around) (outer : List Env) (s : Shared) (H : Hp) (E : XK), Room k (A.deeper (envOfC qual (defScope st) s.heap.objs.size f cdv)) →
      ∃ t, PSs (cxOf CX0 prog w K mg base N qual (defScope st) f cdv A outer s H E) (defBody st) t ∧ ∀ g, C g → StX t (startG N (As g)) (fun _ => (Eq1 .non) = R g) (fun P => P = R g)) : FnR prog w K mg base CX0 (k + 1) f (spP C As R) :=
  fn_any F S hb (spP_len hl) fun cdv A outer s H vs Q E hr sp => by
    obtain ⟨t, ht, hg⟩ := h cdv A outer s H E hr
    obtain ⟨g, hc, ha, hq⟩ := sp
    refine ⟨t, ht, hg g hc _ _ H (sat_start ha) (fun Γ2 σ2 H2 n e _ => hq _ H2 e ?_) fun P v H2 e e2 p => hq v H2 e2 (e ▸ p)⟩
    rw [← n]
    rfl
/-- a property -/
theorem eg_prop {γ : Type} {C : γ → Prop} {As : γ → List SP} {R : γ → SP} {E : XK} {D : Addr} {Os : List SP} (g : γ) (ha : EvG ta Γ (ObP D Os)) (hq : As g = [ObP D Os]) (hc : C g) : EvG (SlX.tPropSl D (spP C As R) E ta) Γ (R g) := fun σ H Q s q =>
  ha σ H _ s fun v H1 e p => by
    obtain ⟨a, dx, rfl, vs, h2, h3⟩ := id p
    refine ⟨a, dx, vs, rfl, h2, g, hc, ?_, fun v H3 e3 r => q v H3 (e.trans e3) r⟩
    rw [hq]
    exact .cons p .nil
/-- len(o), its own -/
theorem eg_lenOwn {γ : Type} {C : γ → Prop} {As : γ → List SP} {R : γ → SP} {E : XK} {D : Addr} {Os : List SP} (g : γ) (n : Nat) (ha : EvG ta Γ (ObP D Os)) (hq : As g = [ObP D Os]) (hc : C g) (hr : R g = Is K n) (hn : n ≤ 100000) : EvG (tCB (rLenOwn D (spP C As R) E) (tCons ta tNil)) Γ (Is K n) := fun σ H Q s q =>
  ha σ H _ s fun v H1 e p => by
    obtain ⟨a, dx, rfl, vs, h2, h3⟩ := id p
    refine ⟨a, dx, vs, rfl, h2, g, hc, ?_, fun v H3 e3 r => ?_⟩
    · rw [hq]
      exact .cons p .nil
    · rw [hr] at r
      obtain rfl : v = .int (n : Int) := r
      exact ⟨n, rfl, by omega, by omega, q _ H3 (e.trans e3) rfl⟩
end
end Lp

/-! part LpRules4 -/
set_option Elab.async false
set_option linter.all false
set_option maxRecDepth 100000

namespace Lp
open PySem PySem.Spec PyProof.Rows L2
/-! ### k in d.values(), ints -/
theorem no_contains : typeLookup (.type "dict_values") "__contains__" = pure none := by rw [typeLookup_type, builtinLookup_eq_fast]; kernel_rfl
theorem entry_contains_iter : entryFor table "proto.contains_iter" = some Builtin.«proto.contains_iter» := entryFor_of_fast (by kernel_rfl)
theorem plain_contains_iter : plainId "proto.contains_iter" = true := by decide +kernel
section
variable {prog : Program} {w : World} {A : Around} {E : Value → Shared → Prop}
theorem contains_loop {I : Addr} {fp wr : List Addr} {n : Nat} {Pt : Nat → Value → Prop} {St : Nat → Heap → Prop} {R : Result → Shared → Prop} {x : Value} (W : Walks prog w A.in1 I fp wr n Pt St) (tr : Nat → Bool)
    (htr : ∀ i v (s : Shared) (Q : Bool → Shared → Prop) (E : Value → Shared → Prop), Pt i v → Q (tr i) s → wpAny (model prog w) A.in1 (eqBool v x) Q E s) : ∀ (k i : Nat) (s : Shared), n - i = k → i ≤ n → St i s.heap →
    (∀ h' tk, (∀ b o, b ∉ wr → s.heap.get? b = some o → h'.get? b = some o) → R (.ok (.ret (.bool (((List.range n).drop i).any tr)))) { s with heap := h', toks := tk }) →
    codeAny (model prog w) A (.builtin "proto.contains_iter" ⟨[.ref I, x], []⟩) R s := by
  intro k
  induction k with
  | zero =>
    intro i s hk hi hst hR
    have hin : i = n := by omega
    subst hin
    refine codeAny_builtin entry_contains_iter ?_
    rw [Around.under_plainId plain_contains_iter _]
    show wpAny _ A.in1 (pyNext (.ref I) >>= _) _ _ s
    refine wpAny_bind (W.done s _ _ hst fun h' tk hk' => ?_)
    refine wpAny_bind (wpAny_rule (wpAny_pure ?_))
    have := hR h' tk hk'
    rw [List.drop_of_length_le (by simp)] at this
    exact this
  | succ k ih =>
    intro i s hk hi hst hR
    have hlt : i < n := by omega
    have hd : (List.range n).drop i = i :: (List.range n).drop (i + 1) := by
      rw [List.drop_eq_getElem_cons (by simpa using hlt)]; simp
    refine codeAny_builtin entry_contains_iter ?_
    rw [Around.under_plainId plain_contains_iter _]
    show wpAny _ A.in1 (pyNext (.ref I) >>= _) _ _ s
    refine wpAny_bind (W.item i s _ _ hlt hst fun v h' tk hP hst' hk' => ?_)
    refine wpAny_bind (htr i v _ _ _ hP ?_)
    cases hb : tr i with
    | true =>
      refine wpAny_bind (wpAny_rule (wpAny_pure ?_))
      have := hR h' tk hk'
      rw [hd, List.any_cons, hb, Bool.true_or] at this
      exact this
    | false =>
      refine wpAny_pure ?_
      refine ⟨plainId_quiet plain_contains_iter _, ih (i + 1) _ (by omega) (by omega) hst' fun h'' tk' hk'' => ?_⟩
      have := hR h'' tk' fun b o hb e => hk'' b o hb (hk' b o hb e)
      rw [hd, List.any_cons, hb, Bool.false_or] at this
      exact this
end

section
variable {X : Cx} {pins : List (Addr × Obj)} {σ : L2.St} {H : Hp} {s : Shared}
/-- the view d.values() -/
def valuesO (p d : Addr) : HO := .ext fun h => h.IsValuesView p d
theorem valuesO_ok {P : Program} {w : World} {H : Hp} {h : Heap} {p d : Addr} (e : h.get? p = some { cls := .type "dict_values", data := .fields #[.ref d] }) : ObjOk P w H h p (valuesO p d) :=
  ⟨⟨_, e, rfl, rfl⟩, ⟨_, e⟩, fun h1 h2 ⟨o, ho, x⟩ k => ⟨o, k _ ho, x⟩⟩
def rValues : V → List V → Hp → VK → Prop := fun x xs H Q => ∃ (a : Addr) (kvs : List (Key × V)), x = .ref a ∧ xs = [] ∧ H a = some (.dK kvs) ∧ ∀ p, H p = none → Q (.ref p) (upd H p (valuesO p a))
theorem mt_values : MtR X "dict.values" rValues := by
  intro pins s σ H x xs v us Q I rx rxs h
  obtain ⟨a, kvs, rfl, rfl, ha, q⟩ := h
  cases rx
  cases rxs
  obtain ⟨z, hd, vs, rel, m⟩ := dk_of I.hok ha
  have hf : H s.heap.objs.size = none := I.hok.fresh (Nat.le_refl _)
  refine call_meetsIn F.slot_dict_values m.typeIs F.entry_dict_values (F.args_dict_values_1 _) (meets_dict_values (mixKind X.prog X.w) a hd) ⟨⟨vs, m⟩, ?_⟩
  exact ⟨.ref s.heap.objs.size, upd H s.heap.objs.size (valuesO s.heap.objs.size a), I.laid (t' := s.toks) (fun b u e => Heap.get?_push_of_some _ e) (Nat.le_refl _) (valuesO_ok (Heap.get?_push_size _ rfl)), rfl, q _ hf⟩
/-- i in d.values(), i not in d.values(); ints -/
def rInVals (neg : Bool) : R2 := fun x y H Q => ∃ (i : Int) (p a : Addr) (kvs : List (Key × V)) (ns : List Int), x = .int i ∧ y = .ref p ∧ H p = some (valuesO p a) ∧ H a = some (.dK kvs) ∧ kvs.map (·.2) = ns.map V.int ∧ Q (.bl (if neg then !decide (i ∈ ns) else decide (i ∈ ns))) H
theorem kv_at {κ : Type} {kvs : List (κ × V)} {vs : List (κ × Value)} (r : KV kvs vs) : ∀ {i : Nat} {k : κ} {u : Value}, vs[i]? = some (k, u) → ∃ x, kvs[i]? = some (k, x) ∧ RelV x u := by
  induction r with
  | nil => intro i k u e; simp at e
  | cons h t ih =>
    intro i k u e
    cases i with
    | zero =>
      have e' := Option.some.inj e
      rename_i a b _ _
      obtain ⟨a1, a2⟩ := a
      obtain ⟨b1, b2⟩ := b
      injection e' with e1 e2
      subst e1 e2
      obtain ⟨h1, h2⟩ := h
      exact ⟨a2, by rw [← (show a1 = b1 from h1)]; rfl, h2⟩
    | succ i =>
      obtain ⟨x, h1, h2⟩ := ih (i := i) (k := k) (u := u) (by simpa using e)
      exact ⟨x, by simpa using h1, h2⟩
theorem any_mem (i : Int) : ∀ ns : List Int, (List.range ns.length).any (fun j => decide (ns.getD j 0 = i)) = decide (i ∈ ns)
  | [] => by simp
  | n :: ns => by
    rw [List.length_cons, List.range_succ_eq_map, List.any_cons, List.any_map]
    have ih := any_mem i ns
    have e : (List.range ns.length).any ((fun j => decide ((n :: ns).getD j 0 = i)) ∘ Nat.succ) = (List.range ns.length).any (fun j => decide (ns.getD j 0 = i)) := rfl
    rw [e, ih]
    show (decide (n = i) || _) = _
    by_cases h : n = i
    · rw [h, decide_eq_true rfl, decide_eq_true List.mem_cons_self]
      rfl
    · rw [decide_eq_false h, Bool.false_or]
      by_cases h2 : i ∈ ns
      · rw [decide_eq_true h2, decide_eq_true (List.mem_cons_of_mem _ h2)]
      · rw [decide_eq_false h2, decide_eq_false fun hm => by
          rcases List.mem_cons.mp hm with e | hm
          · exact h e.symm
          · exact h2 hm]
theorem in_vals (hc : X.calm = true) {i : Int} {t : Tok} {p a : Addr} {kvs : List (Key × V)} {ns : List Int} {Q : Bool → Shared → Prop} (I : Inv X pins σ H s) (hp : H p = some (valuesO p a)) (ha : H a = some (.dK kvs)) (hv : kvs.map (·.2) = ns.map V.int)
    (h : ∀ s', Inv X pins σ H s' → Q (decide (i ∈ ns)) s') : wpAny (model X.prog X.w) X.A (contains (.ref p) (.int i t)) Q X.xe s := by
  have view : s.heap.IsValuesView p a := (show ObjOk X.prog X.w H s.heap p (valuesO p a) from I.hok p _ hp).1
  obtain ⟨z, hd, vs, rel, dof⟩ := dk_of I.hok ha
  obtain ⟨ep, dat⟩ := dof.dictAt
  have hT : s.TypeIs (.ref p) "dict_values" := by
    obtain ⟨o, ho, x⟩ := view
    exact ⟨o, ho, x.1⟩
  unfold contains
  try with_reducible refine wpAny_holding ?_
  refine wpAny_bind (wpAny_specialOf hT no_contains ?_)
  show wpAny _ _ (if ((none : Option Value) == some Value.none) = true then _ else _) _ _ s
  rw [if_neg (by simp)]
  refine wpAny_bind (wpAny_callSpecialUnlessNone?_none hT no_contains ?_)
  refine wpAny_bind (wpAny_rule ?_)
  have hlt : a < s.heap.objs.size := (show ObjOk X.prog X.w H s.heap a (.dK kvs) from I.hok a _ ha).lt
  have hl : vs.length = ns.length := by
    have e1 := congrArg List.length hv
    rw [List.length_map, List.length_map] at e1
    rw [← e1]
    exact (KV.length rel).symm
  have hval : ∀ (j : Nat) (v : Value), (∃ k, vs[j]? = some (k, v)) → ∃ t, v = Value.int (ns.getD j 0) t := fun j v ⟨k, hk⟩ => by
    obtain ⟨x, h1, h2⟩ := kv_at rel hk
    have e1 : (kvs.map (·.2))[j]? = some x := by rw [List.getElem?_map, h1] <;> rfl
    rw [hv, List.getElem?_map] at e1
    obtain ⟨n, hj, e2⟩ := Option.map_eq_some_iff.mp e1
    subst e2
    obtain ⟨t, e3⟩ := h2
    refine ⟨t, ?_⟩
    rw [e3, List.getD_eq_getElem?_getD, hj] <;> rfl
  refine wpAny_bind (wpAny_tryCatch (wpAny_pyIter_values (v := p) (d := a) view dat ?_))
  refine wpAny_bind (wpAny_runValue ?_)
  refine contains_loop (Walks.dictValues (knd := mixKind X.prog X.w) (A := X.A.in1) (I.ok.hd hc) s.heap.objs.size a (Nat.ne_of_lt hlt) vs ep) (fun j => decide (ns.getD j 0 = i)) (fun j v s' Q' E' hP hQ => ?_) vs.length 0 _ rfl (Nat.zero_le _) ⟨⟨_, Heap.get?_push_size _ rfl, rfl, rfl⟩, dat.keep fun b u e => Heap.get?_push_of_some _ e⟩ fun h' tk hk => ?_
  · obtain ⟨t', rfl⟩ := hval j v hP
    refine wpAny_eqBool_int ?_
    rw [Bool.beq_eq_decide_eq]
    exact hQ
  · rw [List.drop_zero, hl, any_mem]
    refine wpAny_pure (h _ (I.kept (t' := tk) fun b u e => hk b u (fun hmem => ?_) (Heap.get?_push_of_some _ e)))
    have e1 : b = s.heap.objs.size := List.mem_singleton.mp hmem
    rw [e1] at e
    exact absurd (Heap.lt_size e) (Nat.lt_irrefl _)
theorem op_inVals (hc : X.calm = true) : OpR X (compareOp .In) (rInVals false) := by
  intro pins s σ H x y v u Q I rx ry h
  obtain ⟨i, p, a, kvs, ns, rfl, rfl, hp, ha, hv, q⟩ := h
  obtain ⟨t, rfl⟩ := rx
  cases ry
  show wpAny _ _ (do return Value.bool (← contains (.ref p) (.int i t))) _ _ s
  exact wpAny_bind (in_vals hc I hp ha hv fun s' I' => wpAny_pure ⟨.bl (decide (i ∈ ns)), H, I', rfl, q⟩)
theorem op_notInVals (hc : X.calm = true) : OpR X (compareOp .NotIn) (rInVals true) := by
  intro pins s σ H x y v u Q I rx ry h
  obtain ⟨i, p, a, kvs, ns, rfl, rfl, hp, ha, hv, q⟩ := h
  obtain ⟨t, rfl⟩ := rx
  cases ry
  show wpAny _ _ (do return Value.bool (!(← contains (.ref p) (.int i t)))) _ _ s
  exact wpAny_bind (in_vals hc I hp ha hv fun s' I' => wpAny_pure ⟨.bl (!decide (i ∈ ns)), H, I', rfl, q⟩)
end
end Lp

/-! part LpRules5 -/
set_option Elab.async false
set_option linter.all false
set_option maxRecDepth 100000

namespace Lp
open PySem PySem.Spec PyProof.Rows L2
/-! ### for k, v in e.items(), the dict is locked for good where it stands (a dict that nobody else needs) -/
def iItemsN (td : TE) : TI := fun σ H R => td σ H fun x H1 => ∃ d kvs, x = .ref d ∧ H1 d = some (.dK kvs) ∧ ∀ o, R (Iti d o kvs) (upd H1 d (.frz o (.dK kvs)))
section
variable {X : Cx} {tg e : Expr} {td : TE} {apos cpos : Pos}
theorem pi_itemsN {elts : List Expr} {kk : Nat} {tpos : Pos} (he : PE X e td) (hbase : attributeBase e "items" X.env (eval e X.env) = eval e X.env := by rfl) (hline : (apos.endLine == cpos.line) = true := by rfl) :
    PI X (.Tuple elts kk tpos) (.Call (.Attribute e "items" apos) [] [] cpos) (iItemsN td) := by
  refine ⟨fun pins s σ H R I h => ?_⟩
  refine wpAny_Call_method (T := "dict") (id := "dict.items") hbase rfl hline F.plainAttrs_dict F.slot_dict_items F.type_dict_items (thn (he.run pins s σ H _ I h) fun u s1 ⟨x, H0, I0, rx, d, kvs, ex, hd0, q0⟩ => ?_)
  subst ex
  obtain rfl : u = Value.ref d := rx
  obtain ⟨o, I1⟩ := I0.lock hd0 trivial
  have hd : (upd H0 d (.frz o (.dK kvs))) d = some (.frz o (.dK kvs)) := upd_same
  have q := q0 o
  generalize upd H0 d (.frz o (.dK kvs)) = H1 at I1 hd q
  obtain ⟨hs, hgd, hx, es, ep, vs, hdt, hsz, kv, hm⟩ := I1.frzK hd
  have hl : kvs.length = vs.length := Paired.length kv
  refine ⟨hm.dictOf.typeIs, hm.dictOf.mapOf.noDict, ?_⟩
  have I2 : Inv X pins σ H1 { s1 with heap := s1.heap.push { cls := .type "dict_items", data := .fields #[.ref d] } } := I1.kept (t' := s1.toks) fun b ob q => Heap.get?_push_of_some _ q
  have fin : wpAny (model X.prog X.w) X.A (pyIter (.ref s1.heap.objs.size)) (PIE X pins σ (.Tuple elts kk tpos) R) X.xe { s1 with heap := s1.heap.push { cls := .type "dict_items", data := .fields #[.ref d] } } := by
    refine wpAny_pyIter_items (d := d) (knd := mixKind X.prog X.w) ⟨_, Heap.get?_push_size _ rfl, rfl, rfl⟩ (hm.push _) (pi_one (tk := s1.toks) I2 _ (turn_items _ hdt) ⟨.none, .none, ?_⟩ q)
    rw [hl]
    exact Heap.get?_push_size _ rfl
  show wpAny _ _ (callWith cpos (.builtin "dict.items") [.ref d] [] []) _ X.xe s1
  exact method_meetsIn F.slot_dict_items F.entry_dict_items rfl (PySem.evalArgs_none ⟨rfl, hm.dictOf.typeIs, F.args_dict_items_1 _, _, meets_dict_items (mixKind X.prog X.w) d hs, ⟨vs, hm.dictOf⟩, fin⟩)
end
end Lp

/-! part LpRules6 -/
set_option Elab.async false
set_option linter.all false
set_option maxRecDepth 100000
set_option maxHeartbeats 2000000

namespace Lp
open PySem PySem.Spec PyProof.Rows L2
/-! ## enumerate(a tuple), list(enumerate(a tuple)) -/
theorem meets_enumB1 {v : Value} {o : Obj} {H : Heap → Prop} (B : Begins v o H) :
    Meets (Builtin.«enumerate.__new__» ⟨[.type "enumerate", v], []⟩) (fun _ R s => H s.heap ∧
      R (.ok (.ret (.ref (s.heap.push o).objs.size))) { s with heap := (s.heap.push o).push { cls := .type "enumerate", data := .fields #[.none, .bool false, .ref s.heap.objs.size, rawInt 0, .none, .none] } }) :=
  .of_wp fun prog w A R s h => by
    obtain ⟨hp, g, d, tk, os⟩ := s; obtain ⟨h1, h⟩ := h
    have hsub := sub_enumerate
    have q1 : ∀ {A' : Around} {E : Value → Shared → Prop} {Q : Value → Shared → Prop}, Q (.ref hp.objs.size) ⟨hp.push o, g, d, tk, os⟩ → wpAny (model prog w) A' (pyIter v) Q E ⟨hp, g, d, tk, os⟩ :=
      fun q => B.iter prog w _ _ ⟨hp, g, d, tk, os⟩ _ h1 q
    wp_walk using q1
    refine wpAny_stack_any fun st => wpAny_pure ?_
    split
    · rename_i c _ _ _ _ _
      cases (c == Value.type "enumerate")
      · wp_walk using q1
        exact ⟨_, rfl, h⟩
      · wp_walk using q1
        exact ⟨_, rfl, h⟩
    · wp_walk using q1
      exact ⟨_, rfl, h⟩
section
variable {prog : Program} {w : World} {A : Around} {E : Value → Shared → Prop} {s : Shared}
theorem enum_begins1 {v : Value} {o : Obj} {H : Heap → Prop} {Q : Value → Shared → Prop} (B : Begins v o H) (h1 : H s.heap)
    (h : ∀ h', IsEnum h' (s.heap.objs.size + 1) s.heap.objs.size 0 .none → h'.get? s.heap.objs.size = some o → h'.objs.size = s.heap.objs.size + 2 →
      (∀ b o, s.heap.get? b = some o → h'.get? b = some o) → Q (.ref (s.heap.objs.size + 1)) { s with heap := h' }) :
    wpAny (model prog w) A (call (.type "enumerate") [v]) Q E s := by
  refine callType_new F.called_enumerate (by decide) (F.typeCall_enumerate_1 _) (F.newCall_enumerate_1 _) (fun obj => F.args_object_init_2 obj _) F.entry_enumerate_new
    (meets_enumB1 B) ⟨h1, ?_⟩
  have hz : (s.heap.push o).objs.size = s.heap.objs.size + 1 := Heap.size_push ..
  show _ ∧ _
  rw [hz]
  have he : IsEnum ((s.heap.push o).push { cls := .type "enumerate", data := .fields #[.none, .bool false, .ref s.heap.objs.size, rawInt 0, .none, .none] }) (s.heap.objs.size + 1) s.heap.objs.size 0 .none := by
    have := Heap.get?_push_size (s.heap.push o) (o := { cls := .type "enumerate", data := .fields #[.none, .bool false, .ref s.heap.objs.size, rawInt 0, .none, .none] }) rfl
    rw [hz] at this; exact this
  refine ⟨⟨_, he, rfl⟩, h _ he (Heap.get?_push_of_some _ (Heap.get?_push_size _ B.free)) (by rw [Heap.size_push, hz]) fun b o x => Heap.get?_push_of_some _ (Heap.get?_push_of_some _ x)⟩
theorem tup_ne {h : Heap} {t it : Addr} {i : Nat} {items : Array Value} (h1 : h.IsTuple t items) (h2 : h.IsTupleIter it t i) : t ≠ it := fun e => by
  obtain ⟨o, ho, hc, _⟩ := h1
  obtain ⟨o', ho', hc', _⟩ := h2
  rw [e, ho'] at ho
  cases ho
  rw [hc'] at hc
  exact absurd (Value.type.inj hc) (by decide)
end
/-- the tuple at a as it stands at each turn, each item in a new pair -/
def Itf (K : PySem.W.Frag) (a : Addr) : It :=
  ⟨fun i H => ∃ (xs : List V) (x : V), SqT K H a xs ∧ xs[i]? = some x, fun i H v H' => ∃ T x, v = .ref T ∧ H T = none ∧ H' = upd H T (.tup [.int (i : Nat), x]) ∧ ∀ xs, SqT K H a xs → xs[i]? = some x, fun i H => ∃ xs : List V, SqT K H a xs ∧ xs.length ≤ i⟩
theorem turn_enumT {P : Program} {w : World} {K : PySem.W.Frag} {elts : List Expr} {kk : Nat} {tpos : Pos} (a e it : Addr) :
    Turn P w K (.Tuple elts kk tpos) (Itf K a) [e, it] e (fun i h => (∃ old, IsEnum h e it ((i : Nat) : Int) old) ∧ h.IsTupleIter it a i ∧ e ≠ it) where
  mem := by simp
  obj := fun i h st b hb => by
    obtain ⟨⟨old, he⟩, ⟨o, ho, hc, hd⟩, _⟩ := st
    have e' : b = e ∨ b = it := by simpa using hb
    rcases e' with z | z
    · rw [z]; exact ⟨_, he, fun v q => nomatch q⟩
    · rw [z]; exact ⟨o, ho, fun v q => by rw [hd] at q; cases q⟩
  keep := fun i h h' st k => let ⟨⟨old, he⟩, hi, hne⟩ := st; ⟨⟨old, k e (by simp) _ he⟩, hi.at fun o q => k it (by simp) o q, hne⟩
  item := by
    intro X hP hw hK hc i pins s σ H E I hf st hg
    subst hP hw hK
    obtain ⟨⟨old, he⟩, hit, hne⟩ := st
    obtain ⟨xs, x, hq, hx⟩ := hg
    obtain ⟨its, rv, p, hz⟩ := I.tuple hq
    obtain ⟨u, hu, ru⟩ := rv.get hx
    have hel : e < s.heap.objs.size := Heap.lt_size he
    have hil : it < s.heap.objs.size := by obtain ⟨_, q, _⟩ := hit; exact Heap.lt_size q
    have p' : s.heap.IsTuple a its.toArray := p
    have hai := tup_ne p' hit
    have hae : e ≠ a := fun z => by
      obtain ⟨o, ho, hc, _⟩ := p'
      rw [← z, he] at ho
      cases ho
      exact absurd (Value.type.inj hc) (by decide)
    have hlt : i < its.toArray.size := by
      have := (List.getElem?_eq_some_iff.mp hu).1
      simpa using this
    refine wpAny_pyNext_enum_itemD (Draws.tuple (prog := X.prog) (w := X.w) (A := X.A.in1) (show X.A.in1.handled = none from I.ok.hd hc) it a hai its.toArray) he ⟨hit, p'⟩ hlt hne (by simp [hne, hae]) fun u' h' tk hPx ho hs' hT hsz hk => ?_
    have hu' : u' = u := by
      have h1 : its.toArray[i]? = some u' := hPx
      rw [List.getElem?_toArray, hu] at h1
      exact (Option.some.inj h1).symm
    subst hu'
    obtain ⟨hit', _⟩ := hs'
    refine ⟨_, rfl, wpAny_letOwnedTupleGo_enum (s := { s with heap := h', toks := tk + 1 }) ho fun h'' he' sb => ?_⟩
    have hT2 : h''.get? s.heap.objs.size = some { cls := .type "tuple", data := .seq #[.int i tk, u'] } := (sb.2 _ (Nat.ne_of_gt hel)).trans hT
    have new : ObjOk X.prog X.w (upd H s.heap.objs.size (.tup [.int (i : Nat), x])) h'' s.heap.objs.size (.tup [.int (i : Nat), x]) :=
      ⟨by show 2 ≤ sizeLine; decide, [.int i tk, u'], .cons ⟨_, rfl⟩ (.cons ru .nil), ⟨_, hT2, rfl, _, rfl⟩⟩
    have I1 : Inv X pins σ (upd H s.heap.objs.size (.tup [.int (i : Nat), x])) { s with heap := h'', toks := tk + 1 } :=
      I.turnedNew (ch := [e, it]) (fun b ob hb q => (sb.2 b (fun z => hb (by simp [z]))).trans (hk b ob (fun z => hb (by simp [z])) (fun z => hb (by simp [z])) q)) hf (Nat.le_refl _) new
    refine ⟨.ref s.heap.objs.size, _, I1, rfl, ⟨_, x, rfl, I.hok.fresh (Nat.le_refl _), rfl, fun ys hy => by rw [I.tuple_inj hy hq]; exact hx⟩, ⟨⟨u', ?_⟩, hit'.at fun o q => (sb.2 it (Ne.symm hne)).trans q, hne⟩, fun b hb => ?_⟩
    · have e1 : ((i + 1 : Nat) : Int) = (i : Int) + 1 := by omega
      rw [e1]; exact he'
    · have hb' : b < s.heap.objs.size := by
        have e' : b = e ∨ b = it := by simpa using hb
        rcases e' with z | z
        · rw [z]; exact hel
        · rw [z]; exact hil
      rw [upd_ne (Nat.ne_of_lt hb')]
      exact (hf b hb).1
  done := by
    intro X hP hw hK hc i pins s σ H E I hf st hg
    subst hP hw hK
    obtain ⟨⟨old, he⟩, hit, hne⟩ := st
    obtain ⟨xs, hq, hx⟩ := hg
    obtain ⟨its, rv, p, hz⟩ := I.tuple hq
    obtain ⟨f0, f1, f2, f3, f4, f5⟩ := hf it (by simp)
    have hl := rv.length
    have p' : s.heap.IsTuple a its.toArray := p
    have hT : s.TypeIs (.ref e) "enumerate" := ⟨_, he, rfl⟩
    unfold pyNext
    refine wpAny_bind (wpAny_attempt (wpAny_callSpecial?_slot (name := Str.ofString "__next__") hT F.slot_enumerate_next
      (wpAny_call_entry F.slot_enumerate_next hT F.entry_enumerate_next ?_ (F.args_enumerate_next_1 _))))
    show wpAny _ _ (field (.ref e) 2 >>= _) _ _ _
    refine wpAny_bind (wpAny_field he rfl (x := .ref it) rfl ?_)
    refine wpAny_bind (wpAny_nextOf_tuple_end (I.ok.hd hc) hit p' (by simp; omega) fun h' x he' hx' => ?_)
    obtain ⟨o, ho, hc'⟩ := hx'
    refine wpAny_bind (wpAny_isInstance (T := "StopIteration") (b := true) ⟨o, ho, hc'⟩ isSubtype_stop ?_)
    exact wpAny_pure ⟨rfl, I.turned (t' := s.toks) (fun b o hb q => he' b o hb q) f0 f1 f3 f4 f5⟩
  self := fun A i s Q E st h => let ⟨⟨_, he⟩, _⟩ := st; wpAny_pyIter_enum he h
def iEnumT (K : PySem.W.Frag) (ta : TA) : TI := fun σ H R => ta σ H fun vs H1 => ∃ a xs, vs = [.ref a] ∧ SqT K H1 a xs ∧ R (Itf K a) H1
theorem pi_enumT {X : Cx} {e : Expr} {ta : TA} {p pos tpos : Pos} {elts : List Expr} {kk : Nat} (hg : Gl X "enumerate") (hm : X.mg "enumerate" = none) (ha : PA X [e] ta) (hs : starEach [e] X.env = [(false, eval e X.env)] := by rfl) :
    PI X (.Tuple elts kk tpos) (.Call (.Name "enumerate" p) [e] [] pos) (iEnumT X.K ta) := by
  refine ⟨fun pins s σ H R I h => ?_⟩
  refine Call_ (ld_blt I hg hm boot_enumerate (PyProof.Rows.callWith_type1 (thn (ha.run pos pins s σ H _ I h) fun us s1 ⟨vs, H1, I1, r1, q1⟩ => ?_) hs rfl))
  obtain ⟨a, xs, ex, hq, q⟩ := q1
  subst ex
  cases r1 with
  | cons r rr =>
    cases rr
    cases r
    obtain ⟨its, rv, p', hz⟩ := I1.tuple hq
    refine enum_begins1 (begins_tuple a its.toArray) p' fun h' he hit hsz hk => wpAny_pyIter_enum he ?_
    have I2 : Inv X pins σ H1 { s1 with heap := h' } := I1.kept (t' := s1.toks) hk
    refine ⟨s1.heap.objs.size + 1, [s1.heap.objs.size + 1, s1.heap.objs.size], _, _, H1, rfl, I2, turn_enumT a (s1.heap.objs.size + 1) s1.heap.objs.size, ⟨⟨.none, he⟩, ⟨_, hit, rfl, rfl⟩, Nat.succ_ne_self _⟩, fun b hb => ?_, q⟩
    have e' : b = s1.heap.objs.size + 1 ∨ b = s1.heap.objs.size := by simpa using hb
    have hle : s1.heap.objs.size ≤ b := by
      rcases e' with z | z
      · rw [z]; exact Nat.le_add_right _ _
      · rw [z]; exact Nat.le_refl _
    exact I1.fpOk hle (I1.hok.fresh hle)
end Lp

/-! part LpRules7 -/
set_option Elab.async false
set_option linter.all false
set_option maxRecDepth 100000
set_option maxHeartbeats 2000000

namespace Lp
open PySem PySem.Spec PyProof.Rows L2
/-! ## list(enumerate(a tuple)): the pairs are held -/
section
variable {prog : Program} {w : World} {A : Around} {E : Value → Shared → Prop} {s : Shared}
theorem enum_next_heldD {e it T : Addr} {fp : List Addr} {n i : Nat} {P : Nat → Value → Prop} {St : Nat → Heap → Prop} {old : Value} {f : Bool} {oT : Obj} {Q : Value → Shared → Prop}
    (D : Draws prog w A it fp n P St) (he : IsEnumHeld s.heap e it i old T f) (hT : s.heap.get? T = some oT) (hTe : T ≠ e) (hTi : T ≠ it) (hst : St i s.heap) (hlt : i < n) (hne : e ≠ it) (hef : e ∉ fp)
    (hQ : ∀ x h' tk, P i x → IsEnumHeld h' e it ((i : Int) + 1) old T true → St (i + 1) h' →
      h'.get? s.heap.objs.size = some { cls := .type "tuple", data := .seq #[.int i tk, x] } → h'.objs.size = s.heap.objs.size + 1 →
      (∀ b o, b ≠ e → b ≠ it → s.heap.get? b = some o → h'.get? b = some o) → Q (.ref s.heap.objs.size) { s with heap := h', toks := tk + 1 }) :
    wpAny (model prog w) A (Builtin.«enumerate.__next__» ⟨[.ref e], []⟩) (fun fin s' => ∃ v, fin = .done (.ret v) ∧ Q v s') E s := by
  obtain ⟨hp, g, d, tk₀, os⟩ := s
  show wpAny _ _ (field (.ref e) 2 >>= _) _ _ _
  refine wpAny_bind (wpAny_field he rfl (x := .ref it) rfl ?_)
  refine wpAny_bind (D.item i _ _ _ hlt hst fun x h₁ tk hPx hit₁ hs₁ => ?_)
  replace hs₁ : Heap.SameBut it hp h₁ := hs₁
  have he₁ : IsEnumHeld h₁ e it i old T f := (hs₁.2 e hne).trans he
  show wpAny _ _ (field (.ref e) 3 >>= _) _ _ ⟨h₁, g, d, tk, os⟩
  refine wpAny_bind (wpAny_field he₁ rfl (x := rawInt i) rfl ?_)
  show wpAny _ _ (field (.ref e) 4 >>= _) _ _ ⟨h₁, g, d, tk, os⟩
  refine wpAny_bind (wpAny_field he₁ rfl (x := .none) rfl ?_)
  show wpAny _ _ (mkInt i >>= _) _ _ ⟨h₁, g, d, tk, os⟩
  refine wpAny_bind (wpAny_mkInt ?_)
  show wpAny _ _ (setField (.ref e) 3 (rawInt ((i : Int) + 1)) >>= _) _ _ ⟨h₁, g, d, tk + 1, os⟩
  refine wpAny_bind (wpAny_setField_rec he₁ (by simp) fun h₂ he₂ hs₂ => ?_)
  replace hs₂ : Heap.SameBut e h₁ h₂ := hs₂
  replace he₂ : IsEnumHeld h₂ e it ((i : Int) + 1) old T f := he₂
  show wpAny _ _ (setField (.ref e) 4 .none >>= _) _ _ ⟨h₂, g, d, tk + 1, os⟩
  refine wpAny_bind (wpAny_setField_rec he₂ (by simp) fun h₃ he₃ hs₃ => ?_)
  replace hs₃ : Heap.SameBut e h₂ h₃ := hs₃
  replace he₃ : IsEnumHeld h₃ e it ((i : Int) + 1) old T f := he₃
  show wpAny _ _ (newTuple [.int i tk, x] >>= _) _ _ ⟨h₃, g, d, tk + 1, os⟩
  refine wpAny_bind (wpAny_newTuple ?_)
  have he₄ : IsEnumHeld (h₃.push { cls := .type "tuple", data := .seq #[.int i tk, x] }) e it ((i : Int) + 1) old T f := Heap.get?_push_of_some _ he₃
  generalize hh₄ : h₃.push { cls := .type "tuple", data := .seq #[.int i tk, x] } = h₄ at he₄
  have hsz : h₃.objs.size = hp.objs.size := by rw [hs₃.1, hs₂.1, hs₁.1]
  have hel : e < hp.objs.size := Heap.lt_size he
  have ht₄ : h₄.get? hp.objs.size = some { cls := .type "tuple", data := .seq #[.int i tk, x] } := by rw [← hh₄, ← hsz]; exact Heap.get?_push_size _ rfl
  have hz₄ : h₄.objs.size = hp.objs.size + 1 := by rw [← hh₄, Heap.size_push, hsz]
  have hk₄ : ∀ b o, b ≠ e → b ≠ it → hp.get? b = some o → h₄.get? b = some o := fun b o hbe hbi hb => by
    rw [← hh₄]; exact Heap.get?_push_of_some _ (hs₃.extBut b o hbe (hs₂.extBut b o hbe (hs₁.extBut b o hbi hb)))
  have hit₄ : St (i + 1) h₄ := D.frame _ _ _ hit₁ fun b hb o y => by
    have hbe : b ≠ e := fun q => hef (q ▸ hb)
    rw [← hh₄]; exact Heap.get?_push_of_some _ (hs₃.extBut b o hbe (hs₂.extBut b o hbe y))
  show wpAny _ _ (Builtin.SmallTypes.ownedTupleIsFree (.ref e) >>= _) _ _ ⟨h₄, g, d, tk + 1, os⟩
  rw [hsz]
  clear hh₄ he₃ hs₃ he₂ hs₂ he₁ hs₁ hit₁ hsz h₃ h₂ h₁
  refine wpAny_bind (wpAny_tupleHeld_enum (s := ⟨h₄, g, d, tk + 1, os⟩) he₄ (hk₄ T oT hTe hTi hT) fun h₅ he₅ hs₅ => ?_)
  replace hs₅ : Heap.SameBut e h₄ h₅ := hs₅
  simp only [Bool.false_eq_true, if_false]
  refine wpAny_pure ⟨_, rfl, hQ x h₅ tk hPx he₅ (D.frame _ _ _ hit₄ fun b hb o y => hs₅.extBut b o (fun q => hef (q ▸ hb)) y) (hs₅.extBut _ _ (Nat.ne_of_gt hel) ht₄) ?_ fun b o hbe hbi hb => hs₅.extBut b o hbe (hk₄ b o hbe hbi hb)⟩
  show h₅.objs.size = hp.objs.size + 1
  rw [hs₅.1, hz₄]
theorem pyNext_enum_heldD {e it T : Addr} {fp : List Addr} {n i : Nat} {P : Nat → Value → Prop} {St : Nat → Heap → Prop} {old : Value} {f : Bool} {oT : Obj} {Q : Option Value → Shared → Prop}
    (D : Draws prog w A.in1 it fp n P St) (he : IsEnumHeld s.heap e it i old T f) (hT : s.heap.get? T = some oT) (hTe : T ≠ e) (hTi : T ≠ it) (hst : St i s.heap) (hlt : i < n) (hne : e ≠ it) (hef : e ∉ fp)
    (hQ : ∀ x h' tk, P i x → IsEnumHeld h' e it ((i : Int) + 1) old T true → St (i + 1) h' →
      h'.get? s.heap.objs.size = some { cls := .type "tuple", data := .seq #[.int i tk, x] } → h'.objs.size = s.heap.objs.size + 1 →
      (∀ b o, b ≠ e → b ≠ it → s.heap.get? b = some o → h'.get? b = some o) → Q (some (.ref s.heap.objs.size)) { s with heap := h', toks := tk + 1 }) :
    wpAny (model prog w) A (pyNext (.ref e)) Q E s := by
  have hTy : s.TypeIs (.ref e) "enumerate" := ⟨_, he, rfl⟩
  unfold pyNext
  exact wpAny_bind (wpAny_attempt (wpAny_callSpecial?_slot (name := Str.ofString "__next__") hTy F.slot_enumerate_next
    (wpAny_call_entry F.slot_enumerate_next hTy F.entry_enumerate_next
      (enum_next_heldD D he hT hTe hTi hst hlt hne hef fun x h' tk a b c d k q => wpAny_pure (hQ x h' tk a b c d k q)) (F.args_enumerate_next_1 _))))
theorem pyNext_enum_end_heldD {e it T : Addr} {fp : List Addr} {n : Nat} {P : Nat → Value → Prop} {St : Nat → Heap → Prop} {i : Int} {old : Value} {f : Bool} {Q : Option Value → Shared → Prop}
    (D : Draws prog w A.in1 it fp n P St) (he : IsEnumHeld s.heap e it i old T f) (hst : St n s.heap)
    (hQ : ∀ h', Heap.ExtBut it s.heap h' → Q none { s with heap := h' }) : wpAny (model prog w) A (pyNext (.ref e)) Q E s := by
  have hT : s.TypeIs (.ref e) "enumerate" := ⟨_, he, rfl⟩
  unfold pyNext
  refine wpAny_bind (wpAny_attempt (wpAny_callSpecial?_slot (name := Str.ofString "__next__") hT F.slot_enumerate_next
    (wpAny_call_entry F.slot_enumerate_next hT F.entry_enumerate_next ?_ (F.args_enumerate_next_1 _))))
  show wpAny _ _ (field (.ref e) 2 >>= _) _ _ _
  refine wpAny_bind (wpAny_field he rfl (x := .ref it) rfl ?_)
  refine wpAny_bind (D.done _ _ _ hst fun h' x he' hx' => ?_)
  obtain ⟨o, ho, hc⟩ := hx'
  refine wpAny_bind (wpAny_isInstance (T := "StopIteration") (b := true) ⟨o, ho, hc⟩ isSubtype_stop ?_)
  exact wpAny_pure (hQ _ he')
end
/-- the enumerate, its pair new or held -/
def EnSt (h : Heap) (e it S : Addr) (i : Nat) : Prop := (False ∧ ∃ x : Nat, x = 0) ∨ (∃ old, IsEnum h e it i old) ∨ ∃ old T f oT, IsEnumHeld h e it i old T f ∧ h.get? T = some oT ∧ T ≠ e ∧ T ≠ it ∧ T ≠ S
theorem EnSt.keep {h h' : Heap} {e it S : Addr} {i : Nat} (x : EnSt h e it S i) (hk : ∀ b o, b ≠ S → h.get? b = some o → h'.get? b = some o) (he : e ≠ S) : EnSt h' e it S i := by
  rcases x with ⟨z, _⟩ | ⟨old, he'⟩ | ⟨old, T, f, oT, he', hT, r1, r2, r3⟩
  · exact z.elim
  · exact .inr (.inl ⟨old, hk _ _ he he'⟩)
  · exact .inr (.inr ⟨old, T, f, oT, hk _ _ he he', hk _ _ r3 hT, r1, r2, r3⟩)
structure EnG (items : Array Value) (lo : Addr) (h : Heap) (as : List Addr) : Prop where
  rise : as.Pairwise (· < ·)
  above : ∀ a ∈ as, lo < a
  pairs : ∀ (j : Nat) (a : Addr), as[j]? = some a → ∃ x tk, items[j]? = some x ∧ h.get? a = some { cls := .type "tuple", data := .seq #[.int j tk, x] }
theorem EnG.there {items : Array Value} {lo : Addr} {h : Heap} {as : List Addr} (g : EnG items lo h as) {a : Addr} (ha : a ∈ as) : a < h.objs.size := by
  obtain ⟨j, hj⟩ := List.mem_iff_getElem?.mp ha
  obtain ⟨_, _, _, e⟩ := g.pairs j a hj
  exact Heap.lt_size e
section
variable {prog : Program} {w : World} {A : Around} {s : Shared} {R : Result → Shared → Prop} {items : Array Value}
theorem en_item {e it t S : Addr} {i : Nat} {Q : Option Value → Shared → Prop} {E : Value → Shared → Prop} (hh : A.handled = none) (hst : EnSt s.heap e it S i) (hS : S < s.heap.objs.size) (hit : s.heap.IsTupleIter it t i) (ht : s.heap.IsTuple t items) (hlt : i < items.size) (hne : e ≠ it) (het : e ≠ t)
    (hQ : ∀ x h' tk, items[i]? = some x → EnSt h' e it S (i + 1) → h'.IsTupleIter it t (i + 1) → h'.get? s.heap.objs.size = some { cls := .type "tuple", data := .seq #[.int i tk, x] } → h'.objs.size = s.heap.objs.size + 1 →
      (∀ b o, b ≠ e → b ≠ it → s.heap.get? b = some o → h'.get? b = some o) → Q (some (.ref s.heap.objs.size)) { s with heap := h', toks := tk + 1 }) :
    wpAny (model prog w) A (pyNext (.ref e)) Q E s := by
  have hti := tup_ne ht hit
  have D := Draws.tuple (prog := prog) (w := w) (A := A.in1) (show A.in1.handled = none from hh) it t hti items
  have ec : ((i + 1 : Nat) : Int) = (i : Int) + 1 := by omega
  have nit : s.heap.objs.size ≠ it := let ⟨_, x, _⟩ := hit; Nat.ne_of_gt (Heap.lt_size x)
  rcases hst with ⟨z, _⟩ | ⟨old, he⟩ | ⟨old, T, f, oT, he, hT, r1, r2, r3⟩
  · exact z.elim
  · refine wpAny_pyNext_enum_itemD D he ⟨hit, ht⟩ hlt hne (by simp [hne, het]) fun x h' tk hP ho hs' hT hsz hk => ?_
    exact hQ x h' tk hP (.inr (.inr ⟨x, s.heap.objs.size, false, _, (by rw [ec]; exact ho), hT, Nat.ne_of_gt (Heap.lt_size he), nit, Nat.ne_of_gt hS⟩)) hs'.1 hT hsz hk
  · refine pyNext_enum_heldD D he hT r1 r2 ⟨hit, ht⟩ hlt hne (by simp [hne, het]) fun x h' tk hP ho hs' hT' hsz hk => ?_
    exact hQ x h' tk hP (.inr (.inr ⟨old, T, true, oT, (by rw [ec]; exact ho), hk _ _ r1 r2 hT, r1, r2, r3⟩)) hs'.1 hT' hsz hk
theorem en_done {e it t S : Addr} {Q : Option Value → Shared → Prop} {E : Value → Shared → Prop} (hh : A.handled = none) (hst : EnSt s.heap e it S items.size) (hit : s.heap.IsTupleIter it t items.size) (ht : s.heap.IsTuple t items)
    (hQ : ∀ h', Heap.ExtBut it s.heap h' → Q none { s with heap := h' }) : wpAny (model prog w) A (pyNext (.ref e)) Q E s := by
  have hti := tup_ne ht hit
  have D := Draws.tuple (prog := prog) (w := w) (A := A.in1) (show A.in1.handled = none from hh) it t hti items
  rcases hst with ⟨z, _⟩ | ⟨old, he⟩ | ⟨old, T, f, oT, he, hT, r1, r2, r3⟩
  · exact z.elim
  · exact wpAny_pyNext_enum_endD D he ⟨hit, ht⟩ hQ
  · exact pyNext_enum_end_heldD D he ⟨hit, ht⟩ hQ
theorem en_loop {S e it t : Addr} (hh : A.handled = none) (hSe : S ≠ e) (hSi : S ≠ it) (hSt : S ≠ t) (hne : e ≠ it) (het : e ≠ t) (hn : items.size ≤ sizeLine) (res : Value) {h₁ : Heap}
    (hR : ∀ h' tk acc c as, (∀ b o, b ≠ S → b ≠ e → b ≠ it → h₁.get? b = some o → h'.get? b = some o) → h'.get? S = some { cls := .type "list", dict := none, data := .seq acc c, slots := #[] } → as.length = items.size → EnG items S h' as →
      acc.toList = as.map Value.ref → R (.ok (.ret res)) { s with heap := h', toks := tk }) :
    ∀ (k i : Nat) (h : Heap) (tk c : Nat) (acc : Array Value) (as : List Addr), items.size - i = k → i ≤ items.size → EnSt h e it S i → h.IsTupleIter it t i → h.IsTuple t items → (∀ b o, b ≠ S → b ≠ e → b ≠ it → h₁.get? b = some o → h.get? b = some o) →
      h.get? S = some { cls := .type "list", dict := none, data := .seq acc c, slots := #[] } → acc.toList = as.map Value.ref → as.length = i → EnG items S h as → (∀ a ∈ as, a ≠ e ∧ a ≠ it) → 
      codeAny (model prog w) A (.builtin "list.extend.loop" ⟨[.ref S, .ref e, res], []⟩) R { s with heap := h, toks := tk } := by
  intro k
  induction k with
  | zero =>
    intro i h tk c acc as hk hi hst hit ht hkeep hS hacc hal hG hae
    have hin : i = items.size := by omega
    subst hin
    refine codeAny_builtin PySem.F.entry_extend_loop ?_
    rw [Around.under_plainId PySem.F.plain_extend_loop _]
    show wpAny _ A.in1 (pyNext (.ref e) >>= _) _ _ _
    refine wpAny_bind (en_done (s := { s with heap := h, toks := tk }) (A := A.in1) (items := items) hh hst hit ht fun h' he => ?_)
    refine wpAny_pure (hR h' tk acc c as (fun b o h1 h2 h3 e => he b o h3 (hkeep b o h1 h2 h3 e)) (he S _ hSi hS) (by omega) ⟨hG.rise, hG.above, fun j a hj => ?_⟩ hacc)
    obtain ⟨x, tk, e1, e2⟩ := hG.pairs j a hj
    exact ⟨x, tk, e1, he a _ (hae a (List.mem_of_getElem? hj)).2 e2⟩
  | succ k ih =>
    intro i h tk c acc as hk hi hst hit ht hkeep hS hacc hal hG hae
    have hlt : i < items.size := by omega
    have hsz : acc.size = i := by rw [← Array.length_toList, hacc, List.length_map, hal]
    have hSl : S < h.objs.size := Heap.lt_size hS
    have hel : e < h.objs.size := by
      rcases hst with ⟨z, _⟩ | ⟨old, he⟩ | ⟨old, T, f, oT, he, _⟩
      · exact z.elim
      · exact Heap.lt_size he
      · exact Heap.lt_size he
    have hil : it < h.objs.size := let ⟨_, x, _⟩ := hit; Heap.lt_size x
    refine codeAny_builtin PySem.F.entry_extend_loop ?_
    rw [Around.under_plainId PySem.F.plain_extend_loop _]
    show wpAny _ A.in1 (pyNext (.ref e) >>= _) _ _ _
    have hti := tup_ne ht hit
    refine wpAny_bind (en_item (s := { s with heap := h, toks := tk }) (S := S) (items := items) hh hst hSl hit ht hlt hne het fun x h' tk' hx hst' hit' hT hz hkp => ?_)
    dsimp only at hT hz hkp ⊢
    have hS' := hkp S _ hSe hSi hS
    have up : ∀ b o, b ≠ S → h'.get? b = some o → (h'.update S (Obj.mapSeq (·.push (Value.ref h.objs.size)))).get? b = some o := fun b o hb e => (Heap.get?_update_other _ _ (Ne.symm hb)).trans e
    show wpAny _ A.in1 (updateSeq S (·.push (Value.ref h.objs.size)) >>= _) _ _ _
    refine wpAny_bind ?_
    refine wpAny_updateSeq hS' rfl (wpAny_pure ⟨plainId_quiet PySem.F.plain_extend_loop _, ih (i + 1) _ (tk' + 1) _ (acc.push (Value.ref h.objs.size)) (as ++ [h.objs.size]) (by omega) hlt (hst'.keep up hSe.symm) (hit'.at fun o e => up it o hSi.symm e) (ht.at fun o e => up t o hSt.symm (hkp t o het.symm hti e))
      (fun b o h1 h2 h3 e => up b o h1 (hkp b o h2 h3 (hkeep b o h1 h2 h3 e))) (Heap.get?_update_self _ hS' rfl) (by rw [Array.toList_push, hacc, List.map_append]; rfl) (by rw [List.length_append, hal]; rfl) ⟨?_, ?_, ?_⟩ ?_⟩) (by rw [hsz]; omega) (by show (acc.push (Value.ref h.objs.size)).size ≤ sizeLine + 1; rw [Array.size_push, hsz]; omega)
    · refine List.pairwise_append.mpr ⟨hG.rise, List.pairwise_singleton _ _, fun a ha b hb => ?_⟩
      rw [List.mem_singleton.mp hb]
      exact hG.there ha
    · intro a ha
      rcases List.mem_append.mp ha with ha | ha
      · exact hG.above a ha
      · rw [List.mem_singleton.mp ha]; exact hSl
    · intro j b hj
      rcases Nat.lt_trichotomy j as.length with h1 | h1 | h1
      · rw [List.getElem?_append_left h1] at hj
        obtain ⟨x', tk1, e1, e2⟩ := hG.pairs j b hj
        have hb := hG.above b (List.mem_of_getElem? hj)
        have hb2 := hae b (List.mem_of_getElem? hj)
        exact ⟨x', tk1, e1, up b _ (Nat.ne_of_gt hb) (hkp b _ hb2.1 hb2.2 e2)⟩
      · subst h1
        have hb : h.objs.size = b := by simpa using hj
        subst hb
        exact ⟨x, tk', by rw [hal]; exact hx, by rw [hal]; exact up _ _ (Nat.ne_of_gt hSl) hT⟩
      · have hnone : (as ++ [h.objs.size])[j]? = none := List.getElem?_eq_none (by rw [List.length_append, List.length_singleton]; omega)
        rw [hnone] at hj; cases hj
    · intro a ha
      rcases List.mem_append.mp ha with ha | ha
      · exact hae a ha
      · rw [List.mem_singleton.mp ha]; exact ⟨Nat.ne_of_gt hel, Nat.ne_of_gt hil⟩
end
theorem enum_no_len : typeLookup (.type "enumerate") "__len__" = pure none := by rw [typeLookup_type, builtinLookup_eq_fast]; kernel_rfl
theorem enum_no_hint : typeLookup (.type "enumerate") "__length_hint__" = pure none := by rw [typeLookup_type, builtinLookup_eq_fast]; kernel_rfl
section
variable {prog : Program} {w : World} {A : Around} {E : Value → Shared → Prop} {s : Shared} {items : Array Value}
theorem en_extend {R : Result → Shared → Prop} {e it t : Addr} (hh : A.handled = none) (he : IsEnum s.heap e it 0 .none) (hit : s.heap.IsTupleIter it t 0) (ht : s.heap.IsTuple t items) (S : Addr) (hSe : S ≠ e) (hSi : S ≠ it) (hSt : S ≠ t) (hne : e ≠ it) (het : e ≠ t) (hn : items.size ≤ sizeLine) (res : Value) (c₀ : Nat) (hS : s.heap.get? S = some { cls := .type "list", data := .seq #[] c₀ })
    (hR : ∀ h' tk acc c as, (∀ b o, b ≠ S → b ≠ e → b ≠ it → s.heap.get? b = some o → h'.get? b = some o) → h'.get? S = some { cls := .type "list", dict := none, data := .seq acc c, slots := #[] } → as.length = items.size → EnG items S h' as →
      acc.toList = as.map Value.ref → R (.ok (.ret res)) { s with heap := h', toks := tk }) :
    wpAny (model prog w) A.in1 (Builtin.List.listExtendWith (.ref S) (.ref e) res)
      (fun fin s' => match fin with | .done f => R (.ok f) s' | .again c' => c'.quiet = true ∧ codeAny (model prog w) A c' R s') (fun e s' => R (.error e) s') s := by
  have hT : s.TypeIs (.ref e) "enumerate" := ⟨_, he, rfl⟩
  have key : ∀ (h : Heap) (c₁ tk : Nat), (∀ b o, b ≠ S → s.heap.get? b = some o → h.get? b = some o) →
      h.get? S = some { cls := .type "list", data := .seq #[] c₁ } → codeAny (model prog w) A (.builtin "list.extend.loop" ⟨[.ref S, .ref e, res], []⟩) R { s with heap := h, toks := tk } := by
    intro h c₁ tk hk hS₁
    exact en_loop (items := items) (s := s) (h₁ := s.heap) (t := t) hh hSe hSi hSt hne het hn res hR
      items.size 0 h tk c₁ #[] [] (Nat.sub_zero _) (Nat.zero_le _) (.inr (.inl ⟨.none, hk _ _ hSe.symm he⟩)) (hit.at fun o x => hk it o hSi.symm x) (ht.at fun o x => hk t o hSt.symm x) (fun b o hb _ _ e => hk b o hb e) hS₁ rfl rfl
      ⟨List.Pairwise.nil, (fun _ ha => nomatch ha), (fun j a hj => by simp at hj)⟩ (fun _ ha => nomatch ha)
  unfold Builtin.List.listExtendWith
  refine wpAny_bind (wpAny_typeOf hT ?_)
  have h1 : Builtin.List.listSameRef (.ref S) (.ref e) = false := by simp [Builtin.List.listSameRef, hSe]
  have h2 : (Value.type "enumerate" == Value.type "list") = false := by decide
  have h3 : (Value.type "enumerate" == Value.type "tuple") = false := by decide
  simp only [h1, h2, h3, Bool.or_false, Bool.false_eq_true, if_false]
  refine wpAny_bind (wpAny_pyIter_enum he ?_)
  refine wpAny_bind (wpAny_holding ?_)
  unfold Builtin.List.listLengthHint
  refine wpAny_bind (wpAny_specialOf hT enum_no_len ?_)
  show wpAny _ A.in1 (specialOf (Value.ref e) (Str.ofString "__length_hint__") >>= _) _ _ _
  refine wpAny_bind (wpAny_specialOf hT enum_no_hint ?_)
  refine wpAny_pure ?_
  show wpAny _ A.in1 (rule "list.extend.makes-room" >>= fun _ => Builtin.List.listTouch (.ref S) >>= fun _ =>
    again (.builtin "list.extend.loop" ⟨[.ref S, .ref e, res], []⟩)) _ _ _
  refine wpAny_bind (wpAny_rule ?_)
  refine wpAny_bind ?_
  show wpAny _ A.in1 (updateSeq S (·.push .none) >>= fun _ => updateSeq S (·.pop)) _ _ _
  refine wpAny_bind (wpAny_updateSeq hS rfl ?_)
  have hS₂ := Heap.get?_update_self (Obj.mapSeq (·.push Value.none)) hS rfl
  refine wpAny_updateSeq (hz := by seq_fits) hS₂ rfl ?_
  have hS₃ := Heap.get?_update_self (Obj.mapSeq (·.pop)) hS₂ rfl
  refine wpAny_pure ⟨plainId_quiet F.plain_extend_loop _, key _ _ _ (fun b o hb e => ?_) hS₃⟩
  exact (Heap.get?_update_other _ _ (Ne.symm hb)).trans ((Heap.get?_update_other _ _ (Ne.symm hb)).trans e)
theorem en_init {R : Result → Shared → Prop} {e it t : Addr} (hh : A.handled = none) (he : IsEnum s.heap e it 0 .none) (hit : s.heap.IsTupleIter it t 0) (ht : s.heap.IsTuple t items) (S : Addr) (hSe : S ≠ e) (hSi : S ≠ it) (hSt : S ≠ t) (hne : e ≠ it) (het : e ≠ t) (hn : items.size ≤ sizeLine) (hS : s.heap.get? S = some { cls := .type "list", data := .seq #[] })
    (hR : ∀ h' tk acc c as, (∀ b o, b ≠ S → b ≠ e → b ≠ it → s.heap.get? b = some o → h'.get? b = some o) → h'.get? S = some { cls := .type "list", dict := none, data := .seq acc c, slots := #[] } → as.length = items.size → EnG items S h' as →
      acc.toList = as.map Value.ref → R (.ok (.ret .none)) { s with heap := h', toks := tk }) :
    wpAny (model prog w) A.in1 (Builtin.«list.__init__» ⟨[.ref S, .ref e], []⟩)
      (fun fin s' => match fin with | .done f => R (.ok f) s' | .again c' => c'.quiet = true ∧ codeAny (model prog w) A c' R s') (fun e s' => R (.error e) s') s := by
  show wpAny _ _ (do let old ← Builtin.List.listItems (.ref S); Builtin.List.listUpdate (.ref S) (fun _ => #[]); letGo old.toList.reverse; Builtin.List.listExtendWith (.ref S) (.ref e) .none) _ _ s
  refine wpAny_bind ?_
  unfold Builtin.List.listItems
  refine wpAny_bind (wpAny_seqItems hS rfl (wpAny_pure ?_))
  show wpAny _ _ (updateSeq S (fun _ => #[]) >>= fun _ => letGo (#[] : Array Value).toList.reverse >>= fun _ => Builtin.List.listExtendWith (.ref S) (.ref e) .none) _ _ s
  refine wpAny_bind (wpAny_updateSeq hS rfl ?_)
  have hS₂ := Heap.get?_update_self (Obj.mapSeq (fun _ => (#[] : Array Value))) hS rfl
  have oth : ∀ b o, b ≠ S → s.heap.get? b = some o → (s.heap.update S (Obj.mapSeq (fun _ => (#[] : Array Value)))).get? b = some o :=
    fun b o hb e => (Heap.get?_update_other _ _ (Ne.symm hb)).trans e
  refine wpAny_bind (wpAny_letGo ?_)
  refine en_extend (items := items) (t := t) hh (oth _ _ hSe.symm he) (hit.at fun o x => oth it o hSi.symm x) (ht.at fun o x => oth t o hSt.symm x) S hSe hSi hSt hne het hn .none _ hS₂ fun h' tk acc c as hk hS' hl hG hacc => ?_
  exact hR h' tk acc c as (fun b o hb h2 h3 e => hk b o hb h2 h3 (oth b o hb e)) hS' hl hG hacc
theorem en_call {Q : Value → Shared → Prop} {e it t : Addr} (hh : A.handled = none) (he : IsEnum s.heap e it 0 .none) (hit : s.heap.IsTupleIter it t 0) (ht : s.heap.IsTuple t items) (hne : e ≠ it) (het : e ≠ t) (hn : items.size ≤ sizeLine)
    (hQ : ∀ h' tk acc c as, (∀ b o, b ≠ e → b ≠ it → s.heap.get? b = some o → h'.get? b = some o) → h'.get? s.heap.objs.size = some { cls := .type "list", dict := none, data := .seq acc c, slots := #[] } → as.length = items.size → EnG items s.heap.objs.size h' as →
      acc.toList = as.map Value.ref → Q (.ref s.heap.objs.size) { s with heap := h', toks := tk }) :
    wpAny (model prog w) A (call (.type "list") [.ref e]) Q E s := by
  refine callType_codes (Q₁ := fun obj s₁ => obj = .ref s.heap.objs.size ∧ s₁ = { s with heap := s.heap.push { cls := .type "list", data := .seq #[] } }) PySem.F.called_list (PySem.F.typeCall_list_1 _) PySem.F.entry_list_init
    (code_list_new _ ⟨rfl, rfl⟩) fun obj s₁ h₁ => ?_
  obtain ⟨rfl, rfl⟩ := h₁
  have hS : (s.heap.push { cls := .type "list", data := .seq #[] }).get? s.heap.objs.size = some { cls := .type "list", data := .seq #[] } := Heap.get?_push_size _ rfl
  have hel : e < s.heap.objs.size := Heap.lt_size he
  have hil : it < s.heap.objs.size := let ⟨_, x, _⟩ := hit; Heap.lt_size x
  have htl : t < s.heap.objs.size := let ⟨_, x, _⟩ := ht; Heap.lt_size x
  refine ⟨⟨_, hS, rfl⟩, PySem.F.args_list_init_2 _ _, en_init (items := items) (t := t) (A := A.in1) hh (Heap.get?_push_of_some _ he) (hit.at fun o x => Heap.get?_push_of_some _ x) (ht.at fun o x => Heap.get?_push_of_some _ x) _ (Nat.ne_of_gt hel) (Nat.ne_of_gt hil) (Nat.ne_of_gt htl) hne het hn hS fun h' tk acc c as hk hS' hl hG hacc => ?_⟩
  exact ⟨rfl, hQ h' tk acc c as (fun b o h2 h3 e => hk b o (Nat.ne_of_lt (Heap.lt_size e)) h2 h3 (Heap.get?_push_of_some _ e)) hS' hl hG hacc⟩
end
end Lp

/-! part LpRules8 -/
set_option Elab.async false
set_option linter.all false
set_option maxRecDepth 100000
set_option maxHeartbeats 2000000

namespace Lp
open PySem PySem.Spec PyProof.Rows L2
open LiI (putT putT_off putT_at paired_ix paired_get)
/-- the pairs: index, item -/
def enK (xs : List V) : List (Key × V) := (List.range xs.length).map fun j : Nat => (Sum.inl (j : Int), xs.getD j .non)
theorem enK_len (xs : List V) : (enK xs).length = xs.length := by simp [enK]
theorem enK_at {xs : List V} {j : Nat} {p : Key × V} (h : (enK xs)[j]? = some p) : ∃ x, xs[j]? = some x ∧ p = (Sum.inl (j : Int), x) := by
  unfold enK at h
  rw [List.getElem?_map] at h
  obtain ⟨k, hk, rfl⟩ := Option.map_eq_some_iff.mp h
  have hj : j < xs.length := by
    have := (List.getElem?_eq_some_iff.mp hk).1
    simpa using this
  rw [List.getElem?_range hj] at hk
  obtain rfl : j = k := Option.some.inj hk
  refine ⟨xs[j], List.getElem?_eq_getElem hj, ?_⟩
  rw [List.getD_eq_getElem?_getD, List.getElem?_eq_getElem hj]
  rfl
def tLstEnumT (K : PySem.W.Frag) (te : TE) : TE := fun σ H Q => te σ H fun x H1 => ∃ (a : Addr) (xs : List V), x = .ref a ∧ SqT K H1 a xs ∧
  ∀ (H' : Hp) (p : Addr) (ts : List Addr), (∀ b o, H1 b = some o → H' b = some o) → H1 p = none → H' p = some (.lst (ts.map V.ref)) → Paired (fun (t : Addr) (q : Key × V) => H' t = some (.tup [kV q.1, q.2])) ts (enK xs) → Q (.ref p) H'
section
variable {X : Cx} {e : Expr} {te : TE}
theorem en_laid {pins : List (Addr × Obj)} {σ : L2.St} {H : Hp} {s : Shared} {h' : Heap} {tk : Nat} {xs : List V} {its : List Value} {acc : Array Value} {c : Nat} {as : List Addr} {S : Addr} (I : Inv X pins σ H s) (hz : xs.length ≤ sizeLine) (rv : Vals xs its)
    (hk : ∀ b o, s.heap.get? b = some o → h'.get? b = some o) (hSs : s.heap.objs.size ≤ S) (hS : h'.get? S = some { cls := .type "list", dict := none, data := .seq acc c, slots := #[] }) (hl : as.length = its.length) (hG : EnG its.toArray S h' as) (hacc : acc.toList = as.map Value.ref) :
    ∃ H' : Hp, (∀ b o, H b = some o → H' b = some o) ∧ H S = none ∧ H' S = some (.lst (as.map V.ref)) ∧ Paired (fun (t : Addr) (q : Key × V) => H' t = some (.tup [kV q.1, q.2])) as (enK xs) ∧ Inv X pins σ H' { s with heap := h', toks := tk } := by
  have lx : xs.length = its.length := rv.length
  have lk : (enK xs).length = as.length := by rw [enK_len, lx, hl]
  have hSn : S ∉ as := fun z => Nat.lt_irrefl _ (hG.above _ z)
  have nd : as.Nodup := List.Pairwise.imp (fun {a b} (h : a < b) => Nat.ne_of_lt h) hG.rise
  have new : ∀ t ∈ as, H t = none := fun t ht => I.hok.fresh (Nat.le_trans hSs (Nat.le_of_lt (hG.above t ht)))
  have newS : H S = none := I.hok.fresh hSs
  have atP := putT_at as (enK xs) (upd H S (.lst (as.map V.ref))) (by omega) nd
  have off : ∀ b, b ∉ as → b ≠ S → putT (upd H S (.lst (as.map V.ref))) as (enK xs) b = H b := fun b h1 h2 => by rw [putT_off as (enK xs) _ h1, upd_ne h2]
  have low : ∀ b o, s.heap.get? b = some o → b ∉ as ∧ b ≠ S := fun b o e => ⟨fun z => absurd (Heap.lt_size e) (Nat.not_lt.mpr (Nat.le_trans hSs (Nat.le_of_lt (hG.above b z)))), Nat.ne_of_lt (Nat.lt_of_lt_of_le (Heap.lt_size e) hSs)⟩
  have kp : ∀ b u, H b = some u → (putT (upd H S (.lst (as.map V.ref))) as (enK xs)) b = some u := fun b u e => by
    rw [off b (fun z => by rw [new b z] at e; cases e) (fun z => by rw [z, newS] at e; cases e)]
    exact e
  have eS : putT (upd H S (.lst (as.map V.ref))) as (enK xs) S = some (.lst (as.map V.ref)) := by rw [putT_off as (enK xs) _ hSn, upd_same]
  refine ⟨putT (upd H S (.lst (as.map V.ref))) as (enK xs), kp, newS, eS, atP, ?_⟩
  refine I.call' (ch := []) rfl ⟨fun b o q _ _ _ => hk b o q, fun b o q _ _ _ => ⟨o.slots, hk b o q⟩, fun b o q n _ => ?_, fun b o q _ => ⟨o, hk b o q⟩, fun b xs q => kp b _ q, fun b o u q => kp b _ q, fun b ps q => ⟨#[], by rw [kp b _ q]; simp⟩⟩ (fun b u q => ?_) I.bare fun b z => by simp at z
  · obtain ⟨z1, z2⟩ := low b o q
    rw [off b z1 z2]
    exact n
  · by_cases hb : b ∈ as
    · obtain ⟨j, pk, e1, e2, e3⟩ := paired_ix atP hb
      rw [e3] at q
      cases q
      obtain ⟨u', tk', f1, f2⟩ := hG.pairs j b e1
      obtain ⟨x, hx, rfl⟩ := enK_at e2
      obtain ⟨u, hu, ru⟩ := rv.get hx
      have hu' : u' = u := by
        rw [List.getElem?_toArray, hu] at f1
        exact (Option.some.inj f1).symm
      subst hu'
      exact ⟨by show 2 ≤ sizeLine; decide, [.int j tk', u'], .cons ⟨_, rfl⟩ (.cons ru .nil), ⟨_, f2, rfl, _, rfl⟩⟩
    · by_cases hb2 : b = S
      · rw [hb2] at q ⊢
        rw [eS] at q
        cases q
        refine ⟨by rw [List.length_map]; omega, acc.toList, c, by rw [hacc]; exact LiI.vals_refs as, ?_⟩
        rw [Array.toArray_toList]
        exact hS
      · rw [off b hb hb2] at q
        exact (I.hok b u q).stay (fun d v _ y => hk d v y) (fun d y => kp d _ y) fun d xs y => kp d _ y
theorem pe_listEnumT {p p2 pos2 pos : Pos} (hc : X.calm = true) (hg : Gl X "list") (hm : X.mg "list" = none) (hg2 : Gl X "enumerate") (hm2 : X.mg "enumerate" = none) (he : PE X e te)
    (hs2 : starEach [e] X.env = (false, eval e X.env) :: starEach [] X.env := by rfl)
    (na : starEach [.Call (.Name "enumerate" p2) [e] [] pos2] X.env = (false, eval (.Call (.Name "enumerate" p2) [e] [] pos2) X.env) :: starEach [] X.env := by rfl) :
    PE X (.Call (.Name "list" p) [.Call (.Name "enumerate" p2) [e] [] pos2] [] pos) (tLstEnumT X.K te) := by
  refine ⟨fun pins s σ H Q I h => ?_⟩
  refine Call_ (ld_blt I hg hm boot_list (PyProof.Rows.callWith_type1 (args_cons ?_ na) na))
  refine Call_ (ld_blt I hg2 hm2 boot_enumerate (PyProof.Rows.callWith_type1 (one_arg he I h (fun v s1 x H1 I1 r q => ?_) hs2) hs2))
  obtain ⟨a, xs, rfl, hq, q⟩ := q
  cases r
  obtain ⟨its, rv, pt, hz⟩ := I1.tuple hq
  have pt' : s1.heap.IsTuple a its.toArray := pt
  have hal : a < s1.heap.objs.size := let ⟨_, ho, _⟩ := pt'; Heap.lt_size ho
  refine enum_begins1 (begins_tuple a its.toArray) pt' fun h1 hen hit1 hsz1 hk1 => args_nil ?_
  have ht1 : h1.IsTuple a its.toArray := pt'.at fun o x => hk1 a o x
  refine en_call (s := { s1 with heap := h1 }) (items := its.toArray) (t := a) (I1.ok.hd hc) hen ⟨_, hit1, rfl, rfl⟩ ht1 (Nat.succ_ne_self _) (Nat.ne_of_gt (Nat.lt_succ_of_lt hal)) (by have := rv.length; simp; omega) fun h' tk acc c as hk hS hl hG hacc => ?_
  have hsz : ({ s1 with heap := h1 } : Shared).heap.objs.size = s1.heap.objs.size + 2 := hsz1
  obtain ⟨H', k1, k2, k3, k4, J⟩ := en_laid (tk := tk) I1 hz rv (fun b o x => hk b o (Nat.ne_of_lt (Nat.lt_succ_of_lt (Heap.lt_size x))) (Nat.ne_of_lt (Heap.lt_size x)) (hk1 b o x)) (by rw [hsz]; omega) hS (by simpa using hl) hG hacc
  exact ⟨.ref _, H', J, rfl, q H' _ as k1 k2 k3 k4⟩
end
end Lp

/-! part LpRules9 -/
set_option Elab.async false
set_option linter.all false
set_option maxRecDepth 100000
/-! set(xs), xs a list of a few ints: a set that can be sorted -/
namespace Lp
open PySem PySem.Spec PyProof.Rows L2
/-- an empty set's object, as this world makes it -/
abbrev eset (w : World) : Obj := { cls := .type "set", dict := none, data := .set #[] 0 (.fresh 0 0 (!w.params.followText "set-order")) }
section
variable {P : Program} {w : World} {A : Around} {E : Value → Shared → Prop} {s : Shared}
set_option maxRecDepth 100000 in
set_option maxHeartbeats 3200000 in
theorem set_of_list {l : Addr} {xs : Array Value} (ks : List Int) {Q : Value → Shared → Prop} (hq : A.handled = none) (isl : s.heap.IsList l xs) (hin : IntsAre xs.toList ks) (few : ks.length + 1 < scanBound)
    (fin : ∀ (g : Heap) (tk c : Nat), SetR w g s.heap.objs.size (fun j => decide (j ∈ ks)) c → c ≤ ks.length → (∀ b o, s.heap.get? b = some o → g.get? b = some o) → Q (.ref s.heap.objs.size) { s with heap := g, toks := tk }) :
    wpAny (model P w) A (call (.type "set") [.ref l]) Q E s := by
  have lx : xs.size = ks.length := by
    have z := IntsAre.length hin
    rwa [Array.length_toList] at z
  obtain ⟨c0, tl0, mro0⟩ := F.called_set.mro
  have md0 := F.called_set.made
  have sb0 := F.called_set.sub
  refine wpAny_call (codeAny_of_tree ?_)
  change wpAny _ _ (callAny (.type "set") _) _ _ _
  refine wpAny_pure ⟨Code.quiet_builtin _ (by decide +kernel), codeAny_builtin F.entry_type_call ?_⟩
  rw [Around.under_plain (weight_type_call_type "set" [.ref l] []) rfl]
  have nt0 := F.called_set.notType
  have cc0 := F.called_set.canCreate
  have tc0 := F.typeCall_set_1 (.ref l)
  repeat (any_goals (first | assumption | wp_step))
  refine codeAny_mono (code_set_led1 (.ref l) (E := E) (Q₁ := fun o1 s1 => o1 = .ref s.heap.objs.size ∧ s1 = { s with heap := s.heap.push (eset w) }) ⟨rfl, rfl⟩) fun r s1 hr => ?_
  cases r with
  | error e => exact hr
  | ok fl =>
    cases fl with
    | ret o1 =>
      obtain ⟨rfl, rfl⟩ := hr
      have got : (s.heap.push (eset w)).get? s.heap.objs.size = some (eset w) := Heap.get?_push_size _ rfl
      have ty1 : Shared.TypeIs { s with heap := s.heap.push (eset w) } (.ref s.heap.objs.size) "set" := ⟨_, got, rfl⟩
      have lk0 := F.called_set.init.lookup
      have bd0 := F.called_set.init.bind (.ref s.heap.objs.size)
      repeat (any_goals (first | assumption | wp_step))
      refine codeAny_mono (codeAny_call_builtin (R := wants (fun r s2 => r = .none ∧ ∃ g tk c, s2 = { s with heap := g, toks := tk } ∧ SetR w g s.heap.objs.size (fun j => decide (j ∈ ks)) c ∧ c ≤ ks.length ∧
          (∀ b o, s.heap.get? b = some o → g.get? b = some o)) E) F.called_set.init.plain F.entry_set_init (check_set_init_1 ty1 ?_)) fun r2 s2 hr2 => ?_
      · obtain ⟨ob, hob, ec, nn, ed⟩ := isl
        obtain ⟨cl1, dc1, dt1, sl1⟩ := ob
        simp only at ec ed
        subst ec; subst ed
        have hob' : (s.heap.push (eset w)).get? l = some { cls := .type "list", dict := dc1, data := .seq xs nn, slots := sl1 } := Heap.get?_push_of_some _ hob
        have no1 := F.sub_list_set
        have no2 := F.sub_list_frozenset
        have no3 : (Value.type "list" == Value.type "dict") = false := by decide
        have isl1 : (s.heap.push (eset w)).IsList l xs := ⟨_, hob', rfl, nn, rfl⟩
        unfold Builtin.«set.__init__» noKeywords Builtin.Frozenset.updateFrom
        generalize hIt : pyIter = IT
        wp_walk
        subst hIt
        refine wpAny_pyIter_list isl1 ?_
        refine wpAny_bind (wpAny_runValue ?_)
        have ltl : l < s.heap.objs.size := Heap.lt_size hob
        have hq3 : A.in1.in1.in1.handled = none := by simp [hq]
        have ne1 : l ≠ (s.heap.push (eset w)).objs.size := by
          rw [Heap.size_push]; exact Nat.ne_of_lt (Nat.lt_succ_of_lt ltl)
        have nin1 : s.heap.objs.size ∉ [(s.heap.push (eset w)).objs.size, l] := by
          rw [Heap.size_push]
          intro z
          rcases List.mem_cons.mp z with z | z
          · exact Nat.ne_of_lt (Nat.lt_succ_self _) z
          · exact Nat.ne_of_gt ltl (List.mem_singleton.mp z)
        have vals : ∀ (i : Nat) (v : Value), xs[i]? = some v → ∃ k t, ks[i]? = some k ∧ v = .int k t := fun i v hv => by
          have hi : i < ks.length := by rw [← lx]; exact (Array.getElem?_eq_some_iff.mp hv).1
          obtain ⟨t, e⟩ := PyProof.Rows.IntsAre.int_at hin i v (by rw [Array.getElem?_toList]; exact hv)
          refine ⟨ks[i], t, List.getElem?_eq_getElem hi, ?_⟩
          rw [e, List.getD_eq_getElem?_getD, List.getElem?_eq_getElem hi] <;> rfl
        refine set_update_ints ((Walks.list hq3 _ l ne1 xs).toS) s.heap.objs.size
          nin1 ks lx few vals (xs.size - 0) 0 _ (by omega) (Nat.zero_le _)
          ⟨⟨_, Heap.get?_push_size _ rfl, rfl, rfl⟩, (isl1.push _)⟩ ?start ?rest
        case start =>
          have got2 : ((s.heap.push (eset w)).push { cls := .type "list_iterator", data := .fields #[.ref l, .int 0 0] }).get? s.heap.objs.size = some (eset w) := Heap.get?_push_of_some _ got
          exact ⟨0, Nat.le_refl 0, setR_new_at got2⟩
        case rest =>
          intro s3 c3 mv hc3 hS3
          obtain ⟨g, g2, d2, tk2, os2⟩ := s3
          obtain rfl : g2 = s.gens := mv.gens
          obtain rfl : d2 = s.drawn := mv.drawn
          obtain rfl : os2 = s.os := mv.os
          change wpAny _ _ _ _ _ _
          refine wpAny_pure ?_
          change wpAny _ _ (ret Value.none) _ _ _
          rw [lx] at hc3
          refine wpAny_pure ⟨rfl, g, tk2, c3, rfl, hS3, hc3, fun b o e => ?_⟩
          have lb : b < s.heap.objs.size := Heap.lt_size e
          refine mv.heap b o (fun z => ?_) (Heap.get?_push_of_some _ (Heap.get?_push_of_some _ e))
          rw [Heap.size_push] at z
          rcases List.mem_cons.mp z with z | z
          · exact Nat.ne_of_lt lb z
          · exact Nat.ne_of_lt (Nat.lt_succ_of_lt lb) (List.mem_singleton.mp z)
      · cases r2 with
        | error e => exact hr2
        | ok fl2 =>
          cases fl2 with
          | ret r =>
            obtain ⟨rfl, g, tk, c, rfl, hS', hc', hk'⟩ := hr2
            repeat (any_goals (first | assumption | wp_step))
            exact fin _ _ _ hS' hc' hk'
          | _ => exact hr2.elim
    | _ => exact hr.elim
end
/-- set(xs), xs a list of a few ints -/
def rSetOfL (K : PySem.W.Frag) (w : World) : List V → Hp → VK → Prop := fun vs H Q => ∃ (l : Addr) (ns : List Int), vs = [.ref l] ∧ SqL K H l (ns.map V.int) ∧ ns.length < 60 ∧
  ∀ (p : Addr) (c : Nat), H p = none → c ≤ ns.length → Q (.ref p) (upd H p (SetO w p (fun j => decide (j ∈ ns)) c))
section
variable {X : Cx}
theorem call_setL (hc : X.calm = true) : CallR X (.type "set") (rSetOfL X.K X.w) := by
  intro pins s σ H vs us Q I r h
  obtain ⟨l, ns, rfl, hs, h60, q⟩ := h
  obtain ⟨its, rv, hl, hz⟩ := I.list hs
  rw [Vals.ref1 r]
  refine set_of_list ns (I.ok.hd hc) hl.isList (by simpa using rv.ints) (by unfold scanBound; omega) fun g tk c R hcn k => ?_
  exact ⟨.ref _, upd H s.heap.objs.size (SetO X.w s.heap.objs.size (fun j => decide (j ∈ ns)) c), I.laid (t' := tk) (fun b u e => k b u e) (Nat.le_refl _) (setO_new R), rfl, q _ c (I.hok.fresh (Nat.le_refl _)) hcn⟩
end
end Lp

/-! part LpRep3 -/
set_option Elab.async false
set_option linter.all false
set_option maxRecDepth 100000

namespace Lp
open PySem PySem.Spec PyProof.Rows L2
open Evl (Ex ex_l ex_t ex_rd fresh_back)
/-! ## the rules by the text's part K (within a comprehension the context's K is hidden) -/
section
variable {X : Cx} {K : PySem.W.Frag}
theorem ix_tupK (h : X.K = K := by rfl) : IxR X (rIxT K) := h ▸ ix_tup
theorem ix_listK (h : X.K = K := by rfl) : IxR X (rIxL K) := h ▸ ix_list
theorem pe_slK {e : Expr} {f : Str} {pos : Pos} {ta : TE} (he : PE X e ta) (h : X.K = K := by rfl) (hb : attributeBase e f X.env (eval e X.env) = eval e X.env := by rfl) : PE X (.Attribute e f pos) (SlX.tSl K ta f) := h ▸ SlX.pe_sl he hb
theorem op_inK (h : X.K = K := by rfl) : OpR X (compareOp .In) (rIn K false) := h ▸ op_in_seq
theorem op_notInK (h : X.K = K := by rfl) : OpR X (compareOp .NotIn) (rIn K true) := h ▸ op_notIn_seq
theorem call_isiK' (h : X.K = K := by rfl) : CallR X (.builtin "isinstance") (rIsi K) := h ▸ call_isi
theorem call_isiTK (h : X.K = K := by rfl) : CallR X (.builtin "isinstance") (rIsiT K) := h ▸ call_isiT
theorem pg_tupK {es : List Expr} {k : Nat} {t : TGs} {n : Nat} {pos : Pos} (hc : X.calm = true) (h : PGs X es t) (hl : (assignEach es X.env).length = n := by rfl) (hst : (assignEach es X.env).findIdx? (·.1) = none := by rfl) (hK : X.K = K := by rfl) : PG X (.Tuple es k pos) (gTup K n t) := hK ▸ pg_tup hc h hl hst
theorem pi_tupK {tg l : Expr} {tl : TE} (hl : PE X l tl) (h : X.K = K := by rfl) : PI X tg l (iTup K tl) := h ▸ pi_tup hl
theorem pi_listK {tg l : Expr} {tl : TE} (hl : PE X l tl) (h : X.K = K := by rfl) : PI X tg l (iList K tl) := h ▸ pi_list hl
theorem call_lenK (h : X.K = K := by rfl) : CallR X (.builtin "len") (Evl.rLenS K) := h ▸ call_len_seq
section
variable {T id : String} {name : Str} {r : V → List V → Hp → VK → Prop} {o e : Expr} {es : List Expr} {to : TE} {t : TA} {apos pos : Pos} {pl : Sem Bool}
theorem pe_bm0J (pa : PlainAttrs T) (slot : Slot T name id) (hty : typeOf (.builtin id) = pure (.type "method_descriptor")) (hm : MtR X id r) (ho : PE X o to) (hK : X.K = K := by rfl)
    (hbase : attributeBase o name X.env (eval o X.env) = eval o X.env := by rfl) (hline : (apos.endLine == pos.line) = true := by rfl) : PE X (.Call (.Attribute o name apos) [] [] pos) (tBM0 K T r to) := hK ▸ pe_bm0 pa slot hty hm ho hbase hline
end
end
end Lp

/-! part LpRep4 -/
set_option Elab.async false
set_option linter.all false
set_option maxRecDepth 100000

namespace Lp
open PySem PySem.Spec PyProof.Rows L2
open Evl (Ex ex_l ex_t ex_rd fresh_back)
/-! ## dicts, min of pairs, iteration over what stands in a base heap -/
section
variable {K : PySem.W.Frag} {Γ : Gm} {ta tb te : TE} {α β : Type} [Rep K α] [Rep K β]
def dkN (m : List (Nat × Nat)) : List (Key × V) := m.map fun e => (Sum.inl (e.1 : Int), V.int (e.2 : Int))
/-- the dict at d with these pairs -/
def DcA (d : Addr) (kvs : List (Key × V)) : SP := ⟨fun v H => v = .ref d ∧ H d = some (.dK kvs), fun e ⟨h1, h2⟩ => ⟨h1, e _ _ h2⟩⟩
theorem dkN_len (m : List (Nat × Nat)) : (dkN m).length = m.length := by simp [dkN]
theorem dkN_snd (m : List (Nat × Nat)) : (dkN m).map (·.2) = (m.map fun e => ((e.2 : Nat) : Int)).map V.int := by
  simp [dkN, List.map_map, Function.comp_def]
theorem dkN_val (m : List (Nat × Nat)) (k : Nat) : valV (dkN m) (Sum.inl (k : Int)) = ((m.find? fun e => decide (e.1 = k)).map fun e => V.int (e.2 : Int)) := by
  unfold valV dkN
  rw [List.find?_map]
  have e : ((fun kv : Key × V => decide (kv.1 = Sum.inl (k : Int))) ∘ fun e : Nat × Nat => ((Sum.inl (e.1 : Int) : Key), V.int (e.2 : Int))) = fun e => decide (e.1 = k) := by
    funext e
    show decide ((Sum.inl (e.1 : Int) : Key) = Sum.inl (k : Int)) = _
    by_cases h : e.1 = k
    · rw [h, decide_eq_true rfl, decide_eq_true rfl]
    · rw [decide_eq_false h, decide_eq_false fun z => h (by injection z with z; exact Int.ofNat_inj.mp z)]
  rw [e, Option.map_map]
  rfl
theorem dkN_new (m : List (Nat × Nat)) (k v : Nat) (h : ∀ e, e ∈ m → e.1 ≠ k) : putK (dkN m) (Sum.inl (k : Int)) (V.int (v : Int)) = dkN (m ++ [(k, v)]) := by
  have hn : valV (dkN m) (Sum.inl (k : Int)) = none := by
    rw [dkN_val]
    have : m.find? (fun e => decide (e.1 = k)) = none := List.find?_eq_none.mpr fun e he => by simpa using h e he
    rw [this]
    rfl
  rw [putK_new _ hn]
  simp [dkN]
/-- min of pairs, by the first -/
theorem minOf_fst [DecidableEq β] [PySem.W.DatumOrd β] : ∀ (zs : List (Int × β)) (x : Int × β), PySem.W.minOf x zs ∈ x :: zs ∧ ∀ y, y ∈ x :: zs → (PySem.W.minOf x zs).1 ≤ y.1
  | [], x => ⟨List.mem_cons_self, fun y hy => by rw [List.mem_singleton.mp hy]; exact Int.le_refl _⟩
  | z :: zs, x => by
    have hlt : PySem.W.DatumOrd.lt z x = if z.1 = x.1 then PySem.W.DatumOrd.lt z.2 x.2 else decide (z.1 < x.1) := rfl
    have e : PySem.W.minOf x (z :: zs) = PySem.W.minOf (if PySem.W.DatumOrd.lt z x = true then z else x) zs := rfl
    obtain ⟨h1, h2⟩ := minOf_fst zs (if PySem.W.DatumOrd.lt z x = true then z else x)
    rw [e]
    by_cases hz : PySem.W.DatumOrd.lt z x = true
    · rw [if_pos hz] at h1 h2 ⊢
      refine ⟨List.mem_cons_of_mem _ h1, fun y hy => ?_⟩
      rcases List.mem_cons.mp hy with e | hy
      · have h3 := h2 z List.mem_cons_self
        rw [hlt] at hz
        rw [e]
        by_cases h4 : z.1 = x.1
        · rw [← h4]; exact h3
        · rw [if_neg h4] at hz
          have := of_decide_eq_true hz
          omega
      · exact h2 y hy
    · rw [if_neg hz] at h1 h2 ⊢
      refine ⟨?_, fun y hy => ?_⟩
      · rcases List.mem_cons.mp h1 with e | h1
        · rw [e]; exact List.mem_cons_self
        · exact List.mem_cons_of_mem _ (List.mem_cons_of_mem _ h1)
      · rcases List.mem_cons.mp hy with e | hy
        · rw [e]; exact h2 x List.mem_cons_self
        · rcases List.mem_cons.mp hy with e | hy
          · have h3 := h2 x List.mem_cons_self
            rw [hlt] at hz
            rw [e]
            by_cases h4 : z.1 = x.1
            · rw [h4]; exact h3
            · rw [if_neg h4] at hz
              have : ¬ z.1 < x.1 := fun q => hz (decide_eq_true q)
              omega
          · exact h2 y (List.mem_cons_of_mem _ hy)
def MinFst {γ : Type} (xs : List (Int × γ)) (m : Int × γ) : Prop := m ∈ xs ∧ ∀ y, y ∈ xs → m.1 ≤ y.1
theorem dp_int {H : Hp} {v : V} {x : Int} (h : (Is K x).p v H) : Dp K H v (PySem.W.Datum.toD x) := by
  obtain rfl : v = .int x := h
  exact .int x
theorem dp_pair {H : Hp} {v : V} {x : Int × Int} (h : (Is K x).p v H) : Dp K H v (PySem.W.Datum.toD x) := by
  obtain ⟨a, vs, rfl, h2, h3⟩ := h
  refine .tup h2 ?_
  cases h3 with
  | cons r t =>
    cases t with
    | cons r2 t =>
      cases t
      exact .cons (dp_int r) (.cons (dp_int r2) .nil)
theorem dp_back {H : Hp} {v : V} {x : Int × Int} (h : Dp K H v (PySem.W.Datum.toD x)) : (Is K x).p v H := by
  cases h with
  | tup h1 h2 =>
    cases h2 with
    | cons r t =>
      cases t with
      | cons r2 t =>
        cases t
        cases r
        cases r2
        exact ⟨_, _, rfl, h1, .cons rfl (.cons rfl .nil)⟩
theorem dp_all {γ : Type} [Rep K γ] [DecidableEq γ] [PySem.W.Datum γ] (hd : ∀ (x : γ) (v : V) (H : Hp), (Is K x).p v H → Dp K H v (PySem.W.Datum.toD x)) {H : Hp} {vs : List V} : ∀ {xs : List γ}, AllP vs (xs.map (Is K)) H → DpAll K H vs (xs.map PySem.W.Datum.toD)
  | [], h => by cases h; exact .nil
  | x :: xs, h => by
    cases h with
    | cons r t => exact .cons (hd x _ _ r) (dp_all hd t)
theorem eg_minP {xs : List (Int × Int)} (h : EvG te Γ (Is K xs)) (hn : xs ≠ []) : EvG (tCB (rMinD K (Int × Int)) (tCons te tNil)) Γ (Ssm (MinFst xs) (Is K)) := fun σ H Q s q => h σ H _ s fun v H1 e ⟨a, vs, h1, h2, h3⟩ => by
  subst h1
  obtain ⟨x, zs, rfl⟩ : ∃ x zs, xs = x :: zs := by
    cases xs with
    | nil => exact absurd rfl hn
    | cons x zs => exact ⟨x, zs, rfl⟩
  refine ⟨a, vs, x, zs, rfl, h2, dp_all (fun _ _ _ => dp_pair) h3, fun j v hv hx hd => ?_⟩
  exact q _ H1 e ⟨_, minOf_fst zs x, dp_back hd⟩
theorem eg_sndS {p : α × β → Prop} (ha : EvG ta Γ (Ssm p (Is K))) : EvG (tOp (rIxT K) ta (tC (.int 1))) Γ (Ssm (fun y => ∃ x, p x ∧ y = x.2) (Is K)) := fun σ H Q s q =>
  ha σ H _ s fun v H1 e ⟨x, hx, a, vs, h1, h2, h3⟩ => by
    cases h3 with
    | cons r t =>
      cases t with
      | cons r2 t =>
        cases t
        exact ⟨a, _, 1, _, h1, rfl, h2, rfl, q _ H1 e ⟨_, ⟨x, hx, rfl⟩, r2⟩⟩
/-! ### iteration over an own object that stands in the base heap H0 -/
theorem walk_own {C : Addr} {i j : Nat} {Qs Ps : List SP} {σ : L2.St} {H0 H : Hp} {R : It → Hp → Prop} (s : Sat Γ σ H0) (e : Ex H0 H) (hv : Γ[j]? = some (some (ObP C Qs))) (hi : Qs[i]? = some (LsP K Ps)) (q : ∀ J, WalkP J H0 Ps → R J H) : iOwn K C i (tVar j) σ H R := by
  obtain ⟨v, h1, a, dx, rfl, ws, h2, h3⟩ := s.at' j _ hv
  obtain ⟨w, ho, l, us, rfl, hl, ha⟩ := h3 i _ (some_at hi)
  exact ⟨_, h1, a, dx, ws, l, us, rfl, slt_mono e h2, ho, ex_l e hl, q _ (walkP_at (walk_list.mono (fun H' e' => ex_l e' hl) fun _ _ _ _ _ _ y => y) ha)⟩
/-- a for, by hand: the walk stands while the base heap does -/
theorem for_base {γ : Type} {xs : List γ} {F : γ → SP} {J : It} {H0 : Hp} {g : TG} {tb : TS} {D : Ends} {σ : L2.St} {H : Hp} (wp : WalkP J H0 (xs.map F)) (Pv : Nat → L2.St → Hp → Prop) (h0 : Pv 0 σ H) (hG : ∀ i σ H, Pv i σ H → Ex H0 H)
    (hs : ∀ i x σ H H' v, xs[i]? = some x → Pv i σ H → Ex H H' → SP.p (F x) v H' → g v σ H' fun σ2 H2 => tb { D with nx := Pv (i + 1), ct := Pv (i + 1), bk := D.nx } σ2 H2) (hd : ∀ σ H, Pv xs.length σ H → D.nx σ H) :
    ∃ W : Nat → Nat → L2.St → Hp → Prop, (∃ m, W 0 m σ H) ∧ ∀ i m σ H, W i m σ H →
      (J.stop i H ∧ D.nx σ H) ∨ (J.go i H ∧ ∃ N : L2.St → Hp → Prop, (∀ σ' H', N σ' H' → ∃ m', m' < m ∧ W (i + 1) m' σ' H') ∧ ∀ x H', J.yld i H x H' → g x σ H' fun σ2 H2 => tb { D with nx := N, ct := N, bk := D.nx } σ2 H2) := by
  obtain ⟨Y, w, hy⟩ := wp
  rw [List.length_map] at w hy
  refine for_it w Pv h0 (fun i σ H _ p => hG i σ H p) (fun i x σ Ha Hb hi p y => ?_) hd
  obtain ⟨P, hP, e2, hx⟩ := hy i Ha x Hb hi (hG i σ Ha p) y
  have hxi : xs[i]? = some xs[i] := List.getElem?_eq_getElem hi
  rw [List.getElem?_map, hxi] at hP
  obtain rfl : F xs[i] = P := Option.some.inj hP
  exact hs i _ σ Ha Hb x hxi p e2 hx
/-- more is known of a slot -/
theorem Sat.know {Γ : Gm} {σ : L2.St} {H : Hp} {i : Nat} {v : V} {P : SP} (h : Sat Γ σ H) (hs : σ[i]? = some (some v)) (hp : P.p v H) : Sat (Γ.set i (some P)) σ H := by
  refine ⟨by rw [List.length_set]; exact h.len, fun j R q => ?_⟩
  by_cases hj : i = j
  · subst hj
    have hl : i < Γ.length := by
      have := (List.getElem?_eq_some_iff.mp q).1
      rwa [List.length_set] at this
    rw [List.getElem?_set_self hl] at q
    injection q with q
    injection q with q
    subst q
    exact ⟨v, hs, hp⟩
  · rw [List.getElem?_set_ne hj] at q
    exact h.at' j R q
theorem Sat.eq1 {Γ : Gm} {σ : L2.St} {H : Hp} {i : Nat} {v : V} (h : Sat Γ σ H) (hs : Γ[i]? = some (some (Eq1 v))) : σ[i]? = some (some v) := by
  obtain ⟨u, h1, h2⟩ := h.at' i _ hs
  obtain rfl : u = v := h2
  exact h1
/-- k in d.values(), k not in d.values(), d a dict in a slot -/
theorem eg_inVals {neg : Bool} {d : Addr} {m : List (Nat × Nat)} {j k : Nat} (ha : EvG ta Γ (Is K k)) (hv : Γ[j]? = some (some (DcA d (dkN m)))) :
    EvG (tOp (rInVals neg) ta (tBM0 K "dict" rValues (tVar j))) Γ (Is K (if neg then !decide (k ∈ m.map Prod.snd) else decide (k ∈ m.map Prod.snd))) := fun σ H Q s q =>
  ha σ H _ s fun v H1 e p => by
    obtain rfl : v = .int (k : Int) := p
    obtain ⟨w, h1, h2, h3⟩ := (s.mono e).at' j _ hv
    subst h2
    refine ⟨_, h1, .inr (.inr (.inl ⟨rfl, .inl ⟨_, h3⟩⟩)), d, _, rfl, rfl, h3, fun p hp => ⟨_, p, d, _, _, rfl, rfl, upd_same, ?_, dkN_snd m, ?_⟩⟩
    · rw [upd_ne (ne_of_none h3 hp)]
      exact h3
    · have e2 : decide ((k : Int) ∈ m.map fun e => ((e.2 : Nat) : Int)) = decide (k ∈ m.map Prod.snd) := by
        have : ((k : Int) ∈ m.map fun e => ((e.2 : Nat) : Int)) ↔ k ∈ m.map Prod.snd := by
          constructor
          · intro h
            obtain ⟨x, hx, e⟩ := List.mem_map.mp h
            exact List.mem_map.mpr ⟨x, hx, Int.ofNat_inj.mp e⟩
          · intro h
            obtain ⟨x, hx, e⟩ := List.mem_map.mp h
            exact List.mem_map.mpr ⟨x, hx, by rw [e]⟩
        exact decide_eq_decide.mpr this
      refine q _ _ (e.trans (Evl.Ex.new hp)) ?_
      rw [e2]
      rfl
theorem units_le {k d : Nat} {A : Around} (hr : Room k A) (h : d ≤ 62 := by decide) : A.units + 1 + d < cLine := by
  have := hr.units
  omega
/-! ### statements by hand -/
section
variable {D : Ends} {σ : L2.St} {H H0 : Hp} {t1 t2 tb : TS} {tt : TT} {P : SP} {i : Nat}
theorem h_asg (h : EvG te Γ P) (s : Sat Γ σ H) (k : ∀ v H2, Ex H H2 → P.p v H2 → t2 D (σ.set i (some v)) H2) : tSeq (tAsg te (gName i)) t2 D σ H := h σ H _ s k
theorem h_asg1 (h : EvG te Γ P) (s : Sat Γ σ H) (k : ∀ v H2, Ex H H2 → P.p v H2 → D.nx (σ.set i (some v)) H2) : tAsg te (gName i) D σ H := h σ H _ s k
theorem h_newD (k : ∀ d, H d = none → t2 D (σ.set i (some (.ref d))) (upd H d (.dK []))) : tSeq (tAsg tDNewK (gName i)) t2 D σ H := fun d hd => k d hd
theorem h_newL (k : ∀ d, H d = none → t2 D (σ.set i (some (.ref d))) (upd H d (.lst []))) : tSeq (tAsg (tLst tNil) (gName i)) t2 D σ H := ⟨Nat.zero_le _, fun d hd => k d hd⟩
theorem h_if {b : Bool} (h : EvT tt Γ b) (s : Sat Γ σ H) (k1 : b = true → ∀ H2, Ex H H2 → t1 D σ H2) (k2 : b = false → ∀ H2, Ex H H2 → t2 D σ H2) : tIfS tt t1 t2 D σ H := h σ H _ s fun H2 e => by
  cases b with
  | true => exact k1 rfl H2 e
  | false => exact k2 rfl H2 e
theorem h_ret (h : EvG te Γ P) (s : Sat Γ σ H) (k : ∀ v H2, Ex H H2 → P.p v H2 → D.rt v H2) : tRet te D σ H := h σ H _ s k
theorem h_seq (h : t1 { D with nx := t2 D } σ H) : tSeq t1 t2 D σ H := h
theorem h_next (h : D.nx σ H) : tNext D σ H := h
theorem h_drop (h : EvG te Γ P) (s : Sat Γ σ H) (k : ∀ v H2, Ex H H2 → P.p v H2 → D.nx σ H2) : tDrop te D σ H := h σ H _ s k
theorem h_dput {d : Addr} {kvs : List (Key × V)} {ti tv : TE} {j : Nat} {k : Key} (hj : σ[j]? = some (some (.ref d))) (hv : EvG tv Γ P) (hk : EvG ti Γ (Eq1 (kV k))) (s : Sat Γ σ H) (hd : H d = some (.dK kvs)) (hl : kvs.length < 100000)
    (q : ∀ v H2, Ex H H2 → P.p v H2 → D.nx σ (upd H2 d (.dK (putK kvs k v)))) : sDPut (tVar j) ti tv D σ H := hv σ H _ s fun v H1 e1 p1 => ⟨_, hj, hk σ H1 _ (s.mono e1) fun u H2 e2 p2 => by
  obtain rfl : u = kV k := p2
  exact ⟨d, _, rfl, DPut.k (e2 _ _ (e1 _ _ hd)) (Evl.sz_lt hl), q v H2 (e1.trans e2) (P.mono e2 p1)⟩⟩
/-- a walked thing, by hand -/
theorem h_for {γ : Type} {xs : List γ} {F : γ → SP} {g : TG} {wi : TI} {D : Ends} (hw : ∀ R : It → Hp → Prop, (∀ J, ∀ H1, Ex H H1 → WalkP J H0 (xs.map F) → R J H1) → wi σ H R) (Pv : Nat → L2.St → Hp → Prop) (h0 : ∀ H1, Ex H H1 → Pv 0 σ H1) (hG : ∀ i σ H, Pv i σ H → Ex H0 H)
    (hs : ∀ i x σ H H' v D', xs[i]? = some x → Pv i σ H → Ex H H' → SP.p (F x) v H' → (∀ σ H, Pv (i + 1) σ H → Ends.nx D' σ H) → Ends.rt D' = D.rt → g v σ H' fun σ2 H2 => tb D' σ2 H2) (hd : ∀ σ H, Pv xs.length σ H → D.nx σ H) : tFor wi g tb D σ H :=
  hw _ fun J H1 e1 wp => for_base wp Pv (h0 H1 e1) hG (fun i x σ H H' v hx p e hv => hs i x σ H H' v _ hx p e hv (fun _ _ q => q) rfl) hd
theorem walk_own' {C : Addr} {i j : Nat} {Qs Ps : List SP} {R : It → Hp → Prop} (s : Sat Γ σ H0) (e : Ex H0 H) (hv : Γ[j]? = some (some (ObP C Qs))) (hi : Qs[i]? = some (LsP K Ps)) (q : ∀ J, ∀ H1, Ex H H1 → WalkP J H0 Ps → R J H1) : iOwn K C i (tVar j) σ H R :=
  walk_own s e hv hi fun J wp => q J H (Evl.Ex.refl H) wp
theorem h_for_own {C : Addr} {i j r n : Nat} {Qs : List SP} {t2 : TS} (s : Sat Γ σ H0) (e : Ex H0 H) (hv : Γ[j]? = some (some (ObP C Qs))) (hi : Qs[i]? = some (Is K (List.range n)))
    (Pv : Nat → L2.St → Hp → Prop) (h0 : Pv 0 σ H) (hG : ∀ i σ H, Pv i σ H → Ex H0 H)
    (hs : ∀ i σ H H' D', i < n → Pv i σ H → Ex H H' → (∀ σ H, Pv (i + 1) σ H → Ends.nx D' σ H) → Ends.rt D' = D.rt → tb D' (σ.set r (some (.int (i : Int)))) H') (hd : ∀ σ H, Pv n σ H → t2 D σ H) : tSeq (tFor (iOwn K C i (tVar j)) (gName r) tb) t2 D σ H := by
  unfold tSeq tFor
  refine walk_own s e hv hi fun J wp => for_base (xs := List.range n) wp Pv h0 hG (fun i x σ H H' v hx p e hv => ?_) (by rw [List.length_range]; exact hd)
  have hi : i < n := by
    have := (List.getElem?_eq_some_iff.mp hx).1
    rwa [List.length_range] at this
  rw [List.getElem?_range hi] at hx
  obtain rfl : i = x := Option.some.inj hx
  obtain rfl : v = .int (i : Int) := hv
  exact hs i σ H H' _ hi p e (fun _ _ q => q) rfl
theorem Sat.dcA {Γ : Gm} {σ : L2.St} {H : Hp} {i : Nat} {d : Addr} {kvs : List (Key × V)} (h : Sat Γ σ H) (hs : Γ[i]? = some (some (DcA d kvs))) : σ[i]? = some (some (.ref d)) := by
  obtain ⟨u, h1, h2, _⟩ := h.at' i _ hs
  obtain rfl : u = .ref d := h2
  exact h1
end
/-! ### loops whose turns leave nothing -/
section
variable {t1 t2 tb : TS} {N : Gm → Prop} {R : SP → Prop}
theorem StX.lq {Γ' : Gm} (h : StX t1 Γ (fun Γ2 => Lq Γ' Γ2) R) : StX t1 Γ (fun Γ2 => Γ2 = Γ') R := fun D σ H s hn hr => h D σ H s (fun Γ2 σ2 H2 l e s2 => hn Γ' σ2 H2 rfl e (s2.less l)) hr
theorem sx_forL {γ : Type} {xs : List γ} {F : γ → SP} {wi : TI} {g : TG} (hw : EvW wi Γ (xs.map F)) (hs : ∀ (i : Nat) (x : γ), xs[i]? = some x → ∃ Γt vs, TgG g Γ (F x) Γt vs ∧ StX tb Γt (fun Γ2 => Lq Γ Γ2) R) (k : N Γ) : StX (tFor wi g tb) Γ N R :=
  sx_for (fun _ Γi => Γi = Γ) hw rfl (fun i x Γi hx e => by
    subst e
    obtain ⟨Γt, vs, h1, h2⟩ := hs i x hx
    exact ⟨Γt, vs, h1, h2.lq⟩) fun Γ' e => e ▸ k
end
end
end Lp

/-! part LpRep5 -/
set_option Elab.async false
set_option linter.all false
set_option maxRecDepth 100000

namespace Lp
open PySem PySem.Spec PyProof.Rows L2
open Evl (Ex ex_l ex_t ex_rd fresh_back)
/-! ## own objects change: what else stays -/
def solid : HO → Bool
  | .ins _ _ _ => false
  | .own _ => false
  | .xd _ => false
  | .ext _ => false
  | _ => true
def Es (H H' : Hp) : Prop := ∀ (b : Addr) (o : HO), H b = some o → solid o = true → H' b = some o
theorem Es.refl (H : Hp) : Es H H := fun _ _ h _ => h
theorem Es.trans {H H1 H2 : Hp} (a : Es H H1) (b : Es H1 H2) : Es H H2 := fun x o h s => b x o (a x o h s) s
theorem es_ex {H H' : Hp} (e : Ex H H') : Es H H' := fun b o h _ => e b o h
theorem es_rd {H H' : Hp} {a : Addr} {u : HO} (e : Es H H') (hs : solid u = true) (h : Rd H a u) : Rd H' a u := by
  rcases h with h | ⟨o, h⟩
  · exact .inl (e a _ h hs)
  · exact .inr ⟨o, e a _ h rfl⟩
theorem es_l {K : PySem.W.Frag} {H H' : Hp} {a : Addr} {xs : List V} (e : Es H H') (h : SqL K H a xs) : SqL K H' a xs := by
  rcases h with h | h
  · exact .inl (es_rd e rfl h)
  · exact .inr h
theorem es_t {K : PySem.W.Frag} {H H' : Hp} {a : Addr} {xs : List V} (e : Es H H') (h : SqT K H a xs) : SqT K H' a xs := by
  rcases h with h | h
  · exact .inl (es_rd e rfl h)
  · exact .inr h
def RS (P : SP) : Prop := ∀ (v : V) (H H' : Hp), Es H H' → P.p v H → P.p v H'
class RepS (K : PySem.W.Frag) (α : Type) [Rep K α] : Prop where
  rs : ∀ x : α, RS (Is K x)
section
variable {K : PySem.W.Frag}
theorem AllP.es {vs : List V} {Ps : List SP} {H H' : Hp} (h : AllP vs Ps H) (ht : ∀ P ∈ Ps, RS P) (e : Es H H') : AllP vs Ps H' := by
  induction h with
  | nil => exact .nil
  | cons r t ih => exact .cons (ht _ List.mem_cons_self _ _ _ e r) (ih fun P hP => ht P (List.mem_cons_of_mem _ hP))
theorem rs_eq {x : V} : RS (Eq1 x) := fun _ _ _ _ h => h
theorem rs_dc {d : Addr} {kvs : List (Key × V)} : RS (DcA d kvs) := fun _ _ _ e ⟨h1, h2⟩ => ⟨h1, e _ _ h2 rfl⟩
theorem rs_tu {Ps : List SP} (h : ∀ P ∈ Ps, RS P) : RS (TuP K Ps) := fun v H H' e ⟨a, vs, h1, h2, h3⟩ => ⟨a, vs, h1, es_t e h2, AllP.es h3 h e⟩
theorem rs_ls {Ps : List SP} (h : ∀ P ∈ Ps, RS P) : RS (LsP K Ps) := fun v H H' e ⟨a, vs, h1, h2, h3⟩ => ⟨a, vs, h1, es_l e h2, AllP.es h3 h e⟩
instance : RepS K Int := ⟨fun _ => rs_eq⟩
instance : RepS K Nat := ⟨fun _ => rs_eq⟩
instance : RepS K Bool := ⟨fun _ => rs_eq⟩
variable {α β δ : Type} [Rep K α] [Rep K β] [Rep K δ]
instance [RepS K α] : RepS K (Option α) := ⟨fun x => by
  cases x with
  | none => exact rs_eq
  | some x => exact RepS.rs (K := K) x⟩
instance [RepS K α] : RepS K (Tp α) := ⟨fun x => rs_tu fun P hP => by
  obtain ⟨y, _, e⟩ := List.mem_map.mp hP
  rw [← e]
  exact RepS.rs y⟩
instance [RepS K α] : RepS K (List α) := ⟨fun x => rs_ls fun P hP => by
  obtain ⟨y, _, e⟩ := List.mem_map.mp hP
  rw [← e]
  exact RepS.rs y⟩
instance [RepS K α] [RepS K β] : RepS K (α × β) := ⟨fun x => rs_tu fun P hP => by
  rcases List.mem_cons.mp hP with e | hP
  · rw [e]; exact RepS.rs x.1
  · rcases List.mem_cons.mp hP with e | hP
    · rw [e]; exact RepS.rs x.2
    · cases hP⟩
variable {Γ : Gm} {te ta tv : TE} {P : SP} {σ : L2.St} {H Hb : Hp} {D : Ends} {t2 : TS} {a C dx p : Addr} {f : Str} {i : Nat} {Ss : Gm}
theorem slt_none {vs : List (Option V)} (h : SlX.Slt H a C dx vs) : ∀ o, H a = some o → solid o = false := fun o ho => by
  rcases h with ⟨h, _⟩ | ⟨h, _⟩ <;> rw [ho] at h <;> cases h <;> rfl
theorem slt_dx {pins : List (Addr × Obj)} {X : Cx} {s : Shared} {vs : List (Option V)} (h : SlX.Slt H a C dx vs) (hd : ∀ vs' : List (Str × V), H a = some (.ins C dx vs') → ∃ y, H dx = some (.own y)) : ∀ o, H dx = some o → solid o = false := fun o ho => by
  rcases h with ⟨h, _⟩ | ⟨_, h⟩
  · obtain ⟨y, e⟩ := hd _ h
    rw [ho] at e
    cases e
    rfl
  · rw [ho] at h
    cases h
    rfl
/-- the object's own dict stands -/
def Own (H : Hp) (a dx : Addr) : Prop := dx ≠ a ∧ ∀ o, H dx = some o → solid o = false
theorem own_mono {H H' : Hp} (h : Own H a dx) (e : Ex H H') (hd : ∃ o, H dx = some o) : Own H' a dx := ⟨h.1, fun o ho => by
  obtain ⟨o', ho'⟩ := hd
  have := e _ _ ho'
  rw [ho] at this
  cases this
  exact h.2 _ ho'⟩
theorem es_sl {vs ws : List (Option V)} (h : SlX.Slt H a C dx vs) (hd : Own H a dx) : Es H (SlX.slH H a C dx ws) := fun b o ho hs => by
  have h1 : b ≠ a := fun e => by
    subst e
    have := slt_none h o ho
    rw [hs] at this
    cases this
  have h2 : b ≠ dx := fun e => by
    subst e
    have := hd.2 o ho
    rw [hs] at this
    cases this
  show upd (upd H dx (.xd [])) a _ b = some o
  rw [upd_ne h1, upd_ne h2]
  exact ho
theorem putS_at {vs : List (Option V)} {v : V} {j : Nat} : (SlX.putS i v vs)[i]? = some (some v) ∧ (j ≠ i → ∀ w : V, vs[j]? = some (some w) → (SlX.putS i v vs)[j]? = some (some w)) := by
  unfold SlX.putS
  refine ⟨?_, fun hj w hw => ?_⟩
  · rw [List.getElem?_set_self]
    simp
    omega
  · rw [List.getElem?_set_ne (Ne.symm hj), List.getElem?_append_left (List.getElem?_eq_some_iff.mp hw).1]
    exact hw
/-- the object a of class C, its own dict dx: this is known of its slots; the base heap Hb does not know it; all else of Hb stands -/
structure Ob (Hb H : Hp) (a C dx : Addr) (Ss : Gm) : Prop where
  na : Hb a = none
  nd : Hb dx = none
  ex : Ex Hb H
  ob : ObA H a C dx Ss
  own : Own H a dx
  hd : ∃ o, H dx = some o
  rs : ∀ (i : Nat) (P : SP), Ss[i]? = some (some P) → RS P
theorem Ob.mono {H' : Hp} (h : Ob Hb H a C dx Ss) (e : Ex H H') : Ob Hb H' a C dx Ss :=
  ⟨h.na, h.nd, h.ex.trans e, h.ob.mono e, own_mono h.own e h.hd, by
    obtain ⟨o, ho⟩ := h.hd
    exact ⟨o, e _ _ ho⟩, h.rs⟩
/-- solid things change: lists, dicts that the base heap does not know -/
theorem Ob.put (h : Ob Hb H a C dx Ss) {v : V} {P : SP} (hv : P.p v H) (hP : RS P) : ∀ vs, SlX.Slt H a C dx vs → SatS Ss vs H → Ob Hb (SlX.slH H a C dx (SlX.putS i v vs)) a C dx (Ss.set i (some P)) ∧ Es H (SlX.slH H a C dx (SlX.putS i v vs)) := fun vs hs hk => by
  have es : Es H (SlX.slH H a C dx (SlX.putS i v vs)) := es_sl hs h.own
  refine ⟨⟨h.na, h.nd, ?_, ⟨_, .inr ⟨upd_same, ?_⟩, fun j R q => ?_⟩, ⟨h.own.1, fun o ho => ?_⟩, ⟨.xd [], ?_⟩, fun j R q => ?_⟩, es⟩
  · exact fun b o ho => by
      show upd (upd H dx (.xd [])) a _ b = some o
      rw [upd_ne (ne_of_none ho h.na), upd_ne (ne_of_none ho h.nd)]
      exact h.ex b o ho
  · show upd (upd H dx (.xd [])) a _ dx = some (.xd [])
    rw [upd_ne h.own.1, upd_same]
  · by_cases hj : i = j
    · subst hj
      have hl : i < Ss.length := by
        have := (List.getElem?_eq_some_iff.mp q).1
        rwa [List.length_set] at this
      rw [List.getElem?_set_self hl] at q
      injection q with q
      injection q with q
      subst q
      exact ⟨v, (putS_at (j := 0)).1, hP _ _ _ es hv⟩
    · rw [List.getElem?_set_ne hj] at q
      obtain ⟨w, hw, hp⟩ := hk j R q
      exact ⟨w, (putS_at (j := j)).2 (Ne.symm hj) w hw, h.rs j R q _ _ _ es hp⟩
  · have : (SlX.slH H a C dx (SlX.putS i v vs)) dx = some (.xd []) := by
      show upd (upd H dx (.xd [])) a _ dx = some (.xd [])
      rw [upd_ne h.own.1, upd_same]
    rw [ho] at this
    cases this
    rfl
  · show upd (upd H dx (.xd [])) a _ dx = some (.xd [])
    rw [upd_ne h.own.1, upd_same]
  · by_cases hj : i = j
    · subst hj
      have hl : i < Ss.length := by
        have := (List.getElem?_eq_some_iff.mp q).1
        rwa [List.length_set] at this
      rw [List.getElem?_set_self hl] at q
      injection q with q
      injection q with q
      subst q
      exact hP
    · rw [List.getElem?_set_ne hj] at q
      exact h.rs j R q
/-- self.f = e -/
theorem h_sl {j : Nat} (hj : σ[j]? = some (some (.ref a))) (hv : EvG tv Γ P) (s : Sat Γ σ H) (o : Ob Hb H a C dx Ss) (hP : RS P) (hc : SlX.SCls K C) (hs : SlX.Slot1 K C f p i) (k : ∀ H1 H2 v, Ex H H1 → P.p v H1 → Es H1 H2 → Ob Hb H2 a C dx (Ss.set i (some P)) → D.nx σ H2) : SlX.sSl K (tVar j) tv f D σ H :=
  hv σ H _ s fun v H1 e1 p1 => ⟨_, hj, by
    have o1 := o.mono e1
    obtain ⟨vs, h1, h2⟩ := o1.ob
    obtain ⟨o2, es⟩ := o1.put (i := i) p1 hP vs h1 h2
    exact ⟨a, C, dx, p, vs, i, rfl, h1, hc, hs, k H1 _ v e1 p1 es o2⟩⟩
theorem g_sl {j : Nat} {v : V} {Q : L2.St → Hp → Prop} (hj : σ[j]? = some (some (.ref a))) (hv : P.p v H) (o : Ob Hb H a C dx Ss) (hP : RS P) (hc : SlX.SCls K C) (hs : SlX.Slot1 K C f p i) (k : ∀ H2, Es H H2 → Ob Hb H2 a C dx (Ss.set i (some P)) → Q σ H2) : gSlot K (tVar j) f v σ H Q := ⟨_, hj, by
  obtain ⟨vs, h1, h2⟩ := o.ob
  obtain ⟨o2, es⟩ := o.put (i := i) hv hP vs h1 h2
  exact ⟨a, C, dx, p, vs, i, rfl, h1, hc, hs, k _ es o2⟩⟩
/-- reading a slot of it -/
theorem eg_slO {j : Nat} (s : σ[j]? = some (some (.ref a))) (o : Ob Hb H a C dx Ss) (hc : SlX.SCls K C) (hs : SlX.Slot1 K C f p i) (hx : Ss[i]? = some (some P)) {Q : VK} (q : ∀ v, P.p v H → Q v H) : SlX.tSl K (tVar j) f σ H Q := by
  obtain ⟨vs, h1, h2⟩ := o.ob
  obtain ⟨w, hw, hp⟩ := h2 i P hx
  exact ⟨_, s, a, C, dx, p, vs, i, w, rfl, h1, hc, hs, hw, q w hp⟩
/-- the object a as a value -/
def OSP (a C dx : Addr) (Ss : Gm) : SP := ⟨fun v H => v = .ref a ∧ ObA H a C dx Ss, fun e ⟨h1, h2⟩ => ⟨h1, h2.mono e⟩⟩
theorem eg_slA {te : TE} (ha : EvG te Γ (OSP a C dx Ss)) (hc : SlX.SCls K C) (hs : SlX.Slot1 K C f p i) (hx : Ss[i]? = some (some P)) : EvG (SlX.tSl K te f) Γ P := fun σ H Q s q =>
  ha σ H _ s fun v H2 e h => by
    obtain ⟨rfl, vs, h2, h3⟩ := h
    obtain ⟨w, ho, hw⟩ := h3 i P hx
    exact ⟨a, C, dx, p, vs, i, w, rfl, h2, hc, hs, ho, q w H2 e hw⟩
theorem eg_listRg {ta : TE} {n : Nat} (ha : EvG ta Γ (Is K n)) (hn : n ≤ 100000) : EvG (tLstRg (tRg1 ta)) Γ (Is K (List.range n)) := fun σ H Q s q =>
  ha σ H _ s fun v H2 e h => ⟨(n : Int), h, RgOk.of_le (Int.le_refl 0) (by omega) (by decide) (by omega), fun l hl => q _ _ (e.trans (Evl.Ex.new hl)) ⟨l, _, rfl, .inl (.inl upd_same), by
    have e : rgV 0 (n : Int) = (List.range n).map fun i : Nat => V.int (i : Int) := by
      unfold rgV
      rw [show ((n : Int) - 0).toNat = n by omega]
      refine List.map_congr_left fun i _ => ?_
      rw [Int.zero_add]
    rw [e]
    exact nats_all⟩⟩
/-- a, b = e, e a pair -/
theorem h_asg2 {te : TE} {g1 g2 : TG} {P1 P2 : SP} (h : EvG te Γ (TuP K [P1, P2])) (s : Sat Γ σ H) (k : ∀ v1 v2 H1, Ex H H1 → P1.p v1 H1 → P2.p v2 H1 → g1 v1 σ H1 fun σ2 H2 => ∃ v r, [v2] = v :: r ∧ g2 v σ2 H2 fun σ3 H3 => r = [] ∧ D.nx σ3 H3) : tAsg te (gTup K 2 (gCons g1 (gCons g2 gNil))) D σ H :=
  h σ H _ s fun v H1 e ⟨a, vs, h1, h2, h3⟩ => by
    cases h3 with
    | cons r t =>
      cases t with
      | cons r2 t =>
        cases t
        exact ⟨a, _, h1, h2, rfl, _, _, rfl, k _ _ H1 e r r2⟩
/-! ## making an object -/
/-- what an __init__ promises: called with a new instance and arguments as Ps tells, it is an R, all else stands -/
def spMk {γ : Type} (C : Addr) (Cd : γ → Prop) (Ps : γ → List SP) (R : γ → SP) : Sp := fun vs H Q _ => ∃ (g : γ) (a dx : Addr) (ws : List V) (Hb : Hp), Cd g ∧ vs = .ref a :: ws ∧ Ob Hb H a C dx [] ∧ AllP ws (Ps g) Hb ∧ ∀ H2, Ex Hb H2 → (R g).p (.ref a) H2 → Q .non H2
theorem eg_make {γ : Type} {Cd : γ → Prop} {Qs : γ → List SP} {R : γ → SP} {t : TA} {E : XK} (g : γ) (h : EvA t Γ (Qs g)) (hc : Cd g) : EvG (StX.tMakeR C (spMk C Cd Qs R) E t) Γ (R g) := fun σ H Q s q =>
  h σ H _ s fun vs H1 e1 p1 => fun x dx nx nd hne => by
    have hx : (upd (upd H1 dx (.own x)) x (.ins C dx [])) x = some (.ins C dx []) := upd_same
    have hdx : (upd (upd H1 dx (.own x)) x (.ins C dx [])) dx = some (.own x) := by
      rw [upd_ne hne, upd_same]
    refine ⟨g, x, dx, vs, H1, hc, rfl, ⟨nx, nd, ?_, ⟨[], .inl ⟨hx, rfl⟩, fun i P hP => by simp at hP⟩, ⟨hne, fun o ho => ?_⟩, ⟨_, hdx⟩, fun i P hP => by simp at hP⟩, p1, fun H2 e2 r => ⟨rfl, q _ H2 (e1.trans e2) r⟩⟩
    · exact (Evl.Ex.new nd).trans (Evl.Ex.new (by rw [upd_ne (Ne.symm hne)]; exact nx))
    · rw [hdx] at ho
      cases ho
      rfl
theorem Ob.nones (h : Ob Hb H a C dx []) (n : Nat) : Ob Hb H a C dx (List.replicate n none) :=
  ⟨h.na, h.nd, h.ex, let ⟨vs, h1, _⟩ := h.ob; ⟨vs, h1, fun i P hP => by
    have := (List.mem_replicate.mp (List.mem_of_getElem? hP)).2
    cases this⟩, h.own, h.hd, fun i P hP => by
    have := (List.mem_replicate.mp (List.mem_of_getElem? hP)).2
    cases this⟩
theorem spMk_len {γ : Type} {Cd : γ → Prop} {Ps : γ → List SP} {R : γ → SP} {n : Nat} (h : ∀ g, (Ps g).length + 1 = n) : ∀ vs H Q E, spMk C Cd Ps R vs H Q E → vs.length = n := fun vs H Q E ⟨g, a, dx, ws, Hb, _, e, _, al, _⟩ => by
  rw [e, List.length_cons, al.len]
  exact h g
/-! ## isinstance -/
theorem eg_isi {T : String} {t : Value} {b : Bool} (h : EvG te Γ P) (ht : ∀ v H, P.p v H → TyX K H v t) (hk : PySem.W.kitOne K t (.type T) = some b) : EvG (tCB (rIsi K) (tCons te (tCons (tC (.ty T)) tNil))) Γ (Is K b) := fun σ H Q s q => h σ H _ s fun v H1 e p =>
  ⟨v, .ty T, t, .type T, b, rfl, .ty T, ht v H1 p, hk, q _ H1 e rfl⟩
theorem eg_isiT {T U : String} {t : Value} {b : Bool} (h : EvG te Γ P) (ht : ∀ v H, P.p v H → TyX K H v t) (hk : PySem.W.kitAny K t [.type T, .type U] = some b) : EvG (tCB (rIsiT K) (tCons te (tCons (tTup (tCons (tC (.ty T)) (tCons (tC (.ty U)) tNil))) tNil))) Γ (Is K b) := fun σ H Q s q => h σ H _ s fun v H1 e p =>
  ⟨by show 2 ≤ sizeLine; decide, fun a ha => ⟨v, a, [.ty T, .ty U], t, [.type T, .type U], b, rfl, upd_same, .cons (.ty T) (.cons (.ty U) .nil), ht v _ (P.mono (Evl.Ex.new ha) p), hk, q _ _ (e.trans (Evl.Ex.new ha)) rfl⟩⟩
theorem ty_int {i : Int} (v : V) (H : Hp) (h : (Is K i).p v H) : TyX K H v (.type "int") := by
  obtain rfl : v = .int i := h
  exact .base (.int i)
theorem ty_bl {b : Bool} (v : V) (H : Hp) (h : (Is K b).p v H) : TyX K H v (.type "bool") := by
  obtain rfl : v = .bl b := h
  exact .base (.bl b)
theorem ty_non (v : V) (H : Hp) (h : (Eq1 .non).p v H) : TyX K H v (.type "NoneType") := by
  obtain rfl : v = .non := h
  exact .base .non
theorem ty_tup {Ps : List SP} (v : V) (H : Hp) (h : (TuP K Ps).p v H) : TyX K H v (.type "tuple") := by
  obtain ⟨a, vs, rfl, h2, _⟩ := h
  rcases h2 with (h2 | ⟨o, h2⟩) | ⟨o, its, n, h2, h3, _⟩
  · exact .base (.tup h2)
  · exact .fTuple h2
  · exact .kTuple h2 h3
theorem kit_no {K : PySem.W.Frag} {a b c : String} (h1 : kitB a b = some false) (h2 : kitB a c = some false) : PySem.W.kitAny K (.type a) [.type b, .type c] = some false :=
  kitAny_cons (kit_ty h1) (fun _ => kitAny_cons (kit_ty h2) (fun _ => kitAny_nil) fun z => nomatch z) fun z => nomatch z
theorem kit_yes2 {K : PySem.W.Frag} {a b c : String} (h1 : kitB a b = some false) (h2 : kitB a c = some true) : PySem.W.kitAny K (.type a) [.type b, .type c] = some true :=
  kitAny_cons (kit_ty h1) (fun _ => kitAny_cons (kit_ty h2) (fun z => nomatch z) fun _ => rfl) fun z => nomatch z
end
end Lp

/-! part LpM0 -/
set_option linter.all false
/-! the plain words: loans, who can follow, who is dead -/
namespace Lp
abbrev Loans := List (Int × Int)
def ld (L : Loans) (t : Nat) : Int × Int := L.getD t (0, 0)
def gapF (L : Loans) (g t : Nat) : Int := (ld L t).1 - (ld L g).2
def canF (L : Loans) (keep : Option Int) (g t : Nat) : Bool := decide (0 ≤ gapF L g t) && (keep.isNone || decide (gapF L g t ≤ keep.getD 0))
def deadF (L : Loans) (shut : Option Int) (anew : List Int) (g t : Nat) : Bool := (shut.isSome && decide (shut.getD 0 ≤ gapF L g t)) || anew.any fun b => decide ((ld L g).1 < b) && decide (b ≤ (ld L t).1)
def givF (L : Loans) (keep : Option Int) (t : Nat) : List Nat := (List.range L.length).filter fun g => canF L keep g t
def livF (L : Loans) (keep shut : Option Int) (anew : List Int) (t : Nat) : List Nat := (givF L keep t).filter fun g => !deadF L shut anew g t
theorem ld_at {L : Loans} {t : Nat} (h : t < L.length) : L[t]? = some (ld L t) := by
  unfold ld
  rw [List.getD_eq_getElem?_getD, List.getElem?_eq_getElem h]
  rfl
structure LkD where
  L : Loans
  keep : Option Int
  shut : Option Int
  anew : List Int
end Lp
namespace Lp
/-- the pairs (taker, giver) that best() picks: the takers in order, each the one that ends first of the living givers that are free -/
inductive Greedy (x : LkD) : Nat → List (Nat × Nat) → Prop
  | zero : Greedy x 0 []
  | skip {t : Nat} {F : List (Nat × Nat)} : Greedy x t F → (∀ g, g ∈ livF x.L x.keep x.shut x.anew t → g ∈ F.map Prod.snd) → Greedy x (t + 1) F
  | take {t g : Nat} {F : List (Nat × Nat)} : Greedy x t F → g ∈ livF x.L x.keep x.shut x.anew t → g ∉ F.map Prod.snd → (∀ g', g' ∈ livF x.L x.keep x.shut x.anew t → g' ∉ F.map Prod.snd → (ld x.L g).2 ≤ (ld x.L g').2) → Greedy x (t + 1) (F ++ [(t, g)])
theorem Greedy.lt {x : LkD} {t : Nat} {F : List (Nat × Nat)} (h : Greedy x t F) : ∀ e, e ∈ F → e.1 < t := by
  induction h with
  | zero => intro e he; cases he
  | skip _ _ ih => intro e he; exact Nat.lt_succ_of_lt (ih e he)
  | take _ _ _ _ ih =>
    intro e he
    rcases List.mem_append.mp he with he | he
    · exact Nat.lt_succ_of_lt (ih e he)
    · rw [List.mem_singleton.mp he]
      exact Nat.lt_succ_self _
theorem Greedy.len {x : LkD} {t : Nat} {F : List (Nat × Nat)} (h : Greedy x t F) : F.length ≤ t := by
  induction h with
  | zero => exact Nat.le_refl _
  | skip _ _ ih => omega
  | take _ _ _ _ ih =>
    rw [List.length_append]
    simp only [List.length_cons, List.length_nil]
    omega
end Lp
namespace Lp
def dOf (L : Loans) (shut : Option Int) (anew : List Int) (lane : List (Option Nat)) (j : Nat) : Bool := match lane.getD j none with
  | none => false
  | some g => deadF L shut anew g j
def deadL (L : Loans) (shut : Option Int) (anew : List Int) (lane : List (Option Nat)) : List Nat := (List.range lane.length).filter fun j => dOf L shut anew lane j
def nones (lane : List (Option Nat)) : List (Option Nat) := lane.filter fun o => o.isNone
def paidF (L : Loans) (shut : Option Int) (anew : List Int) (dues : Int × Int) (lane : List (Option Nat)) : Int := dues.1 * ((deadL L shut anew lane).length : Int) + dues.2 * ((nones lane).length : Int)
def LaneOk (L : Loans) (lane : List (Option Nat)) : Prop := lane.length = L.length ∧ ∀ g, some g ∈ lane → g < L.length
theorem filter_any {α : Type} [DecidableEq α] (p : α → Bool) (xs : List α) : (!decide (xs.filter p = [])) = xs.any p := by
  cases h : xs.any p with
  | true =>
    obtain ⟨x, hx, hp⟩ := List.any_eq_true.mp h
    have : xs.filter p ≠ [] := List.ne_nil_of_mem (List.mem_filter.mpr ⟨hx, hp⟩)
    rw [decide_eq_false this]
    rfl
  | false =>
    have : xs.filter p = [] := List.filter_eq_nil_iff.mpr fun x hx hp => by
      have := List.any_eq_true.mpr ⟨x, hx, hp⟩
      rw [h] at this
      cases this
    rw [decide_eq_true this]
    rfl
theorem lane_at {lane : List (Option Nat)} {j : Nat} (h : j < lane.length) : lane[j]? = some (lane.getD j none) := by
  rw [List.getD_eq_getElem?_getD, List.getElem?_eq_getElem h]
  rfl
theorem lane_lt {L : Loans} {lane : List (Option Nat)} (h : LaneOk L lane) {j g : Nat} (hj : j < lane.length) (e : lane.getD j none = some g) : g < L.length := by
  refine h.2 g ?_
  have := lane_at hj
  rw [e] at this
  exact List.mem_of_getElem? this
end Lp
namespace Lp
def toldF (R : List (Int × Int)) : Int := (R.map Prod.fst).sum - (R.map Prod.snd).sum
def rt0 (R : List (Int × Int)) (j : Nat) : Int × Int := R.getD j (0, 0)
structure RatesOk (L : Loans) (keep shut : Option Int) (anew : List Int) (dues : Int × Int) (R : List (Int × Int)) : Prop where
  len : R.length = L.length
  pos : ∀ p, p ∈ R → 0 ≤ p.1 ∧ 0 ≤ p.2
  new : ∀ j, j < L.length → (rt0 R j).1 ≤ dues.2
  giv : ∀ j, j < L.length → ∀ i, i ∈ givF L keep j → (rt0 R j).1 ≤ (rt0 R i).2 + (if deadF L shut anew i j = true then dues.1 else 0)
theorem rt0_at {R : List (Int × Int)} {j : Nat} (h : j < R.length) : R[j]? = some (rt0 R j) := by
  unfold rt0
  rw [List.getD_eq_getElem?_getD, List.getElem?_eq_getElem h]
  rfl
end Lp
namespace Lp
def somes (lane : List (Option Nat)) : List Nat := (lane.filter fun o => o.isSome).map fun o => o.getD 0
structure HandOk (L : Loans) (keep : Option Int) (lane : List (Option Nat)) : Prop where
  len : lane.length = L.length
  nd : (somes lane).Nodup
  giv : ∀ j, j < L.length → ∀ g, lane.getD j none = some g → g ∈ givF L keep j
theorem mem_giv {L : Loans} {keep : Option Int} {t g : Nat} : g ∈ givF L keep t ↔ g < L.length ∧ canF L keep g t = true := by
  unfold givF
  rw [List.mem_filter, List.mem_range]
theorem HandOk.lane {L : Loans} {keep : Option Int} {lane : List (Option Nat)} (h : HandOk L keep lane) : LaneOk L lane := ⟨h.len, fun g hg => by
  obtain ⟨j, hj, e⟩ := List.mem_iff_getElem.mp hg
  refine (mem_giv.mp (h.giv j (by rw [← h.len]; exact hj) g ?_)).1
  rw [List.getD_eq_getElem?_getD, List.getElem?_eq_getElem hj, e]
  rfl⟩
end Lp

/-! part LpM1 -/
set_option linter.all false
/-! plain: cheapest handings, duality -/
namespace Lp
structure Net where
  n : Nat
  giv : Nat → List Nat
  c : Nat → Nat → Int
  N : Int
structure NetOk (E : Net) : Prop where
  lt : ∀ t g, g ∈ E.giv t → g < E.n
  c0 : ∀ g t, 0 ≤ E.c g t
  N0 : 0 ≤ E.N
abbrev Mt := List (Nat × Nat)
def cost (E : Net) (M : Mt) : Int := (M.map fun e => E.c e.1 e.2).sum
def tot (E : Net) (k : Nat) (M : Mt) : Int := cost E M + E.N * ((k : Int) - (M.length : Int))
structure MOk (E : Net) (k : Nat) (M : Mt) : Prop where
  gk : (M.map Prod.fst).Nodup
  tk : (M.map Prod.snd).Nodup
  mem : ∀ e, e ∈ M → e.1 ∈ E.giv e.2 ∧ e.2 < k
structure Feas (E : Net) (k : Nat) (u v : Nat → Int) : Prop where
  un : ∀ t, t < k → u t ≤ E.N
  v0 : ∀ g, 0 ≤ v g
  uv : ∀ t, t < k → ∀ g, g ∈ E.giv t → u t ≤ v g + E.c g t
def dual (E : Net) (k : Nat) (u v : Nat → Int) : Int := ((List.range k).map u).sum - ((List.range E.n).map v).sum
def Opt (E : Net) (k : Nat) (M : Mt) : Prop := ∃ u v, Feas E k u v ∧ dual E k u v = tot E k M
/-! sums -/
def rest (R ts : List Nat) : List Nat := R.filter fun x => decide (x ∉ ts)
theorem sum_one {f : Nat → Int} {t : Nat} : ∀ {R : List Nat}, R.Nodup → t ∈ R → (R.map f).sum = f t + ((R.filter fun x => decide (x ≠ t)).map f).sum
  | [], _, h => by cases h
  | r :: R, hn, h => by
    obtain ⟨h1, h2⟩ := List.nodup_cons.mp hn
    rcases List.mem_cons.mp h with e | h
    · subst e
      have e2 : (R.filter fun x => decide (x ≠ t)) = R := List.filter_eq_self.mpr fun x hx => decide_eq_true fun e => h1 (e ▸ hx)
      rw [List.filter_cons, if_neg (by simp), e2]
      rfl
    · have hne : r ≠ t := fun e => h1 (e ▸ h)
      have ih := sum_one (f := f) h2 h
      rw [List.filter_cons, if_pos (decide_eq_true hne)]
      simp only [List.map_cons, List.sum_cons]
      omega
theorem sum_split {f : Nat → Int} : ∀ {ts R : List Nat}, R.Nodup → ts.Nodup → (∀ t, t ∈ ts → t ∈ R) → (R.map f).sum = (ts.map f).sum + ((rest R ts).map f).sum
  | [], R, hR, _, _ => by
    have e : rest R [] = R := List.filter_eq_self.mpr fun x _ => by simp
    rw [e]
    simp
  | t :: ts, R, hR, hn, h => by
    obtain ⟨h1, h2⟩ := List.nodup_cons.mp hn
    have ih := sum_split (f := f) hR h2 fun s hs => h s (List.mem_cons_of_mem _ hs)
    have h3 : t ∈ rest R ts := List.mem_filter.mpr ⟨h t List.mem_cons_self, decide_eq_true h1⟩
    have h4 : (rest R ts).Nodup := hR.filter _
    have h5 := sum_one (f := f) h4 h3
    have h6 : ((rest R ts).filter fun x => decide (x ≠ t)) = rest R (t :: ts) := by
      unfold rest
      rw [List.filter_filter]
      refine List.filter_congr fun x _ => ?_
      by_cases e : x = t
      · subst e; simp
      · by_cases e2 : x ∈ ts <;> simp [e, e2]
    rw [h6] at h5
    simp only [List.map_cons, List.sum_cons]
    omega
theorem len_split {ts R : List Nat} (hR : R.Nodup) (hn : ts.Nodup) (h : ∀ t, t ∈ ts → t ∈ R) : R.length = ts.length + (rest R ts).length := by
  have e := sum_split (f := fun _ => 1) hR hn h
  have c : ∀ l : List Nat, (l.map fun _ => (1 : Int)).sum = (l.length : Int) := fun l => by
    induction l with
    | nil => rfl
    | cons a l ih => simp only [List.map_cons, List.sum_cons, List.length_cons]; omega
  rw [c, c, c] at e
  omega
theorem sum_sub {α : Type} {a b : α → Int} : ∀ l : List α, (l.map fun x => a x - b x).sum = (l.map a).sum - (l.map b).sum
  | [] => rfl
  | x :: l => by
    have := sum_sub (a := a) (b := b) l
    simp only [List.map_cons, List.sum_cons]
    omega
theorem sum_add {α : Type} {a b : α → Int} : ∀ l : List α, (l.map fun x => a x + b x).sum = (l.map a).sum + (l.map b).sum
  | [] => rfl
  | x :: l => by
    have := sum_add (a := a) (b := b) l
    simp only [List.map_cons, List.sum_cons]
    omega
theorem sum_const {α : Type} {N : Int} : ∀ l : List α, (l.map fun _ => N).sum = N * (l.length : Int)
  | [] => by simp
  | x :: l => by
    have := sum_const (N := N) l
    simp only [List.map_cons, List.sum_cons, List.length_cons]
    rw [this, Int.natCast_add, Int.mul_add]
    omega
theorem sum_nn {α : Type} {f : α → Int} : ∀ l : List α, (∀ x, x ∈ l → 0 ≤ f x) → 0 ≤ (l.map f).sum
  | [], _ => Int.le_refl _
  | x :: l, h => by
    have h1 := h x List.mem_cons_self
    have h2 := sum_nn l fun y hy => h y (List.mem_cons_of_mem _ hy)
    simp only [List.map_cons, List.sum_cons]
    omega
theorem sum_zero {α : Type} {f : α → Int} : ∀ l : List α, (∀ x, x ∈ l → 0 ≤ f x) → (l.map f).sum ≤ 0 → ∀ x, x ∈ l → f x = 0
  | [], _, _, x, hx => by cases hx
  | y :: l, h, hs, x, hx => by
    have h1 := h y List.mem_cons_self
    have h2 := sum_nn l fun y hy => h y (List.mem_cons_of_mem _ hy)
    simp only [List.map_cons, List.sum_cons] at hs
    rcases List.mem_cons.mp hx with e | hx
    · rw [e]; omega
    · exact sum_zero l (fun y hy => h y (List.mem_cons_of_mem _ hy)) (by omega) x hx
/-! duality -/
section
variable {E : Net} {k : Nat} {M : Mt} {u v : Nat → Int}
def gapA (E : Net) (M : Mt) (u v : Nat → Int) : Int := (M.map fun e => v e.1 + E.c e.1 e.2 - u e.2).sum
def gapB (E : Net) (k : Nat) (M : Mt) (u : Nat → Int) : Int := ((rest (List.range k) (M.map Prod.snd)).map fun t => E.N - u t).sum
def gapC (E : Net) (M : Mt) (v : Nat → Int) : Int := ((rest (List.range E.n) (M.map Prod.fst)).map v).sum
theorem gap_id (hE : NetOk E) (hM : MOk E k M) : tot E k M - dual E k u v = gapA E M u v + gapB E k M u + gapC E M v := by
  have s1 := sum_split (f := u) (List.nodup_range (n := k)) hM.tk fun t ht => by
    obtain ⟨e, he, rfl⟩ := List.mem_map.mp ht
    exact List.mem_range.mpr (hM.mem e he).2
  have s2 := sum_split (f := v) (List.nodup_range (n := E.n)) hM.gk fun t ht => by
    obtain ⟨e, he, rfl⟩ := List.mem_map.mp ht
    exact List.mem_range.mpr (hE.lt _ _ (hM.mem e he).1)
  have s3 := len_split (List.nodup_range (n := k)) hM.tk fun t ht => by
    obtain ⟨e, he, rfl⟩ := List.mem_map.mp ht
    exact List.mem_range.mpr (hM.mem e he).2
  rw [List.length_range, List.length_map] at s3
  have a1 : gapA E M u v = (M.map fun e => v e.1).sum + cost E M - (M.map fun e => u e.2).sum := by
    unfold gapA cost
    rw [sum_sub (a := fun e : Nat × Nat => v e.1 + E.c e.1 e.2) (b := fun e => u e.2), sum_add (a := fun e : Nat × Nat => v e.1) (b := fun e => E.c e.1 e.2)]
  have b1 : gapB E k M u = E.N * ((rest (List.range k) (M.map Prod.snd)).length : Int) - ((rest (List.range k) (M.map Prod.snd)).map u).sum := by
    unfold gapB
    rw [sum_sub (a := fun _ => E.N) (b := u), sum_const]
  have e1 : (M.map fun e => u e.2) = (M.map Prod.snd).map u := by rw [List.map_map]; rfl
  have e2 : (M.map fun e => v e.1) = (M.map Prod.fst).map v := by rw [List.map_map]; rfl
  rw [e1, e2] at a1
  have e3 : ((k : Int) - (M.length : Int)) = ((rest (List.range k) (M.map Prod.snd)).length : Int) := by omega
  unfold tot dual
  rw [e3, a1, b1]
  unfold gapC
  omega
theorem gap_nn (hM : MOk E k M) (hf : Feas E k u v) : 0 ≤ gapA E M u v ∧ 0 ≤ gapB E k M u ∧ 0 ≤ gapC E M v :=
  ⟨sum_nn _ fun e he => by
    obtain ⟨h1, h2⟩ := hM.mem e he
    have := hf.uv e.2 h2 e.1 h1
    omega, sum_nn _ fun t ht => by
    have := hf.un t (List.mem_range.mp (List.mem_filter.mp ht).1)
    omega, sum_nn _ fun g _ => hf.v0 g⟩
theorem weak (hE : NetOk E) (hM : MOk E k M) (hf : Feas E k u v) : dual E k u v ≤ tot E k M := by
  have h := gap_id (u := u) (v := v) hE hM
  obtain ⟨h1, h2, h3⟩ := gap_nn hM hf
  omega
structure CS (E : Net) (k : Nat) (M : Mt) (u v : Nat → Int) : Prop where
  m : ∀ e, e ∈ M → u e.2 = v e.1 + E.c e.1 e.2
  t : ∀ t, t < k → t ∉ M.map Prod.snd → u t = E.N
  g : ∀ g, g < E.n → g ∉ M.map Prod.fst → v g = 0
theorem slack (hE : NetOk E) (hM : MOk E k M) (hf : Feas E k u v) (he : dual E k u v = tot E k M) : CS E k M u v := by
  have h := gap_id (u := u) (v := v) hE hM
  obtain ⟨h1, h2, h3⟩ := gap_nn hM hf
  refine ⟨fun e hm => ?_, fun t ht hn => ?_, fun g hg hn => ?_⟩
  · have := sum_zero (f := fun e : Nat × Nat => v e.1 + E.c e.1 e.2 - u e.2) M (fun e he => by
      obtain ⟨h1, h2⟩ := hM.mem e he
      have := hf.uv e.2 h2 e.1 h1
      omega) (by show gapA E M u v ≤ 0; omega) e hm
    omega
  · have := sum_zero (f := fun t => E.N - u t) (rest (List.range k) (M.map Prod.snd)) (fun t ht => by
      have := hf.un t (List.mem_range.mp (List.mem_filter.mp ht).1)
      omega) (by show gapB E k M u ≤ 0; omega) t (List.mem_filter.mpr ⟨List.mem_range.mpr ht, decide_eq_true hn⟩)
    omega
  · exact sum_zero (f := v) (rest (List.range E.n) (M.map Prod.fst)) (fun g _ => hf.v0 g) (by show gapC E M v ≤ 0; omega) g (List.mem_filter.mpr ⟨List.mem_range.mpr hg, decide_eq_true hn⟩)
/-- none is cheaper -/
theorem Opt.least (hE : NetOk E) (ho : Opt E k M) {M' : Mt} (hM' : MOk E k M') : tot E k M ≤ tot E k M' := by
  obtain ⟨u, v, hf, e⟩ := ho
  rw [← e]
  exact weak hE hM' hf
/-- from slackness back to the totals -/
theorem of_slack (hE : NetOk E) (hM : MOk E k M) (h1 : ∀ e, e ∈ M → u e.2 = v e.1 + E.c e.1 e.2) (h2 : ∀ t, t < k → t ∉ M.map Prod.snd → u t = E.N) (h3 : ∀ g, g < E.n → g ∉ M.map Prod.fst → v g = 0) : dual E k u v = tot E k M := by
  have h := gap_id (u := u) (v := v) hE hM
  have z : ∀ {α : Type} (f : α → Int) (l : List α), (∀ x, x ∈ l → f x = 0) → (l.map f).sum = 0 := fun f l hl => by
    induction l with
    | nil => rfl
    | cons x l ih =>
      have a := hl x List.mem_cons_self
      have b := ih fun y hy => hl y (List.mem_cons_of_mem _ hy)
      simp only [List.map_cons, List.sum_cons]
      omega
  have a : gapA E M u v = 0 := z _ _ fun e he => by
    have := h1 e he
    show v e.1 + E.c e.1 e.2 - u e.2 = 0
    omega
  have b : gapB E k M u = 0 := z _ _ fun t ht => by
    obtain ⟨p, q⟩ := List.mem_filter.mp ht
    have := h2 t (List.mem_range.mp p) (of_decide_eq_true q)
    show E.N - u t = 0
    omega
  have c : gapC E M v = 0 := z _ _ fun g hg => by
    obtain ⟨p, q⟩ := List.mem_filter.mp hg
    exact h3 g (List.mem_range.mp p) (of_decide_eq_true q)
  omega
end
end Lp
namespace Lp
def netF (x : LkD) (dues : Int × Int) : Net := ⟨x.L.length, fun t => givF x.L x.keep t, fun g t => if deadF x.L x.shut x.anew g t = true then dues.1 else 0, dues.2⟩
theorem net_ok {x : LkD} {dues : Int × Int} (h1 : 0 ≤ dues.1) (h2 : 0 ≤ dues.2) : NetOk (netF x dues) := ⟨fun t g h => List.mem_range.mp (List.mem_filter.mp h).1, fun g t => by
  show 0 ≤ if deadF x.L x.shut x.anew g t = true then dues.1 else 0
  split <;> omega, h2⟩
theorem net_x {x : LkD} {dues : Int × Int} (h1 : 0 ≤ dues.1) (g t : Nat) : (netF x dues).c g t ≤ dues.1 := by
  show (if deadF x.L x.shut x.anew g t = true then dues.1 else 0) ≤ dues.1
  split <;> omega
/-- M's taker of g, or z -/
def getM (M : Mt) (g z : Nat) : Nat := match M.find? fun e => decide (e.1 = g) with
  | some e => e.2
  | none => z
end Lp

/-! part LpM2 -/
set_option linter.all false
/-! plain: the ways of a new taker, and what its place costs -/
namespace Lp
def putM (m : Mt) (g t : Nat) : Mt := if m.any (fun e => decide (e.1 = g)) = true then m.map (fun e => if e.1 = g then (e.1, t) else e) else m ++ [(g, t)]
def updM (m : Mt) (way : Mt) : Mt := way.foldl (fun m e => putM m e.1 e.2) m
theorem any_key {m : Mt} {g : Nat} : m.any (fun e => decide (e.1 = g)) = true ↔ g ∈ m.map Prod.fst := by
  rw [List.any_eq_true]
  constructor
  · rintro ⟨e, he, h⟩
    exact List.mem_map.mpr ⟨e, he, of_decide_eq_true h⟩
  · intro h
    obtain ⟨e, he, h⟩ := List.mem_map.mp h
    exact ⟨e, he, decide_eq_true h⟩
theorem putM_new {m : Mt} {g t : Nat} (h : g ∉ m.map Prod.fst) : putM m g t = m ++ [(g, t)] := by
  unfold putM
  rw [if_neg fun z => h (any_key.mp z)]
theorem putM_old {m : Mt} {g t : Nat} (h : g ∈ m.map Prod.fst) : putM m g t = m.map (fun e => if e.1 = g then (e.1, t) else e) := by
  unfold putM
  rw [if_pos (any_key.mpr h)]
theorem putM_keys {m : Mt} {g t : Nat} (h : g ∈ m.map Prod.fst) : (putM m g t).map Prod.fst = m.map Prod.fst := by
  rw [putM_old h, List.map_map]
  refine List.map_congr_left fun e _ => ?_
  show (if e.1 = g then (e.1, t) else e).1 = e.1
  by_cases h : e.1 = g <;> simp [h]
theorem putM_len {m : Mt} {g t : Nat} (h : g ∈ m.map Prod.fst) : (putM m g t).length = m.length := by
  rw [putM_old h, List.length_map]
theorem key_eq {m : Mt} (hk : (m.map Prod.fst).Nodup) {a b : Nat × Nat} (ha : a ∈ m) (hb : b ∈ m) (e : a.1 = b.1) : a = b := by
  induction m with
  | nil => cases ha
  | cons x m ih =>
    obtain ⟨h1, h2⟩ := List.nodup_cons.mp (show (x.1 :: m.map Prod.fst).Nodup from hk)
    rcases List.mem_cons.mp ha with e1 | ha
    · rcases List.mem_cons.mp hb with e2 | hb
      · rw [e1, e2]
      · exact absurd (List.mem_map.mpr ⟨b, hb, by rw [← e, e1]⟩) h1
    · rcases List.mem_cons.mp hb with e2 | hb
      · exact absurd (List.mem_map.mpr ⟨a, ha, by rw [e, e2]⟩) h1
      · exact ih h2 ha hb
theorem val_eq {m : Mt} (hk : (m.map Prod.snd).Nodup) {a b : Nat × Nat} (ha : a ∈ m) (hb : b ∈ m) (e : a.2 = b.2) : a = b := by
  induction m with
  | nil => cases ha
  | cons x m ih =>
    obtain ⟨h1, h2⟩ := List.nodup_cons.mp (show (x.2 :: m.map Prod.snd).Nodup from hk)
    rcases List.mem_cons.mp ha with e1 | ha
    · rcases List.mem_cons.mp hb with e2 | hb
      · rw [e1, e2]
      · exact absurd (List.mem_map.mpr ⟨b, hb, by rw [← e, e1]⟩) h1
    · rcases List.mem_cons.mp hb with e2 | hb
      · exact absurd (List.mem_map.mpr ⟨a, ha, by rw [e, e2]⟩) h1
      · exact ih h2 ha hb
theorem putM_mem {m : Mt} {g t : Nat} (h : g ∈ m.map Prod.fst) {e : Nat × Nat} : e ∈ putM m g t ↔ (e.1 ≠ g ∧ e ∈ m) ∨ e = (g, t) := by
  rw [putM_old h]
  constructor
  · intro he
    obtain ⟨x, hx, rfl⟩ := List.mem_map.mp he
    by_cases hg : x.1 = g
    · right
      rw [if_pos hg, hg]
    · left
      rw [if_neg hg]
      exact ⟨hg, hx⟩
  · rintro (⟨h1, h2⟩ | rfl)
    · exact List.mem_map.mpr ⟨e, h2, by rw [if_neg h1]⟩
    · obtain ⟨x, hx, e⟩ := List.mem_map.mp h
      exact List.mem_map.mpr ⟨x, hx, by rw [if_pos e, e]⟩
theorem putM_cost {E : Net} {m : Mt} {g o t : Nat} (hk : (m.map Prod.fst).Nodup) (h : (g, o) ∈ m) : cost E (putM m g t) = cost E m - E.c g o + E.c g t := by
  rw [putM_old (List.mem_map.mpr ⟨_, h, rfl⟩)]
  unfold cost
  rw [List.map_map]
  induction m with
  | nil => cases h
  | cons x m ih =>
    obtain ⟨h1, h2⟩ := List.nodup_cons.mp (show (x.1 :: m.map Prod.fst).Nodup from hk)
    simp only [List.map_cons, List.sum_cons, Function.comp]
    rcases List.mem_cons.mp h with e | h
    · subst e
      have e2 : (m.map fun x => E.c (if x.1 = g then (x.1, t) else x).1 (if x.1 = g then (x.1, t) else x).2) = m.map fun e => E.c e.1 e.2 := List.map_congr_left fun x hx => by
        have : x.1 ≠ g := fun e => h1 (List.mem_map.mpr ⟨x, hx, e⟩)
        rw [if_neg this]
      have e3 : (m.map ((fun e : Nat × Nat => E.c e.1 e.2) ∘ fun e => if e.1 = g then (e.1, t) else e)) = m.map fun e => E.c e.1 e.2 := e2
      rw [if_pos rfl]
      rw [e3]
      show E.c g t + (m.map fun e => E.c e.1 e.2).sum = E.c g o + (m.map fun e => E.c e.1 e.2).sum - E.c g o + E.c g t
      omega
    · have hx : x.1 ≠ g := fun e => h1 (List.mem_map.mpr ⟨_, h, e.symm⟩)
      have := ih h2 h
      rw [if_neg hx]
      simp only [Function.comp] at this
      omega
theorem putM_vals {m : Mt} {g t : Nat} (hk : (m.map Prod.fst).Nodup) (hv : (m.map Prod.snd).Nodup) (h : g ∈ m.map Prod.fst) (ht : t ∉ m.map Prod.snd) : ((putM m g t).map Prod.snd).Nodup := by
  rw [putM_old h, List.map_map]
  have hp : m.Pairwise fun a b => a.1 ≠ b.1 ∧ a.2 ≠ b.2 := by
    have p1 : m.Pairwise fun a b => a.1 ≠ b.1 := List.pairwise_map.mp hk
    have p2 : m.Pairwise fun a b => a.2 ≠ b.2 := List.pairwise_map.mp hv
    exact List.Pairwise.and p1 p2
  refine List.pairwise_map.mpr (List.Pairwise.imp_of_mem (fun {a b} ha hb hab => ?_) hp)
  show (if a.1 = g then (a.1, t) else a).2 ≠ (if b.1 = g then (b.1, t) else b).2
  by_cases h1 : a.1 = g
  · have h2 : b.1 ≠ g := fun e => hab.1 (h1.trans e.symm)
    rw [if_pos h1, if_neg h2]
    exact fun e => ht (List.mem_map.mpr ⟨b, hb, e.symm⟩)
  · by_cases h2 : b.1 = g
    · rw [if_neg h1, if_pos h2]
      exact fun e => ht (List.mem_map.mpr ⟨a, ha, e⟩)
    · rw [if_neg h1, if_neg h2]
      exact hab.2
/-! ways -/
section
variable {E : Net} {M : Mt} {k : Nat}
inductive Way (E : Net) (M : Mt) (k : Nat) : Nat → Int → Mt → Prop
  | nil : Way E M k k 0 []
  | step {one g other : Nat} {cost : Int} {way : Mt} : Way E M k one cost way → g ∈ E.giv one → (g, other) ∈ M → other ≠ one → other ∉ way.map Prod.snd → Way E M k other (cost + E.c g one - E.c g other) (way ++ [(g, one)])
theorem updM_snoc {m way : Mt} {e : Nat × Nat} : updM m (way ++ [e]) = putM (updM m way) e.1 e.2 := by
  unfold updM
  rw [List.foldl_append]
  rfl
structure Along (E : Net) (M : Mt) (k j : Nat) (d : Int) (way M' : Mt) : Prop where
  keys : M'.map Prod.fst = M.map Prod.fst
  vals : (M'.map Prod.snd).Nodup
  mv : ∀ t, t ∈ M'.map Prod.snd ↔ (t ∈ M.map Prod.snd ∨ t = k) ∧ t ≠ j
  giv : ∀ e, e ∈ M' → e.1 ∈ E.giv e.2
  cost : cost E M' = cost E M + d
  stay : ∀ e, e ∈ M → e.2 ∉ way.map Prod.snd → e.2 ≠ j → e ∈ M'
theorem Way.along (hM : MOk E k M) {j : Nat} {d : Int} {way : Mt} (h : Way E M k j d way) : Along E M k j d way (updM M way) := by
  have hk : k ∉ M.map Prod.snd := fun z => by
    obtain ⟨e, he, rfl⟩ := List.mem_map.mp z
    exact absurd (hM.mem e he).2 (Nat.lt_irrefl _)
  induction h with
  | nil =>
    refine ⟨rfl, hM.tk, fun t => ⟨fun h => ⟨.inl h, fun e => hk (e ▸ h)⟩, fun ⟨h1, h2⟩ => h1.resolve_right h2⟩, fun e he => (hM.mem e he).1, ?_, fun e he _ _ => he⟩
    show Lp.cost E M = Lp.cost E M + 0
    omega
  | @step one g other d way hw hg hm hne hnew ih =>
    rw [updM_snoc]
    have hmem : (g, other) ∈ updM M way := ih.stay _ hm hnew hne
    have hgk : g ∈ (updM M way).map Prod.fst := List.mem_map.mpr ⟨_, hmem, rfl⟩
    have hkk : ((updM M way).map Prod.fst).Nodup := by rw [ih.keys]; exact hM.gk
    have hone : one ∉ (updM M way).map Prod.snd := fun z => ((ih.mv one).mp z).2 rfl
    refine ⟨(putM_keys hgk).trans ih.keys, putM_vals hkk ih.vals hgk hone, fun t => ?_, fun e he => ?_, ?_, fun e he h1 h2 => ?_⟩
    · constructor
      · intro ht
        obtain ⟨e, he, rfl⟩ := List.mem_map.mp ht
        rcases (putM_mem hgk).mp he with ⟨h1, h2⟩ | rfl
        · obtain ⟨h3, h4⟩ := (ih.mv e.2).mp (List.mem_map.mpr ⟨e, h2, rfl⟩)
          refine ⟨h3, fun z => h1 ?_⟩
          have := val_eq ih.vals h2 hmem z
          rw [this]
        · refine ⟨?_, Ne.symm hne⟩
          show one ∈ _ ∨ one = k
          cases hw with
          | nil => exact .inr rfl
          | step _ _ hm' _ _ => exact .inl (List.mem_map.mpr ⟨_, hm', rfl⟩)
      · rintro ⟨h1, h2⟩
        by_cases ht : t = one
        · rw [ht]
          exact List.mem_map.mpr ⟨(g, one), (putM_mem hgk).mpr (.inr rfl), rfl⟩
        · obtain ⟨e, he, e2⟩ := List.mem_map.mp ((ih.mv t).mpr ⟨h1, ht⟩)
          refine List.mem_map.mpr ⟨e, (putM_mem hgk).mpr (.inl ⟨fun z => h2 ?_, he⟩), e2⟩
          have := key_eq hkk he hmem z
          rw [← e2, this]
    · rcases (putM_mem hgk).mp he with ⟨_, h2⟩ | rfl
      · exact ih.giv e h2
      · exact hg
    · have := putM_cost (E := E) (t := one) hkk hmem
      rw [ih.cost] at this
      show Lp.cost E (putM (updM M way) g one) = _
      omega
    · rw [List.map_append] at h1
      have h3 : e.2 ∉ way.map Prod.snd := fun z => h1 (List.mem_append_left _ z)
      have h4 : e.2 ≠ one := fun z => h1 (List.mem_append_right _ (by rw [z]; exact List.mem_cons_self))
      refine (putM_mem hgk).mpr (.inl ⟨fun z => h2 ?_, ih.stay e he h3 h4⟩)
      have := key_eq hM.gk he hm z
      rw [this]
theorem Way.le (hM : MOk E k M) {j : Nat} {d : Int} {way : Mt} (h : Way E M k j d way) : j ≤ k := by
  cases h with
  | nil => exact Nat.le_refl _
  | step _ _ hm _ _ => exact Nat.le_of_lt (hM.mem _ hm).2
/-- the taker j stays without; or the free giver g gives to it -/
theorem Way.end1 (hM : MOk E k M) {j : Nat} {d : Int} {way : Mt} (h : Way E M k j d way) : MOk E (k + 1) (updM M way) ∧ tot E (k + 1) (updM M way) = tot E k M + (d + E.N) := by
  have a := h.along hM
  refine ⟨⟨by rw [a.keys]; exact hM.gk, a.vals, fun e he => ⟨a.giv e he, ?_⟩⟩, ?_⟩
  · rcases ((a.mv e.2).mp (List.mem_map.mpr ⟨e, he, rfl⟩)).1 with h | h
    · obtain ⟨x, hx, e2⟩ := List.mem_map.mp h
      have := (hM.mem x hx).2
      omega
    · omega
  · have hl : (updM M way).length = M.length := by
      have := congrArg List.length a.keys
      rwa [List.length_map, List.length_map] at this
    unfold tot
    rw [a.cost, hl]
    have : ((k + 1 : Nat) : Int) - (M.length : Int) = ((k : Int) - (M.length : Int)) + 1 := by omega
    rw [this, Int.mul_add, Int.mul_one]
    omega
theorem Way.end2 (hM : MOk E k M) {j g : Nat} {d : Int} {way : Mt} (h : Way E M k j d way) (hg : g ∈ E.giv j) (hf : g ∉ M.map Prod.fst) : MOk E (k + 1) (updM M (way ++ [(g, j)])) ∧ tot E (k + 1) (updM M (way ++ [(g, j)])) = tot E k M + (d + E.c g j) := by
  have a := h.along hM
  have hf2 : g ∉ (updM M way).map Prod.fst := by rw [a.keys]; exact hf
  have hj : j ∉ (updM M way).map Prod.snd := fun z => ((a.mv j).mp z).2 rfl
  rw [updM_snoc, putM_new hf2]
  obtain ⟨b1, b2⟩ := h.end1 hM
  have hl : (updM M way).length = M.length := by
    have := congrArg List.length a.keys
    rwa [List.length_map, List.length_map] at this
  refine ⟨⟨?_, ?_, fun e he => ?_⟩, ?_⟩
  · rw [List.map_append]
    exact List.nodup_append.mpr ⟨b1.gk, by simp, fun x hx y hy e => hf2 (by
      have : y = g := List.mem_singleton.mp hy
      rw [← this, ← e]
      exact hx)⟩
  · rw [List.map_append]
    exact List.nodup_append.mpr ⟨b1.tk, by simp, fun x hx y hy e => hj (by
      have : y = j := List.mem_singleton.mp hy
      rw [← this, ← e]
      exact hx)⟩
  · rcases List.mem_append.mp he with he | he
    · exact b1.mem e he
    · rw [List.mem_singleton.mp he]
      exact ⟨hg, Nat.lt_succ_of_le (h.le hM)⟩
  · have hc : cost E (updM M way ++ [(g, j)]) = cost E (updM M way) + E.c g j := by
      unfold cost
      rw [List.map_append, List.sum_append]
      simp
    unfold tot
    rw [hc, a.cost, List.length_append, hl]
    have : ((k + 1 : Nat) : Int) - ((M.length + [(g, j)].length : Nat) : Int) = (k : Int) - (M.length : Int) := by
      simp only [List.length_cons, List.length_nil]
      omega
    rw [this]
    omega
end
end Lp
namespace Lp
theorem Way.nodes {E : Net} {M : Mt} {k j : Nat} {d : Int} {way : Mt} (hM : MOk E k M) (h : Way E M k j d way) : (way.map Prod.snd).Nodup ∧ (∀ t, t ∈ way.map Prod.snd → t ≤ k) ∧ j ∉ way.map Prod.snd := by
  induction h with
  | nil => exact ⟨List.nodup_nil, (fun t ht => by cases ht), (fun h => by cases h)⟩
  | @step one g other d way hw hg hm hne hnew ih =>
    obtain ⟨h1, h2, h3⟩ := ih
    rw [List.map_append]
    refine ⟨List.nodup_append.mpr ⟨h1, by simp, fun a ha b hb e => h3 (by
      have : b = one := List.mem_singleton.mp hb
      rw [← this, ← e]
      exact ha)⟩, fun t ht => ?_, fun h => ?_⟩
    · rcases List.mem_append.mp ht with h | h
      · exact h2 t h
      · rw [List.mem_singleton.mp h]
        exact hw.le hM
    · rcases List.mem_append.mp h with h | h
      · exact hnew h
      · exact hne (List.mem_singleton.mp h)
theorem Way.alen {E : Net} {M : Mt} {k j : Nat} {d : Int} {way : Mt} (hM : MOk E k M) (h : Way E M k j d way) : way.length ≤ k + 1 := by
  obtain ⟨h1, h2, _⟩ := h.nodes hM
  have := len_split (List.nodup_range (n := k + 1)) h1 fun t ht => List.mem_range.mpr (Nat.lt_succ_of_le (h2 t ht))
  rw [List.length_range, List.length_map] at this
  omega
end Lp

/-! part LpM3 -/
set_option linter.all false
/-! plain: what ways() has found, its turns, and the place that follows -/
namespace Lp
abbrev Fn := List (Nat × Int × Mt)
def putF (F : Fn) (j : Nat) (x : Int × Mt) : Fn := if F.any (fun e => decide (e.1 = j)) = true then F.map (fun e => if e.1 = j then (e.1, x) else e) else F ++ [(j, x)]
theorem any_keyF {m : Fn} {g : Nat} : m.any (fun e => decide (e.1 = g)) = true ↔ g ∈ m.map Prod.fst := by
  rw [List.any_eq_true]
  constructor
  · rintro ⟨e, he, h⟩
    exact List.mem_map.mpr ⟨e, he, of_decide_eq_true h⟩
  · intro h
    obtain ⟨e, he, h⟩ := List.mem_map.mp h
    exact ⟨e, he, decide_eq_true h⟩
theorem putF_new {m : Fn} {g : Nat} {x : Int × Mt} (h : g ∉ m.map Prod.fst) : putF m g x = m ++ [(g, x)] := by
  unfold putF
  rw [if_neg fun z => h (any_keyF.mp z)]
theorem putF_old {m : Fn} {g : Nat} {x : Int × Mt} (h : g ∈ m.map Prod.fst) : putF m g x = m.map (fun e => if e.1 = g then (e.1, x) else e) := by
  unfold putF
  rw [if_pos (any_keyF.mpr h)]
theorem putF_mem {m : Fn} {g : Nat} {x : Int × Mt} {e : Nat × Int × Mt} : e ∈ putF m g x ↔ (e.1 ≠ g ∧ e ∈ m) ∨ e = (g, x) := by
  by_cases h : g ∈ m.map Prod.fst
  · rw [putF_old h]
    constructor
    · intro he
      obtain ⟨y, hy, rfl⟩ := List.mem_map.mp he
      by_cases hg : y.1 = g
      · right
        rw [if_pos hg, hg]
      · left
        rw [if_neg hg]
        exact ⟨hg, hy⟩
    · rintro (⟨h1, h2⟩ | rfl)
      · exact List.mem_map.mpr ⟨e, h2, by rw [if_neg h1]⟩
      · obtain ⟨y, hy, e⟩ := List.mem_map.mp h
        exact List.mem_map.mpr ⟨y, hy, by rw [if_pos e, e]⟩
  · rw [putF_new h, List.mem_append, List.mem_singleton]
    constructor
    · rintro (h1 | h1)
      · exact .inl ⟨fun z => h (List.mem_map.mpr ⟨e, h1, z⟩), h1⟩
      · exact .inr h1
    · rintro (⟨_, h1⟩ | h1)
      · exact .inl h1
      · exact .inr h1
theorem putF_nd {m : Fn} {g : Nat} {x : Int × Mt} (hk : (m.map Prod.fst).Nodup) : ((putF m g x).map Prod.fst).Nodup := by
  by_cases h : g ∈ m.map Prod.fst
  · have : (putF m g x).map Prod.fst = m.map Prod.fst := by
      rw [putF_old h, List.map_map]
      refine List.map_congr_left fun e _ => ?_
      show (if e.1 = g then (e.1, x) else e).1 = e.1
      by_cases h : e.1 = g <;> simp [h]
    rw [this]
    exact hk
  · rw [putF_new h, List.map_append]
    exact List.nodup_append.mpr ⟨hk, by simp, fun a ha b hb e => h (by
      have : b = g := List.mem_singleton.mp hb
      rw [← this, ← e]
      exact ha)⟩
theorem putF_len {m : Fn} {g : Nat} {x : Int × Mt} : (putF m g x).length = if g ∈ m.map Prod.fst then m.length else m.length + 1 := by
  by_cases h : g ∈ m.map Prod.fst
  · rw [putF_old h, if_pos h, List.length_map]
  · rw [putF_new h, if_neg h, List.length_append]
    rfl
theorem keyF_eq {m : Fn} (hk : (m.map Prod.fst).Nodup) {a b : Nat × Int × Mt} (ha : a ∈ m) (hb : b ∈ m) (e : a.1 = b.1) : a = b := by
  induction m with
  | nil => cases ha
  | cons x m ih =>
    obtain ⟨h1, h2⟩ := List.nodup_cons.mp (show (x.1 :: m.map Prod.fst).Nodup from hk)
    rcases List.mem_cons.mp ha with e1 | ha
    · rcases List.mem_cons.mp hb with e2 | hb
      · rw [e1, e2]
      · exact absurd (List.mem_map.mpr ⟨b, hb, by rw [← e, e1]⟩) h1
    · rcases List.mem_cons.mp hb with e2 | hb
      · exact absurd (List.mem_map.mpr ⟨a, ha, by rw [e, e2]⟩) h1
      · exact ih h2 ha hb
def fd (F : Fn) (j : Nat) : Option (Int × Mt) := (F.find? fun e => decide (e.1 = j)).map (·.2)
theorem fd_some {F : Fn} (hk : (F.map Prod.fst).Nodup) {j : Nat} {x : Int × Mt} : fd F j = some x ↔ (j, x) ∈ F := by
  unfold fd
  constructor
  · intro h
    obtain ⟨e, he, rfl⟩ := Option.map_eq_some_iff.mp h
    have h1 : e.1 = j := by simpa using List.find?_some he
    have h2 := List.mem_of_find?_eq_some he
    rw [← h1]
    exact h2
  · intro h
    cases h1 : F.find? fun e => decide (e.1 = j) with
    | none => exact absurd (decide_eq_true rfl) (List.find?_eq_none.mp h1 _ h)
    | some e =>
      have h2 : e.1 = j := by simpa using List.find?_some h1
      have h3 := keyF_eq hk (List.mem_of_find?_eq_some h1) h h2
      rw [h3]
      rfl
theorem fd_none {F : Fn} {j : Nat} : fd F j = none ↔ j ∉ F.map Prod.fst := by
  unfold fd
  rw [Option.map_eq_none_iff, List.find?_eq_none]
  constructor
  · intro h z
    obtain ⟨e, he, e2⟩ := List.mem_map.mp z
    exact h e he (decide_eq_true e2)
  · intro h e he z
    exact h (List.mem_map.mpr ⟨e, he, of_decide_eq_true z⟩)
/-! the invariant -/
structure Cx (E : Net) (M : Mt) (k : Nat) (u v : Nat → Int) (X : Int) : Prop where
  e : NetOk E
  m : MOk E k M
  f : Feas E k u v
  s : CS E k M u v
  x : ∀ g t, E.c g t ≤ X
def Up (u : Nat → Int) (k j : Nat) : Int := if j = k then 0 else u j
section
variable {E : Net} {M : Mt} {k : Nat} {u v : Nat → Int} {X : Int}
theorem Up.kk : Up u k k = 0 := if_pos rfl
theorem Up.lt {j : Nat} (h : j < k) : Up u k j = u j := if_neg (Nat.ne_of_lt h)
theorem Cx.edge (c : Cx E M k u v X) {one other g : Nat} (ho : one ≤ k) (hg : g ∈ E.giv one) (hm : (g, other) ∈ M) : Up u k one - Up u k other ≤ E.c g one - E.c g other := by
  have h1 : u other = v g + E.c g other := c.s.m _ hm
  have h2 : other < k := (c.m.mem _ hm).2
  rw [Up.lt h2]
  rcases Nat.lt_or_eq_of_le ho with h | h
  · have := c.f.uv one h g hg
    rw [Up.lt h]
    omega
  · rw [h, Up.kk]
    have := c.f.v0 g
    have := c.e.c0 g k
    omega
theorem Cx.lo (c : Cx E M k u v X) {j : Nat} {d : Int} {way : Mt} (h : Way E M k j d way) : 0 ≤ d + Up u k j := by
  induction h with
  | nil => rw [Up.kk]; omega
  | step hw hg hm hne hnew ih =>
    have := c.edge (hw.le c.m) hg hm
    omega
structure Fk (E : Net) (M : Mt) (k : Nat) (u : Nat → Int) (X : Int) (F : Fn) : Prop where
  nd : (F.map Prod.fst).Nodup
  k0 : (k, 0, []) ∈ F
  way : ∀ e, e ∈ F → Way E M k e.1 e.2.1 e.2.2
  pot : ∀ e, e ∈ F → ∀ s, s ∈ e.2.2.map Prod.snd → ∃ e', e' ∈ F ∧ e'.1 = s ∧ e'.2.1 + Up u k s ≤ e.2.1 + Up u k e.1
  up : ∀ e, e ∈ F → e.2.1 ≤ ((F.length : Int) - 1) * X
/-- an entry of earlier, as it still counts -/
structure Sn (E : Net) (M : Mt) (k : Nat) (u : Nat → Int) (X : Int) (F : Fn) (e : Nat × Int × Mt) : Prop where
  way : Way E M k e.1 e.2.1 e.2.2
  pot : ∀ s, s ∈ e.2.2.map Prod.snd → ∃ e', e' ∈ F ∧ e'.1 = s ∧ e'.2.1 + Up u k s ≤ e.2.1 + Up u k e.1
  cur : ∃ e', e' ∈ F ∧ e'.1 = e.1 ∧ e'.2.1 ≤ e.2.1
  up : e.2.1 ≤ ((F.length : Int) - 1) * X
def Imp (F F' : Fn) : Prop := (∀ e, e ∈ F → ∃ e', e' ∈ F' ∧ e'.1 = e.1 ∧ e'.2.1 ≤ e.2.1) ∧ F.length ≤ F'.length
theorem Imp.refl (F : Fn) : Imp F F := ⟨fun e he => ⟨e, he, rfl, Int.le_refl _⟩, Nat.le_refl _⟩
theorem Imp.trans {F G H : Fn} (a : Imp F G) (b : Imp G H) : Imp F H := ⟨fun e he => by
  obtain ⟨e1, h1, h2, h3⟩ := a.1 e he
  obtain ⟨e2, h4, h5, h6⟩ := b.1 e1 h1
  exact ⟨e2, h4, h5.trans h2, Int.le_trans h6 h3⟩, Nat.le_trans a.2 b.2⟩
theorem Fk.sn {F : Fn} (h : Fk E M k u X F) {e : Nat × Int × Mt} (he : e ∈ F) : Sn E M k u X F e := ⟨h.way e he, h.pot e he, ⟨e, he, rfl, Int.le_refl _⟩, h.up e he⟩
theorem Cx.x0 (c : Cx E M k u v X) : 0 ≤ X := Int.le_trans (c.e.c0 0 0) (c.x 0 0)
theorem Sn.imp (c : Cx E M k u v X) {F F' : Fn} {e : Nat × Int × Mt} (h : Sn E M k u X F e) (i : Imp F F') : Sn E M k u X F' e := ⟨h.way, fun s hs => by
  obtain ⟨e1, h1, h2, h3⟩ := h.pot s hs
  obtain ⟨e2, h4, h5, h6⟩ := i.1 e1 h1
  exact ⟨e2, h4, h5.trans h2, by omega⟩, by
  obtain ⟨e1, h1, h2, h3⟩ := h.cur
  obtain ⟨e2, h4, h5, h6⟩ := i.1 e1 h1
  exact ⟨e2, h4, h5.trans h2, by omega⟩, Int.le_trans h.up (Int.mul_le_mul_of_nonneg_right (by have := i.2; omega) c.x0)⟩
/-- how much may still be found -/
def rank (E : Net) (k : Nat) (X : Int) (F : Fn) (j : Nat) : Nat := match fd F j with
  | some x => (x.1 + E.N).toNat
  | none => ((k : Int) * X + E.N).toNat + 1
def mu (E : Net) (k : Nat) (X : Int) (F : Fn) : Nat := ((List.range (k + 1)).map (rank E k X F)).sum
theorem sum_le_nat {f g : Nat → Nat} : ∀ l : List Nat, (∀ x, x ∈ l → f x ≤ g x) → (l.map f).sum ≤ (l.map g).sum
  | [], _ => Nat.le_refl _
  | x :: l, h => by
    have := h x List.mem_cons_self
    have := sum_le_nat l fun y hy => h y (List.mem_cons_of_mem _ hy)
    simp only [List.map_cons, List.sum_cons]
    omega
theorem sum_lt_nat {f g : Nat → Nat} : ∀ l : List Nat, (∀ x, x ∈ l → f x ≤ g x) → ∀ j, j ∈ l → f j < g j → (l.map f).sum < (l.map g).sum
  | [], _, j, hj, _ => by cases hj
  | x :: l, h, j, hj, hl => by
    have h1 := h x List.mem_cons_self
    have h2 := sum_le_nat l fun y hy => h y (List.mem_cons_of_mem _ hy)
    simp only [List.map_cons, List.sum_cons]
    rcases List.mem_cons.mp hj with e | hj
    · rw [← e] at h1 ⊢
      omega
    · have := sum_lt_nat l (fun y hy => h y (List.mem_cons_of_mem _ hy)) j hj hl
      omega
theorem nodup_le {n : Nat} : ∀ {l : List Nat}, l.Nodup → (∀ x, x ∈ l → x < n) → l.length ≤ n := fun {l} hn h => by
  have := len_split (List.nodup_range (n := n)) hn fun t ht => List.mem_range.mpr (h t ht)
  rw [List.length_range] at this
  omega
theorem Fk.le (c : Cx E M k u v X) {F : Fn} (h : Fk E M k u X F) : F.length ≤ k + 1 := by
  have := nodup_le (n := k + 1) h.nd fun x hx => by
    obtain ⟨e, he, rfl⟩ := List.mem_map.mp hx
    exact Nat.lt_succ_of_le ((h.way e he).le c.m)
  rwa [List.length_map] at this
theorem Fk.step (c : Cx E M k u v X) {F : Fn} (h : Fk E M k u X F) {e : Nat × Int × Mt} (hs : Sn E M k u X F e) {g other : Nat} (hg : g ∈ E.giv e.1) (hm : (g, other) ∈ M) (hne : other ≠ e.1)
    (hup : ∀ e', e' ∈ F → e'.1 = other → e.2.1 + E.c g e.1 - E.c g other < e'.2.1) :
    Fk E M k u X (putF F other (e.2.1 + E.c g e.1 - E.c g other, e.2.2 ++ [(g, e.1)])) ∧ Imp F (putF F other (e.2.1 + E.c g e.1 - E.c g other, e.2.2 ++ [(g, e.1)])) ∧ mu E k X (putF F other (e.2.1 + E.c g e.1 - E.c g other, e.2.2 ++ [(g, e.1)])) < mu E k X F := by
  have hX := c.x0
  have hedge := c.edge (hs.way.le c.m) hg hm
  have hok : other < k := (c.m.mem _ hm).2
  have hnew : other ∉ e.2.2.map Prod.snd := fun z => by
    obtain ⟨e', h1, h2, h3⟩ := hs.pot other z
    have := hup e' h1 h2
    omega
  have hw : Way E M k other (e.2.1 + E.c g e.1 - E.c g other) (e.2.2 ++ [(g, e.1)]) := hs.way.step hg hm hne hnew
  have hlo := c.lo hw
  generalize hhere : e.2.1 + E.c g e.1 - E.c g other = here at *
  have himp : ∀ e0, e0 ∈ F → ∃ e', e' ∈ putF F other (here, e.2.2 ++ [(g, e.1)]) ∧ e'.1 = e0.1 ∧ e'.2.1 ≤ e0.2.1 := fun e0 h0 => by
    by_cases hk : e0.1 = other
    · exact ⟨_, putF_mem.mpr (.inr rfl), hk.symm, Int.le_of_lt (hup e0 h0 hk)⟩
    · exact ⟨e0, putF_mem.mpr (.inl ⟨hk, h0⟩), rfl, Int.le_refl _⟩
  have hlen : F.length ≤ (putF F other (here, e.2.2 ++ [(g, e.1)])).length := by
    rw [putF_len]
    split <;> omega
  have hle1 : ((F.length : Int) - 1) * X ≤ (((putF F other (here, e.2.2 ++ [(g, e.1)])).length : Int) - 1) * X := Int.mul_le_mul_of_nonneg_right (by omega) hX
  refine ⟨⟨putF_nd h.nd, putF_mem.mpr (.inl ⟨fun z => by simp only at z; omega, h.k0⟩), fun e0 h0 => ?_, fun e0 h0 s hs0 => ?_, fun e0 h0 => ?_⟩, ⟨himp, hlen⟩, ?_⟩
  · rcases putF_mem.mp h0 with ⟨_, h1⟩ | rfl
    · exact h.way e0 h1
    · exact hw
  · rcases putF_mem.mp h0 with ⟨_, h1⟩ | rfl
    · obtain ⟨e1, h2, h3, h4⟩ := h.pot e0 h1 s hs0
      obtain ⟨e2, h5, h6, h7⟩ := himp e1 h2
      exact ⟨e2, h5, h6.trans h3, by omega⟩
    · simp only [List.map_append, List.map_cons, List.map_nil] at hs0
      rcases List.mem_append.mp hs0 with hs0 | hs0
      · obtain ⟨e1, h2, h3, h4⟩ := hs.pot s hs0
        obtain ⟨e2, h5, h6, h7⟩ := himp e1 h2
        refine ⟨e2, h5, h6.trans h3, ?_⟩
        show _ ≤ here + Up u k other
        omega
      · have e3 : s = e.1 := List.mem_singleton.mp hs0
        obtain ⟨e1, h2, h3, h4⟩ := hs.cur
        obtain ⟨e2, h5, h6, h7⟩ := himp e1 h2
        refine ⟨e2, h5, (h6.trans h3).trans e3.symm, ?_⟩
        show _ ≤ here + Up u k other
        rw [e3]
        omega
  · rcases putF_mem.mp h0 with ⟨_, h1⟩ | rfl
    · exact Int.le_trans (h.up e0 h1) hle1
    · show here ≤ _
      by_cases hk : other ∈ F.map Prod.fst
      · obtain ⟨e', h1, h2⟩ := List.mem_map.mp hk
        have := hup e' h1 h2
        have := h.up e' h1
        omega
      · rw [putF_len, if_neg hk]
        have h1 := hs.up
        have h2 := c.x g e.1
        have h3 := c.e.c0 g other
        have h4 : (((F.length + 1 : Nat) : Int) - 1) * X = ((F.length : Int) - 1) * X + X := by
          have : ((F.length + 1 : Nat) : Int) - 1 = ((F.length : Int) - 1) + 1 := by omega
          rw [this, Int.add_mul, Int.one_mul]
        rw [h4]
        omega
  · have hN : here + E.N ≥ 0 := by
      have := c.f.un other hok
      rw [Up.lt hok] at hlo
      omega
    have hnd' := putF_nd (g := other) (x := (here, e.2.2 ++ [(g, e.1)])) h.nd
    have hnew : rank E k X (putF F other (here, e.2.2 ++ [(g, e.1)])) other = (here + E.N).toNat := by
      unfold rank
      rw [(fd_some hnd').mpr (putF_mem.mpr (.inr rfl))]
    have hlt : rank E k X (putF F other (here, e.2.2 ++ [(g, e.1)])) other < rank E k X F other := by
      rw [hnew]
      unfold rank
      cases hf : fd F other with
      | some x =>
        have h1 := (fd_some h.nd).mp hf
        have := hup _ h1 rfl
        simp only at this ⊢
        omega
      | none =>
        have h1 := hs.up
        have h2 := c.x g e.1
        have h3 := c.e.c0 g other
        have h5 : F.length + 1 ≤ k + 1 := by
          have hn' : other ∉ F.map Prod.fst := fd_none.mp hf
          have : (other :: F.map Prod.fst).length ≤ k + 1 := nodup_le (List.nodup_cons.mpr ⟨hn', h.nd⟩) fun x hx => by
            rcases List.mem_cons.mp hx with e | hx
            · omega
            · obtain ⟨e0, he0, rfl⟩ := List.mem_map.mp hx
              exact Nat.lt_succ_of_le ((h.way e0 he0).le c.m)
          rwa [List.length_cons, List.length_map] at this
        have h4 : ((F.length : Int) - 1) * X + X ≤ (k : Int) * X := by
          have : ((F.length : Int) - 1) * X + X = (F.length : Int) * X := by
            rw [Int.sub_mul, Int.one_mul]
            omega
          rw [this]
          exact Int.mul_le_mul_of_nonneg_right (by omega) hX
        simp only
        omega
    refine sum_lt_nat _ (fun j hj => ?_) other (List.mem_range.mpr (by omega)) hlt
    by_cases hj2 : j = other
    · rw [hj2]; exact Nat.le_of_lt hlt
    · have : fd (putF F other (here, e.2.2 ++ [(g, e.1)])) j = fd F j := by
        cases hf : fd F j with
        | some x => exact (fd_some hnd').mpr (putF_mem.mpr (.inl ⟨hj2, (fd_some h.nd).mp hf⟩))
        | none =>
          refine fd_none.mpr fun z => fd_none.mp hf ?_
          obtain ⟨e0, h0, e1⟩ := List.mem_map.mp z
          rcases putF_mem.mp h0 with ⟨_, h1⟩ | rfl
          · exact List.mem_map.mpr ⟨e0, h1, e1⟩
          · exact absurd e1.symm hj2
      unfold rank
      rw [this]
      exact Nat.le_refl _
theorem fk_start (c : Cx E M k u v X) : Fk E M k u X [(k, 0, [])] where
  nd := by simp
  k0 := List.mem_cons_self
  way := fun e he => by
    rw [List.mem_singleton.mp he]
    exact .nil
  pot := fun e he s hs => by
    rw [List.mem_singleton.mp he] at hs
    cases hs
  up := fun e he => by
    rw [List.mem_singleton.mp he]
    show (0 : Int) ≤ ((1 : Int) - 1) * X
    simp
/-- nothing more is found -/
def Closed (E : Net) (M : Mt) (F : Fn) : Prop := ∀ e, e ∈ F → ∀ g, g ∈ E.giv e.1 → ∀ other, (g, other) ∈ M → other ≠ e.1 → ∃ e', e' ∈ F ∧ e'.1 = other ∧ e'.2.1 ≤ e.2.1 + E.c g e.1 - E.c g other
def newU (u : Nat → Int) (k : Nat) (F : Fn) (D : Int) (j : Nat) : Int := if j = k then D else match fd F j with
  | some x => max (u j) (D - x.1)
  | none => u j
def newV (E : Net) (M : Mt) (u' : Nat → Int) (g : Nat) : Int := match M.find? fun e => decide (e.1 = g) with
  | some e => u' e.2 - E.c g e.2
  | none => 0
theorem place_opt (c : Cx E M k u v X) {F : Fn} (h : Fk E M k u X F) (hc : Closed E M F) {D : Int} (hD1 : ∀ e, e ∈ F → D ≤ e.2.1 + E.N) (hD2 : ∀ e, e ∈ F → ∀ g, g ∈ E.giv e.1 → g ∉ M.map Prod.fst → D ≤ e.2.1 + E.c g e.1)
    {M' : Mt} (hM' : MOk E (k + 1) M') (ht : tot E (k + 1) M' = tot E k M + D) : Opt E (k + 1) M' := by
  have hu : ∀ j, j < k → u j ≤ newU u k F D j := fun j hj => by
    unfold newU
    rw [if_neg (Nat.ne_of_lt hj)]
    cases fd F j with
    | some x => exact Int.le_max_left _ _
    | none => exact Int.le_refl _
  have hd : ∀ e, e ∈ F → D - e.2.1 ≤ newU u k F D e.1 := fun e he => by
    unfold newU
    by_cases hj : e.1 = k
    · rw [if_pos hj]
      have := keyF_eq h.nd he h.k0 hj
      rw [this]
      simp
    · rw [if_neg hj, (fd_some h.nd).mpr (show (e.1, e.2) ∈ F from he)]
      exact Int.le_max_right _ _
  have hDN : D ≤ E.N := by
    have := hD1 _ h.k0
    simp only at this
    omega
  have hn : ∀ j, j < k + 1 → newU u k F D j ≤ E.N := fun j hj => by
    unfold newU
    by_cases hk : j = k
    · rw [if_pos hk]; exact hDN
    · have hj' : j < k := by omega
      rw [if_neg hk]
      cases hf : fd F j with
      | some x =>
        have := hD1 _ ((fd_some h.nd).mp hf)
        exact Int.max_le.mpr ⟨c.f.un j hj', by simp only at this; omega⟩
      | none => exact c.f.un j hj'
  have hV : ∀ e, e ∈ M → newV E M (newU u k F D) e.1 = newU u k F D e.2 - E.c e.1 e.2 := fun e he => by
    unfold newV
    cases hf : M.find? fun x => decide (x.1 = e.1) with
    | none => exact absurd (decide_eq_true rfl) (List.find?_eq_none.mp hf _ he)
    | some x =>
      have h1 : x.1 = e.1 := by simpa using List.find?_some hf
      have h2 := key_eq c.m.gk (List.mem_of_find?_eq_some hf) he h1
      rw [h2]
  have hV0 : ∀ g, g ∉ M.map Prod.fst → newV E M (newU u k F D) g = 0 := fun g hg => by
    unfold newV
    cases hf : M.find? fun x => decide (x.1 = g) with
    | none => rfl
    | some x => exact absurd (List.mem_map.mpr ⟨x, List.mem_of_find?_eq_some hf, by simpa using List.find?_some hf⟩) hg
  have hVv : ∀ e, e ∈ M → v e.1 ≤ newV E M (newU u k F D) e.1 := fun e he => by
    rw [hV e he]
    have h1 := c.s.m e he
    have h2 := hu e.2 (c.m.mem e he).2
    omega
  refine ⟨newU u k F D, newV E M (newU u k F D), ⟨hn, fun g => ?_, fun t ht g hg => ?_⟩, ?_⟩
  · by_cases hg : g ∈ M.map Prod.fst
    · obtain ⟨e, he, rfl⟩ := List.mem_map.mp hg
      exact Int.le_trans (c.f.v0 _) (hVv e he)
    · rw [hV0 g hg]
      exact Int.le_refl _
  · -- how u' t stands
    have key : ∀ d way, (t, d, way) ∈ F → D - d ≤ newV E M (newU u k F D) g + E.c g t := fun d way hm => by
      by_cases hgm : g ∈ M.map Prod.fst
      · obtain ⟨e, he, e1⟩ := List.mem_map.mp hgm
        subst e1
        rw [hV e he]
        by_cases ho : e.2 = t
        · have := hd _ hm
          rw [ho]
          simp only at this
          omega
        · obtain ⟨e', h1, h2, h3⟩ := hc _ hm e.1 hg e.2 he ho
          have := hd _ h1
          rw [h2] at this
          simp only at h3
          omega
      · rw [hV0 g hgm]
        have := hD2 _ hm g hg hgm
        simp only at this
        omega
    have base : t < k → u t ≤ newV E M (newU u k F D) g + E.c g t := fun htk => by
      have h1 := c.f.uv t htk g hg
      by_cases hgm : g ∈ M.map Prod.fst
      · obtain ⟨e, he, e1⟩ := List.mem_map.mp hgm
        subst e1
        have := hVv e he
        omega
      · rw [hV0 g hgm]
        have := c.s.g g (c.e.lt t g hg) hgm
        omega
    by_cases hk : t = k
    · have : newU u k F D t = D := by unfold newU; rw [if_pos hk]
      rw [this]
      have := key 0 [] (by rw [hk]; exact h.k0)
      omega
    · have htk : t < k := by omega
      have hb := base htk
      have e1 : newU u k F D t = match fd F t with
        | some x => max (u t) (D - x.1)
        | none => u t := by unfold newU; rw [if_neg hk]
      rw [e1]
      cases hf : fd F t with
      | some x => exact Int.max_le.mpr ⟨hb, key x.1 x.2 ((fd_some h.nd).mp hf)⟩
      | none => exact hb
  · have e1 : dual E k (newU u k F D) (newV E M (newU u k F D)) = tot E k M := of_slack c.e c.m (fun e he => by rw [hV e he]; omega) (fun t htk hnm => by
      have h1 := c.s.t t htk hnm
      have h2 := hu t htk
      have h3 := hn t (Nat.lt_succ_of_lt htk)
      omega) fun g _ hg => hV0 g hg
    have e2 : dual E (k + 1) (newU u k F D) (newV E M (newU u k F D)) = dual E k (newU u k F D) (newV E M (newU u k F D)) + D := by
      unfold dual
      rw [List.range_succ, List.map_append, List.sum_append]
      have : newU u k F D k = D := if_pos rfl
      simp only [List.map_cons, List.map_nil, List.sum_cons, List.sum_nil, this]
      omega
    rw [e2, e1, ht]
theorem opt_zero : Opt E 0 [] := ⟨fun _ => 0, fun _ => 0, ⟨fun t ht => absurd ht (Nat.not_lt_zero _), fun _ => Int.le_refl _, fun t ht => absurd ht (Nat.not_lt_zero _)⟩, by
  unfold dual tot cost
  have : ((List.range E.n).map fun _ => (0 : Int)).sum = 0 := by rw [sum_const]; simp
  rw [this]
  simp⟩
end
end Lp
namespace Lp
def ClG (E : Net) (M : Mt) (F : Fn) (e : Nat × Int × Mt) (g : Nat) : Prop := ∀ other, (g, other) ∈ M → other ≠ e.1 → ∃ e', e' ∈ F ∧ e'.1 = other ∧ e'.2.1 ≤ e.2.1 + E.c g e.1 - E.c g other
theorem getM_of {M : Mt} (hk : (M.map Prod.fst).Nodup) {g other z : Nat} (h : (g, other) ∈ M) : getM M g z = other := by
  unfold getM
  cases hf : M.find? fun e => decide (e.1 = g) with
  | none => exact absurd (decide_eq_true rfl) (List.find?_eq_none.mp hf _ h)
  | some x =>
    have h1 : x.1 = g := by simpa using List.find?_some hf
    have h2 := key_eq hk (List.mem_of_find?_eq_some hf) h h1
    rw [h2]
theorem getM_or {M : Mt} {g z : Nat} : (g, getM M g z) ∈ M ∨ getM M g z = z := by
  unfold getM
  cases hf : M.find? fun e => decide (e.1 = g) with
  | none => exact .inr rfl
  | some x =>
    have h1 : x.1 = g := by simpa using List.find?_some hf
    left
    rw [← h1]
    exact List.mem_of_find?_eq_some hf
def costD (F : Fn) (j : Nat) : Int := ((fd F j).map fun x => x.1).getD 0
theorem mem_take_succ {α : Type} {l : List α} {i : Nat} {a x : α} (h : l[i]? = some a) (hx : x ∈ l.take (i + 1)) : x ∈ l.take i ∨ x = a := by
  rw [List.take_succ, h] at hx
  rcases List.mem_append.mp hx with h | h
  · exact .inl h
  · exact .inr (List.mem_singleton.mp h)
end Lp

/-! part LpRep6 -/
set_option Elab.async false
set_option linter.all false
set_option maxRecDepth 100000

namespace Lp
open PySem PySem.Spec PyProof.Rows L2
open Evl (Ex ex_l ex_t ex_rd fresh_back)
/-! ## one dict changes -/
def Exb (d : Addr) (H H' : Hp) : Prop := ∀ (b : Addr) (o : HO), b ≠ d → H b = some o → H' b = some o
theorem Exb.refl {d : Addr} (H : Hp) : Exb d H H := fun _ _ _ h => h
theorem Exb.trans {d : Addr} {H H1 H2 : Hp} (a : Exb d H H1) (b : Exb d H1 H2) : Exb d H H2 := fun x o n h => b x o n (a x o n h)
theorem exb_ex {d : Addr} {H H' : Hp} (e : Ex H H') : Exb d H H' := fun b o _ h => e b o h
theorem exb_upd {d : Addr} {H : Hp} {o : HO} : Exb d H (upd H d o) := fun b u n h => by rw [upd_ne n]; exact h
theorem exb_rd {d a : Addr} {H H' : Hp} {kvs : List (Key × V)} {u : HO} (e : Exb d H H') (hd : H d = some (.dK kvs)) (h : Rd H a u) (hu : ∀ ks, u ≠ .dK ks) : Rd H' a u := by
  have hn : a ≠ d := fun z => by
    subst z
    rcases h with h | ⟨o, h⟩
    · rw [hd] at h
      injection h with h
      exact hu _ h.symm
    · rw [hd] at h
      cases h
  rcases h with h | ⟨o, h⟩
  · exact .inl (e a _ hn h)
  · exact .inr ⟨o, e a _ hn h⟩
theorem exb_l {K : PySem.W.Frag} {d a : Addr} {H H' : Hp} {kvs : List (Key × V)} {xs : List V} (e : Exb d H H') (hd : H d = some (.dK kvs)) (h : SqL K H a xs) : SqL K H' a xs := by
  rcases h with h | h
  · exact .inl (exb_rd e hd h fun _ z => nomatch z)
  · exact .inr h
theorem exb_t {K : PySem.W.Frag} {d a : Addr} {H H' : Hp} {kvs : List (Key × V)} {xs : List V} (e : Exb d H H') (hd : H d = some (.dK kvs)) (h : SqT K H a xs) : SqT K H' a xs := by
  rcases h with h | h
  · exact .inl (exb_rd e hd h fun _ z => nomatch z)
  · exact .inr h
theorem exb_fz {d a : Addr} {H H' : Hp} {kvs : List (Key × V)} {xs : List V} (e : Exb d H H') (hd : H d = some (.dK kvs)) (h : FzT H a xs) : FzT H' a xs := by
  obtain ⟨o, h1, h2, h3⟩ := h
  refine ⟨o, h1, h2, e a _ (fun z => ?_) h3⟩
  subst z
  rw [hd] at h3
  cases h3
section
variable {K : PySem.W.Frag} {Γ : Gm} {ta tb te td ty tx : TE} {P : SP} {σ : L2.St} {H H' : Hp} {D : Ends}
/-! ### ways' entries -/
def EntP (K : PySem.W.Frag) (x : Int × Mt) (v : V) (H : Hp) : Prop := ∃ a w ps, v = .ref a ∧ SqT K H a [.int x.1, .ref w] ∧ FzT H w (ps.map V.ref) ∧ Paired (fun q (e : Nat × Nat) => SqT K H q [.int (e.1 : Int), .int (e.2 : Int)]) ps x.2
theorem fz_mono {a : Addr} {xs : List V} (e : Ex H H') (h : FzT H a xs) : FzT H' a xs := by
  obtain ⟨o, h1, h2, h3⟩ := h
  exact ⟨o, h1, h2, e _ _ h3⟩
theorem EntP.mono {x : Int × Mt} {v : V} (h : EntP K x v H) (e : Ex H H') : EntP K x v H' := by
  obtain ⟨a, w, ps, h1, h2, h3, h4⟩ := h
  exact ⟨a, w, ps, h1, ex_t e h2, fz_mono e h3, Paired.mapP h4 fun _ _ z => ex_t e z⟩
theorem EntP.exb {x : Int × Mt} {v : V} {d : Addr} {kvs : List (Key × V)} (h : EntP K x v H) (e : Exb d H H') (hd : H d = some (.dK kvs)) : EntP K x v H' := by
  obtain ⟨a, w, ps, h1, h2, h3, h4⟩ := h
  exact ⟨a, w, ps, h1, exb_t e hd h2, exb_fz e hd h3, Paired.mapP h4 fun _ _ z => exb_t e hd z⟩
def FnRep (K : PySem.W.Frag) (kvs : List (Key × V)) (F : Fn) (H : Hp) : Prop := Paired (fun (kv : Key × V) (e : Nat × Int × Mt) => kv.1 = .inl (e.1 : Int) ∧ EntP K e.2 kv.2 H) kvs F
theorem FnRep.mono {kvs : List (Key × V)} {F : Fn} (h : FnRep K kvs F H) (e : Ex H H') : FnRep K kvs F H' := Paired.mapP h fun _ _ ⟨h1, h2⟩ => ⟨h1, h2.mono e⟩
theorem FnRep.exb {kvs ks : List (Key × V)} {F : Fn} {d : Addr} (h : FnRep K kvs F H) (e : Exb d H H') (hd : H d = some (.dK ks)) : FnRep K kvs F H' := Paired.mapP h fun _ _ ⟨h1, h2⟩ => ⟨h1, h2.exb e hd⟩
theorem inl_nat {a b : Nat} : (Sum.inl (a : Int) : Key) = Sum.inl (b : Int) ↔ a = b := ⟨fun h => by injection h with h; exact Int.ofNat_inj.mp h, fun h => by rw [h]⟩
theorem rep_any {kvs : List (Key × V)} {F : Fn} (h : FnRep K kvs F H) (j : Nat) : (kvs.any fun kv => decide (kv.1 = Sum.inl (j : Int))) = F.any fun e => decide (e.1 = j) := by
  unfold FnRep at h
  induction h with
  | nil => rfl
  | cons r t ih =>
    rw [List.any_cons, List.any_cons, ih, r.1]
    congr 1
    exact decide_eq_decide.mpr inl_nat
theorem Paired.app {α β : Type} {R : α → β → Prop} {xs xs' : List α} {ys ys' : List β} (h : Paired R xs ys) (h' : Paired R xs' ys') : Paired R (xs ++ xs') (ys ++ ys') := by
  induction h with
  | nil => exact h'
  | cons r t ih => exact .cons r ih
theorem rep_put {kvs : List (Key × V)} {F : Fn} {v : V} {x : Int × Mt} (h : FnRep K kvs F H) (j : Nat) (hv : EntP K x v H) : FnRep K (putK kvs (.inl (j : Int)) v) (putF F j x) H := by
  unfold putK putF
  rw [rep_any h j]
  by_cases hc : (F.any fun e => decide (e.1 = j)) = true
  · rw [if_pos hc, if_pos hc]
    unfold FnRep at h ⊢
    clear hc
    induction h with
    | nil => exact .nil
    | @cons kv e _ _ r t ih =>
      refine .cons ?_ ih
      obtain ⟨r1, r2⟩ := r
      show (if kv.1 = Sum.inl (j : Int) then (kv.1, v) else kv).1 = Sum.inl (((if e.1 = j then (e.1, x) else e).1 : Nat) : Int) ∧ EntP K (if e.1 = j then (e.1, x) else e).2 (if kv.1 = Sum.inl (j : Int) then (kv.1, v) else kv).2 H
      by_cases hj : e.1 = j
      · rw [if_pos (r1.trans (inl_nat.mpr hj)), if_pos hj]
        exact ⟨r1, hv⟩
      · rw [if_neg (fun z => hj (inl_nat.mp (r1.symm.trans z))), if_neg hj]
        exact ⟨r1, r2⟩
  · rw [if_neg hc, if_neg hc]
    exact Paired.app h (.cons ⟨rfl, hv⟩ .nil)
theorem rep_val {kvs : List (Key × V)} {F : Fn} (h : FnRep K kvs F H) (j : Nat) : (fd F j = none ∧ valV kvs (.inl (j : Int)) = none) ∨ ∃ x v, fd F j = some x ∧ valV kvs (.inl (j : Int)) = some v ∧ EntP K x v H := by
  unfold FnRep at h
  induction h with
  | nil => exact .inl ⟨rfl, rfl⟩
  | @cons kv e ks es r t ih =>
    obtain ⟨r1, r2⟩ := r
    by_cases hj : e.1 = j
    · refine .inr ⟨e.2, kv.2, ?_, valV_pos (r1.trans (inl_nat.mpr hj)), r2⟩
      unfold fd
      rw [List.find?_cons, decide_eq_true hj]
      rfl
    · have h1 : fd (e :: es) j = fd es j := by
        unfold fd
        rw [List.find?_cons, decide_eq_false hj]
      rw [h1, valV_neg fun z => hj (inl_nat.mp (r1.symm.trans z))]
      exact ih
/-- the dict found, at d -/
def FdA (K : PySem.W.Frag) (d : Addr) (kvs : List (Key × V)) (F : Fn) : SP := ⟨fun v H => v = .ref d ∧ H d = some (.dK kvs) ∧ FnRep K kvs F H, fun e ⟨h1, h2, h3⟩ => ⟨h1, e _ _ h2, h3.mono e⟩⟩
def DcE (kvs : List (Key × V)) : SP := ⟨fun v H => ∃ d, v = .ref d ∧ Rd H d (.dK kvs), fun e ⟨d, h1, h2⟩ => ⟨d, h1, ex_rd e h2⟩⟩
theorem eg_notinF {d : Addr} {kvs : List (Key × V)} {F : Fn} {i j : Nat} (hy : EvG ty Γ (Is K j)) (hi : Γ[i]? = some (some (FdA K d kvs F))) : EvG (tDNotIn ty (tVar i)) Γ (Is K (fd F j).isNone) := fun σ H Q s q =>
  hy σ H _ s fun v H1 e p => by
    obtain rfl : v = .int (j : Int) := p
    obtain ⟨w, h1, h2, h3, h4⟩ := (s.mono e).at' i _ hi
    subst h2
    refine ⟨_, h1, d, _, rfl, DGet.k (k := .inl (j : Int)) h3, q _ H1 e ?_⟩
    rcases rep_val h4 j with ⟨a, b⟩ | ⟨x, v, a, b, _⟩ <;> rw [a, b] <;> rfl
theorem eg_costF {d : Addr} {kvs : List (Key × V)} {F : Fn} {i j : Nat} {x : Int × Mt} (hy : EvG ty Γ (Is K j)) (hi : Γ[i]? = some (some (FdA K d kvs F))) (hx : fd F j = some x) : EvG (tOp (rIxT K) (tDGet (tVar i) ty) (tC (.int 0))) Γ (Is K x.1) := fun σ H Q s q => by
  obtain ⟨w, h1, h2, h3, h4⟩ := s.at' i _ hi
  subst h2
  refine ⟨_, h1, hy σ H _ s fun v H1 e p => ?_⟩
  obtain rfl : v = .int (j : Int) := p
  rcases rep_val h4 j with ⟨a, _⟩ | ⟨y, u, a, b, c⟩
  · rw [hx] at a; cases a
  · rw [hx] at a
    obtain rfl : x = y := Option.some.inj a
    refine ⟨d, u, rfl, ?_, ?_⟩
    · rw [← b]
      exact DGet.k (k := .inl (j : Int)) (e _ _ h3)
    · obtain ⟨a, w, ps, rfl, h5, _⟩ := c.mono e
      exact ⟨a, _, 0, _, rfl, rfl, h5, rfl, q _ H1 e rfl⟩
theorem eg_get2 {M : Mt} {g z : Nat} (hd : EvG td Γ (DcE (dkN M))) (hy : EvG ty Γ (Is K g)) (hx : EvG tx Γ (Is K z)) : EvG (tDGet2 td ty tx) Γ (Is K (getM M g z)) := fun σ H Q s q =>
  hd σ H _ s fun v H1 e1 ⟨d, h1, h2⟩ => ⟨d, h1, .inl ⟨_, h2⟩, hy σ H1 _ (s.mono e1) fun u H2 e2 p2 => hx σ H2 _ ((s.mono e1).mono e2) fun w H3 e3 p3 => by
    obtain rfl : u = .int (g : Int) := p2
    obtain rfl : w = .int (z : Int) := p3
    refine ⟨_, .inl ⟨_, .inl (g : Int), ex_rd e3 (ex_rd e2 h2), rfl, rfl⟩, q _ H3 ((e1.trans e2).trans e3) ?_⟩
    rw [dkN_val]
    unfold getM
    cases M.find? fun e => decide (e.1 = g) <;> rfl⟩
/-- way + (giver, one): a new tuple -/
theorem ent_new {c : Int} {w0 : Addr} {way : Mt} {ps0 : List Addr} {i9 i7 i5 i4 : Nat} {g one : Nat} {Q : VK} (h9 : σ[i9]? = some (some (.int c))) (h7 : σ[i7]? = some (some (.ref w0))) (h5 : σ[i5]? = some (some (.int (g : Int)))) (h4 : σ[i4]? = some (some (.int (one : Int))))
    (hw : FzT H w0 (ps0.map V.ref)) (hp : Paired (fun q (e : Nat × Nat) => SqT K H q [.int (e.1 : Int), .int (e.2 : Int)]) ps0 way) (hl : ps0.length ≤ 100000) (q : ∀ v H', Ex H H' → EntP K (c, way ++ [(g, one)]) v H' → Q v H') :
    tTup (tCons (tVar i9) (tCons (tTupF (StX.tStar K (tVar i7) (tCons (tTup (tCons (tVar i5) (tCons (tVar i4) tNil))) tNil))) tNil)) σ H Q := by
  refine ⟨_, h9, _, h7, w0, _, rfl, .inl hw.sq, _, h5, _, h4, by show 2 ≤ sizeLine; decide, fun p hp0 => ⟨?_, fun t o ht ho hc => ⟨by show 2 ≤ sizeLine; decide, fun r hr => ?_⟩⟩⟩
  · rw [List.length_append, List.length_map]
    exact Nat.le_trans (Nat.succ_le_succ hl) (by decide)
  have e1 : Ex H (upd H p (.tup [.int (g : Int), .int (one : Int)])) := Evl.Ex.new hp0
  have e2 := e1.trans (Evl.Ex.new (o := .frz o (.tup (ps0.map V.ref ++ [V.ref p]))) ht)
  have e3 := e2.trans (Evl.Ex.new (o := .tup [.int c, .ref t]) hr)
  have hpt : p ≠ t := ne_of_none (o := .tup [.int (g : Int), .int (one : Int)]) upd_same ht
  refine q _ _ e3 ⟨r, t, ps0 ++ [p], rfl, .inl (.inl upd_same), ⟨o, ho, hc, ?_⟩, Paired.app (Paired.mapP hp fun _ _ z => ex_t e3 z) (.cons (.inl (.inl ?_)) .nil)⟩
  · rw [upd_ne (ne_of_none (o := .frz o (.tup (ps0.map V.ref ++ [V.ref p]))) upd_same hr), upd_same, List.map_append]
    rfl
  · have h1 : (upd (upd H p (.tup [.int (g : Int), .int (one : Int)])) t (.frz o (.tup (ps0.map V.ref ++ [V.ref p])))) p = some (.tup [.int (g : Int), .int (one : Int)]) := by
      rw [upd_ne hpt, upd_same]
    rw [upd_ne (ne_of_none h1 hr)]
    exact h1
theorem h_forLs {Ps : List SP} {g : TG} {tb : TS} (h : EvG te Γ (LsP K Ps)) (s : Sat Γ σ H) (k : ∀ a vs H1, Ex H H1 → SqL K H1 a vs → AllP vs Ps H1 → ∃ Pv : Nat → L2.St → Hp → Prop, Pv 0 σ H1 ∧ (∀ i σ H, Pv i σ H → SqL K H a vs) ∧
    (∀ i x σ H D', vs[i]? = some x → Pv i σ H → (∀ σ H, Pv (i + 1) σ H → Ends.nx D' σ H) → Ends.rt D' = D.rt → g x σ H fun σ2 H2 => tb D' σ2 H2) ∧ (∀ σ H, Pv vs.length σ H → D.nx σ H)) : tFor (iList K te) g tb D σ H :=
  h σ H _ s fun v H1 e ⟨a, vs, h1, h2, h3⟩ => by
    obtain ⟨Pv, p0, pl, ps, pd⟩ := k a vs H1 e h2 h3
    exact ⟨a, h1, ⟨vs, h2⟩, for_list Pv p0 (fun i σ H _ p => pl i σ H p) (fun i x σ H hx p => ps i x σ H _ hx p (fun _ _ q => q) rfl) pd⟩
theorem ent_start {k i : Nat} (h1 : σ[i]? = some (some (.int (k : Int)))) (q : ∀ d kvs H', Ex H H' → H d = none → H' d = some (.dK kvs) → FnRep K kvs [(k, 0, [])] H' → D.nx ((σ.set 2 (some (.ref d))).set 3 (some (.bl true))) H') :
    tPar 2 3 (tCons (tDisp [(tVar i, tTup (tCons (tC (.int 0)) (tCons (tTupF tNil) tNil)))]) (tCons (tC (.bl true)) tNil)) D σ H := by
  refine fun d hd => ⟨_, h1, Nat.zero_le _, fun w o hw ho hc => ⟨by show 2 ≤ sizeLine; decide, fun a ha => ?_⟩⟩
  have hdw : (upd (upd H d (.dK [])) w (.frz o (.tup []))) d = some (.dK []) := by
    rw [upd_ne (ne_of_none (o := .dK []) upd_same hw), upd_same]
  have hda : (upd (upd (upd H d (.dK [])) w (.frz o (.tup []))) a (.tup [.int 0, .ref w])) d = some (.dK []) := by
    rw [upd_ne (ne_of_none hdw ha)]
    exact hdw
  refine ⟨hda, [(.inl (k : Int), .ref a)], rfl, (by show 1 ≤ 15; decide), _, _, rfl, ?_⟩
  have hne1 : a ≠ d := fun z => by rw [z, hdw] at ha; cases ha
  have hne2 : w ≠ d := fun z => by rw [z, upd_same] at hw; cases hw
  have hne3 : w ≠ a := fun z => by rw [← z, upd_same] at ha; cases ha
  refine q d _ _ (fun b u hb => ?_) hd upd_same (.cons ⟨rfl, a, w, [], rfl, .inl (.inl ?_), ⟨o, ho, hc, ?_⟩, .nil⟩ .nil)
  · have n1 : b ≠ d := ne_of_none hb hd
    have e1 : (upd H d (.dK [])) b = some u := by rw [upd_ne n1]; exact hb
    have n2 : b ≠ w := ne_of_none e1 hw
    have e2 : (upd (upd H d (.dK [])) w (.frz o (.tup []))) b = some u := by rw [upd_ne n2]; exact e1
    have n3 : b ≠ a := ne_of_none e2 ha
    rw [upd_ne n1, upd_ne n3]
    exact e2
  · rw [upd_ne hne1, upd_same]
  · rw [upd_ne hne2, upd_ne hne3, upd_same]
    rfl
theorem eg_costF' {d : Addr} {kvs : List (Key × V)} {F : Fn} {i j : Nat} (hy : EvG ty Γ (Is K j)) (hi : Γ[i]? = some (some (FdA K d kvs F))) (hx : (fd F j).isNone = false) : EvG (tOp (rIxT K) (tDGet (tVar i) ty) (tC (.int 0))) Γ (Is K (costD F j)) := by
  cases h : fd F j with
  | none => rw [h] at hx; cases hx
  | some x =>
    have : costD F j = x.1 := by unfold costD; rw [h]; rfl
    rw [this]
    exact eg_costF hy hi h
end
end Lp

/-! part LpRep7 -/
set_option Elab.async false
set_option linter.all false
set_option maxRecDepth 100000

namespace Lp
open PySem PySem.Spec PyProof.Rows L2
open Evl (Ex ex_l ex_t ex_rd fresh_back)
/-! ## one list or dict changes -/
theorem nt_rd {d a : Addr} {H H' : Hp} {u : HO} {xs : List V} (e : Exb d H H') (hd : H d = some u) (hn : notTup u = true) (h : Rd H a (.tup xs)) : Rd H' a (.tup xs) := by
  have hne : a ≠ d := fun z => by
    subst z
    rcases h with h | ⟨o, h⟩ <;> rw [hd] at h <;> cases h <;> cases hn
  rcases h with h | ⟨o, h⟩
  · exact .inl (e a _ hne h)
  · exact .inr ⟨o, e a _ hne h⟩
theorem nt_t {K : PySem.W.Frag} {d a : Addr} {H H' : Hp} {u : HO} {xs : List V} (e : Exb d H H') (hd : H d = some u) (hn : notTup u = true) (h : SqT K H a xs) : SqT K H' a xs := by
  rcases h with h | h
  · exact .inl (nt_rd e hd hn h)
  · exact .inr h
theorem nt_fz {d a : Addr} {H H' : Hp} {u : HO} {xs : List V} (e : Exb d H H') (hd : H d = some u) (hn : notTup u = true) (h : FzT H a xs) : FzT H' a xs := by
  obtain ⟨o, h1, h2, h3⟩ := h
  refine ⟨o, h1, h2, e a _ (fun z => ?_) h3⟩
  subst z
  rw [hd] at h3
  cases h3
  cases hn
theorem nt_kt {d : Addr} {H H' : Hp} {u : HO} (e : Exb d H H') (hd : H d = some u) (hn : notTup u = true) : Kt H H' := fun _ _ h => nt_rd e hd hn h
section
variable {K : PySem.W.Frag} {Γ : Gm} {ta tb te td ty tx : TE} {P : SP} {σ : L2.St} {H H' : Hp} {D : Ends}
theorem EntP.nt {x : Int × Mt} {v : V} {d : Addr} {u : HO} (h : EntP K x v H) (e : Exb d H H') (hd : H d = some u) (hn : notTup u = true) : EntP K x v H' := by
  obtain ⟨a, w, ps, h1, h2, h3, h4⟩ := h
  exact ⟨a, w, ps, h1, nt_t e hd hn h2, nt_fz e hd hn h3, Paired.mapP h4 fun _ _ z => nt_t e hd hn z⟩
theorem FnRep.nt {kvs : List (Key × V)} {F : Fn} {d : Addr} {u : HO} (h : FnRep K kvs F H) (e : Exb d H H') (hd : H d = some u) (hn : notTup u = true) : FnRep K kvs F H' := Paired.mapP h fun _ _ ⟨h1, h2⟩ => ⟨h1, h2.nt e hd hn⟩
/-! ### what gives a new list -/
def spPF {γ : Type} (C : γ → Prop) (Ps : γ → List SP) (R : γ → SP) : Sp := fun vs H Q _ => ∃ g : γ, C g ∧ AllP vs (Ps g) H ∧ ∀ v H2, Ex H H2 → (R g).p v H2 → (∀ a, v = .ref a → H a = none) → Q v H2
def EvGF (te : TE) (Γ : Gm) (P : SP) : Prop := ∀ (σ : L2.St) (H : Hp) (Q : VK), Sat Γ σ H → (∀ v H2, Ex H H2 → P.p v H2 → (∀ a, v = .ref a → H a = none) → Q v H2) → te σ H Q
theorem eg_methF {γ : Type} {C : γ → Prop} {Qs : γ → List SP} {R : γ → SP} {tr : TA} {E : XK} {D : Addr} {Os Ps : List SP} (g : γ) (ha : EvG ta Γ (ObP D Os)) (h : EvA tr Γ Ps) (hq : Qs g = ObP D Os :: Ps) (hc : C g) : EvGF (SlX.tMethSl D (spPF C Qs R) E ta tr) Γ (R g) := fun σ H Q s q =>
  ha σ H _ s fun v H1 e p => by
    obtain ⟨a, dx, rfl, vs, h2, h3⟩ := id p
    refine ⟨a, dx, vs, rfl, h2, h σ H1 _ (s.mono e) fun ws H2 e2 p2 => ⟨g, hc, ?_, fun v H3 e3 r fr => q v H3 ((e.trans e2).trans e3) r fun a ea => fresh_back (e.trans e2) (fr a ea)⟩⟩
    rw [hq]
    exact .cons ((ObP D Os).mono e2 p) p2
theorem h_forLsF {Ps : List SP} {g : TG} {tb : TS} (h : EvGF te Γ (LsP K Ps)) (s : Sat Γ σ H) (k : ∀ a vs H1, Ex H H1 → H a = none → SqL K H1 a vs → AllP vs Ps H1 → ∃ Pv : Nat → L2.St → Hp → Prop, Pv 0 σ H1 ∧ (∀ i σ H, Pv i σ H → SqL K H a vs) ∧
    (∀ i x σ H D', vs[i]? = some x → Pv i σ H → (∀ σ H, Pv (i + 1) σ H → Ends.nx D' σ H) → Ends.rt D' = D.rt → g x σ H fun σ2 H2 => tb D' σ2 H2) ∧ (∀ σ H, Pv vs.length σ H → D.nx σ H)) : tFor (iList K te) g tb D σ H :=
  h σ H _ s fun v H1 e ⟨a, vs, h1, h2, h3⟩ fr => by
    obtain ⟨Pv, p0, pl, ps, pd⟩ := k a vs H1 e (fr a h1) h2 h3
    exact ⟨a, h1, ⟨vs, h2⟩, for_list Pv p0 (fun i σ H _ p => pl i σ H p) (fun i x σ H hx p => ps i x σ H _ hx p (fun _ _ q => q) rfl) pd⟩
theorem exl_l {d a : Addr} {xs : List V} (e : Exb d H H') (hn : a ≠ d) (h : SqL K H a xs) : SqL K H' a xs := by
  rcases h with (h | ⟨o, h⟩) | h
  · exact .inl (.inl (e a _ hn h))
  · exact .inl (.inr ⟨o, e a _ hn h⟩)
  · exact .inr h
/-! ### min of the entries; the update -/
abbrev MinTyW : Type := Int × PySem.W.Tup (Int × Int)
def entD (x : Int × Mt) : MinTyW := (x.1, ⟨x.2.map fun e => ((e.1 : Int), (e.2 : Int))⟩)
theorem dp_ent {x : Int × Mt} {v : V} (h : EntP K x v H) : Dp K H v (PySem.W.Datum.toD (entD x)) := by
  obtain ⟨a, w, ps, rfl, h2, h3, h4⟩ := h
  refine .tup h2 (.cons (.int _) (.cons (.tup h3.sq ?_) .nil))
  show DpAll K H (ps.map V.ref) (((x.2.map fun e => ((e.1 : Int), (e.2 : Int)))).map PySem.W.Datum.toD)
  clear h2 h3
  generalize x.2 = way at h4
  induction h4 with
  | nil => exact .nil
  | cons r t ih => exact .cons (.tup r (.cons (.int _) (.cons (.int _) .nil))) ih
theorem dp_ents {vs : List V} {S : List (Int × Mt)} (h : Paired (fun v x => EntP K x v H) vs S) : DpAll K H vs ((S.map entD).map PySem.W.Datum.toD) := by
  induction h with
  | nil => exact .nil
  | cons r t ih => exact .cons (dp_ent r) ih
/-- min(some)[1] -/
theorem min_ent {i : Nat} {sl : Addr} {vs : List V} {S : List (Int × Mt)} {Q : VK} (hs : σ[i]? = some (some (.ref sl))) (hl : H sl = some (.lst vs)) (hp : Paired (fun v x => EntP K x v H) vs S) (hne : S ≠ [])
    (q : ∀ x w ps, x ∈ S → (∀ y, y ∈ S → x.1 ≤ y.1) → FzT H w (ps.map V.ref) → Paired (fun q (e : Nat × Nat) => SqT K H q [.int (e.1 : Int), .int (e.2 : Int)]) ps x.2 → Q (.ref w) H) :
    tOp (rIxT K) (tCB (rMinD K MinTyW) (tCons (tVar i) tNil)) (tC (.int 1)) σ H Q := by
  obtain ⟨x, zs, rfl⟩ : ∃ x zs, S = x :: zs := by
    cases S with
    | nil => exact absurd rfl hne
    | cons x zs => exact ⟨x, zs, rfl⟩
  refine ⟨_, hs, sl, vs, entD x, zs.map entD, rfl, .inl (.inl hl), dp_ents hp, fun j v hv hx _ => ?_⟩
  obtain ⟨h1, h2⟩ := minOf_fst (zs.map entD) (entD x)
  obtain ⟨y, hy, a, w, ps, rfl, h3, h4, h5⟩ := LiI.paired_get hp hv
  have hxy : entD y = PySem.W.minOf (entD x) (zs.map entD) := by
    have e : (entD x :: zs.map entD) = (x :: zs).map entD := rfl
    rw [e, List.getElem?_map, hy] at hx
    exact Option.some.inj hx
  refine ⟨a, _, 1, _, rfl, rfl, h3, rfl, q y w ps (List.mem_of_getElem? hy) (fun z hz => ?_) h4 h5⟩
  have := h2 (entD z) (List.mem_map.mpr ⟨z, hz, rfl⟩)
  rw [← hxy] at this
  exact this
theorem dkN_any (m : Mt) (g : Nat) : ((dkN m).any fun kv => decide (kv.1 = Sum.inl (g : Int))) = m.any fun e => decide (e.1 = g) := by
  unfold dkN
  rw [List.any_map]
  congr 1
  funext e
  exact decide_eq_decide.mpr inl_nat
theorem dkN_put (m : Mt) (g t : Nat) : putK (dkN m) (.inl (g : Int)) (.int (t : Int)) = dkN (putM m g t) := by
  unfold putK putM
  rw [dkN_any]
  by_cases h : (m.any fun e => decide (e.1 = g)) = true
  · rw [if_pos h, if_pos h]
    unfold dkN
    rw [List.map_map, List.map_map]
    refine List.map_congr_left fun e _ => ?_
    show (if (Sum.inl (e.1 : Int) : Key) = Sum.inl (g : Int) then ((Sum.inl (e.1 : Int) : Key), V.int (t : Int)) else (Sum.inl (e.1 : Int), V.int (e.2 : Int))) = (Sum.inl ((if e.1 = g then (e.1, t) else e).1 : Int), V.int ((if e.1 = g then (e.1, t) else e).2 : Int))
    by_cases he : e.1 = g
    · rw [if_pos (inl_nat.mpr he), if_pos he]
    · rw [if_neg (fun z => he (inl_nat.mp z)), if_neg he]
  · rw [if_neg h, if_neg h]
    unfold dkN
    rw [List.map_append]
    rfl
theorem dkN_upd : ∀ (way m : Mt), mergeK (dkN m) (dkN way) = dkN (updM m way)
  | [], m => rfl
  | e :: way, m => by
    show mergeK (putK (dkN m) (.inl (e.1 : Int)) (.int (e.2 : Int))) (dkN way) = dkN (updM (putM m e.1 e.2) way)
    rw [dkN_put, dkN_upd way]
theorem eg_notinD {M : Mt} {g : Nat} (hy : EvG ty Γ (Is K g)) (hd : EvG td Γ (DcE (dkN M))) : EvG (tDNotIn ty td) Γ (Is K (!decide (g ∈ M.map Prod.fst))) := fun σ H Q s q =>
  hy.two hd s fun v w H2 e p1 ⟨d, h1, h2⟩ => by
    obtain rfl : v = .int (g : Int) := p1
    refine ⟨d, _, h1, .inl ⟨_, .inl (g : Int), h2, rfl, rfl⟩, q _ H2 e ?_⟩
    rw [dkN_val]
    have : (M.find? fun e => decide (e.1 = g)).isSome = decide (g ∈ M.map Prod.fst) := by
      cases h : decide (g ∈ M.map Prod.fst) with
      | true =>
        obtain ⟨e, he, e2⟩ := List.mem_map.mp (of_decide_eq_true h)
        exact List.find?_isSome.mpr ⟨e, he, by simpa using e2⟩
      | false =>
        cases hf : M.find? fun e => decide (e.1 = g) with
        | none => rfl
        | some x =>
          have h1 : x.1 = g := by simpa using List.find?_some hf
          exact absurd (List.mem_map.mpr ⟨x, List.mem_of_find?_eq_some hf, h1⟩) (of_decide_eq_false h)
    show V.bl _ = V.bl _
    rw [Option.isSome_map, this]
/-- (cost, way), a new pair -/
theorem ent_pair {c : Int} {w0 : Addr} {way : Mt} {ps0 : List Addr} {i7 : Nat} {te1 : TE} {Q : VK} (h9 : EvG te1 Γ (Is K c)) (s : Sat Γ σ H) (h7 : σ[i7]? = some (some (.ref w0)))
    (hw : FzT H w0 (ps0.map V.ref)) (hp : Paired (fun q (e : Nat × Nat) => SqT K H q [.int (e.1 : Int), .int (e.2 : Int)]) ps0 way) (q : ∀ v H', Ex H H' → EntP K (c, way) v H' → Q v H') :
    tTup (tCons te1 (tCons (tVar i7) tNil)) σ H Q := h9 σ H _ s fun v H1 e1 p1 => by
  obtain rfl : v = .int c := p1
  refine ⟨_, h7, by show 2 ≤ sizeLine; decide, fun r hr => ?_⟩
  have e3 := e1.trans (Evl.Ex.new (o := .tup [.int c, .ref w0]) hr)
  exact q _ _ e3 ⟨r, w0, ps0, rfl, .inl (.inl upd_same), fz_mono e3 hw, Paired.mapP hp fun _ _ z => ex_t e3 z⟩
/-- (cost, way + (giver, one)), a new pair -/
theorem ent_newE {c : Int} {w0 : Addr} {way : Mt} {ps0 : List Addr} {i7 i5 i4 : Nat} {te1 : TE} {g one : Nat} {Q : VK} (h9 : EvG te1 Γ (Is K c)) (s : Sat Γ σ H) (h7 : σ[i7]? = some (some (.ref w0))) (h5 : σ[i5]? = some (some (.int (g : Int)))) (h4 : σ[i4]? = some (some (.int (one : Int))))
    (hw : FzT H w0 (ps0.map V.ref)) (hp : Paired (fun q (e : Nat × Nat) => SqT K H q [.int (e.1 : Int), .int (e.2 : Int)]) ps0 way) (hl : ps0.length ≤ 100000) (q : ∀ v H', Ex H H' → EntP K (c, way ++ [(g, one)]) v H' → Q v H') :
    tTup (tCons te1 (tCons (tTupF (StX.tStar K (tVar i7) (tCons (tTup (tCons (tVar i5) (tCons (tVar i4) tNil))) tNil))) tNil)) σ H Q := h9 σ H _ s fun v H1 e1 p1 => by
  obtain rfl : v = .int c := p1
  have hh : tTup (tCons (tC (.int c)) (tCons (tTupF (StX.tStar K (tVar i7) (tCons (tTup (tCons (tVar i5) (tCons (tVar i4) tNil))) tNil))) tNil)) σ H1 Q := by
    refine ⟨_, h7, w0, _, rfl, .inl (fz_mono e1 hw).sq, _, h5, _, h4, by show 2 ≤ sizeLine; decide, fun p hp0 => ⟨Nat.le_trans (Nat.le_of_eq (by rw [List.length_append, List.length_map]; rfl)) (Nat.le_trans (Nat.succ_le_succ hl) (by decide)), fun t o ht ho hc => ⟨by show 2 ≤ sizeLine; decide, fun r hr => ?_⟩⟩⟩
    have e2 : Ex H1 (upd H1 p (.tup [.int (g : Int), .int (one : Int)])) := Evl.Ex.new hp0
    have e3 := e2.trans (Evl.Ex.new (o := .frz o (.tup (ps0.map V.ref ++ [V.ref p]))) ht)
    have e4 := e3.trans (Evl.Ex.new (o := .tup [.int c, .ref t]) hr)
    have hpt : p ≠ t := ne_of_none (o := .tup [.int (g : Int), .int (one : Int)]) upd_same ht
    refine q _ _ (e1.trans e4) ⟨r, t, ps0 ++ [p], rfl, .inl (.inl upd_same), ⟨o, ho, hc, ?_⟩, Paired.app (Paired.mapP hp fun _ _ z => ex_t (e1.trans e4) z) (.cons (.inl (.inl ?_)) .nil)⟩
    · rw [upd_ne (ne_of_none (o := .frz o (.tup (ps0.map V.ref ++ [V.ref p]))) upd_same hr), upd_same, List.map_append]
      rfl
    · have h1 : (upd (upd H1 p (.tup [.int (g : Int), .int (one : Int)])) t (.frz o (.tup (ps0.map V.ref ++ [V.ref p])))) p = some (.tup [.int (g : Int), .int (one : Int)]) := by
        rw [upd_ne hpt, upd_same]
      rw [upd_ne (ne_of_none h1 hr)]
      exact h1
  exact hh
/-- xs.append(e), the list at l -/
theorem h_app {te : TE} {l : Addr} {xs : List V} {i : Nat} {Pr : V → Hp → Prop} (hi : σ[i]? = some (some (.ref l))) (hl : H l = some (.lst xs)) (hz : xs.length < 2000000) (ht : ∀ Q : VK, (∀ v H', Ex H H' → Pr v H' → Q v H') → te σ H Q) (q : ∀ v H', Ex H H' → Pr v H' → D.nx σ (upd H' l (.lst (xs ++ [v])))) :
    tDrop (tBM K "list" rAppend (tVar i) (tCons te tNil)) D σ H :=
  ⟨_, hi, .inl ⟨rfl, xs, .inl (.inl hl)⟩, ht _ fun v H' e p => ⟨l, xs, v, rfl, rfl, e _ _ hl, Nat.lt_of_lt_of_le hz (by decide), q v H' e p⟩⟩
end
end Lp

/-! part LpM4 -/
set_option linter.all false
/-! plain: handings as matchings; rates -/
namespace Lp
def handF (M : Mt) (t : Nat) : Option Nat := (M.find? fun e => decide (e.2 = t)).map Prod.fst
def payF (E : Net) (lane : List (Option Nat)) (j : Nat) : Int := match lane.getD j none with
  | none => E.N
  | some g => E.c g j
structure LaneM (n : Nat) (M : Mt) (lane : List (Option Nat)) : Prop where
  i : ∀ e, e ∈ M → lane.getD e.2 none = some e.1
  o : ∀ t, t < n → t ∉ M.map Prod.snd → lane.getD t none = none
theorem pay_tot {E : Net} {n : Nat} {M : Mt} {lane : List (Option Nat)} (hM : MOk E n M) (h : LaneM n M lane) : ((List.range n).map (payF E lane)).sum = tot E n M := by
  have hin : ∀ t, t ∈ M.map Prod.snd → t ∈ List.range n := fun t ht => by
    obtain ⟨e, he, rfl⟩ := List.mem_map.mp ht
    exact List.mem_range.mpr (hM.mem e he).2
  have s1 := sum_split (f := payF E lane) (List.nodup_range (n := n)) hM.tk hin
  have s2 := len_split (List.nodup_range (n := n)) hM.tk hin
  rw [List.length_range, List.length_map] at s2
  have e1 : ((M.map Prod.snd).map (payF E lane)).sum = cost E M := by
    unfold cost
    rw [List.map_map]
    congr 1
    refine List.map_congr_left fun e he => ?_
    show payF E lane e.2 = _
    unfold payF
    rw [h.i e he]
  have e2 : ((rest (List.range n) (M.map Prod.snd)).map (payF E lane)).sum = E.N * ((rest (List.range n) (M.map Prod.snd)).length : Int) := by
    rw [← sum_const]
    congr 1
    refine List.map_congr_left fun t ht => ?_
    obtain ⟨h1, h2⟩ := List.mem_filter.mp ht
    unfold payF
    rw [h.o t (List.mem_range.mp h1) (of_decide_eq_true h2)]
  rw [s1, e1, e2]
  unfold tot
  congr 2
  omega
theorem lane_eq (lane : List (Option Nat)) : lane = (List.range lane.length).map fun j => lane.getD j none := by
  refine List.ext_getElem (by simp) fun i h1 h2 => ?_
  rw [List.getElem_map, List.getElem_range, List.getD_eq_getElem?_getD, List.getElem?_eq_getElem h1]
  rfl
theorem nones_len (lane : List (Option Nat)) : (nones lane).length = ((List.range lane.length).filter fun j => (lane.getD j none).isNone).length := by
  have h : nones lane = ((List.range lane.length).filter fun j => (lane.getD j none).isNone).map fun j => lane.getD j none := by
    have := lane_eq lane
    unfold nones
    conv => lhs; rw [this]
    rw [List.filter_map]
    rfl
  rw [h, List.length_map]
theorem paid_pay (x : LkD) (dues : Int × Int) {lane : List (Option Nat)} (hl : lane.length = x.L.length) : paidF x.L x.shut x.anew dues lane = ((List.range x.L.length).map (payF (netF x dues) lane)).sum := by
  unfold paidF deadL
  rw [nones_len, hl]
  generalize List.range x.L.length = l
  induction l with
  | nil => simp
  | cons j l ih =>
    rw [List.map_cons, List.sum_cons, ← ih]
    unfold payF
    cases h : lane.getD j none with
    | none =>
      have h1 : dOf x.L x.shut x.anew lane j = false := by unfold dOf; rw [h]
      rw [List.filter_cons, List.filter_cons, h, h1]
      simp only [Option.isNone, if_true, Bool.false_eq_true, if_false, List.length_cons]
      rw [Int.natCast_add, Int.mul_add]
      show _ = dues.2 + _
      omega
    | some g =>
      have h1 : dOf x.L x.shut x.anew lane j = deadF x.L x.shut x.anew g j := by unfold dOf; rw [h]
      rw [List.filter_cons, List.filter_cons, h, h1]
      show _ = (if deadF x.L x.shut x.anew g j = true then dues.1 else 0) + _
      cases deadF x.L x.shut x.anew g j with
      | false => simp
      | true =>
        simp only [Option.isNone, if_true, Bool.false_eq_true, if_false, List.length_cons]
        rw [Int.natCast_add, Int.mul_add]
        omega
/-! from a matching to a lane -/
def handL (n : Nat) (M : Mt) : List (Option Nat) := (List.range n).map (handF M)
theorem handL_at {n : Nat} {M : Mt} {t : Nat} (h : t < n) : (handL n M).getD t none = handF M t := by
  unfold handL
  rw [List.getD_eq_getElem?_getD, List.getElem?_map, List.getElem?_range h]
  rfl
theorem handF_mem {M : Mt} {t g : Nat} (h : handF M t = some g) : (g, t) ∈ M := by
  unfold handF at h
  obtain ⟨e, he, rfl⟩ := Option.map_eq_some_iff.mp h
  have h1 : e.2 = t := by simpa using List.find?_some he
  rw [← h1]
  exact List.mem_of_find?_eq_some he
theorem handF_some {M : Mt} (hk : (M.map Prod.snd).Nodup) {e : Nat × Nat} (he : e ∈ M) : handF M e.2 = some e.1 := by
  unfold handF
  cases hf : M.find? fun x => decide (x.2 = e.2) with
  | none => exact absurd (decide_eq_true rfl) (List.find?_eq_none.mp hf _ he)
  | some x =>
    have h1 : x.2 = e.2 := by simpa using List.find?_some hf
    have h2 := val_eq hk (List.mem_of_find?_eq_some hf) he h1
    rw [h2]
    rfl
theorem handF_none {M : Mt} {t : Nat} (h : t ∉ M.map Prod.snd) : handF M t = none := by
  unfold handF
  cases hf : M.find? fun x => decide (x.2 = t) with
  | none => rfl
  | some x =>
    have h1 : x.2 = t := by simpa using List.find?_some hf
    exact absurd (List.mem_map.mpr ⟨x, List.mem_of_find?_eq_some hf, h1⟩) h
theorem hand_laneM {E : Net} {n : Nat} {M : Mt} (hM : MOk E n M) : LaneM n M (handL n M) := ⟨fun e he => by
  rw [handL_at (hM.mem e he).2]
  exact handF_some hM.tk he, fun t ht hn => by
  rw [handL_at ht]
  exact handF_none hn⟩
theorem somes_fm : ∀ l : List (Option Nat), somes l = l.filterMap id
  | [] => rfl
  | none :: l => by
    show somes l = _
    rw [somes_fm l]
    rfl
  | some g :: l => by
    show g :: somes l = _
    rw [somes_fm l]
    rfl
theorem hand_ok {x : LkD} {dues : Int × Int} {M : Mt} (hM : MOk (netF x dues) x.L.length M) : HandOk x.L x.keep (handL x.L.length M) := by
  refine ⟨by simp [handL], ?_, fun j hj g hg => ?_⟩
  · rw [somes_fm]
    unfold handL
    rw [List.filterMap_map]
    refine List.Pairwise.filterMap _ (fun a b hab g hg g' hg' e => ?_) (List.nodup_range (n := x.L.length))
    have h1 := handF_mem (show handF M a = some g from hg)
    have h2 := handF_mem (show handF M b = some g' from hg')
    have h3 := key_eq hM.gk h1 h2 e
    injection h3 with h4 h5
    exact hab h5
  · rw [handL_at hj] at hg
    exact (hM.mem _ (handF_mem hg)).1
theorem hand_paid {x : LkD} {dues : Int × Int} {M : Mt} (hM : MOk (netF x dues) x.L.length M) : paidF x.L x.shut x.anew dues (handL x.L.length M) = tot (netF x dues) x.L.length M := by
  rw [paid_pay x dues (by simp [handL]), pay_tot hM (hand_laneM hM)]
/-! from a lane to a matching -/
def laneM (lane : List (Option Nat)) : Mt := (List.range lane.length).filterMap fun j => (lane.getD j none).map fun g => (g, j)
theorem laneM_mem {lane : List (Option Nat)} {e : Nat × Nat} : e ∈ laneM lane ↔ e.2 < lane.length ∧ lane.getD e.2 none = some e.1 := by
  unfold laneM
  rw [List.mem_filterMap]
  constructor
  · rintro ⟨j, hj, h⟩
    obtain ⟨g, hg, rfl⟩ := Option.map_eq_some_iff.mp h
    exact ⟨List.mem_range.mp hj, hg⟩
  · rintro ⟨h1, h2⟩
    exact ⟨e.2, List.mem_range.mpr h1, by rw [h2]; rfl⟩
theorem lane_mok {x : LkD} {dues : Int × Int} {lane : List (Option Nat)} (h : HandOk x.L x.keep lane) : MOk (netF x dues) x.L.length (laneM lane) := by
  refine ⟨?_, ?_, fun e he => ?_⟩
  · have e1 : (laneM lane).map Prod.fst = somes lane := by
      rw [somes_fm]
      conv => rhs; rw [lane_eq lane]
      unfold laneM
      rw [List.filterMap_map, List.map_filterMap]
      congr 1
      funext j
      show Option.map Prod.fst (Option.map (fun g => (g, j)) (lane.getD j none)) = lane.getD j none
      cases lane.getD j none <;> rfl
    rw [e1]
    exact h.nd
  · unfold laneM
    rw [List.map_filterMap]
    refine List.Pairwise.filterMap _ (fun a b hab g hg g' hg' e => ?_) (List.nodup_range (n := lane.length))
    have h1 : ∀ a g, Option.map Prod.snd (Option.map (fun g => (g, a)) (lane.getD a none)) = some g → g = a := fun a g h => by
      cases hx : lane.getD a none with
      | none => rw [hx] at h; cases h
      | some y => rw [hx] at h; exact (Option.some.inj h).symm
    exact hab ((h1 a g hg).symm.trans (e.trans (h1 b g' hg')))
  · obtain ⟨h1, h2⟩ := laneM_mem.mp he
    rw [h.len] at h1
    exact ⟨h.giv e.2 h1 e.1 h2, h1⟩
theorem lane_paid {x : LkD} {dues : Int × Int} {lane : List (Option Nat)} (h : HandOk x.L x.keep lane) : paidF x.L x.shut x.anew dues lane = tot (netF x dues) x.L.length (laneM lane) := by
  rw [paid_pay x dues h.len, pay_tot (lane_mok h) ⟨fun e he => (laneM_mem.mp he).2, fun t ht hn => ?_⟩]
  cases hx : lane.getD t none with
  | none => rfl
  | some g => exact absurd (List.mem_map.mpr ⟨(g, t), laneM_mem.mpr ⟨by rw [h.len]; exact ht, hx⟩, rfl⟩) hn
/-! rates -/
def takF (E : Net) (M : Mt) (f : List Int) (t : Nat) : Int := match handF M t with
  | none => E.N
  | some g => f.getD g 0 + E.c g t
structure Gv (n : Nat) (v : Nat → Int) (f : List Int) : Prop where
  len : f.length = n
  lo : ∀ g, 0 ≤ f.getD g 0
  hi : ∀ g, g < n → f.getD g 0 ≤ v g
section
variable {E : Net} {M : Mt} {u v : Nat → Int} {f : List Int}
theorem tak_le (hE : NetOk E) (hM : MOk E E.n M) (hs : CS E E.n M u v) (hg : Gv E.n v f) {t : Nat} (ht : t < E.n) : takF E M f t ≤ u t := by
  unfold takF
  cases h : handF M t with
  | none =>
    have hn : t ∉ M.map Prod.snd := fun z => by
      obtain ⟨e, he, rfl⟩ := List.mem_map.mp z
      rw [handF_some hM.tk he] at h
      cases h
    rw [hs.t t ht hn]
    exact Int.le_refl _
  | some g =>
    have hm := handF_mem h
    have h1 := hs.m _ hm
    have h2 := hg.hi g (hE.lt _ _ (hM.mem _ hm).1)
    simp only at h1
    show f.getD g 0 + E.c g t ≤ u t
    omega
theorem tak_nn (hE : NetOk E) (hg : Gv E.n v f) (t : Nat) : 0 ≤ takF E M f t := by
  unfold takF
  cases handF M t with
  | none => exact hE.N0
  | some g =>
    have h1 := hg.lo g
    have h2 := hE.c0 g t
    show 0 ≤ f.getD g 0 + E.c g t
    omega
theorem getD_set {f : List Int} {g j : Nat} {a : Int} (h : g < f.length) : (f.set g a).getD j 0 = if j = g then a else f.getD j 0 := by
  rw [List.getD_eq_getElem?_getD, List.getD_eq_getElem?_getD, List.getElem?_set]
  by_cases hj : g = j
  · subst hj
    rw [if_pos rfl, if_pos h, if_pos rfl]
    rfl
  · rw [if_neg hj, if_neg fun z => hj z.symm]
theorem gv_step (hE : NetOk E) (hM : MOk E E.n M) (hf : Feas E E.n u v) (hs : CS E E.n M u v) (hg : Gv E.n v f) {t g : Nat} (ht : t < E.n) (hgt : g ∈ E.giv t) (hl : f.getD g 0 < takF E M f t - E.c g t) :
    Gv E.n v (f.set g (takF E M f t - E.c g t)) := by
  have hgn := hE.lt _ _ hgt
  have hgl : g < f.length := by rw [hg.len]; exact hgn
  refine ⟨by rw [List.length_set]; exact hg.len, fun j => ?_, fun j hj => ?_⟩
  · rw [getD_set hgl]
    split
    · have := hg.lo g; omega
    · exact hg.lo j
  · rw [getD_set hgl]
    split
    · next e =>
      have h1 := tak_le hE hM hs hg ht
      have h2 := hf.uv t ht g hgt
      rw [e]
      omega
    · exact hg.hi j hj
def gmu (n : Nat) (v : Nat → Int) (f : List Int) : Nat := ((List.range n).map fun g => (v g - f.getD g 0).toNat).sum
theorem gmu_lt (hg : Gv E.n v f) {g : Nat} {a : Int} (hgn : g < E.n) (h1 : f.getD g 0 < a) (h2 : Gv E.n v (f.set g a)) : gmu E.n v (f.set g a) < gmu E.n v f := by
  have hgl : g < f.length := by rw [hg.len]; exact hgn
  have h3 := h2.hi g hgn
  refine sum_lt_nat _ (fun j hj => ?_) g (List.mem_range.mpr hgn) ?_
  · rw [getD_set hgl]
    split
    · next e => rw [e]; omega
    · exact Nat.le_refl _
  · rw [getD_set hgl, if_pos rfl] at h3 ⊢
    omega
/-- nothing more is wanted -/
def GvC (E : Net) (M : Mt) (f : List Int) : Prop := ∀ t, t < E.n → ∀ g, g ∈ E.giv t → takF E M f t - E.c g t ≤ f.getD g 0
theorem gv_told (hE : NetOk E) (hM : MOk E E.n M) (hs : CS E E.n M u v) (hg : Gv E.n v f) : ((List.range E.n).map (takF E M f)).sum - ((List.range E.n).map fun g => f.getD g 0).sum = tot E E.n M := by
  refine of_slack (u := takF E M f) (v := fun g => f.getD g 0) hE hM (fun e he => ?_) (fun t ht hn => ?_) fun g hgn hn => ?_
  · unfold takF
    rw [handF_some hM.tk he]
  · unfold takF
    rw [handF_none hn]
  · have h1 := hg.lo g
    have h2 := hg.hi g hgn
    rw [hs.g g hgn hn] at h2
    omega
end
def ratesL (E : Net) (M : Mt) (f : List Int) : List (Int × Int) := (List.range E.n).map fun t => (takF E M f t, f.getD t 0)
theorem rates_told (E : Net) (M : Mt) (f : List Int) : toldF (ratesL E M f) = ((List.range E.n).map (takF E M f)).sum - ((List.range E.n).map fun g => f.getD g 0).sum := by
  unfold toldF ratesL
  rw [List.map_map, List.map_map]
  rfl
theorem rates_ok {x : LkD} {dues : Int × Int} {M : Mt} {u v : Nat → Int} {f : List Int} (hE : NetOk (netF x dues)) (hM : MOk (netF x dues) x.L.length M) (hf : Feas (netF x dues) x.L.length u v) (hs : CS (netF x dues) x.L.length M u v) (hg : Gv x.L.length v f) (hc : GvC (netF x dues) M f) :
    RatesOk x.L x.keep x.shut x.anew dues (ratesL (netF x dues) M f) := by
  have at' : ∀ j, j < x.L.length → rt0 (ratesL (netF x dues) M f) j = (takF (netF x dues) M f j, f.getD j 0) := fun j hj => by
    unfold rt0 ratesL
    rw [List.getD_eq_getElem?_getD, List.getElem?_map, List.getElem?_range (show j < (netF x dues).n from hj)]
    rfl
  refine ⟨by simp [ratesL, netF], fun p hp => ?_, fun j hj => ?_, fun j hj i hi => ?_⟩
  · obtain ⟨t, ht, rfl⟩ := List.mem_map.mp hp
    exact ⟨tak_nn (v := v) hE hg t, hg.lo t⟩
  · rw [at' j hj]
    have h1 := tak_le hE hM hs hg (t := j) hj
    have h2 := hf.un j hj
    exact Int.le_trans h1 h2
  · have hin := (mem_giv.mp hi).1
    rw [at' j hj, at' i hin]
    have h1 := hc j hj i hi
    have h2 : (netF x dues).c i j = if deadF x.L x.shut x.anew i j = true then dues.1 else 0 := rfl
    simp only
    omega
end Lp

/-! part LpRep8 -/
set_option Elab.async false
set_option linter.all false
set_option maxRecDepth 100000

namespace Lp
open PySem PySem.Spec PyProof.Rows L2
open Evl (Ex ex_l ex_t ex_rd fresh_back)
/-! ## a dict is locked and unlocked: what stays -/
structure Rm (H H' : Hp) : Prop where
  l : ∀ (b : Addr) (xs : List V), Rd H b (.lst xs) → Rd H' b (.lst xs)
  t : ∀ (b : Addr) (xs : List V), Rd H b (.tup xs) → Rd H' b (.tup xs)
  o : ∀ (a C dx : Addr) (vs : List (Option V)), SlX.Slt H a C dx vs → SlX.Slt H' a C dx vs
theorem rm_lock {H : Hp} {d : Addr} {kvs : List (Key × V)} {o : Obj} (hd : H d = some (.dK kvs)) : Rm H (upd H d (.frz o (.dK kvs))) := by
  have off : ∀ (b : Addr) (u : HO), H b = some u → (∀ ks, u ≠ .dK ks) → (upd H d (.frz o (.dK kvs))) b = some u := fun b u h hu => by
    rw [upd_ne (fun z => by subst z; rw [hd] at h; cases h; exact hu _ rfl)]
    exact h
  refine ⟨fun b xs h => ?_, fun b xs h => ?_, fun a C dx vs h => ?_⟩
  · rcases h with h | ⟨q, h⟩
    · exact .inl (off b _ h fun _ z => nomatch z)
    · exact .inr ⟨q, off b _ h fun _ z => nomatch z⟩
  · rcases h with h | ⟨q, h⟩
    · exact .inl (off b _ h fun _ z => nomatch z)
    · exact .inr ⟨q, off b _ h fun _ z => nomatch z⟩
  · rcases h with ⟨h, e⟩ | ⟨h, h'⟩
    · exact .inl ⟨off _ _ h (fun _ z => nomatch z), e⟩
    · exact .inr ⟨off _ _ h (fun _ z => nomatch z), off _ _ h' (fun _ z => nomatch z)⟩
theorem rm_unlock {H : Hp} {d : Addr} {kvs : List (Key × V)} {o : Obj} (hd : H d = some (.frz o (.dK kvs))) : Rm H (upd H d (.dK kvs)) := by
  have off : ∀ (b : Addr) (u : HO), H b = some u → (∀ o ks, u ≠ .frz o (.dK ks)) → (upd H d (.dK kvs)) b = some u := fun b u h hu => by
    rw [upd_ne (fun z => by subst z; rw [hd] at h; cases h; exact hu _ _ rfl)]
    exact h
  refine ⟨fun b xs h => ?_, fun b xs h => ?_, fun a C dx vs h => ?_⟩
  · rcases h with h | ⟨q, h⟩
    · exact .inl (off b _ h fun _ _ z => nomatch z)
    · exact .inr ⟨q, off b _ h fun _ _ z => nomatch z⟩
  · rcases h with h | ⟨q, h⟩
    · exact .inl (off b _ h fun _ _ z => nomatch z)
    · exact .inr ⟨q, off b _ h fun _ _ z => nomatch z⟩
  · rcases h with ⟨h, e⟩ | ⟨h, h'⟩
    · exact .inl ⟨off _ _ h (fun _ _ z => nomatch z), e⟩
    · exact .inr ⟨off _ _ h (fun _ _ z => nomatch z), off _ _ h' (fun _ _ z => nomatch z)⟩
def RM (P : SP) : Prop := ∀ (v : V) (H H' : Hp), Rm H H' → P.p v H → P.p v H'
class RepM (K : PySem.W.Frag) (α : Type) [Rep K α] : Prop where
  rm : ∀ x : α, RM (Is K x)
section
variable {K : PySem.W.Frag}
theorem AllP.rm {vs : List V} {Ps : List SP} {H H' : Hp} (h : AllP vs Ps H) (ht : ∀ P ∈ Ps, RM P) (e : Rm H H') : AllP vs Ps H' := by
  induction h with
  | nil => exact .nil
  | cons r t ih => exact .cons (ht _ List.mem_cons_self _ _ _ e r) (ih fun P hP => ht P (List.mem_cons_of_mem _ hP))
theorem rm_eq {x : V} : RM (Eq1 x) := fun _ _ _ _ h => h
theorem rm_tu {Ps : List SP} (h : ∀ P ∈ Ps, RM P) : RM (TuP K Ps) := fun v H H' e ⟨a, vs, h1, h2, h3⟩ => ⟨a, vs, h1, h2.imp (e.t _ _) id, AllP.rm h3 h e⟩
theorem rm_ls {Ps : List SP} (h : ∀ P ∈ Ps, RM P) : RM (LsP K Ps) := fun v H H' e ⟨a, vs, h1, h2, h3⟩ => ⟨a, vs, h1, h2.imp (e.l _ _) id, AllP.rm h3 h e⟩
theorem rm_ob {C : Addr} {Ps : List SP} (h : ∀ P ∈ Ps, RM P) : RM (ObP C Ps) := fun v H H' e ⟨a, dx, h1, vs, h2, h3⟩ => ⟨a, dx, h1, vs, e.o _ _ _ _ h2, fun i P hP => by
  obtain ⟨w, hw, hp⟩ := h3 i P hP
  rw [List.getElem?_map] at hP
  obtain ⟨P', hP', e2⟩ := Option.map_eq_some_iff.mp hP
  obtain rfl : P' = P := Option.some.inj e2
  exact ⟨w, hw, h _ (List.mem_of_getElem? hP') _ _ _ e hp⟩⟩
instance : RepM K Int := ⟨fun _ => rm_eq⟩
instance : RepM K Nat := ⟨fun _ => rm_eq⟩
instance : RepM K Bool := ⟨fun _ => rm_eq⟩
variable {α β δ : Type} [Rep K α] [Rep K β] [Rep K δ]
instance [RepM K α] : RepM K (Option α) := ⟨fun x => by
  cases x with
  | none => exact rm_eq
  | some x => exact RepM.rm (K := K) x⟩
instance [RepM K α] : RepM K (Tp α) := ⟨fun x => rm_tu fun P hP => by
  obtain ⟨y, _, e⟩ := List.mem_map.mp hP
  rw [← e]
  exact RepM.rm y⟩
instance [RepM K α] : RepM K (List α) := ⟨fun x => rm_ls fun P hP => by
  obtain ⟨y, _, e⟩ := List.mem_map.mp hP
  rw [← e]
  exact RepM.rm y⟩
instance [RepM K α] [RepM K β] : RepM K (α × β) := ⟨fun x => rm_tu fun P hP => by
  rcases List.mem_cons.mp hP with e | hP
  · rw [e]; exact RepM.rm x.1
  · rcases List.mem_cons.mp hP with e | hP
    · rw [e]; exact RepM.rm x.2
    · cases hP⟩
variable {Γ Γ' : Gm} {te td tk tv : TE} {P : SP} {σ : L2.St} {H : Hp} {D : Ends} {t2 : TS}
/-- the dict as it is; locked -/
def DcX (kvs : List (Key × V)) : SP := ⟨fun v H => ∃ d, v = .ref d ∧ H d = some (.dK kvs), fun e ⟨d, h1, h2⟩ => ⟨d, h1, e _ _ h2⟩⟩
def DcL (kvs : List (Key × V)) : SP := ⟨fun v H => ∃ d o, v = .ref d ∧ H d = some (.frz o (.dK kvs)), fun e ⟨d, o, h1, h2⟩ => ⟨d, o, h1, e _ _ h2⟩⟩
theorem ew_items {M : Mt} (h : EvG td Γ (DcL (dkN M))) : EvW (iItems td) Γ (M.map (Is K)) := fun σ H R s q => h σ H _ s fun v H1 e ⟨d, o, h1, h2⟩ =>
  ⟨d, o, _, h1, h2, q _ H1 e (by
    have w : Walk (Iti d o (dkN M)) (dkN M).length (fun H => Ex H1 H) (YPair (fun i => (dkN M)[i]?.map fun kv => kV kv.1) (fun i => (dkN M)[i]?.map Prod.snd)) := walk_items.mono (fun H' e' => e' _ _ h2) fun _ _ _ _ _ _ y => y
    rw [dkN_len] at w
    refine ⟨YPair (fun i => (dkN M)[i]?.map fun kv => kV kv.1) (fun i => (dkN M)[i]?.map Prod.snd), by rw [List.length_map]; exact w, fun i Ha v Hb hi ea ⟨T, x, y, hv, hT, hH, hx, hy⟩ => ?_⟩
    rw [List.length_map] at hi
    have hk : (dkN M)[i]? = some (Sum.inl ((M[i].1 : Nat) : Int), V.int ((M[i].2 : Nat) : Int)) := by
      unfold dkN
      rw [List.getElem?_map, List.getElem?_eq_getElem hi]
      rfl
    have hx' : ((dkN M)[i]?.map fun kv => kV kv.1) = some x := hx
    have hy' : (dkN M)[i]?.map Prod.snd = some y := hy
    rw [hk] at hx' hy'
    have hx := Option.some.inj hx'
    have hy := Option.some.inj hy'
    subst hv hH
    refine ⟨Is K M[i], by rw [List.getElem?_map, List.getElem?_eq_getElem hi]; rfl, Evl.Ex.new hT, T, _, rfl, .inl (.inl upd_same), .cons hx.symm (.cons hy.symm .nil)⟩)⟩
/-- under the lock -/
theorem h_lockAsg {d : Addr} {kvs : List (Key × V)} {i : Nat} (hd : H d = some (.dK kvs)) (s : ∀ od, Sat Γ' σ (upd H d (.frz od (.dK kvs)))) (h : EvG te Γ' P) (hP : ∀ (v : V) (H2 : Hp) (od : Obj), H2 d = some (.frz od (.dK kvs)) → P.p v H2 → P.p v (upd H2 d (.dK kvs)))
    (k : ∀ v H2, Ex H H2 → P.p v H2 → t2 D (σ.set i (some v)) H2) : tSeq (tLock (tAsg te (gName i))) t2 D σ H :=
  ⟨d, .dK kvs, hd, trivial, fun od => h σ _ _ (s od) fun v H2 e p => ⟨e _ _ upd_same, k v _ (fun b o hb => by
    by_cases z : b = d
    · subst z
      rw [hd] at hb
      cases hb
      exact upd_same
    · rw [upd_ne z]
      exact e b o (by rw [upd_ne z]; exact hb)) (hP v H2 od (e _ _ upd_same) p)⟩⟩
theorem h_asgLock {d : Addr} {kvs : List (Key × V)} {i : Nat} (hd : H d = some (.dK kvs)) (s : ∀ od, Sat Γ' σ (upd H d (.frz od (.dK kvs)))) (h : EvG te Γ' P) (hP : ∀ (v : V) (H2 : Hp) (od : Obj), H2 d = some (.frz od (.dK kvs)) → P.p v H2 → P.p v (upd H2 d (.dK kvs)))
    (k : ∀ v H2, Ex H H2 → P.p v H2 → t2 D (σ.set i (some v)) H2) : tSeq (tAsg (tLockE te) (gName i)) t2 D σ H :=
  ⟨d, .dK kvs, hd, trivial, fun od => h σ _ _ (s od) fun v H2 e p => ⟨e _ _ upd_same, k v _ (fun b o hb => by
    by_cases z : b = d
    · subst z
      rw [hd] at hb
      cases hb
      exact upd_same
    · rw [upd_ne z]
      exact e b o (by rw [upd_ne z]; exact hb)) (hP v H2 od (e _ _ upd_same) p)⟩⟩
theorem rm_P (h : RM P) {d : Addr} {kvs : List (Key × V)} (v : V) (H2 : Hp) (od : Obj) (hd : H2 d = some (.frz od (.dK kvs))) (p : P.p v H2) : P.p v (upd H2 d (.dK kvs)) := h _ _ _ (rm_unlock hd) p
theorem dcx_P {d : Addr} {kvs ks : List (Key × V)} (v : V) (H2 : Hp) (od : Obj) (hd : H2 d = some (.frz od (.dK kvs))) (p : (DcX ks).p v H2) : (DcX ks).p v (upd H2 d (.dK kvs)) := by
  obtain ⟨D, h1, h2⟩ := p
  exact ⟨D, h1, by rw [upd_ne (fun z => by rw [z, hd] at h2; cases h2)]; exact h2⟩
/-- {k: v for ..} -/
theorem eg_dc {γ : Type} {xs : List γ} {F : γ → SP} {Γ1 : γ → Gm} (f h : γ → Nat) {wi : TI} {g : TG} {vs : List Nat} (hw : EvW wi Γ (xs.map F)) (hn : (xs.map f).Nodup)
    (hg : ∀ x, x ∈ xs → TgG g (wipeG Γ vs) (F x) (Γ1 x) vs) (hk : ∀ x, x ∈ xs → EvG tk (Γ1 x) (Is K (f x))) (hv : ∀ x, x ∈ xs → EvG tv (Γ1 x) (Is K (h x))) (hl : xs.length ≤ 100000) : EvG (tDc wi g tYes tk tv vs) Γ (DcX (dkN (xs.map fun x => (f x, h x)))) := fun σ H Q s q =>
  hw σ H _ s fun J H1 e1 ⟨Y, w, hy⟩ => fun D hD => by
    rw [List.length_map] at w hy
    have Pv : Nat → Hp → Prop := fun i H' => Ex H1 H' ∧ H' D = some (.dK (dkN ((xs.take i).map fun x => (f x, h x))))
    refine ⟨fun i m H' => m = xs.length - i ∧ i ≤ xs.length ∧ Ex H1 H' ∧ H' D = some (.dK (dkN ((xs.take i).map fun x => (f x, h x)))), ⟨_, rfl, Nat.zero_le _, Ex.new hD, upd_same⟩, ?_⟩
    rintro i m Ha ⟨rfl, hi, p1, p2⟩
    by_cases hlt : i < xs.length
    · refine .inr ⟨w.goes i Ha hlt p1, fun H' => Ex H1 H' ∧ H' D = some (.dK (dkN ((xs.take (i + 1)).map fun x => (f x, h x)))), fun H' p' => ⟨xs.length - (i + 1), by omega, rfl, hlt, p'⟩, fun x Hb y => ?_⟩
      obtain ⟨P, hP, e2, hx⟩ := hy i Ha x Hb hlt p1 (w.yields i Ha x Hb hlt p1 y)
      have hxi : xs[i]? = some xs[i] := List.getElem?_eq_getElem hlt
      rw [List.getElem?_map, hxi] at hP
      obtain rfl : F xs[i] = P := Option.some.inj hP
      have hm : xs[i] ∈ xs := List.getElem_mem hlt
      refine hg _ hm _ Hb x _ ((s.mono (e1.trans (p1.trans e2))).wipe vs) hx fun σ2 s2 w2 => ⟨w2.trans wipe_idem, ?_⟩
      show tk σ2 Hb _
      refine hk _ hm σ2 Hb _ s2 fun vk H3 e3 pk => hv _ hm σ2 H3 _ (s2.mono e3) fun vv H4 e4 pv => ?_
      obtain rfl : vk = .int ((f xs[i] : Nat) : Int) := pk
      obtain rfl : vv = .int ((h xs[i] : Nat) : Int) := pv
      have hD4 : H4 D = some (.dK (dkN ((xs.take i).map fun x => (f x, h x)))) := e4 _ _ (e3 _ _ (e2 _ _ p2))
      refine ⟨_, .inl ((f xs[i] : Nat) : Int), rfl, hD4, ?_, Ex.mut (((p1.trans e2).trans e3).trans e4) hD, ?_⟩
      · rw [dkN_len, List.length_map, List.length_take]
        exact Evl.sz_lt (by omega)
      · rw [upd_same, dkN_new]
        · rw [List.take_succ, hxi, List.map_append]
          rfl
        · intro e he z
          obtain ⟨y, hy, rfl⟩ := List.mem_map.mp he
          obtain ⟨j, hj, ej⟩ := List.mem_iff_getElem.mp hy
          rw [List.length_take] at hj
          have hjl : j < xs.length := by omega
          have ey : xs[j] = y := by rw [← ej, List.getElem_take]
          have h1 := (List.pairwise_iff_getElem.mp hn) j i (by simpa using hjl) (by simpa using hlt) (by omega)
          simp only [List.getElem_map, ey] at h1
          exact h1 z
    · have e : i = xs.length := by omega
      subst e
      rw [List.take_length] at p2
      exact .inl ⟨w.stops Ha p1, q _ Ha (e1.trans p1) ⟨D, rfl, p2⟩⟩

theorem eg_get1 {M : Mt} {ty : TE} {t : Nat} (hd : EvG td Γ (DcX (dkN (M.map fun e => (e.2, e.1))))) (hy : EvG ty Γ (Is K t)) : EvG (tDGet1 td ty) Γ (Is K (handF M t)) := fun σ H Q s q =>
  hd σ H _ s fun v H1 e1 ⟨d, h1, h2⟩ => ⟨d, h1, .inl ⟨_, .inl h2⟩, hy σ H1 _ (s.mono e1) fun u H2 e2 p2 => by
    obtain rfl : u = .int (t : Int) := p2
    refine ⟨_, DGet.k (k := .inl (t : Int)) (e2 _ _ h2), q _ H2 (e1.trans e2) ?_⟩
    rw [dkN_val, List.find?_map]
    unfold handF
    have e : ((fun e : Nat × Nat => decide (e.1 = t)) ∘ fun e : Nat × Nat => (e.2, e.1)) = fun e => decide (e.2 = t) := rfl
    rw [e]
    cases M.find? fun e => decide (e.2 = t) <;> rfl⟩
/-- from a thing told by a word to the word's own -/
theorem eg_methS {γ : Type} {C : γ → Prop} {R : γ → SP} {ta : TE} {E : XK} {Dd : Addr} {pr : γ → Prop} {Os : γ → List SP} (ha : EvG ta Γ (Ssm pr fun g => ObP Dd (Os g))) (hc : ∀ g, pr g → C g) : EvG (SlX.tMethSl Dd (spP C (fun g => [ObP Dd (Os g)]) R) E ta tNil) Γ (Ssm pr R) := fun σ H Q s q =>
  ha σ H _ s fun v H1 e ⟨g, hg, p⟩ => by
    obtain ⟨a, dx, rfl, vs, h2, h3⟩ := id p
    exact ⟨a, dx, vs, rfl, h2, g, hc g hg, .cons p .nil, fun v H3 e3 r => q v H3 (e.trans e3) ⟨g, hg, r⟩⟩
end
end Lp

/-! part LpRep9 -/
set_option Elab.async false
set_option linter.all false
set_option maxRecDepth 100000

namespace Lp
open PySem PySem.Spec PyProof.Rows L2
open Evl (Ex ex_l ex_t ex_rd fresh_back)
section
variable {K : PySem.W.Frag} {Γ : Gm} {ta tb te : TE} {P : SP} {σ : L2.St} {H H0 : Hp} {D : Ends} {t2 tb : TS}
/-- a list comprehension: the list itself -/
theorem eg_lcX {γ : Type} {xs : List γ} {F : γ → SP} {Γ1 : γ → Gm} {f : γ → Bool} {Rf : γ → SP} {wi : TI} {g : TG} {tt : TT} {vs : List Nat} (hw : EvW wi Γ (xs.map F)) (hr : ∀ x, RT (Rf x))
    (hg : ∀ x, x ∈ xs → TgG g (wipeG Γ vs) (F x) (Γ1 x) vs) (ht : ∀ x, x ∈ xs → EvT tt (Γ1 x) (f x)) (he : ∀ x, x ∈ xs → f x = true → EvG te (Γ1 x) (Rf x)) (hl : xs.length ≤ 100000) (σ : L2.St) (H : Hp) (Q : VK) (s : Sat Γ σ H) (q : ∀ (D : Addr) (acc : List V) (H2 : Hp), Ex H H2 → H D = none → H2 D = some (.lst acc) → AllP acc ((xs.filter f).map Rf) H2 → Q (.ref D) H2) : tLc wi g tt te vs σ H Q :=
  hw σ H _ s fun J H1 e1 ⟨Y, w, hy⟩ => fun D hD => by
    rw [List.length_map] at w hy
    refine lc_it w (fun i H' => Ex H1 H' ∧ ∃ acc, H' D = some (.lst acc) ∧ AllP acc (((xs.take i).filter f).map Rf) H') ⟨Ex.new hD, [], upd_same, .nil⟩ (fun _ _ _ p => p.1) (fun i x Ha Hb hi p y => ?_) fun H' p => ?_
    · obtain ⟨p1, acc, p2, p3⟩ := p
      obtain ⟨P, hP, e2, hx⟩ := hy i Ha x Hb hi p1 y
      have hxi : xs[i]? = some xs[i] := List.getElem?_eq_getElem hi
      rw [List.getElem?_map, hxi] at hP
      obtain rfl : F xs[i] = P := Option.some.inj hP
      have hm : xs[i] ∈ xs := List.getElem_mem hi
      refine hg _ hm _ Hb x _ ((s.mono (e1.trans (p1.trans e2))).wipe vs) hx fun σ2 s2 w2 => ⟨w2.trans wipe_idem, ht _ hm σ2 Hb _ s2 fun H3 e3 => ?_⟩
      rw [filter_take hxi]
      cases hf : f xs[i] with
      | false =>
        show Ex H1 H3 ∧ _
        refine ⟨(p1.trans e2).trans e3, acc, e3 _ _ (e2 _ _ p2), ?_⟩
        simpa using AllP.mono p3 (e2.trans e3)
      | true =>
        show te σ2 H3 _
        refine he _ hm hf σ2 H3 _ (s2.mono e3) fun v H4 e4 hv => ⟨acc, e4 _ _ (e3 _ _ (e2 _ _ p2)), ?_, Ex.mut (((p1.trans e2).trans e3).trans e4) hD, acc ++ [v], upd_same, ?_⟩
        · have h1 := AllP.len p3
          have h2 := List.length_filter_le f (xs.take i)
          rw [List.length_map] at h1
          rw [List.length_take] at h2
          refine Evl.sz_lt ?_
          omega
        · have hk : Kt H4 (upd H4 D (.lst (acc ++ [v]))) := kt_upd (e4 _ _ (e3 _ _ (e2 _ _ p2))) rfl
          have a1 : AllP acc (((xs.take i).filter f).map Rf) H4 := AllP.mono p3 ((e2.trans e3).trans e4)
          have a2 : AllP [v] [Rf xs[i]] H4 := .cons hv .nil
          have a3 := (a1.append a2).kt (fun P hP => by
            rcases List.mem_append.mp hP with h | h
            · obtain ⟨z, _, ez⟩ := List.mem_map.mp h
              rw [← ez]
              exact hr z
            · rw [List.mem_singleton.mp h]
              exact hr _) hk
          simpa using a3
    · obtain ⟨p1, acc, p2, p3⟩ := p
      rw [List.take_length] at p3
      exact q D acc H' (e1.trans p1) (fresh_back e1 hD) p2 p3
/-- for x in self.f: the walk stands while the base heap H0 does -/
theorem walk_ownSl {C C' p : Addr} {f : Str} {i i' j : Nat} {Qs Qs' Ps : List SP} {R : It → Hp → Prop} (s : Sat Γ σ H0) (e : Ex H0 H) (hv : Γ[j]? = some (some (ObP C' Qs'))) (hc : SlX.SCls K C') (hs : SlX.Slot1 K C' f p i') (hx : Qs'[i']? = some (ObP C Qs)) (hi : Qs[i]? = some (LsP K Ps)) (q : ∀ J, WalkP J H0 Ps → R J H) : iOwn K C i (SlX.tSl K (tVar j) f) σ H R := by
  obtain ⟨v0, h1, a0, dx0, rfl, vs0, h2, h3⟩ := s.at' j _ hv
  obtain ⟨w0, hw0, a, dx, rfl, ws, h4, h5⟩ := h3 i' _ (some_at hx)
  obtain ⟨w, ho, l, us, rfl, hl, ha⟩ := h5 i _ (some_at hi)
  exact ⟨_, h1, a0, C', dx0, p, vs0, i', _, rfl, slt_mono e h2, hc, hs, hw0, a, dx, ws, l, us, rfl, slt_mono e h4, ho, ex_l e hl, q _ (walkP_at (walk_list.mono (fun H' e' => ex_l e' hl) fun _ _ _ _ _ _ y => y) ha)⟩
theorem h_for_ownSl {C C' p : Addr} {f : Str} {i i' j r n : Nat} {Qs Qs' : List SP} (s : Sat Γ σ H0) (e : Ex H0 H) (hv : Γ[j]? = some (some (ObP C' Qs'))) (hc : SlX.SCls K C') (hs' : SlX.Slot1 K C' f p i') (hx : Qs'[i']? = some (ObP C Qs)) (hi : Qs[i]? = some (Is K (List.range n)))
    (Pv : Nat → L2.St → Hp → Prop) (h0 : Pv 0 σ H) (hG : ∀ i σ H, Pv i σ H → Ex H0 H)
    (hs : ∀ i σ H H' D', i < n → Pv i σ H → Ex H H' → (∀ σ H, Pv (i + 1) σ H → Ends.nx D' σ H) → Ends.rt D' = D.rt → tb D' (σ.set r (some (.int (i : Int)))) H') (hd : ∀ σ H, Pv n σ H → D.nx σ H) : tFor (iOwn K C i (SlX.tSl K (tVar j) f)) (gName r) tb D σ H := by
  unfold tFor
  refine walk_ownSl s e hv hc hs' hx hi fun J wp => for_base (xs := List.range n) wp Pv h0 hG (fun i x σ H H' v hx p e hv => ?_) (by rw [List.length_range]; exact hd)
  have hi : i < n := by
    have := (List.getElem?_eq_some_iff.mp hx).1
    rwa [List.length_range] at this
  rw [List.getElem?_range hi] at hx
  obtain rfl : i = x := Option.some.inj hx
  obtain rfl : v = .int (i : Int) := hv
  exact hs i σ H H' _ hi p e (fun _ _ q => q) rfl
theorem h_for_own1 {C : Addr} {i j r n : Nat} {Qs : List SP} (s : Sat Γ σ H0) (e : Ex H0 H) (hv : Γ[j]? = some (some (ObP C Qs))) (hi : Qs[i]? = some (Is K (List.range n)))
    (Pv : Nat → L2.St → Hp → Prop) (h0 : Pv 0 σ H) (hG : ∀ i σ H, Pv i σ H → Ex H0 H)
    (hs : ∀ i σ H H' D', i < n → Pv i σ H → Ex H H' → (∀ σ H, Pv (i + 1) σ H → Ends.nx D' σ H) → Ends.rt D' = D.rt → tb D' (σ.set r (some (.int (i : Int)))) H') (hd : ∀ σ H, Pv n σ H → D.nx σ H) : tFor (iOwn K C i (tVar j)) (gName r) tb D σ H := h_for_own (t2 := fun D σ H => D.nx σ H) s e hv hi Pv h0 hG hs hd
theorem atI_i {xs : List Int} {g : Nat} (h : g < xs.length) : xs[g]? = some (xs.getD g 0) := by
  rw [List.getD_eq_getElem?_getD, List.getElem?_eq_getElem h]
  rfl
theorem is_ints {l : Addr} {fl : List Int} (h : H l = some (.lst (fl.map V.int))) : (Is K fl).p (.ref l) H := ⟨l, _, rfl, .inl (.inl h), ints_all⟩
end
end Lp

/-! part LpRep10 -/
set_option Elab.async false
set_option linter.all false
set_option maxRecDepth 100000

namespace Lp
open PySem PySem.Spec PyProof.Rows L2
open Evl (Ex ex_l ex_t ex_rd fresh_back)
section
variable {K : PySem.W.Frag} {Γ : Gm} {ta tb te : TE} {P : SP} {σ : L2.St} {H H0 : Hp} {D : Ends} {t2 tb : TS}
theorem ite_t {p q : Prop} (h : p) : if true = true then p else q := by
  rw [if_pos rfl]
  exact h
theorem sat_no {n : Nat} (h : σ.length = n) : Sat (List.replicate n none) σ H := ⟨by rw [h, List.length_replicate], fun i P hP => by
  have := (List.mem_replicate.mp (List.mem_of_getElem? hP)).2
  cases this⟩
/-- [te for p in r for y in p], all of them True -/
theorem eg_all2 {R : List (Int × Int)} {i0 i j : Nat} {vs vs1 : List Nat} (hv : Γ[i0]? = some (some (Is K (Tp.mk R)))) (hi : i ∈ vs) (hj : j ∈ vs1) (hil : i < Γ.length) (hjl : j < Γ.length)
    (he : ∀ p, p ∈ R → ∀ n : Int, n = p.1 ∨ n = p.2 → EvG te ((List.replicate Γ.length none).set j (some (Is K n))) (Is K true)) (hl : R.length ≤ 1000) :
    EvG (tLc2 (iTup K (tVar i0)) (gName i) tYes (iTup K (tVar i)) (gName j) tYes te vs vs1) Γ (Ssm (fun bs : List Bool => bs.all id = true) (Is K)) := fun σ H Q s q => by
  obtain ⟨v0, h0, a0, us, rfl, hsq, hal⟩ := s.at' i0 _ hv
  refine ⟨_, h0, a0, rfl, ⟨us, hsq⟩, fun D hD => ?_⟩
  have hlen : us.length = R.length := by
    have := AllP.len hal
    rwa [List.length_map] at this
  refine ⟨fun k m H' => m = us.length - k ∧ k ≤ us.length ∧ Ex H H' ∧ ∃ bs : List Bool, H' D = some (.lst (bs.map V.bl)) ∧ bs.all id = true ∧ bs.length ≤ 2 * k, ⟨_, rfl, Nat.zero_le _, Ex.new hD, [], upd_same, rfl, Nat.zero_le _⟩, ?_⟩
  rintro k m Ha ⟨rfl, hk, e1, bs, hD1, hb, hbl⟩
  by_cases hlt : k < us.length
  · refine .inr ⟨walk_tup.goes k Ha hlt (ex_t e1 hsq), fun H' => Ex H H' ∧ ∃ bs : List Bool, H' D = some (.lst (bs.map V.bl)) ∧ bs.all id = true ∧ bs.length ≤ 2 * (k + 1), fun H' p => ⟨us.length - (k + 1), by omega, rfl, hlt, p⟩, fun x Hb y => ?_⟩
    obtain ⟨eH, hx⟩ := walk_tup.yields k Ha x Hb hlt (ex_t e1 hsq) y
    subst eH
    obtain ⟨P, hP, hp⟩ := AllP.at hal hx
    rw [List.getElem?_map] at hP
    obtain ⟨p, hpx, rfl⟩ := Option.map_eq_some_iff.mp hP
    have hpm : p ∈ R := List.mem_of_getElem? hpx
    obtain ⟨b, ws, rfl, hb2, hb3⟩ := hp
    cases hb3 with
    | cons r t =>
      cases t with
      | cons r2 t =>
        cases t
        rename_i w1 w2
        obtain rfl : w1 = .int p.1 := r
        obtain rfl : w2 = .int p.2 := r2
        have hlσ : (wipe σ vs).length = Γ.length := by rw [wipe_length, s.len]
        have hσ2 : ((wipe σ vs).set i (some (.ref b)))[i]? = some (some (.ref b)) := List.getElem?_set_self (by rw [hlσ]; exact hil)
        refine ⟨(wipe_in hi).trans wipe_idem, ?_⟩
        simp only [tYes, ↓reduceIte]
        have hl2 : ((wipe σ vs).set i (some (.ref b))).length = Γ.length := by rw [List.length_set, hlσ]
        generalize (wipe σ vs).set i (some (.ref b)) = σ2 at hσ2 hl2
        have sqb : SqT K Hb b [.int p.1, .int p.2] := ex_t e1 hb2
        refine ⟨_, hσ2, b, rfl, ⟨_, sqb⟩, fun j' k' H' => k' = 2 - j' ∧ j' ≤ 2 ∧ Ex H H' ∧ SqT K H' b [.int p.1, .int p.2] ∧ ∃ bs : List Bool, H' D = some (.lst (bs.map V.bl)) ∧ bs.all id = true ∧ bs.length ≤ 2 * k + j', ⟨_, rfl, Nat.zero_le _, e1, sqb, bs, hD1, hb, hbl⟩, ?_⟩
        rintro j' k' Hc ⟨rfl, hj', e2, sqc, bs2, hD2, hb2', hbl2⟩
        by_cases hlt2 : j' < 2
        · refine .inr ⟨(walk_tup (xs := [.int p.1, .int p.2])).goes j' Hc hlt2 sqc, fun H' => Ex H H' ∧ SqT K H' b [.int p.1, .int p.2] ∧ ∃ bs : List Bool, H' D = some (.lst (bs.map V.bl)) ∧ bs.all id = true ∧ bs.length ≤ 2 * k + (j' + 1), fun H' p => ⟨2 - (j' + 1), by omega, rfl, hlt2, p⟩, fun x Hd y => ?_⟩
          obtain ⟨eH, hx2⟩ := (walk_tup (xs := [.int p.1, .int p.2])).yields j' Hc x Hd hlt2 sqc y
          subst eH
          obtain ⟨n, rfl, hn⟩ : ∃ n : Int, x = .int n ∧ (n = p.1 ∨ n = p.2) := by
            match j', hlt2, hx2 with
            | 0, _, hx2 => exact ⟨_, (Option.some.inj hx2).symm, .inl rfl⟩
            | 1, _, hx2 => exact ⟨_, (Option.some.inj hx2).symm, .inr rfl⟩
          refine ⟨(wipe_in hj).trans wipe_idem, ?_⟩
          simp only [tYes, ↓reduceIte]
          have s3 : Sat ((List.replicate Γ.length none).set j (some (Is K n))) ((wipe σ2 vs1).set j (some (.int n))) Hd := (sat_no (by rw [wipe_length, hl2])).set (P := Is K n) rfl
          refine he p hpm n hn _ Hd _ s3 fun w H7 e7 hw => ?_
          obtain rfl : w = .bl true := hw
          refine ⟨_, e7 _ _ hD2, ?_, Ex.mut (e2.trans e7) hD, kt_t (kt_upd (e7 _ _ hD2) rfl) (ex_t e7 sqc), bs2 ++ [true], ?_, ?_, ?_⟩
          · rw [List.length_map]
            exact Evl.sz_lt (by omega)
          · rw [upd_same, List.map_append]
            rfl
          · rw [List.all_append, hb2']
            rfl
          · rw [List.length_append]
            show bs2.length + 1 ≤ _
            omega
        · have e : j' = 2 := by omega
          subst e
          exact .inl ⟨(walk_tup (xs := [.int p.1, .int p.2])).stops Hc sqc, e2, bs2, hD2, hb2', by omega⟩
  · have e : k = us.length := by omega
    subst e
    exact .inl ⟨walk_tup.stops Ha (ex_t e1 hsq), q _ _ e1 ⟨bs, hb, D, _, rfl, .inl (.inl hD1), by
      have : ∀ {H : Hp} (ns : List Bool), AllP (ns.map V.bl) (ns.map (Is K)) H := fun ns => by
        induction ns with
        | nil => exact .nil
        | cons n ns ih => exact .cons rfl ih
      exact this bs⟩⟩
/-- open a word -/
theorem sx_setS {γ : Type} {p : γ → Prop} {F : γ → SP} {i : Nat} {N : Gm → Prop} {R : SP → Prop} (h : EvG te Γ (Ssm p F)) (h2 : ∀ x, p x → StX t2 (Γ.set i (some (F x))) N R) : StX (tSeq (tAsg te (gName i)) t2) Γ N R := fun D σ H s hn hr =>
  h σ H _ s fun v H2 e ⟨x, hx, hv⟩ => h2 x hx D _ H2 ((s.mono e).set hv) (fun Γ3 σ3 H3 n e3 s3 => hn Γ3 σ3 H3 n (e.trans e3) s3) fun P v H3 r e3 hp => hr P v H3 r (e.trans e3) hp
theorem eg_allS {te : TE} (h : EvG te Γ (Ssm (fun bs : List Bool => bs.all id = true) (Is K))) : EvG (tCB (rAll K) (tCons te tNil)) Γ (Is K true) := fun σ H Q s q => h σ H _ s fun v H1 e ⟨bs, hb, a, vs, h1, h2, h3⟩ => by
  subst h1
  rw [all_bls h3] at h2
  exact ⟨a, bs, rfl, h2, q _ H1 e (by rw [hb]; rfl)⟩
end
end Lp

/-! part LpM5 -/
set_option linter.all false
/-! plain: a pool, beat by beat -/
namespace Lp
structure PoS where
  keep : Int
  depth : Option Int
  now : Nat
  idle : List (Nat × Nat)
  lent : List Nat
  made : Nat
  there : List Nat
structure PlOk (L : Loans) : Prop where
  so : ∀ i j, i < j → j < L.length → (ld L i).1 ≤ (ld L j).1
  pos : ∀ i, i < L.length → 0 ≤ (ld L i).1 ∧ (ld L i).1 < (ld L i).2 ∧ (ld L i).2 ≤ 100
  len : L.length ≤ 50
def Last (ks : List Nat) (i k : Nat) : Prop := ks[i]? = some k ∧ ∀ j, i < j → ks[j]? ≠ some k
theorem Last.uniq {ks : List Nat} {i j k : Nat} (h : Last ks i k) (h' : Last ks j k) : i = j := by
  rcases Nat.lt_trichotomy i j with l | l | l
  · exact absurd h'.1 (h.2 j l)
  · exact l
  · exact absurd h.1 (h'.2 i l)
theorem Last.lt {ks : List Nat} {i k : Nat} (h : Last ks i k) : i < ks.length := (List.getElem?_eq_some_iff.mp h.1).1
def Out (L : Loans) (now r i : Nat) : Prop := (now : Int) < (ld L i).2 ∨ ((ld L i).2 = now ∧ r ≤ i)
def ThOk (L : Loans) (keep : Int) (ks : List Nat) : Prop := ∀ i j k, i < j → ks[i]? = some k → ks[j]? = some k → (∀ m, i < m → m < j → ks[m]? ≠ some k) → (ld L i).2 ≤ (ld L j).1 ∧ (ld L j).1 ≤ (ld L i).2 + keep
structure PInv (L : Loans) (r : Nat) (ks : List Nat) (p : PoS) : Prop where
  nL : p.lent.Nodup
  lent : ∀ k, k ∈ p.lent ↔ ∃ i, Last ks i k ∧ Out L p.now r i
  nI : (p.idle.map Prod.fst).Nodup
  idle : ∀ e, e ∈ p.idle → ∃ i, Last ks i e.1 ∧ (ld L i).2 = e.2 ∧ ¬ Out L p.now r i ∧ (p.now : Int) ≤ e.2 + p.keep
  hold : ∀ i k, ks[i]? = some k → Out L p.now r i → Last ks i k
  lt : ∀ k, k ∈ ks → k < p.made
  ml : p.made ≤ ks.length
  thr : ∀ k, k ∈ p.there → k ∈ p.lent ∨ k ∈ p.idle.map Prod.fst
  tl : p.there.length ≤ p.made
  th : ThOk L p.keep ks
  kp : 0 ≤ p.keep
section
variable {L : Loans} {r : Nat} {ks : List Nat} {p : PoS}
theorem PInv.apart (h : PInv L r ks p) {k : Nat} (h1 : k ∈ p.lent) (h2 : k ∈ p.idle.map Prod.fst) : False := by
  obtain ⟨i, hi, ho⟩ := (h.lent k).mp h1
  obtain ⟨e, he, rfl⟩ := List.mem_map.mp h2
  obtain ⟨j, hj, _, hn, _⟩ := h.idle e he
  rw [hj.uniq hi] at hn
  exact hn ho
theorem out_step {now i : Nat} (h : i ≠ r) : Out L now (r + 1) i ↔ Out L now r i := by
  unfold Out
  constructor
  · rintro (h1 | ⟨h1, h2⟩)
    · exact .inl h1
    · exact .inr ⟨h1, by omega⟩
  · rintro (h1 | ⟨h1, h2⟩)
    · exact .inl h1
    · exact .inr ⟨h1, by omega⟩
theorem out_mono {now i : Nat} (h : Out L now (r + 1) i) : Out L now r i := by
  rcases h with h1 | ⟨h1, h2⟩
  · exact .inl h1
  · exact .inr ⟨h1, by omega⟩
theorem PInv.nx (h : PInv L r ks p) (hr : ∀ i, i < ks.length → (Out L p.now (r + 1) i ↔ Out L p.now r i)) : PInv L (r + 1) ks p := {
  nL := h.nL
  lent := fun k => by
    rw [h.lent k]
    constructor
    · rintro ⟨i, h1, h2⟩
      exact ⟨i, h1, (hr i h1.lt).mpr h2⟩
    · rintro ⟨i, h1, h2⟩
      exact ⟨i, h1, (hr i h1.lt).mp h2⟩
  nI := h.nI
  idle := fun e he => by
    obtain ⟨i, h1, h2, h3, h4⟩ := h.idle e he
    exact ⟨i, h1, h2, fun z => h3 (out_mono z), h4⟩
  hold := fun i k hk ho => h.hold i k hk (out_mono ho)
  lt := h.lt
  ml := h.ml
  thr := h.thr
  tl := h.tl
  th := h.th
  kp := h.kp }
theorem PInv.skip (h : PInv L r ks p) (hr : (ld L r).2 ≠ p.now) : PInv L (r + 1) ks p := h.nx fun i _ => by
  by_cases hi : i = r
  · subst hi
    unfold Out
    constructor
    · rintro (h1 | ⟨h1, h2⟩)
      · exact .inl h1
      · exact absurd h1 hr
    · rintro (h1 | ⟨h1, h2⟩)
      · exact .inl h1
      · exact absurd h1 hr
  · exact out_step hi
def giveP (p : PoS) (k : Nat) : PoS := { p with lent := p.lent.erase k, idle := (k, p.now) :: p.idle }
theorem PInv.give (h : PInv L r ks p) (hr : (ld L r).2 = p.now) {k : Nat} (hk : ks[r]? = some k) : k ∈ p.lent ∧ PInv L (r + 1) ks (giveP p k) := by
  have ho : Out L p.now r r := .inr ⟨hr, Nat.le_refl _⟩
  have hl := h.hold r k hk ho
  have hm : k ∈ p.lent := (h.lent k).mpr ⟨r, hl, ho⟩
  have hni : k ∉ p.idle.map Prod.fst := fun z => h.apart hm z
  have hno : ¬ Out L p.now (r + 1) r := by
    rintro (h1 | ⟨h1, h2⟩)
    · omega
    · omega
  refine ⟨hm, ⟨h.nL.erase _, fun k' => ?_, List.nodup_cons.mpr ⟨hni, h.nI⟩, fun e he => ?_, fun i k' hk' hoi => h.hold i k' hk' (out_mono hoi), h.lt, h.ml, fun k' hk' => ?_, h.tl, h.th, h.kp⟩⟩
  · show k' ∈ p.lent.erase k ↔ _
    rw [h.nL.mem_erase_iff, h.lent k']
    constructor
    · rintro ⟨h1, i, h2, h3⟩
      refine ⟨i, h2, (out_step fun z => ?_).mpr h3⟩
      subst z
      have h4 := h2.1
      rw [hk] at h4
      exact h1 (Option.some.inj h4).symm
    · rintro ⟨i, h2, h3⟩
      refine ⟨fun z => ?_, i, h2, out_mono h3⟩
      subst z
      rw [h2.uniq hl] at h3
      exact hno h3
  · rcases List.mem_cons.mp he with e1 | he
    · subst e1
      refine ⟨r, hl, hr, hno, ?_⟩
      have := h.kp
      show (p.now : Int) ≤ (p.now : Int) + p.keep
      omega
    · obtain ⟨i, h1, h2, h3, h4⟩ := h.idle e he
      exact ⟨i, h1, h2, fun z => h3 (out_mono z), h4⟩
  · rcases h.thr k' hk' with h1 | h1
    · by_cases hkk : k' = k
      · subst hkk
        exact .inr List.mem_cons_self
      · exact .inl ((h.nL.mem_erase_iff).mpr ⟨hkk, h1⟩)
    · exact .inr (List.mem_cons_of_mem _ h1)
theorem last_app {ks : List Nat} {i k c : Nat} (h : i < ks.length) : Last (ks ++ [c]) i k ↔ Last ks i k ∧ k ≠ c := by
  unfold Last
  rw [List.getElem?_append_left h]
  constructor
  · rintro ⟨h1, h2⟩
    refine ⟨⟨h1, fun j hj e => ?_⟩, fun z => ?_⟩
    · have hl := (List.getElem?_eq_some_iff.mp e).1
      exact h2 j hj (by rw [List.getElem?_append_left hl]; exact e)
    · subst z
      exact h2 ks.length h (by simp)
  · rintro ⟨⟨h1, h2⟩, h3⟩
    refine ⟨h1, fun j hj e => ?_⟩
    by_cases hl : j < ks.length
    · rw [List.getElem?_append_left hl] at e
      exact h2 j hj e
    · rw [List.getElem?_append_right (by omega)] at e
      have := List.mem_of_getElem? e
      exact h3 (List.mem_singleton.mp this)
theorem last_new {ks : List Nat} {c : Nat} : Last (ks ++ [c]) ks.length c := ⟨by simp, fun j hj e => by
  have := (List.getElem?_eq_some_iff.mp e).1
  simp at this
  omega⟩
theorem last_end' {ks : List Nat} {i k c : Nat} (h : Last (ks ++ [c]) i k) : (i = ks.length ∧ k = c) ∨ (i < ks.length ∧ Last ks i k ∧ k ≠ c) := by
  by_cases hi : i < ks.length
  · exact .inr ⟨hi, (last_app hi).mp h⟩
  · have hl := h.lt
    rw [List.length_append] at hl
    have hl : i = ks.length := by simp at hl; omega
    subst hl
    have := h.1
    simp at this
    exact .inl ⟨rfl, this.symm⟩
/-- what is the same for a new and an old thing -/
structure Tk (L : Loans) (ks : List Nat) (p p' : PoS) (c : Nat) : Prop where
  inv : PInv L L.length (ks ++ [c]) p'
  now : p'.now = p.now
  keep : p'.keep = p.keep
  depth : p'.depth = p.depth
  md : p'.made ≤ p.made + 1
  le : p.made ≤ p'.made
theorem th_app {keep : Int} (h : ThOk L keep ks) {c : Nat} (hc : ∀ i, Last ks i c → (ld L i).2 ≤ (ld L ks.length).1 ∧ (ld L ks.length).1 ≤ (ld L i).2 + keep) : ThOk L keep (ks ++ [c]) := by
  intro i j k hij hi hj hm
  have hjl := (List.getElem?_eq_some_iff.mp hj).1
  rw [List.length_append] at hjl
  have hjl : j ≤ ks.length := by simp at hjl; omega
  have hil : i < ks.length := by omega
  rw [List.getElem?_append_left hil] at hi
  by_cases hj2 : j < ks.length
  · rw [List.getElem?_append_left hj2] at hj
    exact h i j k hij hi hj fun m h1 h2 e => hm m h1 h2 (by rw [List.getElem?_append_left (by omega)]; exact e)
  · have e : j = ks.length := by omega
    subst e
    have : k = c := by
      simp at hj
      exact hj.symm
    subst this
    exact hc i ⟨hi, fun m h1 e => by
      have hml := (List.getElem?_eq_some_iff.mp e).1
      exact hm m h1 hml (by rw [List.getElem?_append_left hml]; exact e)⟩
theorem PInv.new (h : PInv L L.length ks p) (hb : (ld L ks.length).1 = p.now) (he : (ld L ks.length).1 < (ld L ks.length).2) (hid : p.idle = []) :
    Tk L ks p { p with made := p.made + 1, lent := p.lent ++ [p.made], there := p.there ++ [p.made] } p.made := by
  have hnk : p.made ∉ ks := fun z => Nat.lt_irrefl _ (h.lt _ z)
  have hnL : ∀ {i k : Nat}, Last ks i k → k ≠ p.made := fun h1 e => by
    subst e
    exact hnk (List.mem_of_getElem? h1.1)
  have hout : Out L p.now L.length ks.length := .inl (by omega)
  refine ⟨⟨?_, fun k => ?_, h.nI, fun e he => ?_, fun i k hk ho => ?_, fun k hk => ?_, ?_, fun k hk => ?_, ?_, th_app h.th fun i hi => absurd rfl (hnL hi), h.kp⟩, rfl, rfl, rfl, Nat.le_refl _, Nat.le_succ _⟩
  · refine List.nodup_append.mpr ⟨h.nL, by simp, fun a ha b hb e => ?_⟩
    rw [List.mem_singleton.mp hb] at e
    subst e
    obtain ⟨i, h1, _⟩ := (h.lent _).mp ha
    exact hnL h1 rfl
  · show k ∈ p.lent ++ [p.made] ↔ _
    rw [List.mem_append, h.lent k]
    constructor
    · rintro (⟨i, h1, h2⟩ | h1)
      · exact ⟨i, (last_app h1.lt).mpr ⟨h1, hnL h1⟩, h2⟩
      · rw [List.mem_singleton.mp h1]
        exact ⟨_, last_new, hout⟩
    · rintro ⟨i, h1, h2⟩
      rcases last_end' h1 with ⟨h3, h4⟩ | ⟨h3, h4, h5⟩
      · rw [h4]; exact .inr List.mem_cons_self
      · exact .inl ⟨i, h4, h2⟩
  · have he : e ∈ p.idle := he
    rw [hid] at he
    cases he
  · have hil := (List.getElem?_eq_some_iff.mp hk).1
    rw [List.length_append] at hil
    by_cases hi : i < ks.length
    · rw [List.getElem?_append_left hi] at hk
      have h1 := h.hold i k hk ho
      exact (last_app hi).mpr ⟨h1, hnL h1⟩
    · have e : i = ks.length := by simp at hil; omega
      subst e
      have : k = p.made := by
        simp at hk
        exact hk.symm
      subst this
      exact last_new
  · show k < p.made + 1
    rcases List.mem_append.mp hk with hk | hk
    · exact Nat.lt_succ_of_lt (h.lt k hk)
    · rw [List.mem_singleton.mp hk]; exact Nat.lt_succ_self _
  · show p.made + 1 ≤ _
    rw [List.length_append]
    exact Nat.succ_le_succ h.ml
  · show k ∈ p.lent ++ [p.made] ∨ _
    rcases List.mem_append.mp hk with hk | hk
    · rcases h.thr k hk with h1 | h1
      · exact .inl (List.mem_append_left _ h1)
      · exact .inr h1
    · exact .inl (List.mem_append_right _ hk)
  · show (p.there ++ [p.made]).length ≤ p.made + 1
    rw [List.length_append]
    exact Nat.succ_le_succ h.tl
theorem PInv.old (h : PInv L L.length ks p) (hks : ks.length < L.length) (hb : (ld L ks.length).1 = p.now) (he : (ld L ks.length).1 < (ld L ks.length).2) {x : Nat} {e : Nat × Nat} (hx : p.idle[x]? = some e) :
    Tk L ks p { p with idle := p.idle.eraseIdx x, lent := p.lent ++ [e.1] } e.1 := by
  have hm : e ∈ p.idle := List.mem_of_getElem? hx
  obtain ⟨i0, g1, g2, g3, g4⟩ := h.idle e hm
  have hnl : e.1 ∉ p.lent := fun z => h.apart z (List.mem_map.mpr ⟨e, hm, rfl⟩)
  have hout : Out L p.now L.length ks.length := .inl (by omega)
  have hxl := (List.getElem?_eq_some_iff.mp hx).1
  have hsub : ∀ q, q ∈ p.idle.eraseIdx x → q ∈ p.idle ∧ q.1 ≠ e.1 := fun q hq => by
    refine ⟨List.mem_of_mem_eraseIdx hq, fun z => ?_⟩
    obtain ⟨j, hj, hne⟩ := List.mem_eraseIdx_iff_getElem?.mp hq
    obtain ⟨hjx, hjq⟩ := (⟨hj, hne⟩ : _ ∧ _)
    have h1 := (List.pairwise_iff_getElem.mp h.nI)
    have hjl := (List.getElem?_eq_some_iff.mp hjq).1
    have e1 : (p.idle.map Prod.fst)[j]'(by simpa using hjl) = q.1 := by
      have := (List.getElem?_eq_some_iff.mp hjq).2
      simp [this]
    have e2 : (p.idle.map Prod.fst)[x]'(by simpa using hxl) = e.1 := by
      have := (List.getElem?_eq_some_iff.mp hx).2
      simp [this]
    rcases Nat.lt_or_ge j x with l | l
    · exact h1 j x _ _ l (by rw [e1, e2, z])
    · exact h1 x j _ _ (by omega) (by rw [e1, e2, z])
  refine ⟨⟨?_, fun k => ?_, ?_, fun q hq => ?_, fun i k hk ho => ?_, fun k hk => ?_, ?_, fun k hk => ?_, h.tl, th_app h.th fun i hi => ?_, h.kp⟩, rfl, rfl, rfl, Nat.le_succ _, Nat.le_refl _⟩
  · refine List.nodup_append.mpr ⟨h.nL, by simp, fun a ha b hb z => ?_⟩
    rw [List.mem_singleton.mp hb] at z
    subst z
    exact hnl ha
  · show k ∈ p.lent ++ [e.1] ↔ _
    rw [List.mem_append, h.lent k]
    constructor
    · rintro (⟨i, h1, h2⟩ | h1)
      · refine ⟨i, (last_app h1.lt).mpr ⟨h1, fun z => ?_⟩, h2⟩
        subst z
        exact hnl ((h.lent _).mpr ⟨i, h1, h2⟩)
      · rw [List.mem_singleton.mp h1]
        exact ⟨_, last_new, hout⟩
    · rintro ⟨i, h1, h2⟩
      rcases last_end' h1 with ⟨h3, h4⟩ | ⟨h3, h4, h5⟩
      · rw [h4]; exact .inr List.mem_cons_self
      · exact .inl ⟨i, h4, h2⟩
  · exact List.Nodup.sublist (List.Sublist.map _ (List.eraseIdx_sublist _ _)) h.nI
  · obtain ⟨h1, h2⟩ := hsub q hq
    obtain ⟨i, h3, h4, h5, h6⟩ := h.idle q h1
    exact ⟨i, (last_app h3.lt).mpr ⟨h3, h2⟩, h4, h5, h6⟩
  · have hil := (List.getElem?_eq_some_iff.mp hk).1
    rw [List.length_append] at hil
    by_cases hi : i < ks.length
    · rw [List.getElem?_append_left hi] at hk
      have h1 := h.hold i k hk ho
      refine (last_app hi).mpr ⟨h1, fun z => ?_⟩
      subst z
      exact hnl ((h.lent _).mpr ⟨i, h1, ho⟩)
    · have e3 : i = ks.length := by simp at hil; omega
      subst e3
      have : k = e.1 := by
        simp at hk
        exact hk.symm
      subst this
      exact last_new
  · rcases List.mem_append.mp hk with hk | hk
    · exact h.lt k hk
    · rw [List.mem_singleton.mp hk]; exact h.lt _ (List.mem_of_getElem? g1.1)
  · show p.made ≤ _
    rw [List.length_append]
    exact Nat.le_succ_of_le h.ml
  · show k ∈ p.lent ++ [e.1] ∨ k ∈ (p.idle.eraseIdx x).map Prod.fst
    rcases h.thr k hk with h1 | h1
    · exact .inl (List.mem_append_left _ h1)
    · by_cases hke : k = e.1
      · subst hke
        exact .inl (List.mem_append_right _ List.mem_cons_self)
      · obtain ⟨q, hq, rfl⟩ := List.mem_map.mp h1
        refine .inr (List.mem_map.mpr ⟨q, List.mem_eraseIdx_iff_getElem?.mpr ?_, rfl⟩)
        obtain ⟨j, hj⟩ := List.mem_iff_getElem?.mp hq
        exact ⟨j, fun z => by subst z; rw [hx] at hj; cases hj; exact hke rfl, hj⟩
  · rw [hi.uniq g1, g2, hb]
    refine ⟨?_, g4⟩
    have : ¬ ((p.now : Int) < (ld L i0).2) := fun z => g3 (.inl z)
    omega
def goneP (p : PoS) : List (Nat × Nat) := p.idle.filter fun e => decide ((e.2 : Int) + p.keep ≤ p.now)
def passP (p : PoS) : PoS := { p with idle := p.idle.filter fun e => !decide (e ∈ goneP p), now := p.now + 1, there := p.there.filter fun k => !decide (k ∈ (goneP p).map Prod.fst) }
theorem gone_mem {e : Nat × Nat} : e ∈ goneP p ↔ e ∈ p.idle ∧ (e.2 : Int) + p.keep ≤ p.now := by
  unfold goneP
  rw [List.mem_filter, decide_eq_true_iff]
theorem PInv.pass (h : PInv L L.length ks p) (hks : ks.length ≤ L.length) : PInv L 0 ks (passP p) := by
  have ho : ∀ i, i < ks.length → (Out L (p.now + 1) 0 i ↔ Out L p.now L.length i) := fun i hi => by
    unfold Out
    constructor
    · rintro (h1 | ⟨h1, _⟩)
      · exact .inl (by omega)
      · exact .inl (by omega)
    · rintro (h1 | ⟨_, h1⟩)
      · rcases Int.lt_or_eq_of_le (show ((p.now + 1 : Nat) : Int) ≤ (ld L i).2 by omega) with h2 | h2
        · exact .inl h2
        · exact .inr ⟨h2.symm, Nat.zero_le _⟩
      · omega
  have hid : ∀ e, e ∈ (passP p).idle ↔ e ∈ p.idle ∧ (p.now : Int) < (e.2 : Int) + p.keep := fun e => by
    show e ∈ p.idle.filter _ ↔ _
    rw [List.mem_filter]
    constructor
    · rintro ⟨h1, h2⟩
      have h2 : e ∉ goneP p := by simpa using h2
      exact ⟨h1, Int.not_le.mp fun z => h2 (gone_mem.mpr ⟨h1, z⟩)⟩
    · rintro ⟨h1, h2⟩
      refine ⟨h1, ?_⟩
      have : e ∉ goneP p := fun z => by
        have := (gone_mem.mp z).2
        omega
      simpa using this
  refine ⟨h.nL, fun k => ?_, ?_, fun e he => ?_, fun i k hk hoi => h.hold i k hk ((ho i (List.getElem?_eq_some_iff.mp hk).1).mp hoi), h.lt, h.ml, fun k hk => ?_, Nat.le_trans (List.length_filter_le _ _) h.tl, h.th, h.kp⟩
  · show k ∈ p.lent ↔ _
    rw [h.lent k]
    constructor
    · rintro ⟨i, h1, h2⟩
      exact ⟨i, h1, (ho i h1.lt).mpr h2⟩
    · rintro ⟨i, h1, h2⟩
      exact ⟨i, h1, (ho i h1.lt).mp h2⟩
  · exact List.Nodup.sublist (List.Sublist.map _ List.filter_sublist) h.nI
  · obtain ⟨h1, h2⟩ := (hid e).mp he
    obtain ⟨i, h3, h4, h5, h6⟩ := h.idle e h1
    refine ⟨i, h3, h4, fun z => h5 ((ho i h3.lt).mp z), ?_⟩
    show ((p.now + 1 : Nat) : Int) ≤ (e.2 : Int) + p.keep
    omega
  · obtain ⟨h1, h2⟩ := List.mem_filter.mp (show k ∈ p.there.filter _ from hk)
    have h2 : k ∉ (goneP p).map Prod.fst := by simpa using h2
    rcases h.thr k h1 with h3 | h3
    · exact .inl h3
    · obtain ⟨e, he, rfl⟩ := List.mem_map.mp h3
      refine .inr (List.mem_map.mpr ⟨e, (hid e).mpr ⟨he, Int.not_le.mp fun z => ?_⟩, rfl⟩)
      exact h2 (List.mem_map.mpr ⟨e, gone_mem.mpr ⟨he, z⟩, rfl⟩)
/-- all is over -/
theorem PInv.over (h : PInv L 0 ks p) (hL : PlOk L) (hks : ks.length ≤ L.length) (hn : 100 + p.keep < (p.now : Int)) : p.there = [] := by
  refine List.eq_nil_iff_forall_not_mem.mpr fun k hk => ?_
  rcases h.thr k hk with h1 | h1
  · obtain ⟨i, h2, h3⟩ := (h.lent k).mp h1
    have h4 := (hL.pos i (Nat.lt_of_lt_of_le h2.lt hks)).2.2
    have := h.kp
    rcases h3 with h3 | ⟨h3, _⟩ <;> omega
  · obtain ⟨e, he, rfl⟩ := List.mem_map.mp h1
    obtain ⟨i, h2, h3, _, h4⟩ := h.idle e he
    have h5 := (hL.pos i (Nat.lt_of_lt_of_le h2.lt hks)).2.2
    omega
theorem PInv.idl (h : PInv L r ks p) : p.idle.length ≤ p.made := by
  have := nodup_le (n := p.made) h.nI fun k hk => by
    obtain ⟨e, he, rfl⟩ := List.mem_map.mp hk
    obtain ⟨i, h2, _⟩ := h.idle e he
    exact h.lt _ (List.mem_of_getElem? h2.1)
  rwa [List.length_map] at this
theorem PInv.lel (h : PInv L r ks p) : p.lent.length ≤ p.made := nodup_le h.nL fun k hk => by
  obtain ⟨i, h2, _⟩ := (h.lent k).mp hk
  exact h.lt _ (List.mem_of_getElem? h2.1)
theorem pinv_zero {keep : Int} {depth : Option Int} (hk : 0 ≤ keep) : PInv L 0 [] ⟨keep, depth, 0, [], [], 0, []⟩ := by
  refine ⟨List.nodup_nil, fun k => ⟨fun h => ?_, fun h => ?_⟩, List.nodup_nil, fun e he => ?_, fun i k h => ?_, fun k hk => ?_, Nat.le_refl _, fun k hk => ?_, Nat.le_refl _, fun i j k _ h => ?_, hk⟩
  · cases h
  · obtain ⟨i, h, _⟩ := h
    have := h.1
    simp at this
  · cases he
  · simp at h
  · cases hk
  · cases hk
  · simp at h
end
end Lp

/-! part LpM6 -/
set_option linter.all false
/-! plain: the fewest lifeless ones are as few as can be; what the fees tell -/
namespace Lp
structure AlM (x : LkD) (lo hi : Nat) (U : List Nat) (B : Mt) : Prop where
  gk : (B.map Prod.fst).Nodup
  tk : (B.map Prod.snd).Nodup
  mem : ∀ e, e ∈ B → e.1 ∈ livF x.L x.keep x.shut x.anew e.2 ∧ lo ≤ e.2 ∧ e.2 < hi ∧ e.1 ∉ U
theorem nodup_fil {α : Type} {f : α → Nat} {p : α → Bool} {l : List α} (h : (l.map f).Nodup) : ((l.filter p).map f).Nodup :=
  List.Nodup.sublist (List.Sublist.map f List.filter_sublist) h
theorem fil_one {α : Type} {f : α → Nat} {k : Nat} : ∀ {l : List α}, (l.map f).Nodup → l.length ≤ (l.filter fun e => decide (f e ≠ k)).length + 1
  | [], _ => Nat.zero_le _
  | a :: l, h => by
    rw [List.map_cons, List.nodup_cons] at h
    by_cases e : f a = k
    · have h2 : (l.filter fun e => decide (f e ≠ k)) = l := List.filter_eq_self.mpr fun b hb => decide_eq_true fun z => h.1 (by rw [e, ← z]; exact List.mem_map_of_mem hb)
      rw [List.filter_cons, if_neg (by simp [e]), h2]
      exact Nat.le_refl _
    · have := fil_one (f := f) (k := k) h.2
      rw [List.filter_cons, if_pos (by simp [e])]
      simp only [List.length_cons]
      omega
theorem liv_mem {L : Loans} {keep shut : Option Int} {anew : List Int} {t g : Nat} : g ∈ livF L keep shut anew t ↔ g ∈ givF L keep t ∧ deadF L shut anew g t = false := by
  unfold livF
  rw [List.mem_filter]
  simp
theorem can_iff {L : Loans} {keep : Option Int} {g t : Nat} : canF L keep g t = true ↔ 0 ≤ gapF L g t ∧ ∀ k, keep = some k → gapF L g t ≤ k := by
  unfold canF
  cases keep with
  | none => simp
  | some k => simp
theorem dead_iff {L : Loans} {shut : Option Int} {anew : List Int} {g t : Nat} : deadF L shut anew g t = false ↔ (∀ s, shut = some s → gapF L g t < s) ∧ ∀ b, b ∈ anew → (ld L g).1 < b → (ld L t).1 < b := by
  unfold deadF
  cases shut with
  | none => simp
  | some k => simp
/-- the exchange -/
theorem liv_ex {x : LkD} {t t' g g' : Nat} (pos : ∀ i, i < x.L.length → (ld x.L i).1 < (ld x.L i).2) (hg : g ∈ livF x.L x.keep x.shut x.anew t) (hg' : g' ∈ livF x.L x.keep x.shut x.anew t) (he : (ld x.L g).2 ≤ (ld x.L g').2) (hb : (ld x.L t).1 ≤ (ld x.L t').1) (h : g ∈ livF x.L x.keep x.shut x.anew t') : g' ∈ livF x.L x.keep x.shut x.anew t' := by
  obtain ⟨a1, a2⟩ := liv_mem.mp hg
  obtain ⟨b1, b2⟩ := liv_mem.mp hg'
  obtain ⟨c1, c2⟩ := liv_mem.mp h
  obtain ⟨a3, a4⟩ := mem_giv.mp a1
  obtain ⟨b3, b4⟩ := mem_giv.mp b1
  obtain ⟨c3, c4⟩ := mem_giv.mp c1
  have a5 := can_iff.mp a4
  have b5 := can_iff.mp b4
  have c5 := can_iff.mp c4
  have a6 := dead_iff.mp a2
  have b6 := dead_iff.mp b2
  have c6 := dead_iff.mp c2
  unfold gapF at a5 b5 c5 a6 b6 c6
  refine liv_mem.mpr ⟨mem_giv.mpr ⟨b3, can_iff.mpr ⟨?_, fun k hk => ?_⟩⟩, dead_iff.mpr ⟨fun s hs => ?_, fun b hbm hbg => ?_⟩⟩
  · unfold gapF; omega
  · have := c5.2 k hk
    unfold gapF; omega
  · have := c6.1 s hs
    unfold gapF; omega
  · have h1 := b6.2 b hbm hbg
    refine c6.2 b hbm ?_
    have := pos g a3
    omega
theorem greedy_best {x : LkD} {n : Nat} (hn : n ≤ x.L.length) (pos : ∀ i, i < x.L.length → (ld x.L i).1 < (ld x.L i).2) (so : ∀ i j, i < j → j < x.L.length → (ld x.L i).1 ≤ (ld x.L j).1) {A : Mt} (hA : AlM x 0 n [] A) {t : Nat} {F : List (Nat × Nat)} (h : Greedy x t F) (ht : t ≤ n) : ∃ B, AlM x t n (F.map Prod.snd) B ∧ A.length ≤ F.length + B.length := by
  induction h with
  | zero => exact ⟨A, hA, by simp⟩
  | @skip t F hF hs ih =>
    obtain ⟨B, hB, hl⟩ := ih (by omega)
    refine ⟨B, ⟨hB.gk, hB.tk, fun e he => ?_⟩, hl⟩
    obtain ⟨b1, b2, b3, b4⟩ := hB.mem e he
    refine ⟨b1, ?_, b3, b4⟩
    rcases Nat.lt_or_ge t e.2 with l | l
    · exact l
    · have : e.2 = t := by omega
      exact absurd (hs e.1 (by rw [← this]; exact b1)) b4
  | @take t g F hF hg hgF hmin ih =>
    obtain ⟨B, hB, hl⟩ := ih (by omega)
    have l1 := fil_one (f := Prod.snd) (k := t) hB.tk
    have m1 : ∀ e, e ∈ B.filter (fun e => decide (e.2 ≠ t)) ↔ e ∈ B ∧ e.2 ≠ t := fun e => by rw [List.mem_filter, decide_eq_true_iff]
    have hfl : (F ++ [(t, g)]).length = F.length + 1 := by simp
    have hU : ∀ k, k ∉ (F ++ [(t, g)]).map Prod.snd ↔ k ∉ F.map Prod.snd ∧ k ≠ g := fun k => by
      rw [List.map_append, List.mem_append, not_or]
      simp
    by_cases hgB : g ∈ (B.filter fun e => decide (e.2 ≠ t)).map Prod.fst
    · obtain ⟨⟨g0, t'⟩, he, rfl⟩ := List.mem_map.mp hgB
      dsimp only at *
      obtain ⟨he1, he2⟩ := (m1 _).mp he
      dsimp only at he2
      obtain ⟨q1, q2, q3, q4⟩ := hB.mem _ he1
      dsimp only at q1 q2 q3 q4
      by_cases htB : t ∈ B.map Prod.snd
      · obtain ⟨⟨g', t0⟩, hf, rfl⟩ := List.mem_map.mp htB
        dsimp only at *
        obtain ⟨p1, p2, p3, p4⟩ := hB.mem _ hf
        dsimp only at p1 p2 p3 p4
        have hne : g' ≠ g0 := fun z => by
          have := key_eq hB.gk he1 hf z.symm
          injection this with _ z2
          exact he2 z2
        have hx := liv_ex (t' := t') pos hg p1 (hmin g' p1 p4) (so t0 t' (by omega) (by omega)) q1
        refine ⟨(B.filter fun e => decide (e.2 ≠ t0)).map fun e => if e.1 = g0 then (g', e.2) else e, ⟨?_, ?_, fun e hm => ?_⟩, ?_⟩
        · have hfst : ((B.filter fun e => decide (e.2 ≠ t0)).map fun e => if e.1 = g0 then (g', e.2) else e).map Prod.fst = ((B.filter fun e => decide (e.2 ≠ t0)).map Prod.fst).map fun k => if k = g0 then g' else k := by
            rw [List.map_map, List.map_map]
            refine List.map_congr_left fun e _ => ?_
            show (if e.1 = g0 then (g', e.2) else e).1 = if e.1 = g0 then g' else e.1
            split <;> rfl
          have hg'n : g' ∉ (B.filter fun e => decide (e.2 ≠ t0)).map Prod.fst := fun z => by
            obtain ⟨e, he, hz⟩ := List.mem_map.mp z
            obtain ⟨h1, h2⟩ := (m1 e).mp he
            have := key_eq hB.gk h1 hf hz
            rw [this] at h2
            exact h2 rfl
          rw [hfst]
          refine List.pairwise_map.mpr ((nodup_fil hB.gk).imp_of_mem fun {a b} ha hb hab => ?_)
          split
          · next e1 =>
            split
            · next e2 => exact absurd (e1.trans e2.symm) hab
            · next e2 => exact fun z => hg'n (z ▸ hb)
          · next e1 =>
            split
            · next e2 => exact fun z => hg'n (z ▸ ha)
            · next e2 => exact hab
        · have hsnd : ((B.filter fun e => decide (e.2 ≠ t0)).map fun e => if e.1 = g0 then (g', e.2) else e).map Prod.snd = (B.filter fun e => decide (e.2 ≠ t0)).map Prod.snd := by
            rw [List.map_map]
            refine List.map_congr_left fun e _ => ?_
            show (if e.1 = g0 then (g', e.2) else e).2 = e.2
            split <;> rfl
          rw [hsnd]
          exact nodup_fil hB.tk
        · obtain ⟨e0, h0, rfl⟩ := List.mem_map.mp hm
          obtain ⟨h1, h2⟩ := (m1 e0).mp h0
          obtain ⟨r1, r2, r3, r4⟩ := hB.mem e0 h1
          split
          · next e1 =>
            have e2 := key_eq hB.gk h1 he1 e1
            subst e2
            exact ⟨hx, by show t0 + 1 ≤ t'; omega, r3, (hU g').mpr ⟨p4, hne⟩⟩
          · next e1 => exact ⟨r1, by omega, r3, (hU _).mpr ⟨r4, e1⟩⟩
        · rw [List.length_map, hfl]
          omega
      · have e1 : B.filter (fun e => decide (e.2 ≠ t)) = B := List.filter_eq_self.mpr fun e he => decide_eq_true fun z => htB (List.mem_map.mpr ⟨e, he, z⟩)
        refine ⟨B.filter fun e => decide (e.1 ≠ g0), ⟨nodup_fil hB.gk, nodup_fil hB.tk, fun e hm => ?_⟩, ?_⟩
        · obtain ⟨h1, h2⟩ := List.mem_filter.mp hm
          have h2 := of_decide_eq_true h2
          obtain ⟨r1, r2, r3, r4⟩ := hB.mem e h1
          have : e.2 ≠ t := fun z => htB (List.mem_map.mpr ⟨e, h1, z⟩)
          exact ⟨r1, by omega, r3, (hU _).mpr ⟨r4, h2⟩⟩
        · have := fil_one (f := Prod.fst) (k := g0) hB.gk
          rw [hfl]
          omega
    · refine ⟨B.filter fun e => decide (e.2 ≠ t), ⟨nodup_fil hB.gk, nodup_fil hB.tk, fun e hm => ?_⟩, ?_⟩
      · obtain ⟨h1, h2⟩ := (m1 e).mp hm
        obtain ⟨r1, r2, r3, r4⟩ := hB.mem e h1
        exact ⟨r1, by omega, r3, (hU _).mpr ⟨r4, fun z => hgB (List.mem_map.mpr ⟨e, hm, z⟩)⟩⟩
      · rw [hfl]
        omega
theorem greedy_most {x : LkD} (pos : ∀ i, i < x.L.length → (ld x.L i).1 < (ld x.L i).2) (so : ∀ i j, i < j → j < x.L.length → (ld x.L i).1 ≤ (ld x.L j).1) {A : Mt} (hA : AlM x 0 x.L.length [] A) {F : List (Nat × Nat)} (h : Greedy x x.L.length F) : A.length ≤ F.length := by
  obtain ⟨B, hB, hl⟩ := greedy_best (Nat.le_refl _) pos so hA h (Nat.le_refl _)
  cases B with
  | nil => simpa using hl
  | cons e B =>
    obtain ⟨_, h1, h2, _⟩ := hB.mem e List.mem_cons_self
    omega
/-! the greedy one as a matching -/
def swp (F : List (Nat × Nat)) : Mt := F.map fun e => (e.2, e.1)
theorem greedy_alm {x : LkD} {t : Nat} {F : List (Nat × Nat)} (h : Greedy x t F) : AlM x 0 t [] (swp F) := by
  induction h with
  | zero => exact ⟨List.nodup_nil, List.nodup_nil, fun e he => by cases he⟩
  | @skip t F hF hs ih => exact ⟨ih.gk, ih.tk, fun e he => by obtain ⟨a, b, c, d⟩ := ih.mem e he; exact ⟨a, b, by omega, d⟩⟩
  | @take t g F hF hg hgF hmin ih =>
    have e1 : swp (F ++ [(t, g)]) = swp F ++ [(g, t)] := by simp [swp]
    have e2 : (swp F).map Prod.fst = F.map Prod.snd := by simp [swp, List.map_map, Function.comp_def]
    rw [e1]
    refine ⟨?_, ?_, fun e he => ?_⟩
    · rw [List.map_append, e2]
      have := ih.gk
      rw [e2] at this
      refine List.nodup_append.mpr ⟨this, by simp, fun a ha b hb z => ?_⟩
      have hb : b = g := by simpa using hb
      exact hgF (by rw [← hb, ← z]; exact ha)
    · rw [List.map_append]
      refine List.nodup_append.mpr ⟨ih.tk, by simp, fun a ha b hb z => ?_⟩
      have hb : b = t := by simpa using hb
      obtain ⟨e, he, rfl⟩ := List.mem_map.mp ha
      have := (ih.mem e he).2.2.1
      omega
    · rcases List.mem_append.mp he with h | h
      · obtain ⟨a, b, c, d⟩ := ih.mem e h
        exact ⟨a, b, by omega, d⟩
      · rw [List.mem_singleton.mp h]
        exact ⟨hg, Nat.zero_le _, Nat.lt_succ_self _, by simp⟩
theorem cost_zero {E : Net} : ∀ {M : Mt}, (∀ e, e ∈ M → E.c e.1 e.2 = 0) → cost E M = 0
  | [], _ => rfl
  | e :: M, h => by
    have h1 := cost_zero (E := E) (M := M) fun a ha => h a (List.mem_cons_of_mem _ ha)
    have h2 := h e List.mem_cons_self
    unfold cost at *
    rw [List.map_cons, List.sum_cons, h1, h2]
    rfl
theorem alm_ok {x : LkD} {dues : Int × Int} {F : Mt} (h : AlM x 0 x.L.length [] F) : MOk (netF x dues) x.L.length F :=
  ⟨h.gk, h.tk, fun e he => ⟨(liv_mem.mp (h.mem e he).1).1, (h.mem e he).2.2.1⟩⟩
theorem alm_tot {x : LkD} {dues : Int × Int} {F : Mt} (h : AlM x 0 x.L.length [] F) : tot (netF x dues) x.L.length F = dues.2 * ((x.L.length : Int) - (F.length : Int)) := by
  unfold tot
  rw [cost_zero fun e he => ?_, Int.zero_add]
  · rfl
  · show (if deadF x.L x.shut x.anew e.1 e.2 = true then dues.1 else 0) = 0
    rw [(liv_mem.mp (h.mem e he).1).2]
    rfl
def alF (x : LkD) (M : Mt) : Mt := M.filter fun e => !deadF x.L x.shut x.anew e.1 e.2
theorem alF_len (x : LkD) (M : Mt) : (alF x M).length ≤ M.length := List.length_filter_le _ _
theorem alF_cost (x : LkD) (dues : Int × Int) : ∀ M : Mt, cost (netF x dues) M = dues.1 * ((M.length : Int) - ((alF x M).length : Int))
  | [] => by simp [cost, alF]
  | e :: M => by
    have ih := alF_cost x dues M
    have h1 : cost (netF x dues) (e :: M) = (if deadF x.L x.shut x.anew e.1 e.2 = true then dues.1 else 0) + cost (netF x dues) M := rfl
    rw [h1, ih]
    unfold alF
    rw [List.filter_cons]
    cases deadF x.L x.shut x.anew e.1 e.2 with
    | true =>
      simp only [Bool.not_true, Bool.false_eq_true, if_false, if_true, List.length_cons]
      rw [show dues.1 + dues.1 * (((M.length : Nat) : Int) - ((M.filter fun e => !deadF x.L x.shut x.anew e.1 e.2).length : Int)) = dues.1 * (1 + (((M.length : Nat) : Int) - ((M.filter fun e => !deadF x.L x.shut x.anew e.1 e.2).length : Int))) from by rw [Int.mul_add, Int.mul_one]]
      congr 1
      omega
    | false =>
      simp only [Bool.not_false, Bool.false_eq_true, if_false, if_true, List.length_cons, Int.zero_add]
      congr 1
      omega
theorem alF_ok {x : LkD} {dues : Int × Int} {M : Mt} (h : MOk (netF x dues) x.L.length M) : AlM x 0 x.L.length [] (alF x M) :=
  ⟨nodup_fil h.gk, nodup_fil h.tk, fun e he => by
    obtain ⟨h1, h2⟩ := List.mem_filter.mp he
    obtain ⟨h3, h4⟩ := h.mem e h1
    exact ⟨liv_mem.mpr ⟨h3, by simpa using h2⟩, Nat.zero_le _, h4, by simp⟩⟩
def LeastM (x : LkD) (dues : Int × Int) (m : Int) : Prop := ∃ M, MOk (netF x dues) x.L.length M ∧ m = tot (netF x dues) x.L.length M ∧ ∀ M', MOk (netF x dues) x.L.length M' → m ≤ tot (netF x dues) x.L.length M'
theorem mok_dues {x : LkD} {d d' : Int × Int} {M : Mt} (h : MOk (netF x d) x.L.length M) : MOk (netF x d') x.L.length M := ⟨h.gk, h.tk, h.mem⟩
theorem least_few {x : LkD} {d N m : Int} (hN : 0 ≤ N) (hd : N ≤ d) (pos : ∀ i, i < x.L.length → (ld x.L i).1 < (ld x.L i).2) (so : ∀ i j, i < j → j < x.L.length → (ld x.L i).1 ≤ (ld x.L j).1) {F : List (Nat × Nat)} (h : Greedy x x.L.length F) (hm : LeastM x (d, N) m) : m = N * ((x.L.length : Int) - (F.length : Int)) := by
  obtain ⟨M, h1, h2, h3⟩ := hm
  have ha := greedy_alm h
  have h4 := h3 _ (alm_ok ha)
  rw [alm_tot ha] at h4
  have hl : (swp F).length = F.length := by simp [swp]
  rw [hl] at h4
  refine Int.le_antisymm h4 ?_
  have h5 := greedy_most pos so (alF_ok h1) h
  have h6 := alF_len x M
  rw [h2]
  unfold tot
  rw [alF_cost]
  show N * _ ≤ d * _ + N * _
  have h7 : N * ((M.length : Int) - ((alF x M).length : Int)) ≤ d * ((M.length : Int) - ((alF x M).length : Int)) := Int.mul_le_mul_of_nonneg_right hd (by omega)
  have h8 : N * ((x.L.length : Int) - (F.length : Int)) ≤ N * (((M.length : Int) - ((alF x M).length : Int)) + ((x.L.length : Int) - (M.length : Int))) := Int.mul_le_mul_of_nonneg_left (by omega) hN
  rw [Int.mul_add] at h8
  omega
theorem tot_eq (x : LkD) (dues : Int × Int) (M : Mt) : tot (netF x dues) x.L.length M = dues.1 * ((M.length : Int) - ((alF x M).length : Int)) + dues.2 * ((x.L.length : Int) - (M.length : Int)) := by
  unfold tot
  rw [alF_cost]
  rfl
theorem least_two {x : LkD} {d N m m2 : Int} (hm : LeastM x (d, N) m) (h2 : LeastM x (2 * d, 2 * N) m2) : m2 = 2 * m := by
  obtain ⟨M, a1, a2, a3⟩ := hm
  obtain ⟨M2, b1, b2, b3⟩ := h2
  have h1 : ∀ M, tot (netF x (2 * d, 2 * N)) x.L.length M = 2 * tot (netF x (d, N)) x.L.length M := fun M => by
    rw [tot_eq, tot_eq]
    simp only
    rw [Int.mul_assoc, Int.mul_assoc]
    omega
  have c1 := b3 _ (mok_dues a1)
  have c2 := a3 _ (mok_dues b1)
  rw [h1] at c1 b2
  omega
theorem least_sum {x : LkD} {d N d' N' m m' ms : Int} (hm : LeastM x (d, N) m) (hm' : LeastM x (d', N') m') (hs : LeastM x (d + d', N + N') ms) : m + m' ≤ ms := by
  obtain ⟨M, a1, a2, a3⟩ := hm
  obtain ⟨M', b1, b2, b3⟩ := hm'
  obtain ⟨Ms, c1, c2, c3⟩ := hs
  have h1 := a3 _ (mok_dues c1)
  have h2 := b3 _ (mok_dues c1)
  rw [tot_eq] at h1 h2 c2
  simp only at h1 h2 c2
  rw [Int.add_mul, Int.add_mul] at c2
  omega
theorem least_keep {x : LkD} {dues : Int × Int} {k k' m m' : Int} (hk : k ≤ k') (hm : LeastM { x with keep := some k } dues m) (hm' : LeastM { x with keep := some k' } dues m') : m' ≤ m := by
  obtain ⟨M, a1, a2, a3⟩ := hm
  obtain ⟨M', b1, b2, b3⟩ := hm'
  have h1 : MOk (netF { x with keep := some k' } dues) x.L.length M := ⟨a1.gk, a1.tk, fun e he => by
    obtain ⟨h1, h2⟩ := a1.mem e he
    obtain ⟨h3, h4⟩ := mem_giv.mp h1
    have h5 := can_iff.mp h4
    exact ⟨mem_giv.mpr ⟨h3, can_iff.mpr ⟨h5.1, fun k0 e0 => by
      injection e0 with e0
      have h6 : gapF x.L e.1 e.2 ≤ k := h5.2 k rfl
      show gapF x.L e.1 e.2 ≤ k0
      omega⟩⟩, h2⟩⟩
  have h2 := b3 _ h1
  rw [a2]
  exact h2
end Lp

/-! part LpText -/
set_option Elab.async false
set_option linter.all false
set_option maxRecDepth 100000

namespace Lp
open PySem PySem.Spec PyProof.Rows L2
/-! ## the text by places -/
abbrev prog0 : Program := PySem.Challenge.pw_lentpile_k76_whole_fees_and_rates
def top (i : Nat) : Stmt := prog0.main.body.getD i (.Pass ⟨0, 0, 0, 0⟩)

abbrev s_tupled : Stmt := top 2
abbrev s_is_number : Stmt := top 3
abbrev s_is_tuple : Stmt := top 4
abbrev s_last_end : Stmt := top 6
abbrev s_NotLent_init : Stmt := inClass (top 8) 0
abbrev s_Pool_init : Stmt := inClass (top 10) 1
abbrev s_Pool_len : Stmt := inClass (top 10) 2
abbrev s_Pool_now : Stmt := inClass (top 10) 5
abbrev s_Pool_made : Stmt := inClass (top 10) 8
abbrev s_Pool_place : Stmt := inClass (top 10) 9
abbrev s_Pool_take : Stmt := inClass (top 10) 10
abbrev s_Pool_give : Stmt := inClass (top 10) 11
abbrev s_Pool_pass_on : Stmt := inClass (top 10) 12
abbrev s_Pool_wait : Stmt := inClass (top 10) 13
abbrev s_Story_init : Stmt := inClass (top 11) 1
abbrev s_Story_begin : Stmt := inClass (top 11) 2
abbrev s_Story_got : Stmt := inClass (top 11) 3
abbrev s_things : Stmt := top 12
abbrev s_Links_init : Stmt := inClass (top 15) 1
abbrev s_Links_len : Stmt := inClass (top 15) 2
abbrev s_Links_iter : Stmt := inClass (top 15) 3
abbrev s_Links_gap : Stmt := inClass (top 15) 4
abbrev s_Links_can_follow : Stmt := inClass (top 15) 5
abbrev s_Links_is_dead : Stmt := inClass (top 15) 6
abbrev s_Links_givers : Stmt := inClass (top 15) 7
abbrev s_Links_living : Stmt := inClass (top 15) 8
abbrev s_Links_best : Stmt := inClass (top 15) 9
abbrev s_Purse_init : Stmt := inClass (top 16) 1
abbrev s_Purse_fee : Stmt := inClass (top 16) 2
abbrev s_Purse_ways : Stmt := inClass (top 16) 3
abbrev s_Purse_place : Stmt := inClass (top 16) 4
abbrev s_Purse_handing : Stmt := inClass (top 16) 5
abbrev s_Purse_total : Stmt := inClass (top 16) 6
abbrev s_Purse_givings : Stmt := inClass (top 16) 7
abbrev s_Purse_taking : Stmt := inClass (top 16) 8
abbrev s_Purse_rates : Stmt := inClass (top 16) 9
abbrev s_Purse_are_rates : Stmt := inClass (top 16) 10
abbrev s_is_handing : Stmt := top 17
abbrev s_handing_of : Stmt := top 18
abbrev s_dead : Stmt := top 19
abbrev s_fewest_lifeless : Stmt := top 20
abbrev s_fee : Stmt := top 21
abbrev s_purse : Stmt := top 22
abbrev s_least_fee : Stmt := top 23
abbrev s_cheapest : Stmt := top 24
abbrev s_is_cheapest : Stmt := top 25
abbrev s_rates : Stmt := top 26
abbrev s_is_rates : Stmt := top 27
abbrev s__law_box : Stmt := top 29
abbrev s__law_take : Stmt := top 30
abbrev s__law_cells : Stmt := top 31
abbrev s__law_of : Stmt := top 32
abbrev s__law_same : Stmt := top 33
abbrev s__law_loans : Stmt := top 34
abbrev s__law_keep : Stmt := top 35
abbrev s__law_gap : Stmt := top 36
abbrev s__law_givers : Stmt := top 37
abbrev s__law_is_dead : Stmt := top 38
abbrev s__law_far : Stmt := top 39
abbrev s__law_line : Stmt := top 40
abbrev s__law_drawn : Stmt := top 41
abbrev s__law_dead : Stmt := top 42
abbrev s__law_paid : Stmt := top 43
abbrev s__law_are_rates : Stmt := top 44
abbrev s__law_told : Stmt := top 45
abbrev s__law_by_hand_right : Stmt := top 46
abbrev s__law_fees_right : Stmt := top 47
abbrev s__law_right : Stmt := top 48
abbrev s_law : Stmt := top 49
def dd_tupled : He.DefD := ⟨("tupled", none), "tupled", "tupled", defArgs s_tupled, defBody s_tupled, defScope s_tupled, [], []⟩
def dd_is_number : He.DefD := ⟨("is_number", none), "is_number", "is_number", defArgs s_is_number, defBody s_is_number, defScope s_is_number, [], []⟩
def dd_is_tuple : He.DefD := ⟨("is_tuple", none), "is_tuple", "is_tuple", defArgs s_is_tuple, defBody s_is_tuple, defScope s_is_tuple, [], []⟩
def dd_last_end : He.DefD := ⟨("last_end", none), "last_end", "last_end", defArgs s_last_end, defBody s_last_end, defScope s_last_end, [], []⟩
def dd_Pool_init : He.DefD := ⟨("Pool", some "__init__"), "__init__", "Pool.__init__", defArgs s_Pool_init, defBody s_Pool_init, defScope s_Pool_init, [.int 0], []⟩
def dd_Pool_len : He.DefD := ⟨("Pool", some "__len__"), "__len__", "Pool.__len__", defArgs s_Pool_len, defBody s_Pool_len, defScope s_Pool_len, [], []⟩
def dd_Pool_now : He.DefD := ⟨("Pool", some "now"), "now", "Pool.now", defArgs s_Pool_now, defBody s_Pool_now, defScope s_Pool_now, [], []⟩
def dd_Pool_made : He.DefD := ⟨("Pool", some "made"), "made", "Pool.made", defArgs s_Pool_made, defBody s_Pool_made, defScope s_Pool_made, [], []⟩
def dd_Pool_place : He.DefD := ⟨("Pool", some "place"), "place", "Pool.place", defArgs s_Pool_place, defBody s_Pool_place, defScope s_Pool_place, [], []⟩
def dd_Pool_take : He.DefD := ⟨("Pool", some "take"), "take", "Pool.take", defArgs s_Pool_take, defBody s_Pool_take, defScope s_Pool_take, [], []⟩
def dd_Pool_give : He.DefD := ⟨("Pool", some "give"), "give", "Pool.give", defArgs s_Pool_give, defBody s_Pool_give, defScope s_Pool_give, [], []⟩
def dd_Pool_pass_on : He.DefD := ⟨("Pool", some "pass_on"), "pass_on", "Pool.pass_on", defArgs s_Pool_pass_on, defBody s_Pool_pass_on, defScope s_Pool_pass_on, [], []⟩
def dd_Pool_wait : He.DefD := ⟨("Pool", some "wait"), "wait", "Pool.wait", defArgs s_Pool_wait, defBody s_Pool_wait, defScope s_Pool_wait, [.int 1], []⟩
def dd_Story_init : He.DefD := ⟨("Story", some "__init__"), "__init__", "Story.__init__", defArgs s_Story_init, defBody s_Story_init, defScope s_Story_init, [], []⟩
def dd_Story_begin : He.DefD := ⟨("Story", some "begin"), "begin", "Story.begin", defArgs s_Story_begin, defBody s_Story_begin, defScope s_Story_begin, [], []⟩
def dd_Story_got : He.DefD := ⟨("Story", some "got"), "got", "Story.got", defArgs s_Story_got, defBody s_Story_got, defScope s_Story_got, [], []⟩
def dd_things : He.DefD := ⟨("things", none), "things", "things", defArgs s_things, defBody s_things, defScope s_things, [], []⟩
def dd_Links_init : He.DefD := ⟨("Links", some "__init__"), "__init__", "Links.__init__", defArgs s_Links_init, defBody s_Links_init, defScope s_Links_init, [], []⟩
def dd_Links_len : He.DefD := ⟨("Links", some "__len__"), "__len__", "Links.__len__", defArgs s_Links_len, defBody s_Links_len, defScope s_Links_len, [], []⟩
def dd_Links_iter : He.DefD := ⟨("Links", some "__iter__"), "__iter__", "Links.__iter__", defArgs s_Links_iter, defBody s_Links_iter, defScope s_Links_iter, [], []⟩
def dd_Links_gap : He.DefD := ⟨("Links", some "gap"), "gap", "Links.gap", defArgs s_Links_gap, defBody s_Links_gap, defScope s_Links_gap, [], []⟩
def dd_Links_can_follow : He.DefD := ⟨("Links", some "can_follow"), "can_follow", "Links.can_follow", defArgs s_Links_can_follow, defBody s_Links_can_follow, defScope s_Links_can_follow, [], []⟩
def dd_Links_is_dead : He.DefD := ⟨("Links", some "is_dead"), "is_dead", "Links.is_dead", defArgs s_Links_is_dead, defBody s_Links_is_dead, defScope s_Links_is_dead, [], []⟩
def dd_Links_givers : He.DefD := ⟨("Links", some "givers"), "givers", "Links.givers", defArgs s_Links_givers, defBody s_Links_givers, defScope s_Links_givers, [], []⟩
def dd_Links_living : He.DefD := ⟨("Links", some "living"), "living", "Links.living", defArgs s_Links_living, defBody s_Links_living, defScope s_Links_living, [], []⟩
def dd_Links_best : He.DefD := ⟨("Links", some "best"), "best", "Links.best", defArgs s_Links_best, defBody s_Links_best, defScope s_Links_best, [], []⟩
def dd_Purse_init : He.DefD := ⟨("Purse", some "__init__"), "__init__", "Purse.__init__", defArgs s_Purse_init, defBody s_Purse_init, defScope s_Purse_init, [], []⟩
def dd_Purse_fee : He.DefD := ⟨("Purse", some "fee"), "fee", "Purse.fee", defArgs s_Purse_fee, defBody s_Purse_fee, defScope s_Purse_fee, [], []⟩
def dd_Purse_ways : He.DefD := ⟨("Purse", some "ways"), "ways", "Purse.ways", defArgs s_Purse_ways, defBody s_Purse_ways, defScope s_Purse_ways, [], []⟩
def dd_Purse_place : He.DefD := ⟨("Purse", some "place"), "place", "Purse.place", defArgs s_Purse_place, defBody s_Purse_place, defScope s_Purse_place, [], []⟩
def dd_Purse_handing : He.DefD := ⟨("Purse", some "handing"), "handing", "Purse.handing", defArgs s_Purse_handing, defBody s_Purse_handing, defScope s_Purse_handing, [], []⟩
def dd_Purse_total : He.DefD := ⟨("Purse", some "total"), "total", "Purse.total", defArgs s_Purse_total, defBody s_Purse_total, defScope s_Purse_total, [], []⟩
def dd_Purse_givings : He.DefD := ⟨("Purse", some "givings"), "givings", "Purse.givings", defArgs s_Purse_givings, defBody s_Purse_givings, defScope s_Purse_givings, [], []⟩
def dd_Purse_taking : He.DefD := ⟨("Purse", some "taking"), "taking", "Purse.taking", defArgs s_Purse_taking, defBody s_Purse_taking, defScope s_Purse_taking, [], []⟩
def dd_Purse_rates : He.DefD := ⟨("Purse", some "rates"), "rates", "Purse.rates", defArgs s_Purse_rates, defBody s_Purse_rates, defScope s_Purse_rates, [], []⟩
def dd_Purse_are_rates : He.DefD := ⟨("Purse", some "are_rates"), "are_rates", "Purse.are_rates", defArgs s_Purse_are_rates, defBody s_Purse_are_rates, defScope s_Purse_are_rates, [], []⟩
def dd_is_handing : He.DefD := ⟨("is_handing", none), "is_handing", "is_handing", defArgs s_is_handing, defBody s_is_handing, defScope s_is_handing, [], []⟩
def dd_handing_of : He.DefD := ⟨("handing_of", none), "handing_of", "handing_of", defArgs s_handing_of, defBody s_handing_of, defScope s_handing_of, [], []⟩
def dd_dead : He.DefD := ⟨("dead", none), "dead", "dead", defArgs s_dead, defBody s_dead, defScope s_dead, [], []⟩
def dd_fewest_lifeless : He.DefD := ⟨("fewest_lifeless", none), "fewest_lifeless", "fewest_lifeless", defArgs s_fewest_lifeless, defBody s_fewest_lifeless, defScope s_fewest_lifeless, [], []⟩
def dd_fee : He.DefD := ⟨("fee", none), "fee", "fee", defArgs s_fee, defBody s_fee, defScope s_fee, [], []⟩
def dd_purse : He.DefD := ⟨("purse", none), "purse", "purse", defArgs s_purse, defBody s_purse, defScope s_purse, [], []⟩
def dd_least_fee : He.DefD := ⟨("least_fee", none), "least_fee", "least_fee", defArgs s_least_fee, defBody s_least_fee, defScope s_least_fee, [], []⟩
def dd_cheapest : He.DefD := ⟨("cheapest", none), "cheapest", "cheapest", defArgs s_cheapest, defBody s_cheapest, defScope s_cheapest, [], []⟩
def dd_is_cheapest : He.DefD := ⟨("is_cheapest", none), "is_cheapest", "is_cheapest", defArgs s_is_cheapest, defBody s_is_cheapest, defScope s_is_cheapest, [], []⟩
def dd_rates : He.DefD := ⟨("rates", none), "rates", "rates", defArgs s_rates, defBody s_rates, defScope s_rates, [], []⟩
def dd_is_rates : He.DefD := ⟨("is_rates", none), "is_rates", "is_rates", defArgs s_is_rates, defBody s_is_rates, defScope s_is_rates, [], []⟩
def dd__law_box : He.DefD := ⟨("_law_box", none), "_law_box", "_law_box", defArgs s__law_box, defBody s__law_box, defScope s__law_box, [], []⟩
def dd__law_take : He.DefD := ⟨("_law_take", none), "_law_take", "_law_take", defArgs s__law_take, defBody s__law_take, defScope s__law_take, [], []⟩
def dd__law_cells : He.DefD := ⟨("_law_cells", none), "_law_cells", "_law_cells", defArgs s__law_cells, defBody s__law_cells, defScope s__law_cells, [], []⟩
def dd__law_of : He.DefD := ⟨("_law_of", none), "_law_of", "_law_of", defArgs s__law_of, defBody s__law_of, defScope s__law_of, [], []⟩
def dd__law_same : He.DefD := ⟨("_law_same", none), "_law_same", "_law_same", defArgs s__law_same, defBody s__law_same, defScope s__law_same, [], []⟩
def dd__law_loans : He.DefD := ⟨("_law_loans", none), "_law_loans", "_law_loans", defArgs s__law_loans, defBody s__law_loans, defScope s__law_loans, [], []⟩
def dd__law_keep : He.DefD := ⟨("_law_keep", none), "_law_keep", "_law_keep", defArgs s__law_keep, defBody s__law_keep, defScope s__law_keep, [], []⟩
def dd__law_gap : He.DefD := ⟨("_law_gap", none), "_law_gap", "_law_gap", defArgs s__law_gap, defBody s__law_gap, defScope s__law_gap, [], []⟩
def dd__law_givers : He.DefD := ⟨("_law_givers", none), "_law_givers", "_law_givers", defArgs s__law_givers, defBody s__law_givers, defScope s__law_givers, [], []⟩
def dd__law_is_dead : He.DefD := ⟨("_law_is_dead", none), "_law_is_dead", "_law_is_dead", defArgs s__law_is_dead, defBody s__law_is_dead, defScope s__law_is_dead, [], []⟩
def dd__law_far : He.DefD := ⟨("_law_far", none), "_law_far", "_law_far", defArgs s__law_far, defBody s__law_far, defScope s__law_far, [], []⟩
def dd__law_line : He.DefD := ⟨("_law_line", none), "_law_line", "_law_line", defArgs s__law_line, defBody s__law_line, defScope s__law_line, [], []⟩
def dd__law_drawn : He.DefD := ⟨("_law_drawn", none), "_law_drawn", "_law_drawn", defArgs s__law_drawn, defBody s__law_drawn, defScope s__law_drawn, [], []⟩
def dd__law_dead : He.DefD := ⟨("_law_dead", none), "_law_dead", "_law_dead", defArgs s__law_dead, defBody s__law_dead, defScope s__law_dead, [], []⟩
def dd__law_paid : He.DefD := ⟨("_law_paid", none), "_law_paid", "_law_paid", defArgs s__law_paid, defBody s__law_paid, defScope s__law_paid, [], []⟩
def dd__law_are_rates : He.DefD := ⟨("_law_are_rates", none), "_law_are_rates", "_law_are_rates", defArgs s__law_are_rates, defBody s__law_are_rates, defScope s__law_are_rates, [], []⟩
def dd__law_told : He.DefD := ⟨("_law_told", none), "_law_told", "_law_told", defArgs s__law_told, defBody s__law_told, defScope s__law_told, [], []⟩
def dd__law_by_hand_right : He.DefD := ⟨("_law_by_hand_right", none), "_law_by_hand_right", "_law_by_hand_right", defArgs s__law_by_hand_right, defBody s__law_by_hand_right, defScope s__law_by_hand_right, [], []⟩
def dd__law_fees_right : He.DefD := ⟨("_law_fees_right", none), "_law_fees_right", "_law_fees_right", defArgs s__law_fees_right, defBody s__law_fees_right, defScope s__law_fees_right, [], []⟩
def dd__law_right : He.DefD := ⟨("_law_right", none), "_law_right", "_law_right", defArgs s__law_right, defBody s__law_right, defScope s__law_right, [], []⟩
def dd_law : He.DefD := ⟨("law", none), "law", "law", defArgs s_law, defBody s_law, defScope s_law, [], []⟩
def fns : List He.DefD := [dd_tupled, dd_is_number, dd_is_tuple, dd_last_end, dd_Pool_init, dd_Pool_len, dd_Pool_place, dd_Pool_take, dd_Pool_give, dd_Pool_pass_on, dd_Pool_wait, dd_Story_init, dd_Story_begin, dd_Story_got, dd_things, dd_Links_init, dd_Links_len, dd_Links_iter, dd_Links_gap, dd_Links_can_follow, dd_Links_is_dead, dd_Links_givers, dd_Links_living, dd_Links_best, dd_Purse_init, dd_Purse_fee, dd_Purse_ways, dd_Purse_place, dd_Purse_handing, dd_Purse_total, dd_Purse_givings, dd_Purse_taking, dd_Purse_rates, dd_Purse_are_rates, dd_is_handing, dd_handing_of, dd_dead, dd_fewest_lifeless, dd_fee, dd_purse, dd_least_fee, dd_cheapest, dd_is_cheapest, dd_rates, dd_is_rates, dd__law_box, dd__law_take, dd__law_cells, dd__law_of, dd__law_same, dd__law_loans, dd__law_keep, dd__law_gap, dd__law_givers, dd__law_is_dead, dd__law_far, dd__law_line, dd__law_drawn, dd__law_dead, dd__law_paid, dd__law_are_rates, dd__law_told, dd__law_by_hand_right, dd__law_fees_right, dd__law_right, dd_law]
def prs : List (Str × Str × He.DefD) := [("Pool", "now", dd_Pool_now), ("Pool", "made", dd_Pool_made)]
def fas : List He.Fa := [.glo "tupled", .glo "is_number", .glo "is_tuple", .glo "last_end", .glo "things", .glo "is_handing", .glo "handing_of", .glo "dead", .glo "fewest_lifeless", .glo "fee", .glo "purse", .glo "least_fee", .glo "cheapest", .glo "is_cheapest", .glo "rates", .glo "is_rates", .glo "_law_box", .glo "_law_take", .glo "_law_cells", .glo "_law_of", .glo "_law_same", .glo "_law_loans", .glo "_law_keep", .glo "_law_gap", .glo "_law_givers", .glo "_law_is_dead", .glo "_law_far", .glo "_law_line", .glo "_law_drawn", .glo "_law_dead", .glo "_law_paid", .glo "_law_are_rates", .glo "_law_told", .glo "_law_by_hand_right", .glo "_law_fees_right", .glo "_law_right", .glo "law", .glo "Pool", .glo "Story", .glo "Links", .glo "Purse", .glo "NotLent", .free "tuple", .free "isinstance", .free "list", .free "int", .free "bool", .free "len", .free "max", .free "min", .free "iter", .free "sorted", .free "range", .free "enumerate", .free "any", .free "all", .free "set", .free "sum", .free "abs", .free "zip", .free "str", .int "PAIR" 2, .mkr "Pool", .mkr "Story", .mkr "Links", .mkr "Purse", .meth "Pool" "__len__", .meth "Pool" "place", .meth "Pool" "take", .meth "Pool" "give", .meth "Pool" "pass_on", .meth "Pool" "wait", .meth "Story" "begin", .meth "Story" "got", .meth "Links" "__len__", .meth "Links" "__iter__", .meth "Links" "gap", .meth "Links" "can_follow", .meth "Links" "is_dead", .meth "Links" "givers", .meth "Links" "living", .meth "Links" "best", .meth "Purse" "fee", .meth "Purse" "ways", .meth "Purse" "place", .meth "Purse" "handing", .meth "Purse" "total", .meth "Purse" "givings", .meth "Purse" "taking", .meth "Purse" "rates", .meth "Purse" "are_rates", .keep "tupled", .keep "is_number", .keep "is_tuple", .keep "last_end", .keep "things", .keep "is_handing", .keep "handing_of", .keep "dead", .keep "fewest_lifeless", .keep "fee", .keep "purse", .keep "least_fee", .keep "cheapest", .keep "is_cheapest", .keep "rates", .keep "is_rates", .keep "_law_box", .keep "_law_take", .keep "_law_cells", .keep "_law_of", .keep "_law_same", .keep "_law_loans", .keep "_law_keep", .keep "_law_gap", .keep "_law_givers", .keep "_law_is_dead", .keep "_law_far", .keep "_law_line", .keep "_law_drawn", .keep "_law_dead", .keep "_law_paid", .keep "_law_are_rates", .keep "_law_told", .keep "_law_by_hand_right", .keep "_law_fees_right", .keep "_law_right", .keep "law", .keep "Pool", .keep "Story", .keep "Links", .keep "Purse"]
def sls : List (Str × Str × Nat) := [("Pool", "own_depth", 0), ("Pool", "own_idle", 1), ("Pool", "own_keep", 2), ("Pool", "own_lent", 3), ("Pool", "own_made", 4), ("Pool", "own_now", 5), ("Pool", "own_there", 6), ("Story", "own_gone", 0), ("Story", "own_made", 1), ("Story", "own_numbers", 2), ("Story", "own_things", 3), ("Links", "own_anew", 0), ("Links", "own_indexes", 1), ("Links", "own_keep", 2), ("Links", "own_loans", 3), ("Links", "own_shut", 4), ("Purse", "own_dead", 0), ("Purse", "own_links", 1), ("Purse", "own_new", 2), ("Purse", "own_taken", 3)]
def css : List Str := ["Pool", "Story", "Links", "Purse"]
/-! ## what the head is asked -/
def sclB (K : PySem.W.Frag) (c : Str) : Bool := PySem.W.plainGet K (He.ga K c) Str.empty && (PySem.W.isClsIn K (He.ga K c) && (PySem.W.plainOver K (He.ga K c) && He.eqO (PySem.W.findIn K (.ref (He.ga K c)) "__setattr__") (some (some (.builtin "object.__setattr__")))))
def slB (K : PySem.W.Frag) (x : Str × Str × Nat) : Bool := He.eqO (PySem.W.findIn K (.ref (He.ga K x.1)) x.2.1) (some (some (.ref (He.ma K (He.ga K x.1) x.2.1)))) &&
  (He.eqO (PySem.W.specialIn K (.ref (He.ma K (He.ga K x.1) x.2.1)) "__get__") (some (some (.builtin "member_descriptor.__get__"))) && (decide (PySem.W.takesIn K (.ref (He.ma K (He.ga K x.1) x.2.1)) = some true) &&
  (decide (PySem.W.typeIn K (.ref (He.ma K (He.ga K x.1) x.2.1)) = some (.type "member_descriptor")) && (decide (PySem.W.slotIn K (He.ma K (He.ga K x.1) x.2.1) (He.ga K x.1) = some x.2.2) && decide (x.2.2 < 1000)))))
def pg (K : PySem.W.Frag) (c f : Str) : Addr := match PySem.W.recIn K (He.ma K (He.ga K c) f) "property" with
  | some (.ref g :: _) => g
  | _ => 0
/-- the property f of the class c -/
structure Prp (K : PySem.W.Frag) (c f : Str) : Prop where
  at_ : PySem.W.findIn K (.ref (He.ga K c)) f = some (some (.ref (He.ma K (He.ga K c) f)))
  get : PySem.W.specialIn K (.ref (He.ma K (He.ga K c) f)) "__get__" = some (some (.builtin "property.__get__"))
  tk : PySem.W.takesIn K (.ref (He.ma K (He.ga K c) f)) = some true
  rc : ∃ rest, PySem.W.recIn K (He.ma K (He.ga K c) f) "property" = some (.ref (pg K c f) :: rest)
def prB (K : PySem.W.Frag) (c f : Str) : Bool := He.eqO (PySem.W.findIn K (.ref (He.ga K c)) f) (some (some (.ref (He.ma K (He.ga K c) f)))) &&
  (He.eqO (PySem.W.specialIn K (.ref (He.ma K (He.ga K c) f)) "__get__") (some (some (.builtin "property.__get__"))) && (decide (PySem.W.takesIn K (.ref (He.ma K (He.ga K c) f)) = some true) &&
  (match PySem.W.recIn K (He.ma K (He.ga K c) f) "property" with
    | some (.ref _ :: _) => true
    | _ => false)))
def fnAt (K : PySem.W.Frag) (a : Addr) : He.FnW := match K.lookup a with
  | some ⟨_, _, .func fd, _⟩ => some (fd.name, fd.qualname, fd.params, fd.body, fd.scope, fd.globals, fd.closure, fd.builtins)
  | _ => none
def okAt (K : PySem.W.Frag) (a : Addr) (q : Str) : Bool := PySem.W.keepIn K (.ref a) && (match K.lookup a with
  | some ⟨_, _, .func fd, _⟩ => PySem.W.codeIn K fd.code q && (He.dflB K fd.defaults [] && He.kwdB K fd.kwdefaults [])
  | _ => false)
abbrev AlL : Type := Bool × List He.FnW
def obL (K : PySem.W.Frag) : AlL := ((fas.all fun f => f.ok K) && ((fns.all fun d => d.ok K) && ((sls.all fun x => slB K x) && ((css.all fun c => sclB K c) && prs.all fun p => prB K p.1 p.2.1 && okAt K (pg K p.1 p.2.1) p.2.2.qual))),
  (fns.map fun d => He.fnW K d.at_) ++ prs.map fun p => fnAt K (pg K p.1 p.2.1))
def vaL : AlL := (true, fns.map He.DefD.val ++ prs.map fun p => p.2.2.val)
def SaysL (K : PySem.W.Frag) : Prop := obL K = vaL
def hkL : PySem.W.Hook where
  α := AlL
  obs := fun s => obL (He.frG s.heap.get? (He.asD s.heap.get? 5))
  val := fun _ => vaL
  says := fun _ h => ∃ K : PySem.W.Frag, K.In h ∧ SaysL K
  of := fun _ _ e => ⟨_, He.frG_in, e⟩
  keeps := fun _ _ _ ⟨K, hK, c⟩ k => ⟨K, PySem.W.Frag.In.keeps hK k, c⟩
def obT (s : PySem.W.SharedT) : AlL := obL (He.frG (HandSHeadRun.getT s) (He.asD (HandSHeadRun.getT s) 5))
theorem obT_eq (s : PySem.W.SharedT) : obT s = hkL.obs s.abs := by
  have e : HandSHeadRun.getT s = s.abs.heap.get? := funext (HandSHeadRun.getT_eq s)
  show obL (He.frG (HandSHeadRun.getT s) (He.asD (HandSHeadRun.getT s) 5)) = _
  rw [e] <;> rfl
section
variable {K : PySem.W.Frag} {mg : Str → Option Value}
theorem ba {a b : Bool} (h : (a && b) = true) : a = true ∧ b = true := Bool.and_eq_true_iff.mp h
theorem SaysL.all (c : SaysL K) : (fas.all fun f => f.ok K) = true ∧ (fns.all fun d => d.ok K) = true ∧ (sls.all fun x => slB K x) = true ∧ (css.all fun c => sclB K c) = true ∧ (prs.all fun p => prB K p.1 p.2.1 && okAt K (pg K p.1 p.2.1) p.2.2.qual) = true := by
  have h : (obL K).1 = true := congrArg (fun z : AlL => z.1) c
  obtain ⟨h1, h⟩ := ba h
  obtain ⟨h2, h⟩ := ba h
  obtain ⟨h3, h⟩ := ba h
  obtain ⟨h4, h⟩ := ba h
  exact ⟨h1, h2, h3, h4, h⟩
theorem SaysL.fact (c : SaysL K) (i : Nat) {f : He.Fa} (h : fas[i]? = some f := by rfl) : f.ok K = true := List.all_eq_true.mp c.all.1 f (List.mem_of_getElem? h)
theorem SaysL.slot (c : SaysL K) (i : Nat) {x : Str × Str × Nat} (h : sls[i]? = some x := by rfl) : SlX.Slot1 K (He.ga K x.1) x.2.1 (He.ma K (He.ga K x.1) x.2.1) x.2.2 := by
  have q := List.all_eq_true.mp c.all.2.2.1 x (List.mem_of_getElem? h)
  obtain ⟨h1, q⟩ := ba q
  obtain ⟨h2, q⟩ := ba q
  obtain ⟨h3, q⟩ := ba q
  obtain ⟨h4, q⟩ := ba q
  obtain ⟨h5, q⟩ := ba q
  exact ⟨He.eqO_ok h1, He.eqO_ok h2, of_decide_eq_true h3, of_decide_eq_true h4, of_decide_eq_true h5, of_decide_eq_true q⟩
theorem SaysL.cls (c : SaysL K) (i : Nat) {x : Str} (h : css[i]? = some x := by rfl) : SlX.SCls K (He.ga K x) := by
  have q := List.all_eq_true.mp c.all.2.2.2.1 x (List.mem_of_getElem? h)
  obtain ⟨h1, q⟩ := ba q
  obtain ⟨h2, q⟩ := ba q
  obtain ⟨h3, q⟩ := ba q
  exact ⟨h1, h2, h3, He.eqO_ok q⟩
theorem SaysL.prop (c : SaysL K) (i : Nat) {x f : Str} {d : He.DefD} (h : prs[i]? = some (x, f, d) := by rfl) : Prp K x f := by
  have q := (ba (List.all_eq_true.mp c.all.2.2.2.2 _ (List.mem_of_getElem? h))).1
  obtain ⟨h1, q⟩ := ba q
  obtain ⟨h2, q⟩ := ba q
  obtain ⟨h3, q⟩ := ba q
  refine ⟨He.eqO_ok h1, He.eqO_ok h2, of_decide_eq_true h3, ?_⟩
  revert q
  unfold pg
  cases PySem.W.recIn K (He.ma K (He.ga K x) f) "property" with
  | none => intro q; cases q
  | some l =>
    cases l with
    | nil => intro q; cases q
    | cons v r =>
      cases v with
      | ref g => exact fun _ => ⟨r, rfl⟩
      | _ => intro q; cases q
theorem SaysL.snd (c : SaysL K) : (fns.map fun d => He.fnW K d.at_) ++ (prs.map fun p => fnAt K (pg K p.1 p.2.1)) = fns.map He.DefD.val ++ prs.map fun p => p.2.2.val := congrArg (fun z : AlL => z.2) c
theorem SaysL.def_ (c : SaysL K) (i : Nat) {d : He.DefD} (h : fns[i]? = some d := by rfl) : ∃ fd, FunD K d.name d.qual d.params d.body d.scope (d.dvs K) (d.kws K) (He.fAd K d.at_) fd := by
  have e := (List.append_inj c.snd (by rw [List.length_map, List.length_map])).1
  have e2 := congrArg (fun l : List He.FnW => l[i]?) e
  simp only [List.getElem?_map, h, Option.map_some] at e2
  exact He.DefD.funD (Option.some.inj e2) (List.all_eq_true.mp c.all.2.1 d (List.mem_of_getElem? h))
theorem funAt {a : Addr} {d : He.DefD} (e : fnAt K a = d.val) (c : okAt K a d.qual = true) : ∃ fd, FunD K d.name d.qual d.params d.body d.scope [] [] a fd := by
  obtain ⟨kp, c2⟩ := ba c
  unfold fnAt at e
  cases q : K.lookup a with
  | none =>
    rw [q] at c2
    cases c2
  | some o =>
    obtain ⟨oc, od, dt, osl⟩ := o
    rw [q] at c2 e
    cases dt with
    | func fd =>
      obtain ⟨n1, n2, n3, n4, n5, n6, n7, n8, n9, n10, n11, n12, n13, n14, n15⟩ := fd
      have e2 : (some (n1, n2, n3, n4, n5, n6, n7, n15) : He.FnW) = some (d.name, d.qual, d.params, .stmts d.body, d.scope, mainGlobals, [], builtinsNs) := e
      simp only [Option.some.injEq, Prod.mk.injEq] at e2
      obtain ⟨h1, h2, h3, h4, h5, h6, h7, h8⟩ := e2
      subst h1 h2 h3 h4 h5 h6 h7 h8
      have c3 : (PySem.W.codeIn K n13 d.qual && (He.dflB K n8 [] && He.kwdB K n9 [])) = true := c2
      obtain ⟨k1, k2⟩ := ba c3
      obtain ⟨k3, k4⟩ := ba k2
      exact ⟨_, ⟨oc, od, n8, n9, n10, n11, n12, n13, n14, osl, rfl, q, k1, He.dflB_ok k3, He.kwdB_ok k4⟩, kp⟩
    | _ => cases c2
theorem SaysL.prop_ (c : SaysL K) (i : Nat) {x f : Str} {d : He.DefD} (h : prs[i]? = some (x, f, d) := by rfl) : ∃ fd, FunD K d.name d.qual d.params d.body d.scope [] [] (pg K x f) fd := by
  have e := (List.append_inj c.snd (by rw [List.length_map, List.length_map])).2
  have e2 := congrArg (fun l : List He.FnW => l[i]?) e
  simp only [List.getElem?_map, h, Option.map_some] at e2
  exact funAt (Option.some.inj e2) (ba (List.all_eq_true.mp c.all.2.2.2.2 _ (List.mem_of_getElem? h))).2
/-- all that the walks take of the text -/
structure Tx (K : PySem.W.Frag) (mg : Str → Option Value) : Prop where
  s : SaysL K
  glo : ∀ {x : Str}, (He.Fa.glo x).ok K = true → mg x = some (.ref (He.ga K x))
  fre : ∀ {x : Str}, (He.Fa.free x).ok K = true → mg x = none
  int : ∀ {x : Str} {i : Int}, (He.Fa.int x i).ok K = true → ∃ t, mg x = some (.int i t)
theorem tx_of {h : Heap} (X : K.In h) (G : h.Ns mainGlobals mg) (s : SaysL K) : Tx K mg := ⟨s, fun c => He.glo_ok X G c, fun c => He.free_ok X G c, fun c => He.int_ok X G c⟩

theorem Tx.g_tupled (T : Tx K mg) : mg "tupled" = some (.ref (He.ga K "tupled")) := T.glo (x := "tupled") (T.s.fact 0)
theorem Tx.g_is_number (T : Tx K mg) : mg "is_number" = some (.ref (He.ga K "is_number")) := T.glo (x := "is_number") (T.s.fact 1)
theorem Tx.g_is_tuple (T : Tx K mg) : mg "is_tuple" = some (.ref (He.ga K "is_tuple")) := T.glo (x := "is_tuple") (T.s.fact 2)
theorem Tx.g_last_end (T : Tx K mg) : mg "last_end" = some (.ref (He.ga K "last_end")) := T.glo (x := "last_end") (T.s.fact 3)
theorem Tx.g_things (T : Tx K mg) : mg "things" = some (.ref (He.ga K "things")) := T.glo (x := "things") (T.s.fact 4)
theorem Tx.g_is_handing (T : Tx K mg) : mg "is_handing" = some (.ref (He.ga K "is_handing")) := T.glo (x := "is_handing") (T.s.fact 5)
theorem Tx.g_handing_of (T : Tx K mg) : mg "handing_of" = some (.ref (He.ga K "handing_of")) := T.glo (x := "handing_of") (T.s.fact 6)
theorem Tx.g_dead (T : Tx K mg) : mg "dead" = some (.ref (He.ga K "dead")) := T.glo (x := "dead") (T.s.fact 7)
theorem Tx.g_fewest_lifeless (T : Tx K mg) : mg "fewest_lifeless" = some (.ref (He.ga K "fewest_lifeless")) := T.glo (x := "fewest_lifeless") (T.s.fact 8)
theorem Tx.g_fee (T : Tx K mg) : mg "fee" = some (.ref (He.ga K "fee")) := T.glo (x := "fee") (T.s.fact 9)
theorem Tx.g_purse (T : Tx K mg) : mg "purse" = some (.ref (He.ga K "purse")) := T.glo (x := "purse") (T.s.fact 10)
theorem Tx.g_least_fee (T : Tx K mg) : mg "least_fee" = some (.ref (He.ga K "least_fee")) := T.glo (x := "least_fee") (T.s.fact 11)
theorem Tx.g_cheapest (T : Tx K mg) : mg "cheapest" = some (.ref (He.ga K "cheapest")) := T.glo (x := "cheapest") (T.s.fact 12)
theorem Tx.g_is_cheapest (T : Tx K mg) : mg "is_cheapest" = some (.ref (He.ga K "is_cheapest")) := T.glo (x := "is_cheapest") (T.s.fact 13)
theorem Tx.g_rates (T : Tx K mg) : mg "rates" = some (.ref (He.ga K "rates")) := T.glo (x := "rates") (T.s.fact 14)
theorem Tx.g_is_rates (T : Tx K mg) : mg "is_rates" = some (.ref (He.ga K "is_rates")) := T.glo (x := "is_rates") (T.s.fact 15)
theorem Tx.g__law_box (T : Tx K mg) : mg "_law_box" = some (.ref (He.ga K "_law_box")) := T.glo (x := "_law_box") (T.s.fact 16)
theorem Tx.g__law_take (T : Tx K mg) : mg "_law_take" = some (.ref (He.ga K "_law_take")) := T.glo (x := "_law_take") (T.s.fact 17)
theorem Tx.g__law_cells (T : Tx K mg) : mg "_law_cells" = some (.ref (He.ga K "_law_cells")) := T.glo (x := "_law_cells") (T.s.fact 18)
theorem Tx.g__law_of (T : Tx K mg) : mg "_law_of" = some (.ref (He.ga K "_law_of")) := T.glo (x := "_law_of") (T.s.fact 19)
theorem Tx.g__law_same (T : Tx K mg) : mg "_law_same" = some (.ref (He.ga K "_law_same")) := T.glo (x := "_law_same") (T.s.fact 20)
theorem Tx.g__law_loans (T : Tx K mg) : mg "_law_loans" = some (.ref (He.ga K "_law_loans")) := T.glo (x := "_law_loans") (T.s.fact 21)
theorem Tx.g__law_keep (T : Tx K mg) : mg "_law_keep" = some (.ref (He.ga K "_law_keep")) := T.glo (x := "_law_keep") (T.s.fact 22)
theorem Tx.g__law_gap (T : Tx K mg) : mg "_law_gap" = some (.ref (He.ga K "_law_gap")) := T.glo (x := "_law_gap") (T.s.fact 23)
theorem Tx.g__law_givers (T : Tx K mg) : mg "_law_givers" = some (.ref (He.ga K "_law_givers")) := T.glo (x := "_law_givers") (T.s.fact 24)
theorem Tx.g__law_is_dead (T : Tx K mg) : mg "_law_is_dead" = some (.ref (He.ga K "_law_is_dead")) := T.glo (x := "_law_is_dead") (T.s.fact 25)
theorem Tx.g__law_far (T : Tx K mg) : mg "_law_far" = some (.ref (He.ga K "_law_far")) := T.glo (x := "_law_far") (T.s.fact 26)
theorem Tx.g__law_line (T : Tx K mg) : mg "_law_line" = some (.ref (He.ga K "_law_line")) := T.glo (x := "_law_line") (T.s.fact 27)
theorem Tx.g__law_drawn (T : Tx K mg) : mg "_law_drawn" = some (.ref (He.ga K "_law_drawn")) := T.glo (x := "_law_drawn") (T.s.fact 28)
theorem Tx.g__law_dead (T : Tx K mg) : mg "_law_dead" = some (.ref (He.ga K "_law_dead")) := T.glo (x := "_law_dead") (T.s.fact 29)
theorem Tx.g__law_paid (T : Tx K mg) : mg "_law_paid" = some (.ref (He.ga K "_law_paid")) := T.glo (x := "_law_paid") (T.s.fact 30)
theorem Tx.g__law_are_rates (T : Tx K mg) : mg "_law_are_rates" = some (.ref (He.ga K "_law_are_rates")) := T.glo (x := "_law_are_rates") (T.s.fact 31)
theorem Tx.g__law_told (T : Tx K mg) : mg "_law_told" = some (.ref (He.ga K "_law_told")) := T.glo (x := "_law_told") (T.s.fact 32)
theorem Tx.g__law_by_hand_right (T : Tx K mg) : mg "_law_by_hand_right" = some (.ref (He.ga K "_law_by_hand_right")) := T.glo (x := "_law_by_hand_right") (T.s.fact 33)
theorem Tx.g__law_fees_right (T : Tx K mg) : mg "_law_fees_right" = some (.ref (He.ga K "_law_fees_right")) := T.glo (x := "_law_fees_right") (T.s.fact 34)
theorem Tx.g__law_right (T : Tx K mg) : mg "_law_right" = some (.ref (He.ga K "_law_right")) := T.glo (x := "_law_right") (T.s.fact 35)
theorem Tx.g_law (T : Tx K mg) : mg "law" = some (.ref (He.ga K "law")) := T.glo (x := "law") (T.s.fact 36)
theorem Tx.g_Pool (T : Tx K mg) : mg "Pool" = some (.ref (He.ga K "Pool")) := T.glo (x := "Pool") (T.s.fact 37)
theorem Tx.g_Story (T : Tx K mg) : mg "Story" = some (.ref (He.ga K "Story")) := T.glo (x := "Story") (T.s.fact 38)
theorem Tx.g_Links (T : Tx K mg) : mg "Links" = some (.ref (He.ga K "Links")) := T.glo (x := "Links") (T.s.fact 39)
theorem Tx.g_Purse (T : Tx K mg) : mg "Purse" = some (.ref (He.ga K "Purse")) := T.glo (x := "Purse") (T.s.fact 40)
theorem Tx.g_NotLent (T : Tx K mg) : mg "NotLent" = some (.ref (He.ga K "NotLent")) := T.glo (x := "NotLent") (T.s.fact 41)
theorem Tx.f_tuple (T : Tx K mg) : mg "tuple" = none := T.fre (x := "tuple") (T.s.fact 42)
theorem Tx.f_isinstance (T : Tx K mg) : mg "isinstance" = none := T.fre (x := "isinstance") (T.s.fact 43)
theorem Tx.f_list (T : Tx K mg) : mg "list" = none := T.fre (x := "list") (T.s.fact 44)
theorem Tx.f_int (T : Tx K mg) : mg "int" = none := T.fre (x := "int") (T.s.fact 45)
theorem Tx.f_bool (T : Tx K mg) : mg "bool" = none := T.fre (x := "bool") (T.s.fact 46)
theorem Tx.f_len (T : Tx K mg) : mg "len" = none := T.fre (x := "len") (T.s.fact 47)
theorem Tx.f_max (T : Tx K mg) : mg "max" = none := T.fre (x := "max") (T.s.fact 48)
theorem Tx.f_min (T : Tx K mg) : mg "min" = none := T.fre (x := "min") (T.s.fact 49)
theorem Tx.f_iter (T : Tx K mg) : mg "iter" = none := T.fre (x := "iter") (T.s.fact 50)
theorem Tx.f_sorted (T : Tx K mg) : mg "sorted" = none := T.fre (x := "sorted") (T.s.fact 51)
theorem Tx.f_range (T : Tx K mg) : mg "range" = none := T.fre (x := "range") (T.s.fact 52)
theorem Tx.f_enumerate (T : Tx K mg) : mg "enumerate" = none := T.fre (x := "enumerate") (T.s.fact 53)
theorem Tx.f_any (T : Tx K mg) : mg "any" = none := T.fre (x := "any") (T.s.fact 54)
theorem Tx.f_all (T : Tx K mg) : mg "all" = none := T.fre (x := "all") (T.s.fact 55)
theorem Tx.f_set (T : Tx K mg) : mg "set" = none := T.fre (x := "set") (T.s.fact 56)
theorem Tx.f_sum (T : Tx K mg) : mg "sum" = none := T.fre (x := "sum") (T.s.fact 57)
theorem Tx.f_abs (T : Tx K mg) : mg "abs" = none := T.fre (x := "abs") (T.s.fact 58)
theorem Tx.f_zip (T : Tx K mg) : mg "zip" = none := T.fre (x := "zip") (T.s.fact 59)
theorem Tx.f_str (T : Tx K mg) : mg "str" = none := T.fre (x := "str") (T.s.fact 60)
theorem Tx.i_PAIR (T : Tx K mg) : ∃ t, mg "PAIR" = some (.int 2 t) := T.int (x := "PAIR") (i := 2) (T.s.fact 61)
theorem Tx.mk_Pool (T : Tx K mg) : Mk K (He.ga K "Pool") (He.ma K (He.ga K "Pool") "__init__") := He.mkr_ok (x := "Pool") (T.s.fact 62)
theorem Tx.mk_Story (T : Tx K mg) : Mk K (He.ga K "Story") (He.ma K (He.ga K "Story") "__init__") := He.mkr_ok (x := "Story") (T.s.fact 63)
theorem Tx.mk_Links (T : Tx K mg) : Mk K (He.ga K "Links") (He.ma K (He.ga K "Links") "__init__") := He.mkr_ok (x := "Links") (T.s.fact 64)
theorem Tx.mk_Purse (T : Tx K mg) : Mk K (He.ga K "Purse") (He.ma K (He.ga K "Purse") "__init__") := He.mkr_ok (x := "Purse") (T.s.fact 65)
theorem Tx.m_Pool_len (T : Tx K mg) : Meth K (He.ga K "Pool") "__len__" (He.ma K (He.ga K "Pool") "__len__") := He.meth_ok (x := "Pool") (m := "__len__") (T.s.fact 66)
theorem Tx.m_Pool_place (T : Tx K mg) : Meth K (He.ga K "Pool") "place" (He.ma K (He.ga K "Pool") "place") := He.meth_ok (x := "Pool") (m := "place") (T.s.fact 67)
theorem Tx.m_Pool_take (T : Tx K mg) : Meth K (He.ga K "Pool") "take" (He.ma K (He.ga K "Pool") "take") := He.meth_ok (x := "Pool") (m := "take") (T.s.fact 68)
theorem Tx.m_Pool_give (T : Tx K mg) : Meth K (He.ga K "Pool") "give" (He.ma K (He.ga K "Pool") "give") := He.meth_ok (x := "Pool") (m := "give") (T.s.fact 69)
theorem Tx.m_Pool_pass_on (T : Tx K mg) : Meth K (He.ga K "Pool") "pass_on" (He.ma K (He.ga K "Pool") "pass_on") := He.meth_ok (x := "Pool") (m := "pass_on") (T.s.fact 70)
theorem Tx.m_Pool_wait (T : Tx K mg) : Meth K (He.ga K "Pool") "wait" (He.ma K (He.ga K "Pool") "wait") := He.meth_ok (x := "Pool") (m := "wait") (T.s.fact 71)
theorem Tx.m_Story_begin (T : Tx K mg) : Meth K (He.ga K "Story") "begin" (He.ma K (He.ga K "Story") "begin") := He.meth_ok (x := "Story") (m := "begin") (T.s.fact 72)
theorem Tx.m_Story_got (T : Tx K mg) : Meth K (He.ga K "Story") "got" (He.ma K (He.ga K "Story") "got") := He.meth_ok (x := "Story") (m := "got") (T.s.fact 73)
theorem Tx.m_Links_len (T : Tx K mg) : Meth K (He.ga K "Links") "__len__" (He.ma K (He.ga K "Links") "__len__") := He.meth_ok (x := "Links") (m := "__len__") (T.s.fact 74)
theorem Tx.m_Links_iter (T : Tx K mg) : Meth K (He.ga K "Links") "__iter__" (He.ma K (He.ga K "Links") "__iter__") := He.meth_ok (x := "Links") (m := "__iter__") (T.s.fact 75)
theorem Tx.m_Links_gap (T : Tx K mg) : Meth K (He.ga K "Links") "gap" (He.ma K (He.ga K "Links") "gap") := He.meth_ok (x := "Links") (m := "gap") (T.s.fact 76)
theorem Tx.m_Links_can_follow (T : Tx K mg) : Meth K (He.ga K "Links") "can_follow" (He.ma K (He.ga K "Links") "can_follow") := He.meth_ok (x := "Links") (m := "can_follow") (T.s.fact 77)
theorem Tx.m_Links_is_dead (T : Tx K mg) : Meth K (He.ga K "Links") "is_dead" (He.ma K (He.ga K "Links") "is_dead") := He.meth_ok (x := "Links") (m := "is_dead") (T.s.fact 78)
theorem Tx.m_Links_givers (T : Tx K mg) : Meth K (He.ga K "Links") "givers" (He.ma K (He.ga K "Links") "givers") := He.meth_ok (x := "Links") (m := "givers") (T.s.fact 79)
theorem Tx.m_Links_living (T : Tx K mg) : Meth K (He.ga K "Links") "living" (He.ma K (He.ga K "Links") "living") := He.meth_ok (x := "Links") (m := "living") (T.s.fact 80)
theorem Tx.m_Links_best (T : Tx K mg) : Meth K (He.ga K "Links") "best" (He.ma K (He.ga K "Links") "best") := He.meth_ok (x := "Links") (m := "best") (T.s.fact 81)
theorem Tx.m_Purse_fee (T : Tx K mg) : Meth K (He.ga K "Purse") "fee" (He.ma K (He.ga K "Purse") "fee") := He.meth_ok (x := "Purse") (m := "fee") (T.s.fact 82)
theorem Tx.m_Purse_ways (T : Tx K mg) : Meth K (He.ga K "Purse") "ways" (He.ma K (He.ga K "Purse") "ways") := He.meth_ok (x := "Purse") (m := "ways") (T.s.fact 83)
theorem Tx.m_Purse_place (T : Tx K mg) : Meth K (He.ga K "Purse") "place" (He.ma K (He.ga K "Purse") "place") := He.meth_ok (x := "Purse") (m := "place") (T.s.fact 84)
theorem Tx.m_Purse_handing (T : Tx K mg) : Meth K (He.ga K "Purse") "handing" (He.ma K (He.ga K "Purse") "handing") := He.meth_ok (x := "Purse") (m := "handing") (T.s.fact 85)
theorem Tx.m_Purse_total (T : Tx K mg) : Meth K (He.ga K "Purse") "total" (He.ma K (He.ga K "Purse") "total") := He.meth_ok (x := "Purse") (m := "total") (T.s.fact 86)
theorem Tx.m_Purse_givings (T : Tx K mg) : Meth K (He.ga K "Purse") "givings" (He.ma K (He.ga K "Purse") "givings") := He.meth_ok (x := "Purse") (m := "givings") (T.s.fact 87)
theorem Tx.m_Purse_taking (T : Tx K mg) : Meth K (He.ga K "Purse") "taking" (He.ma K (He.ga K "Purse") "taking") := He.meth_ok (x := "Purse") (m := "taking") (T.s.fact 88)
theorem Tx.m_Purse_rates (T : Tx K mg) : Meth K (He.ga K "Purse") "rates" (He.ma K (He.ga K "Purse") "rates") := He.meth_ok (x := "Purse") (m := "rates") (T.s.fact 89)
theorem Tx.m_Purse_are_rates (T : Tx K mg) : Meth K (He.ga K "Purse") "are_rates" (He.ma K (He.ga K "Purse") "are_rates") := He.meth_ok (x := "Purse") (m := "are_rates") (T.s.fact 90)
theorem Tx.k_tupled (T : Tx K mg) : PySem.W.keepIn K (.ref (He.ga K "tupled")) = true := He.keep_ok (x := "tupled") (T.s.fact 91)
theorem Tx.k_is_number (T : Tx K mg) : PySem.W.keepIn K (.ref (He.ga K "is_number")) = true := He.keep_ok (x := "is_number") (T.s.fact 92)
theorem Tx.k_is_tuple (T : Tx K mg) : PySem.W.keepIn K (.ref (He.ga K "is_tuple")) = true := He.keep_ok (x := "is_tuple") (T.s.fact 93)
theorem Tx.k_last_end (T : Tx K mg) : PySem.W.keepIn K (.ref (He.ga K "last_end")) = true := He.keep_ok (x := "last_end") (T.s.fact 94)
theorem Tx.k_things (T : Tx K mg) : PySem.W.keepIn K (.ref (He.ga K "things")) = true := He.keep_ok (x := "things") (T.s.fact 95)
theorem Tx.k_is_handing (T : Tx K mg) : PySem.W.keepIn K (.ref (He.ga K "is_handing")) = true := He.keep_ok (x := "is_handing") (T.s.fact 96)
theorem Tx.k_handing_of (T : Tx K mg) : PySem.W.keepIn K (.ref (He.ga K "handing_of")) = true := He.keep_ok (x := "handing_of") (T.s.fact 97)
theorem Tx.k_dead (T : Tx K mg) : PySem.W.keepIn K (.ref (He.ga K "dead")) = true := He.keep_ok (x := "dead") (T.s.fact 98)
theorem Tx.k_fewest_lifeless (T : Tx K mg) : PySem.W.keepIn K (.ref (He.ga K "fewest_lifeless")) = true := He.keep_ok (x := "fewest_lifeless") (T.s.fact 99)
theorem Tx.k_fee (T : Tx K mg) : PySem.W.keepIn K (.ref (He.ga K "fee")) = true := He.keep_ok (x := "fee") (T.s.fact 100)
theorem Tx.k_purse (T : Tx K mg) : PySem.W.keepIn K (.ref (He.ga K "purse")) = true := He.keep_ok (x := "purse") (T.s.fact 101)
theorem Tx.k_least_fee (T : Tx K mg) : PySem.W.keepIn K (.ref (He.ga K "least_fee")) = true := He.keep_ok (x := "least_fee") (T.s.fact 102)
theorem Tx.k_cheapest (T : Tx K mg) : PySem.W.keepIn K (.ref (He.ga K "cheapest")) = true := He.keep_ok (x := "cheapest") (T.s.fact 103)
theorem Tx.k_is_cheapest (T : Tx K mg) : PySem.W.keepIn K (.ref (He.ga K "is_cheapest")) = true := He.keep_ok (x := "is_cheapest") (T.s.fact 104)
theorem Tx.k_rates (T : Tx K mg) : PySem.W.keepIn K (.ref (He.ga K "rates")) = true := He.keep_ok (x := "rates") (T.s.fact 105)
theorem Tx.k_is_rates (T : Tx K mg) : PySem.W.keepIn K (.ref (He.ga K "is_rates")) = true := He.keep_ok (x := "is_rates") (T.s.fact 106)
theorem Tx.k__law_box (T : Tx K mg) : PySem.W.keepIn K (.ref (He.ga K "_law_box")) = true := He.keep_ok (x := "_law_box") (T.s.fact 107)
theorem Tx.k__law_take (T : Tx K mg) : PySem.W.keepIn K (.ref (He.ga K "_law_take")) = true := He.keep_ok (x := "_law_take") (T.s.fact 108)
theorem Tx.k__law_cells (T : Tx K mg) : PySem.W.keepIn K (.ref (He.ga K "_law_cells")) = true := He.keep_ok (x := "_law_cells") (T.s.fact 109)
theorem Tx.k__law_of (T : Tx K mg) : PySem.W.keepIn K (.ref (He.ga K "_law_of")) = true := He.keep_ok (x := "_law_of") (T.s.fact 110)
theorem Tx.k__law_same (T : Tx K mg) : PySem.W.keepIn K (.ref (He.ga K "_law_same")) = true := He.keep_ok (x := "_law_same") (T.s.fact 111)
theorem Tx.k__law_loans (T : Tx K mg) : PySem.W.keepIn K (.ref (He.ga K "_law_loans")) = true := He.keep_ok (x := "_law_loans") (T.s.fact 112)
theorem Tx.k__law_keep (T : Tx K mg) : PySem.W.keepIn K (.ref (He.ga K "_law_keep")) = true := He.keep_ok (x := "_law_keep") (T.s.fact 113)
theorem Tx.k__law_gap (T : Tx K mg) : PySem.W.keepIn K (.ref (He.ga K "_law_gap")) = true := He.keep_ok (x := "_law_gap") (T.s.fact 114)
theorem Tx.k__law_givers (T : Tx K mg) : PySem.W.keepIn K (.ref (He.ga K "_law_givers")) = true := He.keep_ok (x := "_law_givers") (T.s.fact 115)
theorem Tx.k__law_is_dead (T : Tx K mg) : PySem.W.keepIn K (.ref (He.ga K "_law_is_dead")) = true := He.keep_ok (x := "_law_is_dead") (T.s.fact 116)
theorem Tx.k__law_far (T : Tx K mg) : PySem.W.keepIn K (.ref (He.ga K "_law_far")) = true := He.keep_ok (x := "_law_far") (T.s.fact 117)
theorem Tx.k__law_line (T : Tx K mg) : PySem.W.keepIn K (.ref (He.ga K "_law_line")) = true := He.keep_ok (x := "_law_line") (T.s.fact 118)
theorem Tx.k__law_drawn (T : Tx K mg) : PySem.W.keepIn K (.ref (He.ga K "_law_drawn")) = true := He.keep_ok (x := "_law_drawn") (T.s.fact 119)
theorem Tx.k__law_dead (T : Tx K mg) : PySem.W.keepIn K (.ref (He.ga K "_law_dead")) = true := He.keep_ok (x := "_law_dead") (T.s.fact 120)
theorem Tx.k__law_paid (T : Tx K mg) : PySem.W.keepIn K (.ref (He.ga K "_law_paid")) = true := He.keep_ok (x := "_law_paid") (T.s.fact 121)
theorem Tx.k__law_are_rates (T : Tx K mg) : PySem.W.keepIn K (.ref (He.ga K "_law_are_rates")) = true := He.keep_ok (x := "_law_are_rates") (T.s.fact 122)
theorem Tx.k__law_told (T : Tx K mg) : PySem.W.keepIn K (.ref (He.ga K "_law_told")) = true := He.keep_ok (x := "_law_told") (T.s.fact 123)
theorem Tx.k__law_by_hand_right (T : Tx K mg) : PySem.W.keepIn K (.ref (He.ga K "_law_by_hand_right")) = true := He.keep_ok (x := "_law_by_hand_right") (T.s.fact 124)
theorem Tx.k__law_fees_right (T : Tx K mg) : PySem.W.keepIn K (.ref (He.ga K "_law_fees_right")) = true := He.keep_ok (x := "_law_fees_right") (T.s.fact 125)
theorem Tx.k__law_right (T : Tx K mg) : PySem.W.keepIn K (.ref (He.ga K "_law_right")) = true := He.keep_ok (x := "_law_right") (T.s.fact 126)
theorem Tx.k_law (T : Tx K mg) : PySem.W.keepIn K (.ref (He.ga K "law")) = true := He.keep_ok (x := "law") (T.s.fact 127)
theorem Tx.k_Pool (T : Tx K mg) : PySem.W.keepIn K (.ref (He.ga K "Pool")) = true := He.keep_ok (x := "Pool") (T.s.fact 128)
theorem Tx.k_Story (T : Tx K mg) : PySem.W.keepIn K (.ref (He.ga K "Story")) = true := He.keep_ok (x := "Story") (T.s.fact 129)
theorem Tx.k_Links (T : Tx K mg) : PySem.W.keepIn K (.ref (He.ga K "Links")) = true := He.keep_ok (x := "Links") (T.s.fact 130)
theorem Tx.k_Purse (T : Tx K mg) : PySem.W.keepIn K (.ref (He.ga K "Purse")) = true := He.keep_ok (x := "Purse") (T.s.fact 131)
theorem Tx.sl_Pool_depth (T : Tx K mg) : SlX.Slot1 K (He.ga K "Pool") "own_depth" (He.ma K (He.ga K "Pool") "own_depth") 0 := T.s.slot 0
theorem Tx.sl_Pool_idle (T : Tx K mg) : SlX.Slot1 K (He.ga K "Pool") "own_idle" (He.ma K (He.ga K "Pool") "own_idle") 1 := T.s.slot 1
theorem Tx.sl_Pool_keep (T : Tx K mg) : SlX.Slot1 K (He.ga K "Pool") "own_keep" (He.ma K (He.ga K "Pool") "own_keep") 2 := T.s.slot 2
theorem Tx.sl_Pool_lent (T : Tx K mg) : SlX.Slot1 K (He.ga K "Pool") "own_lent" (He.ma K (He.ga K "Pool") "own_lent") 3 := T.s.slot 3
theorem Tx.sl_Pool_made (T : Tx K mg) : SlX.Slot1 K (He.ga K "Pool") "own_made" (He.ma K (He.ga K "Pool") "own_made") 4 := T.s.slot 4
theorem Tx.sl_Pool_now (T : Tx K mg) : SlX.Slot1 K (He.ga K "Pool") "own_now" (He.ma K (He.ga K "Pool") "own_now") 5 := T.s.slot 5
theorem Tx.sl_Pool_there (T : Tx K mg) : SlX.Slot1 K (He.ga K "Pool") "own_there" (He.ma K (He.ga K "Pool") "own_there") 6 := T.s.slot 6
theorem Tx.sl_Story_gone (T : Tx K mg) : SlX.Slot1 K (He.ga K "Story") "own_gone" (He.ma K (He.ga K "Story") "own_gone") 0 := T.s.slot 7
theorem Tx.sl_Story_made (T : Tx K mg) : SlX.Slot1 K (He.ga K "Story") "own_made" (He.ma K (He.ga K "Story") "own_made") 1 := T.s.slot 8
theorem Tx.sl_Story_numbers (T : Tx K mg) : SlX.Slot1 K (He.ga K "Story") "own_numbers" (He.ma K (He.ga K "Story") "own_numbers") 2 := T.s.slot 9
theorem Tx.sl_Story_things (T : Tx K mg) : SlX.Slot1 K (He.ga K "Story") "own_things" (He.ma K (He.ga K "Story") "own_things") 3 := T.s.slot 10
theorem Tx.sl_Links_anew (T : Tx K mg) : SlX.Slot1 K (He.ga K "Links") "own_anew" (He.ma K (He.ga K "Links") "own_anew") 0 := T.s.slot 11
theorem Tx.sl_Links_indexes (T : Tx K mg) : SlX.Slot1 K (He.ga K "Links") "own_indexes" (He.ma K (He.ga K "Links") "own_indexes") 1 := T.s.slot 12
theorem Tx.sl_Links_keep (T : Tx K mg) : SlX.Slot1 K (He.ga K "Links") "own_keep" (He.ma K (He.ga K "Links") "own_keep") 2 := T.s.slot 13
theorem Tx.sl_Links_loans (T : Tx K mg) : SlX.Slot1 K (He.ga K "Links") "own_loans" (He.ma K (He.ga K "Links") "own_loans") 3 := T.s.slot 14
theorem Tx.sl_Links_shut (T : Tx K mg) : SlX.Slot1 K (He.ga K "Links") "own_shut" (He.ma K (He.ga K "Links") "own_shut") 4 := T.s.slot 15
theorem Tx.sl_Purse_dead (T : Tx K mg) : SlX.Slot1 K (He.ga K "Purse") "own_dead" (He.ma K (He.ga K "Purse") "own_dead") 0 := T.s.slot 16
theorem Tx.sl_Purse_links (T : Tx K mg) : SlX.Slot1 K (He.ga K "Purse") "own_links" (He.ma K (He.ga K "Purse") "own_links") 1 := T.s.slot 17
theorem Tx.sl_Purse_new (T : Tx K mg) : SlX.Slot1 K (He.ga K "Purse") "own_new" (He.ma K (He.ga K "Purse") "own_new") 2 := T.s.slot 18
theorem Tx.sl_Purse_taken (T : Tx K mg) : SlX.Slot1 K (He.ga K "Purse") "own_taken" (He.ma K (He.ga K "Purse") "own_taken") 3 := T.s.slot 19
theorem Tx.c_Pool (T : Tx K mg) : SlX.SCls K (He.ga K "Pool") := T.s.cls 0
theorem Tx.c_Story (T : Tx K mg) : SlX.SCls K (He.ga K "Story") := T.s.cls 1
theorem Tx.c_Links (T : Tx K mg) : SlX.SCls K (He.ga K "Links") := T.s.cls 2
theorem Tx.c_Purse (T : Tx K mg) : SlX.SCls K (He.ga K "Purse") := T.s.cls 3
theorem Tx.d_tupled (T : Tx K mg) : ∃ fd, FunD K "tupled" "tupled" (defArgs s_tupled) (defBody s_tupled) (defScope s_tupled) [] [] (He.ga K "tupled") fd := T.s.def_ 0 (d := dd_tupled)
theorem Tx.d_is_number (T : Tx K mg) : ∃ fd, FunD K "is_number" "is_number" (defArgs s_is_number) (defBody s_is_number) (defScope s_is_number) [] [] (He.ga K "is_number") fd := T.s.def_ 1 (d := dd_is_number)
theorem Tx.d_is_tuple (T : Tx K mg) : ∃ fd, FunD K "is_tuple" "is_tuple" (defArgs s_is_tuple) (defBody s_is_tuple) (defScope s_is_tuple) [] [] (He.ga K "is_tuple") fd := T.s.def_ 2 (d := dd_is_tuple)
theorem Tx.d_last_end (T : Tx K mg) : ∃ fd, FunD K "last_end" "last_end" (defArgs s_last_end) (defBody s_last_end) (defScope s_last_end) [] [] (He.ga K "last_end") fd := T.s.def_ 3 (d := dd_last_end)
theorem Tx.d_Pool_init (T : Tx K mg) : ∃ fd, FunD K "__init__" "Pool.__init__" (defArgs s_Pool_init) (defBody s_Pool_init) (defScope s_Pool_init) [.int 0] [] (He.ma K (He.ga K "Pool") "__init__") fd := T.s.def_ 4 (d := dd_Pool_init)
theorem Tx.d_Pool_len (T : Tx K mg) : ∃ fd, FunD K "__len__" "Pool.__len__" (defArgs s_Pool_len) (defBody s_Pool_len) (defScope s_Pool_len) [] [] (He.ma K (He.ga K "Pool") "__len__") fd := T.s.def_ 5 (d := dd_Pool_len)
theorem Tx.d_Pool_place (T : Tx K mg) : ∃ fd, FunD K "place" "Pool.place" (defArgs s_Pool_place) (defBody s_Pool_place) (defScope s_Pool_place) [] [] (He.ma K (He.ga K "Pool") "place") fd := T.s.def_ 6 (d := dd_Pool_place)
theorem Tx.d_Pool_take (T : Tx K mg) : ∃ fd, FunD K "take" "Pool.take" (defArgs s_Pool_take) (defBody s_Pool_take) (defScope s_Pool_take) [] [] (He.ma K (He.ga K "Pool") "take") fd := T.s.def_ 7 (d := dd_Pool_take)
theorem Tx.d_Pool_give (T : Tx K mg) : ∃ fd, FunD K "give" "Pool.give" (defArgs s_Pool_give) (defBody s_Pool_give) (defScope s_Pool_give) [] [] (He.ma K (He.ga K "Pool") "give") fd := T.s.def_ 8 (d := dd_Pool_give)
theorem Tx.d_Pool_pass_on (T : Tx K mg) : ∃ fd, FunD K "pass_on" "Pool.pass_on" (defArgs s_Pool_pass_on) (defBody s_Pool_pass_on) (defScope s_Pool_pass_on) [] [] (He.ma K (He.ga K "Pool") "pass_on") fd := T.s.def_ 9 (d := dd_Pool_pass_on)
theorem Tx.d_Pool_wait (T : Tx K mg) : ∃ fd, FunD K "wait" "Pool.wait" (defArgs s_Pool_wait) (defBody s_Pool_wait) (defScope s_Pool_wait) [.int 1] [] (He.ma K (He.ga K "Pool") "wait") fd := T.s.def_ 10 (d := dd_Pool_wait)
theorem Tx.d_Story_init (T : Tx K mg) : ∃ fd, FunD K "__init__" "Story.__init__" (defArgs s_Story_init) (defBody s_Story_init) (defScope s_Story_init) [] [] (He.ma K (He.ga K "Story") "__init__") fd := T.s.def_ 11 (d := dd_Story_init)
theorem Tx.d_Story_begin (T : Tx K mg) : ∃ fd, FunD K "begin" "Story.begin" (defArgs s_Story_begin) (defBody s_Story_begin) (defScope s_Story_begin) [] [] (He.ma K (He.ga K "Story") "begin") fd := T.s.def_ 12 (d := dd_Story_begin)
theorem Tx.d_Story_got (T : Tx K mg) : ∃ fd, FunD K "got" "Story.got" (defArgs s_Story_got) (defBody s_Story_got) (defScope s_Story_got) [] [] (He.ma K (He.ga K "Story") "got") fd := T.s.def_ 13 (d := dd_Story_got)
theorem Tx.d_things (T : Tx K mg) : ∃ fd, FunD K "things" "things" (defArgs s_things) (defBody s_things) (defScope s_things) [] [] (He.ga K "things") fd := T.s.def_ 14 (d := dd_things)
theorem Tx.d_Links_init (T : Tx K mg) : ∃ fd, FunD K "__init__" "Links.__init__" (defArgs s_Links_init) (defBody s_Links_init) (defScope s_Links_init) [] [] (He.ma K (He.ga K "Links") "__init__") fd := T.s.def_ 15 (d := dd_Links_init)
theorem Tx.d_Links_len (T : Tx K mg) : ∃ fd, FunD K "__len__" "Links.__len__" (defArgs s_Links_len) (defBody s_Links_len) (defScope s_Links_len) [] [] (He.ma K (He.ga K "Links") "__len__") fd := T.s.def_ 16 (d := dd_Links_len)
theorem Tx.d_Links_iter (T : Tx K mg) : ∃ fd, FunD K "__iter__" "Links.__iter__" (defArgs s_Links_iter) (defBody s_Links_iter) (defScope s_Links_iter) [] [] (He.ma K (He.ga K "Links") "__iter__") fd := T.s.def_ 17 (d := dd_Links_iter)
theorem Tx.d_Links_gap (T : Tx K mg) : ∃ fd, FunD K "gap" "Links.gap" (defArgs s_Links_gap) (defBody s_Links_gap) (defScope s_Links_gap) [] [] (He.ma K (He.ga K "Links") "gap") fd := T.s.def_ 18 (d := dd_Links_gap)
theorem Tx.d_Links_can_follow (T : Tx K mg) : ∃ fd, FunD K "can_follow" "Links.can_follow" (defArgs s_Links_can_follow) (defBody s_Links_can_follow) (defScope s_Links_can_follow) [] [] (He.ma K (He.ga K "Links") "can_follow") fd := T.s.def_ 19 (d := dd_Links_can_follow)
theorem Tx.d_Links_is_dead (T : Tx K mg) : ∃ fd, FunD K "is_dead" "Links.is_dead" (defArgs s_Links_is_dead) (defBody s_Links_is_dead) (defScope s_Links_is_dead) [] [] (He.ma K (He.ga K "Links") "is_dead") fd := T.s.def_ 20 (d := dd_Links_is_dead)
theorem Tx.d_Links_givers (T : Tx K mg) : ∃ fd, FunD K "givers" "Links.givers" (defArgs s_Links_givers) (defBody s_Links_givers) (defScope s_Links_givers) [] [] (He.ma K (He.ga K "Links") "givers") fd := T.s.def_ 21 (d := dd_Links_givers)
theorem Tx.d_Links_living (T : Tx K mg) : ∃ fd, FunD K "living" "Links.living" (defArgs s_Links_living) (defBody s_Links_living) (defScope s_Links_living) [] [] (He.ma K (He.ga K "Links") "living") fd := T.s.def_ 22 (d := dd_Links_living)
theorem Tx.d_Links_best (T : Tx K mg) : ∃ fd, FunD K "best" "Links.best" (defArgs s_Links_best) (defBody s_Links_best) (defScope s_Links_best) [] [] (He.ma K (He.ga K "Links") "best") fd := T.s.def_ 23 (d := dd_Links_best)
theorem Tx.d_Purse_init (T : Tx K mg) : ∃ fd, FunD K "__init__" "Purse.__init__" (defArgs s_Purse_init) (defBody s_Purse_init) (defScope s_Purse_init) [] [] (He.ma K (He.ga K "Purse") "__init__") fd := T.s.def_ 24 (d := dd_Purse_init)
theorem Tx.d_Purse_fee (T : Tx K mg) : ∃ fd, FunD K "fee" "Purse.fee" (defArgs s_Purse_fee) (defBody s_Purse_fee) (defScope s_Purse_fee) [] [] (He.ma K (He.ga K "Purse") "fee") fd := T.s.def_ 25 (d := dd_Purse_fee)
theorem Tx.d_Purse_ways (T : Tx K mg) : ∃ fd, FunD K "ways" "Purse.ways" (defArgs s_Purse_ways) (defBody s_Purse_ways) (defScope s_Purse_ways) [] [] (He.ma K (He.ga K "Purse") "ways") fd := T.s.def_ 26 (d := dd_Purse_ways)
theorem Tx.d_Purse_place (T : Tx K mg) : ∃ fd, FunD K "place" "Purse.place" (defArgs s_Purse_place) (defBody s_Purse_place) (defScope s_Purse_place) [] [] (He.ma K (He.ga K "Purse") "place") fd := T.s.def_ 27 (d := dd_Purse_place)
theorem Tx.d_Purse_handing (T : Tx K mg) : ∃ fd, FunD K "handing" "Purse.handing" (defArgs s_Purse_handing) (defBody s_Purse_handing) (defScope s_Purse_handing) [] [] (He.ma K (He.ga K "Purse") "handing") fd := T.s.def_ 28 (d := dd_Purse_handing)
theorem Tx.d_Purse_total (T : Tx K mg) : ∃ fd, FunD K "total" "Purse.total" (defArgs s_Purse_total) (defBody s_Purse_total) (defScope s_Purse_total) [] [] (He.ma K (He.ga K "Purse") "total") fd := T.s.def_ 29 (d := dd_Purse_total)
theorem Tx.d_Purse_givings (T : Tx K mg) : ∃ fd, FunD K "givings" "Purse.givings" (defArgs s_Purse_givings) (defBody s_Purse_givings) (defScope s_Purse_givings) [] [] (He.ma K (He.ga K "Purse") "givings") fd := T.s.def_ 30 (d := dd_Purse_givings)
theorem Tx.d_Purse_taking (T : Tx K mg) : ∃ fd, FunD K "taking" "Purse.taking" (defArgs s_Purse_taking) (defBody s_Purse_taking) (defScope s_Purse_taking) [] [] (He.ma K (He.ga K "Purse") "taking") fd := T.s.def_ 31 (d := dd_Purse_taking)
theorem Tx.d_Purse_rates (T : Tx K mg) : ∃ fd, FunD K "rates" "Purse.rates" (defArgs s_Purse_rates) (defBody s_Purse_rates) (defScope s_Purse_rates) [] [] (He.ma K (He.ga K "Purse") "rates") fd := T.s.def_ 32 (d := dd_Purse_rates)
theorem Tx.d_Purse_are_rates (T : Tx K mg) : ∃ fd, FunD K "are_rates" "Purse.are_rates" (defArgs s_Purse_are_rates) (defBody s_Purse_are_rates) (defScope s_Purse_are_rates) [] [] (He.ma K (He.ga K "Purse") "are_rates") fd := T.s.def_ 33 (d := dd_Purse_are_rates)
theorem Tx.d_is_handing (T : Tx K mg) : ∃ fd, FunD K "is_handing" "is_handing" (defArgs s_is_handing) (defBody s_is_handing) (defScope s_is_handing) [] [] (He.ga K "is_handing") fd := T.s.def_ 34 (d := dd_is_handing)
theorem Tx.d_handing_of (T : Tx K mg) : ∃ fd, FunD K "handing_of" "handing_of" (defArgs s_handing_of) (defBody s_handing_of) (defScope s_handing_of) [] [] (He.ga K "handing_of") fd := T.s.def_ 35 (d := dd_handing_of)
theorem Tx.d_dead (T : Tx K mg) : ∃ fd, FunD K "dead" "dead" (defArgs s_dead) (defBody s_dead) (defScope s_dead) [] [] (He.ga K "dead") fd := T.s.def_ 36 (d := dd_dead)
theorem Tx.d_fewest_lifeless (T : Tx K mg) : ∃ fd, FunD K "fewest_lifeless" "fewest_lifeless" (defArgs s_fewest_lifeless) (defBody s_fewest_lifeless) (defScope s_fewest_lifeless) [] [] (He.ga K "fewest_lifeless") fd := T.s.def_ 37 (d := dd_fewest_lifeless)
theorem Tx.d_fee (T : Tx K mg) : ∃ fd, FunD K "fee" "fee" (defArgs s_fee) (defBody s_fee) (defScope s_fee) [] [] (He.ga K "fee") fd := T.s.def_ 38 (d := dd_fee)
theorem Tx.d_purse (T : Tx K mg) : ∃ fd, FunD K "purse" "purse" (defArgs s_purse) (defBody s_purse) (defScope s_purse) [] [] (He.ga K "purse") fd := T.s.def_ 39 (d := dd_purse)
theorem Tx.d_least_fee (T : Tx K mg) : ∃ fd, FunD K "least_fee" "least_fee" (defArgs s_least_fee) (defBody s_least_fee) (defScope s_least_fee) [] [] (He.ga K "least_fee") fd := T.s.def_ 40 (d := dd_least_fee)
theorem Tx.d_cheapest (T : Tx K mg) : ∃ fd, FunD K "cheapest" "cheapest" (defArgs s_cheapest) (defBody s_cheapest) (defScope s_cheapest) [] [] (He.ga K "cheapest") fd := T.s.def_ 41 (d := dd_cheapest)
theorem Tx.d_is_cheapest (T : Tx K mg) : ∃ fd, FunD K "is_cheapest" "is_cheapest" (defArgs s_is_cheapest) (defBody s_is_cheapest) (defScope s_is_cheapest) [] [] (He.ga K "is_cheapest") fd := T.s.def_ 42 (d := dd_is_cheapest)
theorem Tx.d_rates (T : Tx K mg) : ∃ fd, FunD K "rates" "rates" (defArgs s_rates) (defBody s_rates) (defScope s_rates) [] [] (He.ga K "rates") fd := T.s.def_ 43 (d := dd_rates)
theorem Tx.d_is_rates (T : Tx K mg) : ∃ fd, FunD K "is_rates" "is_rates" (defArgs s_is_rates) (defBody s_is_rates) (defScope s_is_rates) [] [] (He.ga K "is_rates") fd := T.s.def_ 44 (d := dd_is_rates)
theorem Tx.d__law_box (T : Tx K mg) : ∃ fd, FunD K "_law_box" "_law_box" (defArgs s__law_box) (defBody s__law_box) (defScope s__law_box) [] [] (He.ga K "_law_box") fd := T.s.def_ 45 (d := dd__law_box)
theorem Tx.d__law_take (T : Tx K mg) : ∃ fd, FunD K "_law_take" "_law_take" (defArgs s__law_take) (defBody s__law_take) (defScope s__law_take) [] [] (He.ga K "_law_take") fd := T.s.def_ 46 (d := dd__law_take)
theorem Tx.d__law_cells (T : Tx K mg) : ∃ fd, FunD K "_law_cells" "_law_cells" (defArgs s__law_cells) (defBody s__law_cells) (defScope s__law_cells) [] [] (He.ga K "_law_cells") fd := T.s.def_ 47 (d := dd__law_cells)
theorem Tx.d__law_of (T : Tx K mg) : ∃ fd, FunD K "_law_of" "_law_of" (defArgs s__law_of) (defBody s__law_of) (defScope s__law_of) [] [] (He.ga K "_law_of") fd := T.s.def_ 48 (d := dd__law_of)
theorem Tx.d__law_same (T : Tx K mg) : ∃ fd, FunD K "_law_same" "_law_same" (defArgs s__law_same) (defBody s__law_same) (defScope s__law_same) [] [] (He.ga K "_law_same") fd := T.s.def_ 49 (d := dd__law_same)
theorem Tx.d__law_loans (T : Tx K mg) : ∃ fd, FunD K "_law_loans" "_law_loans" (defArgs s__law_loans) (defBody s__law_loans) (defScope s__law_loans) [] [] (He.ga K "_law_loans") fd := T.s.def_ 50 (d := dd__law_loans)
theorem Tx.d__law_keep (T : Tx K mg) : ∃ fd, FunD K "_law_keep" "_law_keep" (defArgs s__law_keep) (defBody s__law_keep) (defScope s__law_keep) [] [] (He.ga K "_law_keep") fd := T.s.def_ 51 (d := dd__law_keep)
theorem Tx.d__law_gap (T : Tx K mg) : ∃ fd, FunD K "_law_gap" "_law_gap" (defArgs s__law_gap) (defBody s__law_gap) (defScope s__law_gap) [] [] (He.ga K "_law_gap") fd := T.s.def_ 52 (d := dd__law_gap)
theorem Tx.d__law_givers (T : Tx K mg) : ∃ fd, FunD K "_law_givers" "_law_givers" (defArgs s__law_givers) (defBody s__law_givers) (defScope s__law_givers) [] [] (He.ga K "_law_givers") fd := T.s.def_ 53 (d := dd__law_givers)
theorem Tx.d__law_is_dead (T : Tx K mg) : ∃ fd, FunD K "_law_is_dead" "_law_is_dead" (defArgs s__law_is_dead) (defBody s__law_is_dead) (defScope s__law_is_dead) [] [] (He.ga K "_law_is_dead") fd := T.s.def_ 54 (d := dd__law_is_dead)
theorem Tx.d__law_far (T : Tx K mg) : ∃ fd, FunD K "_law_far" "_law_far" (defArgs s__law_far) (defBody s__law_far) (defScope s__law_far) [] [] (He.ga K "_law_far") fd := T.s.def_ 55 (d := dd__law_far)
theorem Tx.d__law_line (T : Tx K mg) : ∃ fd, FunD K "_law_line" "_law_line" (defArgs s__law_line) (defBody s__law_line) (defScope s__law_line) [] [] (He.ga K "_law_line") fd := T.s.def_ 56 (d := dd__law_line)
theorem Tx.d__law_drawn (T : Tx K mg) : ∃ fd, FunD K "_law_drawn" "_law_drawn" (defArgs s__law_drawn) (defBody s__law_drawn) (defScope s__law_drawn) [] [] (He.ga K "_law_drawn") fd := T.s.def_ 57 (d := dd__law_drawn)
theorem Tx.d__law_dead (T : Tx K mg) : ∃ fd, FunD K "_law_dead" "_law_dead" (defArgs s__law_dead) (defBody s__law_dead) (defScope s__law_dead) [] [] (He.ga K "_law_dead") fd := T.s.def_ 58 (d := dd__law_dead)
theorem Tx.d__law_paid (T : Tx K mg) : ∃ fd, FunD K "_law_paid" "_law_paid" (defArgs s__law_paid) (defBody s__law_paid) (defScope s__law_paid) [] [] (He.ga K "_law_paid") fd := T.s.def_ 59 (d := dd__law_paid)
theorem Tx.d__law_are_rates (T : Tx K mg) : ∃ fd, FunD K "_law_are_rates" "_law_are_rates" (defArgs s__law_are_rates) (defBody s__law_are_rates) (defScope s__law_are_rates) [] [] (He.ga K "_law_are_rates") fd := T.s.def_ 60 (d := dd__law_are_rates)
theorem Tx.d__law_told (T : Tx K mg) : ∃ fd, FunD K "_law_told" "_law_told" (defArgs s__law_told) (defBody s__law_told) (defScope s__law_told) [] [] (He.ga K "_law_told") fd := T.s.def_ 61 (d := dd__law_told)
theorem Tx.d__law_by_hand_right (T : Tx K mg) : ∃ fd, FunD K "_law_by_hand_right" "_law_by_hand_right" (defArgs s__law_by_hand_right) (defBody s__law_by_hand_right) (defScope s__law_by_hand_right) [] [] (He.ga K "_law_by_hand_right") fd := T.s.def_ 62 (d := dd__law_by_hand_right)
theorem Tx.d__law_fees_right (T : Tx K mg) : ∃ fd, FunD K "_law_fees_right" "_law_fees_right" (defArgs s__law_fees_right) (defBody s__law_fees_right) (defScope s__law_fees_right) [] [] (He.ga K "_law_fees_right") fd := T.s.def_ 63 (d := dd__law_fees_right)
theorem Tx.d__law_right (T : Tx K mg) : ∃ fd, FunD K "_law_right" "_law_right" (defArgs s__law_right) (defBody s__law_right) (defScope s__law_right) [] [] (He.ga K "_law_right") fd := T.s.def_ 64 (d := dd__law_right)
theorem Tx.d_law (T : Tx K mg) : ∃ fd, FunD K "law" "law" (defArgs s_law) (defBody s_law) (defScope s_law) [] [] (He.ga K "law") fd := T.s.def_ 65 (d := dd_law)
theorem Tx.d_Pool_now (T : Tx K mg) : ∃ fd, FunD K "now" "Pool.now" (defArgs s_Pool_now) (defBody s_Pool_now) (defScope s_Pool_now) [] [] (pg K "Pool" "now") fd := T.s.prop_ 0 (d := dd_Pool_now)
theorem Tx.p_Pool_now (T : Tx K mg) : Prp K "Pool" "now" := T.s.prop 0 (d := dd_Pool_now)
theorem Tx.d_Pool_made (T : Tx K mg) : ∃ fd, FunD K "made" "Pool.made" (defArgs s_Pool_made) (defBody s_Pool_made) (defScope s_Pool_made) [] [] (pg K "Pool" "made") fd := T.s.prop_ 1 (d := dd_Pool_made)
theorem Tx.p_Pool_made (T : Tx K mg) : Prp K "Pool" "made" := T.s.prop 1 (d := dd_Pool_made)
abbrev n_tupled : List Str := ["thing", "part"]
theorem sc_tupled : FnScope n_tupled ["thing"] (defScope s_tupled) := ⟨rfl, rfl, rfl, by decide +kernel, rfl, by decide +kernel, by decide +kernel⟩
abbrev n_is_number : List Str := ["thing", "bottom"]
theorem sc_is_number : FnScope n_is_number ["thing", "bottom"] (defScope s_is_number) := ⟨rfl, rfl, rfl, by decide +kernel, rfl, by decide +kernel, by decide +kernel⟩
abbrev n_is_tuple : List Str := ["thing", "many"]
theorem sc_is_tuple : FnScope n_is_tuple ["thing", "many"] (defScope s_is_tuple) := ⟨rfl, rfl, rfl, by decide +kernel, rfl, by decide +kernel, by decide +kernel⟩
abbrev n_last_end : List Str := ["loans", "begin", "end"]
theorem sc_last_end : FnScope n_last_end ["loans"] (defScope s_last_end) := ⟨rfl, rfl, rfl, by decide +kernel, rfl, by decide +kernel, by decide +kernel⟩
abbrev n_Pool_init : List Str := ["self", "keep", "depth"]
theorem sc_Pool_init : FnScope n_Pool_init ["self", "keep", "depth"] (defScope s_Pool_init) := ⟨rfl, rfl, rfl, by decide +kernel, rfl, by decide +kernel, by decide +kernel⟩
abbrev n_Pool_len : List Str := ["self"]
theorem sc_Pool_len : FnScope n_Pool_len ["self"] (defScope s_Pool_len) := ⟨rfl, rfl, rfl, by decide +kernel, rfl, by decide +kernel, by decide +kernel⟩
abbrev n_Pool_now : List Str := ["self"]
theorem sc_Pool_now : FnScope n_Pool_now ["self"] (defScope s_Pool_now) := ⟨rfl, rfl, rfl, by decide +kernel, rfl, by decide +kernel, by decide +kernel⟩
abbrev n_Pool_made : List Str := ["self"]
theorem sc_Pool_made : FnScope n_Pool_made ["self"] (defScope s_Pool_made) := ⟨rfl, rfl, rfl, by decide +kernel, rfl, by decide +kernel, by decide +kernel⟩
abbrev n_Pool_place : List Str := ["self", "last"]
theorem sc_Pool_place : FnScope n_Pool_place ["self"] (defScope s_Pool_place) := ⟨rfl, rfl, rfl, by decide +kernel, rfl, by decide +kernel, by decide +kernel⟩
abbrev n_Pool_take : List Str := ["self", "number", "beat"]
theorem sc_Pool_take : FnScope n_Pool_take ["self"] (defScope s_Pool_take) := ⟨rfl, rfl, rfl, by decide +kernel, rfl, by decide +kernel, by decide +kernel⟩
abbrev n_Pool_give : List Str := ["self", "number"]
theorem sc_Pool_give : FnScope n_Pool_give ["self", "number"] (defScope s_Pool_give) := ⟨rfl, rfl, rfl, by decide +kernel, rfl, by decide +kernel, by decide +kernel⟩
abbrev n_Pool_pass_on : List Str := ["self", "gone", "numbers_gone", "row", "number", "beat"]
theorem sc_Pool_pass_on : FnScope n_Pool_pass_on ["self"] (defScope s_Pool_pass_on) := ⟨rfl, rfl, rfl, by decide +kernel, rfl, by decide +kernel, by decide +kernel⟩
abbrev n_Pool_wait : List Str := ["self", "beats", "found", "turn"]
theorem sc_Pool_wait : FnScope n_Pool_wait ["self", "beats"] (defScope s_Pool_wait) := ⟨rfl, rfl, rfl, by decide +kernel, rfl, by decide +kernel, by decide +kernel⟩
abbrev n_Story_init : List Str := ["self", "loans", "pool", "rows", "number", "loan"]
theorem sc_Story_init : FnScope n_Story_init ["self", "loans", "pool"] (defScope s_Story_init) := ⟨rfl, rfl, rfl, by decide +kernel, rfl, by decide +kernel, by decide +kernel⟩
abbrev n_Story_begin : List Str := ["self", "some", "pool", "number", "before"]
theorem sc_Story_begin : FnScope n_Story_begin ["self", "some", "pool"] (defScope s_Story_begin) := ⟨rfl, rfl, rfl, by decide +kernel, rfl, by decide +kernel, by decide +kernel⟩
abbrev n_Story_got : List Str := ["self", "number"]
theorem sc_Story_got : FnScope n_Story_got ["self"] (defScope s_Story_got) := ⟨rfl, rfl, rfl, by decide +kernel, rfl, by decide +kernel, by decide +kernel⟩
abbrev n_things : List Str := ["loans", "keep", "depth"]
theorem sc_things : FnScope n_things ["loans", "keep", "depth"] (defScope s_things) := ⟨rfl, rfl, rfl, by decide +kernel, rfl, by decide +kernel, by decide +kernel⟩
abbrev n_Links_init : List Str := ["self", "loans", "keep", "far"]
theorem sc_Links_init : FnScope n_Links_init ["self", "loans", "keep", "far"] (defScope s_Links_init) := ⟨rfl, rfl, rfl, by decide +kernel, rfl, by decide +kernel, by decide +kernel⟩
abbrev n_Links_len : List Str := ["self"]
theorem sc_Links_len : FnScope n_Links_len ["self"] (defScope s_Links_len) := ⟨rfl, rfl, rfl, by decide +kernel, rfl, by decide +kernel, by decide +kernel⟩
abbrev n_Links_iter : List Str := ["self"]
theorem sc_Links_iter : FnScope n_Links_iter ["self"] (defScope s_Links_iter) := ⟨rfl, rfl, rfl, by decide +kernel, rfl, by decide +kernel, by decide +kernel⟩
abbrev n_Links_gap : List Str := ["self", "giver", "taker"]
theorem sc_Links_gap : FnScope n_Links_gap ["self", "giver", "taker"] (defScope s_Links_gap) := ⟨rfl, rfl, rfl, by decide +kernel, rfl, by decide +kernel, by decide +kernel⟩
abbrev n_Links_can_follow : List Str := ["self", "giver", "taker"]
theorem sc_Links_can_follow : FnScope n_Links_can_follow ["self", "giver", "taker"] (defScope s_Links_can_follow) := ⟨rfl, rfl, rfl, by decide +kernel, rfl, by decide +kernel, by decide +kernel⟩
abbrev n_Links_is_dead : List Str := ["self", "giver", "taker", "beat"]
theorem sc_Links_is_dead : FnScope n_Links_is_dead ["self", "giver", "taker"] (defScope s_Links_is_dead) := ⟨rfl, rfl, rfl, by decide +kernel, rfl, by decide +kernel, by decide +kernel⟩
abbrev n_Links_givers : List Str := ["self", "taker", "giver"]
theorem sc_Links_givers : FnScope n_Links_givers ["self", "taker"] (defScope s_Links_givers) := ⟨rfl, rfl, rfl, by decide +kernel, rfl, by decide +kernel, by decide +kernel⟩
abbrev n_Links_living : List Str := ["self", "taker", "giver"]
theorem sc_Links_living : FnScope n_Links_living ["self", "taker"] (defScope s_Links_living) := ⟨rfl, rfl, rfl, by decide +kernel, rfl, by decide +kernel, by decide +kernel⟩
abbrev n_Links_best : List Str := ["self", "found", "taker", "free", "giver"]
theorem sc_Links_best : FnScope n_Links_best ["self"] (defScope s_Links_best) := ⟨rfl, rfl, rfl, by decide +kernel, rfl, by decide +kernel, by decide +kernel⟩
abbrev n_Purse_init : List Str := ["self", "links", "fees", "taker"]
theorem sc_Purse_init : FnScope n_Purse_init ["self", "links", "fees"] (defScope s_Purse_init) := ⟨rfl, rfl, rfl, by decide +kernel, rfl, by decide +kernel, by decide +kernel⟩
abbrev n_Purse_fee : List Str := ["self", "giver", "taker"]
theorem sc_Purse_fee : FnScope n_Purse_fee ["self", "giver", "taker"] (defScope s_Purse_fee) := ⟨rfl, rfl, rfl, by decide +kernel, rfl, by decide +kernel, by decide +kernel⟩
abbrev n_Purse_ways : List Str := ["self", "taker", "found", "more", "one", "giver", "cost", "way", "other", "here"]
theorem sc_Purse_ways : FnScope n_Purse_ways ["self", "taker"] (defScope s_Purse_ways) := ⟨rfl, rfl, rfl, by decide +kernel, rfl, by decide +kernel, by decide +kernel⟩
abbrev n_Purse_place : List Str := ["self", "taker", "some", "one", "giver", "cost", "way"]
theorem sc_Purse_place : FnScope n_Purse_place ["self", "taker"] (defScope s_Purse_place) := ⟨rfl, rfl, rfl, by decide +kernel, rfl, by decide +kernel, by decide +kernel⟩
abbrev n_Purse_handing : List Str := ["self", "found", "giver", "taker"]
theorem sc_Purse_handing : FnScope n_Purse_handing ["self"] (defScope s_Purse_handing) := ⟨rfl, rfl, rfl, by decide +kernel, rfl, by decide +kernel, by decide +kernel⟩
abbrev n_Purse_total : List Str := ["self", "paid", "giver", "taker"]
theorem sc_Purse_total : FnScope n_Purse_total ["self"] (defScope s_Purse_total) := ⟨rfl, rfl, rfl, by decide +kernel, rfl, by decide +kernel, by decide +kernel⟩
abbrev n_Purse_givings : List Str := ["self", "found", "handing", "more", "taker", "giver", "least"]
theorem sc_Purse_givings : FnScope n_Purse_givings ["self"] (defScope s_Purse_givings) := ⟨rfl, rfl, rfl, by decide +kernel, rfl, by decide +kernel, by decide +kernel⟩
abbrev n_Purse_taking : List Str := ["self", "givings", "handing", "taker", "giver"]
theorem sc_Purse_taking : FnScope n_Purse_taking ["self", "givings", "handing", "taker"] (defScope s_Purse_taking) := ⟨rfl, rfl, rfl, by decide +kernel, rfl, by decide +kernel, by decide +kernel⟩
abbrev n_Purse_rates : List Str := ["self", "givings", "handing", "taker"]
theorem sc_Purse_rates : FnScope n_Purse_rates ["self"] (defScope s_Purse_rates) := ⟨rfl, rfl, rfl, by decide +kernel, rfl, by decide +kernel, by decide +kernel⟩
abbrev n_Purse_are_rates : List Str := ["self", "thing", "taker", "giver"]
theorem sc_Purse_are_rates : FnScope n_Purse_are_rates ["self", "thing"] (defScope s_Purse_are_rates) := ⟨rfl, rfl, rfl, by decide +kernel, rfl, by decide +kernel, by decide +kernel⟩
abbrev n_is_handing : List Str := ["loans", "keep", "thing", "links", "some", "part", "taker"]
theorem sc_is_handing : FnScope n_is_handing ["loans", "keep", "thing"] (defScope s_is_handing) := ⟨rfl, rfl, rfl, by decide +kernel, rfl, by decide +kernel, by decide +kernel⟩
abbrev n_handing_of : List Str := ["loans", "keep", "depth", "found", "some", "taker", "number", "ahead", "giver"]
theorem sc_handing_of : FnScope n_handing_of ["loans", "keep", "depth"] (defScope s_handing_of) := ⟨rfl, rfl, rfl, by decide +kernel, rfl, by decide +kernel, by decide +kernel⟩
abbrev n_dead : List Str := ["loans", "far", "handing", "links", "taker"]
theorem sc_dead : FnScope n_dead ["loans", "far", "handing"] (defScope s_dead) := ⟨rfl, rfl, rfl, by decide +kernel, rfl, by decide +kernel, by decide +kernel⟩
abbrev n_fewest_lifeless : List Str := ["loans", "keep", "far", "links"]
theorem sc_fewest_lifeless : FnScope n_fewest_lifeless ["loans", "keep", "far"] (defScope s_fewest_lifeless) := ⟨rfl, rfl, rfl, by decide +kernel, rfl, by decide +kernel, by decide +kernel⟩
abbrev n_fee : List Str := ["loans", "far", "fees", "handing", "some", "taker"]
theorem sc_fee : FnScope n_fee ["loans", "far", "fees", "handing"] (defScope s_fee) := ⟨rfl, rfl, rfl, by decide +kernel, rfl, by decide +kernel, by decide +kernel⟩
abbrev n_purse : List Str := ["loans", "keep", "far", "fees"]
theorem sc_purse : FnScope n_purse ["loans", "keep", "far", "fees"] (defScope s_purse) := ⟨rfl, rfl, rfl, by decide +kernel, rfl, by decide +kernel, by decide +kernel⟩
abbrev n_least_fee : List Str := ["loans", "keep", "far", "fees"]
theorem sc_least_fee : FnScope n_least_fee ["loans", "keep", "far", "fees"] (defScope s_least_fee) := ⟨rfl, rfl, rfl, by decide +kernel, rfl, by decide +kernel, by decide +kernel⟩
abbrev n_cheapest : List Str := ["loans", "keep", "far", "fees"]
theorem sc_cheapest : FnScope n_cheapest ["loans", "keep", "far", "fees"] (defScope s_cheapest) := ⟨rfl, rfl, rfl, by decide +kernel, rfl, by decide +kernel, by decide +kernel⟩
abbrev n_is_cheapest : List Str := ["loans", "keep", "far", "fees", "thing"]
theorem sc_is_cheapest : FnScope n_is_cheapest ["loans", "keep", "far", "fees", "thing"] (defScope s_is_cheapest) := ⟨rfl, rfl, rfl, by decide +kernel, rfl, by decide +kernel, by decide +kernel⟩
abbrev n_rates : List Str := ["loans", "keep", "far", "fees"]
theorem sc_rates : FnScope n_rates ["loans", "keep", "far", "fees"] (defScope s_rates) := ⟨rfl, rfl, rfl, by decide +kernel, rfl, by decide +kernel, by decide +kernel⟩
abbrev n_is_rates : List Str := ["loans", "keep", "far", "fees", "thing", "here", "part", "pair", "taking", "giving"]
theorem sc_is_rates : FnScope n_is_rates ["loans", "keep", "far", "fees", "thing"] (defScope s_is_rates) := ⟨rfl, rfl, rfl, by decide +kernel, rfl, by decide +kernel, by decide +kernel⟩
abbrev n__law_box : List Str := ["_law_script", "_law_k", "_law_cell"]
theorem sc__law_box : FnScope n__law_box ["_law_script", "_law_k"] (defScope s__law_box) := ⟨rfl, rfl, rfl, by decide +kernel, rfl, by decide +kernel, by decide +kernel⟩
abbrev n__law_take : List Str := ["_law_box_here", "_law_below", "_law_once", "_law_odd", "_law_twice", "_law_drawn_here"]
theorem sc__law_take : FnScope n__law_take ["_law_box_here", "_law_below"] (defScope s__law_take) := ⟨rfl, rfl, rfl, by decide +kernel, rfl, by decide +kernel, by decide +kernel⟩
abbrev n__law_cells : List Str := ["_law_script", "_law_top_all", "_law_cells_here", "_law_k", "_law_cell", "_law_at_so"]
theorem sc__law_cells : FnScope n__law_cells ["_law_script", "_law_top_all"] (defScope s__law_cells) := ⟨rfl, rfl, rfl, by decide +kernel, rfl, by decide +kernel, by decide +kernel⟩
abbrev n__law_of : List Str := ["_law_box_here", "_law_some"]
theorem sc__law_of : FnScope n__law_of ["_law_box_here", "_law_some"] (defScope s__law_of) := ⟨rfl, rfl, rfl, by decide +kernel, rfl, by decide +kernel, by decide +kernel⟩
abbrev n__law_same : List Str := ["_law_found", "_law_due", "_law_mine", "_law_its"]
theorem sc__law_same : FnScope n__law_same ["_law_found", "_law_due"] (defScope s__law_same) := ⟨rfl, rfl, rfl, by decide +kernel, rfl, by decide +kernel, by decide +kernel⟩
abbrev n__law_loans : List Str := ["_law_box_here", "_law_size_all", "_law_wide_so", "_law_turn", "_law_way_so", "_law_rows", "_law_here", "_law_from_so", "_law_size_so", "_law_ends", "_law_row"]
theorem sc__law_loans : FnScope n__law_loans ["_law_box_here", "_law_size_all", "_law_wide_so"] (defScope s__law_loans) := ⟨rfl, rfl, rfl, by decide +kernel, rfl, by decide +kernel, by decide +kernel⟩
abbrev n__law_keep : List Str := ["_law_box_here"]
theorem sc__law_keep : FnScope n__law_keep ["_law_box_here"] (defScope s__law_keep) := ⟨rfl, rfl, rfl, by decide +kernel, rfl, by decide +kernel, by decide +kernel⟩
abbrev n__law_gap : List Str := ["_law_loans_so", "_law_i", "_law_j"]
theorem sc__law_gap : FnScope n__law_gap ["_law_loans_so", "_law_i", "_law_j"] (defScope s__law_gap) := ⟨rfl, rfl, rfl, by decide +kernel, rfl, by decide +kernel, by decide +kernel⟩
abbrev n__law_givers : List Str := ["_law_loans_so", "_law_keep_so", "_law_j", "_law_i"]
theorem sc__law_givers : FnScope n__law_givers ["_law_loans_so", "_law_keep_so", "_law_j"] (defScope s__law_givers) := ⟨rfl, rfl, rfl, by decide +kernel, rfl, by decide +kernel, by decide +kernel⟩
abbrev n__law_is_dead : List Str := ["_law_loans_so", "_law_far_so", "_law_i", "_law_j", "_law_own"]
theorem sc__law_is_dead : FnScope n__law_is_dead ["_law_loans_so", "_law_far_so", "_law_i", "_law_j"] (defScope s__law_is_dead) := ⟨rfl, rfl, rfl, by decide +kernel, rfl, by decide +kernel, by decide +kernel⟩
abbrev n__law_far : List Str := ["_law_box_here", "_law_shut_so", "_law_some", "_law_turn"]
theorem sc__law_far : FnScope n__law_far ["_law_box_here"] (defScope s__law_far) := ⟨rfl, rfl, rfl, by decide +kernel, rfl, by decide +kernel, by decide +kernel⟩
abbrev n__law_line : List Str := ["_law_box_here", "_law_size_so", "_law_room_so"]
theorem sc__law_line : FnScope n__law_line ["_law_box_here", "_law_size_so", "_law_room_so"] (defScope s__law_line) := ⟨rfl, rfl, rfl, by decide +kernel, rfl, by decide +kernel, by decide +kernel⟩
abbrev n__law_drawn : List Str := ["_law_box_here", "_law_loans_so", "_law_keep_so", "_law_found", "_law_j", "_law_free", "_law_i"]
theorem sc__law_drawn : FnScope n__law_drawn ["_law_box_here", "_law_loans_so", "_law_keep_so"] (defScope s__law_drawn) := ⟨rfl, rfl, rfl, by decide +kernel, rfl, by decide +kernel, by decide +kernel⟩
abbrev n__law_dead : List Str := ["_law_loans_so", "_law_far_so", "_law_lane", "_law_j"]
theorem sc__law_dead : FnScope n__law_dead ["_law_loans_so", "_law_far_so", "_law_lane"] (defScope s__law_dead) := ⟨rfl, rfl, rfl, by decide +kernel, rfl, by decide +kernel, by decide +kernel⟩
abbrev n__law_paid : List Str := ["_law_loans_so", "_law_far_so", "_law_dues", "_law_lane", "_law_own"]
theorem sc__law_paid : FnScope n__law_paid ["_law_loans_so", "_law_far_so", "_law_dues", "_law_lane"] (defScope s__law_paid) := ⟨rfl, rfl, rfl, by decide +kernel, rfl, by decide +kernel, by decide +kernel⟩
abbrev n__law_are_rates : List Str := ["_law_loans_so", "_law_keep_so", "_law_far_so", "_law_dues", "_law_matter", "_law_pair", "_law_j", "_law_i", "_law_own"]
theorem sc__law_are_rates : FnScope n__law_are_rates ["_law_loans_so", "_law_keep_so", "_law_far_so", "_law_dues", "_law_matter"] (defScope s__law_are_rates) := ⟨rfl, rfl, rfl, by decide +kernel, rfl, by decide +kernel, by decide +kernel⟩
abbrev n__law_told : List Str := ["_law_matter", "_law_pair"]
theorem sc__law_told : FnScope n__law_told ["_law_matter"] (defScope s__law_told) := ⟨rfl, rfl, rfl, by decide +kernel, rfl, by decide +kernel, by decide +kernel⟩
abbrev n__law_by_hand_right : List Str := ["_law_some", "_law_line_here", "_law_far_so", "_law_own"]
theorem sc__law_by_hand_right : FnScope n__law_by_hand_right [] (defScope s__law_by_hand_right) := ⟨rfl, rfl, rfl, by decide +kernel, rfl, by decide +kernel, by decide +kernel⟩
abbrev n__law_fees_right : List Str := ["_law_line_here", "_law_span_so", "_law_far_so", "_law_dues", "_law_its", "_law_both", "_law_few", "_law_goal"]
theorem sc__law_fees_right : FnScope n__law_fees_right ["_law_line_here", "_law_span_so", "_law_far_so", "_law_dues", "_law_its"] (defScope s__law_fees_right) := ⟨rfl, rfl, rfl, by decide +kernel, rfl, by decide +kernel, by decide +kernel⟩
abbrev n__law_right : List Str := ["_law_box_here", "_law_lap", "_law_dues", "_law_its", "_law_lanes", "_law_some", "_law_told_here", "_law_more", "_law_row", "_law_line_here", "_law_span_so", "_law_far_so", "_law_goal", "_law_good", "_law_deep", "_law_own", "_law_again"]
theorem sc__law_right : FnScope n__law_right ["_law_box_here"] (defScope s__law_right) := ⟨rfl, rfl, rfl, by decide +kernel, rfl, by decide +kernel, by decide +kernel⟩
abbrev n_law : List Str := ["_law_script", "_law_cells_here", "_law_k", "_law_box_here", "_law_lap"]
theorem sc_law : FnScope n_law ["_law_script"] (defScope s_law) := ⟨rfl, rfl, rfl, by decide +kernel, rfl, by decide +kernel, by decide +kernel⟩
end
end Lp

/-! part LpHead -/
set_option Elab.async false
set_option linter.all false
set_option maxRecDepth 100000
set_option maxHeartbeats 0
namespace Lp
open PySem PySem.Spec PyProof.Rows L2
abbrev rowL : PySem.W.OpenRow := PySem.W.OpenLaw.row PySem.Challenge.rw_lentpile_k76_whole_fees_and_rates
def nms0 : List PySem.Str := ["_wall", "tupled", "is_number", "is_tuple", "last_end", "NotLent", "Pool", "Story", "things", "PAIR", "Links", "Purse", "is_handing", "handing_of", "dead"]
def nms1 : List PySem.Str := ["fewest_lifeless", "fee", "purse", "least_fee", "cheapest", "is_cheapest", "rates", "is_rates", "_law_box", "_law_take", "_law_cells", "_law_of", "_law_same", "_law_loans", "_law_keep"]
def nms2 : List PySem.Str := ["_law_gap", "_law_givers", "_law_is_dead", "_law_far", "_law_line", "_law_drawn", "_law_dead", "_law_paid", "_law_are_rates", "_law_told", "_law_by_hand_right", "_law_fees_right", "_law_right"]
def nms : List PySem.Str := nms0 ++ nms1 ++ nms2
theorem run (w : World) : HandSHeadRun.RunEq rowL (PySem.W.view rowL.prog [49]) hkL obT 20000 nms w := by
  intro os
  kernel_rfl
end Lp

/-! part LpLinks -/
set_option Elab.async false
set_option linter.all false
set_option maxRecDepth 100000

namespace Lp
open PySem PySem.Spec PyProof.Rows L2
open Evl (Ex)
section
variable {prog : Program} {w : World} {K : PySem.W.Frag} {mg : Str → Option Value} {base : Heap}
/-- an object of the class Links -/
def IsLk (K : PySem.W.Frag) (x : LkD) : SP := ObP (He.ga K "Links") [Is K (Tp.mk x.anew), Is K (List.range x.L.length), Is K x.keep, Is K (Tp.mk x.L), Is K x.shut]
abbrev LkOk (x : LkD) : Prop := x.L.length ≤ 1000 ∧ x.anew.length ≤ 1000
theorem ok_Links_gap (T : Tx K mg) : FnR prog w K mg base CX0 1 (He.ma K (He.ga K "Links") "gap") (spP (fun g : LkD × Nat × Nat => LkOk g.1 ∧ g.2.1 < g.1.L.length ∧ g.2.2 < g.1.L.length) (fun g => [IsLk K g.1, Is K g.2.1, Is K g.2.2]) (fun g => Is K (gapF g.1.L g.2.1 g.2.2))) := by
  obtain ⟨fd, F⟩ := T.d_Links_gap
  refine fn_pure F sc_Links_gap (fun _ _ _ _ _ _ us hl => match us, hl with | [_, _, _], _ => rfl) (fun _ => rfl) fun cdv A outer s H E hr => ⟨_, PSs.nox (pss_one (ps_ret (pe_op op_sub (pe_ix (ix_tupK (K := K)) (pe_ix (ix_tupK (K := K)) (pe_slK (K := K) (pv 0)) (pv 2) (fun _ _ => rfl)) pe_int (fun _ _ => rfl)) (pe_ix (ix_tupK (K := K)) (pe_ix (ix_tupK (K := K)) (pe_slK (K := K) (pv 0)) (pv 1) (fun _ _ => rfl)) pe_int (fun _ _ => rfl))))), ?_⟩
  rintro ⟨x, g, t⟩ ⟨hx, hg, ht⟩
  refine sx_ret ?_ rfl
  exact eg_opI0 (f := fun i j => i - j) (eg_fst (eg_ixT (eg_sl (eg_var rfl) T.c_Links T.sl_Links_loans rfl) (eg_var rfl) (ld_at ht))) (eg_snd (eg_ixT (eg_sl (eg_var rfl) T.c_Links T.sl_Links_loans rfl) (eg_var rfl) (ld_at hg)))
theorem ok_Links_iter (T : Tx K mg) : FnS prog w K mg base CX0 1 (He.ma K (He.ga K "Links") "__iter__") (spIter K (He.ga K "Links") 1) := by
  obtain ⟨fd, F⟩ := T.d_Links_iter
  refine fnS_of F sc_Links_iter (F.bindsN (fun _ _ _ _ _ _ us hl => match us, hl with | [_], _ => rfl)) (fun n vs H Q E ⟨a, dx, ws, l, xs, e, _⟩ => by rw [e]; rfl) fun cdv A outer s H vs Q E hr hsp => ⟨_, pss_one (ps_ret (pe_callB ItX.call_iterN (by rfl) T.f_iter (by decide +kernel) (pa_cons (pe_slK (K := K) (pv 0)) pa_nil))), ?_⟩
  obtain ⟨a, dx, ws, l, xs, rfl, hs, hw, hl, q⟩ := hsp
  exact ⟨_, rfl, a, _, dx, _, ws, 1, _, rfl, hs, T.c_Links, T.sl_Links_indexes, hw, l, xs, rfl, hl, q⟩
theorem ok_Links_can_follow (T : Tx K mg) : FnR prog w K mg base CX0 2 (He.ma K (He.ga K "Links") "can_follow") (spP (fun g : LkD × Nat × Nat => LkOk g.1 ∧ g.2.1 < g.1.L.length ∧ g.2.2 < g.1.L.length) (fun g => [IsLk K g.1, Is K g.2.1, Is K g.2.2]) (fun g => Is K (canF g.1.L g.1.keep g.2.1 g.2.2))) := by
  obtain ⟨fd, F⟩ := T.d_Links_can_follow
  refine fn_pure F sc_Links_can_follow (fun _ _ _ _ _ _ us hl => match us, hl with | [_, _, _], _ => rfl) (fun _ => rfl) fun cdv A outer s H E hr => ⟨_, PSs.nox (pss_one (ps_ret (pe_and (pe_cmpR op_le pe_int (SlX.pe_methSl (E := E0) (pv 0) T.c_Links T.m_Links_gap (ok_Links_gap T) (hr.mono (by decide)) pass0 (pa_cons (pv 1) (pa_cons (pv 2) pa_nil))) (nomark _)) (pe_one (pe_or (pe_cmp (pc_isN (pe_slK (K := K) (pv 0)))) (pe_one (pe_cmpR op_le (SlX.pe_methSl (E := E0) (pv 0) T.c_Links T.m_Links_gap (ok_Links_gap T) (hr.mono (by decide)) pass0 (pa_cons (pv 1) (pa_cons (pv 2) pa_nil))) (pe_slK (K := K) (pv 0)) (nomark _)))))))), ?_⟩
  rintro ⟨x, g, t⟩ ⟨hx, hg, ht⟩
  refine sx_ret ?_ rfl
  refine eg_and (eg_cmpI (f := fun i j => decide (i ≤ j)) eg_int (eg_meth (x, g, t) (eg_var rfl) (ea_cons (eg_var rfl) (ea_cons (eg_var rfl) ea_nil)) rfl ⟨hx, hg, ht⟩)) fun _ => eg_or (eg_isN (eg_sl (eg_var rfl) T.c_Links T.sl_Links_keep rfl)) fun hk => ?_
  refine eg_cmpI (f := fun i j => decide (i ≤ j)) (eg_meth (x, g, t) (eg_var rfl) (ea_cons (eg_var rfl) (ea_cons (eg_var rfl) ea_nil)) rfl ⟨hx, hg, ht⟩) (EvG.to (eg_sl (eg_var rfl) T.c_Links T.sl_Links_keep rfl) ?_)
  cases h : x.keep with
  | none => rw [h] at hk; cases hk
  | some k => rfl
theorem ok_Links_is_dead (T : Tx K mg) : FnR prog w K mg base CX0 2 (He.ma K (He.ga K "Links") "is_dead") (spP (fun g : LkD × Nat × Nat => LkOk g.1 ∧ g.2.1 < g.1.L.length ∧ g.2.2 < g.1.L.length) (fun g => [IsLk K g.1, Is K g.2.1, Is K g.2.2]) (fun g => Is K (deadF g.1.L g.1.shut g.1.anew g.2.1 g.2.2))) := by
  obtain ⟨fd, F⟩ := T.d_Links_is_dead
  refine fn_pure F sc_Links_is_dead (fun _ _ _ _ _ _ us hl => match us, hl with | [_, _, _], _ => rfl) (fun _ => rfl) fun cdv A outer s H E hr => ⟨_, PSs.nox (pss_cons (ps_if (PW.pt (pw_and (pt_cmp (pc_notN (pe_slK (K := K) (pv 0)))) (pw_and1 (pt_cmpR op_ge (SlX.pe_methSl (E := E0) (pv 0) T.c_Links T.m_Links_gap (ok_Links_gap T) (hr.mono (by decide)) pass0 (pa_cons (pv 1) (pa_cons (pv 2) pa_nil))) (pe_slK (K := K) (pv 0)) (nomark _))))) (pss_one (ps_ret pe_bl)) (pss_nil))
    (pss_one (ps_ret (pe_callB (cr_any rfl) (by rfl) T.f_any (by decide +kernel) (pa_cons (pe_lc (own := [("beat", 3)]) (g := gName 3) (tt := _) rfl sc_Links_is_dead.nd (pi_tupK (K := K) (pe_slK (K := K) (pv 0))) (blkOk_by (own := [("beat", 3)]) (N := n_Links_is_dead) (sc := defScope s_Links_is_dead) (by decide +kernel)) (fun _ _ _ _ _ => (pg_name (i := 3) sc_Links_is_dead.nd rfl (by first | exact Or.inl rfl | exact Or.inr rfl))) (fun _ _ _ _ _ => pts_nil) (fun _ _ _ _ _ => (pe_chain op_lt op_le (pe_ix (ix_tupK (K := K)) (pe_ix (ix_tupK (K := K)) (pe_slK (K := K) (pv 0)) (pv 1) (fun _ _ => rfl)) pe_int (fun _ _ => rfl)) (pv 3) (pe_ix (ix_tupK (K := K)) (pe_ix (ix_tupK (K := K)) (pe_slK (K := K) (pv 0)) (pv 2) (fun _ _ => rfl)) pe_int (fun _ _ => rfl))))) pa_nil))))), ?_⟩
  rintro ⟨x, g, t⟩ ⟨hx, hg, ht⟩
  refine sx_ifRet (et_and (et_B (eg_notN (K := K) (o := x.shut) (eg_sl (eg_var rfl) T.c_Links T.sl_Links_shut rfl))) fun hs => et_test (eg_cmpI (f := fun i j => decide (j ≤ i)) (eg_meth (x, g, t) (eg_var rfl) (ea_cons (eg_var rfl) (ea_cons (eg_var rfl) ea_nil)) rfl ⟨hx, hg, ht⟩) (j := x.shut.getD 0) (EvG.to (eg_sl (eg_var rfl) T.c_Links T.sl_Links_shut rfl) ?_))) (fun h => sx_ret (eg_bl (K := K)) ?_) fun h => sx_ret (eg_any (eg_lcM (xs := x.anew) (fun b => decide ((ld x.L g).1 < b) && decide (b ≤ (ld x.L t).1)) (ew_tup (eg_sl (eg_var rfl) T.c_Links T.sl_Links_anew rfl)) (fun b hb => tg_name) (fun b hb => eg_chain (f := fun i j => decide (i < j)) (f' := fun i j => decide (i ≤ j)) (eg_fst (eg_ixT (eg_sl (eg_var rfl) T.c_Links T.sl_Links_loans rfl) (eg_var rfl) (ld_at hg))) (eg_var rfl) (eg_fst (eg_ixT (eg_sl (eg_var rfl) T.c_Links T.sl_Links_loans rfl) (eg_var rfl) (ld_at ht)))) (Nat.le_trans hx.2 (by decide)))) ?_
  · cases h : x.shut with
    | none => rw [h] at hs; cases hs
    | some k => rfl
  · show Is K true = Is K (deadF x.L x.shut x.anew g t)
    congr 1
    unfold deadF
    rw [h]
    rfl
  · show Is K _ = Is K (deadF x.L x.shut x.anew g t)
    congr 1
    unfold deadF
    rw [h, List.any_map]
    rfl
theorem ok_Links_len (T : Tx K mg) : FnR prog w K mg base CX0 1 (He.ma K (He.ga K "Links") "__len__") (spP (fun g : LkD => LkOk g) (fun g => [IsLk K g]) (fun g => Is K g.L.length)) := by
  obtain ⟨fd, F⟩ := T.d_Links_len
  refine fn_pure F sc_Links_len (fun _ _ _ _ _ _ us hl => match us, hl with | [_], _ => rfl) (fun _ => rfl) fun cdv A outer s H E hr => ⟨_, PSs.nox (pss_one (ps_ret (pe_callB (call_lenK (K := K)) (by rfl) T.f_len (by decide +kernel) (pa_cons (pe_slK (K := K) (pv 0)) pa_nil)))), ?_⟩
  rintro x hx
  exact sx_ret (eg_lenTp (eg_sl (eg_var rfl) T.c_Links T.sl_Links_loans rfl)) rfl
theorem ok_Links_givers (T : Tx K mg) : FnR prog w K mg base CX0 3 (He.ma K (He.ga K "Links") "givers") (spP (fun g : LkD × Nat => LkOk g.1 ∧ g.2 < g.1.L.length) (fun g => [IsLk K g.1, Is K g.2]) (fun g => Is K (givF g.1.L g.1.keep g.2))) := by
  obtain ⟨fd, F⟩ := T.d_Links_givers
  refine fn_pure F sc_Links_givers (fun _ _ _ _ _ _ us hl => match us, hl with | [_, _], _ => rfl) (fun _ => rfl) fun cdv A outer s H E hr => ⟨_, PSs.nox (pss_one (ps_ret (pe_lc (own := [("giver", 2)]) (g := gName 2) (tt := _) rfl sc_Links_givers.nd (pi_own (E := E0) T.m_Links_iter.at_ T.m_Links_iter.fn (ok_Links_iter T) (hr.mono (by decide)) pass0 (pv 0)) (blkOk_by (own := [("giver", 2)]) (N := n_Links_givers) (sc := defScope s_Links_givers) (by decide +kernel)) (fun _ _ _ _ _ => (pg_name (i := 2) sc_Links_givers.nd rfl (by first | exact Or.inl rfl | exact Or.inr rfl))) (fun _ _ _ _ _ => pts_one (pt_val (SlX.pe_methSl (E := E0) (pv 0) T.c_Links T.m_Links_can_follow (ok_Links_can_follow T) (hr.mono (by decide)) pass0 (pa_cons (pv 2) (pa_cons (pv 1) pa_nil))))) (fun _ _ _ _ _ => (pv 2))))), ?_⟩
  rintro ⟨x, t⟩ ⟨hx, ht⟩
  refine sx_ret (P := Is K (givF x.L x.keep t)) ?_ rfl
  refine EvG.to (eg_lcI (K := K) (xs := List.range x.L.length) (fun g => canF x.L x.keep g t) (fun g => g) (ew_own (eg_var rfl) rfl) (fun b hb => tg_name) (fun b hb => et_B (eg_meth (x, b, t) (eg_var rfl) (ea_cons (eg_var rfl) (ea_cons (eg_var rfl) ea_nil)) rfl ⟨hx, List.mem_range.mp hb, ht⟩)) (fun b hb _ => eg_var rfl) (by rw [List.length_range]; exact Nat.le_trans hx.1 (by decide))) ?_
  rw [List.map_id']
  rfl
theorem giv_lt {L : Loans} {keep : Option Int} {t g : Nat} (h : g ∈ givF L keep t) : g < L.length := List.mem_range.mp (List.mem_filter.mp h).1
theorem giv_len {L : Loans} {keep : Option Int} {t : Nat} : (givF L keep t).length ≤ L.length := by
  have := List.length_filter_le (fun g => canF L keep g t) (List.range L.length)
  rwa [List.length_range] at this
theorem ok_Links_living (T : Tx K mg) : FnR prog w K mg base CX0 4 (He.ma K (He.ga K "Links") "living") (spP (fun g : LkD × Nat => LkOk g.1 ∧ g.2 < g.1.L.length) (fun g => [IsLk K g.1, Is K g.2]) (fun g => Is K (livF g.1.L g.1.keep g.1.shut g.1.anew g.2))) := by
  obtain ⟨fd, F⟩ := T.d_Links_living
  refine fn_pure F sc_Links_living (fun _ _ _ _ _ _ us hl => match us, hl with | [_, _], _ => rfl) (fun _ => rfl) fun cdv A outer s H E hr => ⟨_, PSs.nox (pss_one (ps_ret (pe_lc (own := [("giver", 2)]) (g := gName 2) (tt := _) rfl sc_Links_living.nd (pi_listK (K := K) (SlX.pe_methSl (E := E0) (pv 0) T.c_Links T.m_Links_givers (ok_Links_givers T) (hr.mono (by decide)) pass0 (pa_cons (pv 1) pa_nil))) (blkOk_by (own := [("giver", 2)]) (N := n_Links_living) (sc := defScope s_Links_living) (by decide +kernel)) (fun _ _ _ _ _ => (pg_name (i := 2) sc_Links_living.nd rfl (by first | exact Or.inl rfl | exact Or.inr rfl))) (fun _ _ _ _ _ => pts_one (pt_not (pt_val (SlX.pe_methSl (E := E0) (pv 0) T.c_Links T.m_Links_is_dead (ok_Links_is_dead T) (hr.mono (by decide)) pass0 (pa_cons (pv 2) (pa_cons (pv 1) pa_nil)))))) (fun _ _ _ _ _ => (pv 2))))), ?_⟩
  rintro ⟨x, t⟩ ⟨hx, ht⟩
  refine sx_ret (P := Is K (livF x.L x.keep x.shut x.anew t)) ?_ rfl
  refine EvG.to (eg_lcI (K := K) (xs := givF x.L x.keep t) (fun g => !deadF x.L x.shut x.anew g t) (fun g => g) (ew_list (eg_meth (x, t) (eg_var rfl) (ea_cons (eg_var rfl) ea_nil) rfl ⟨hx, ht⟩)) (fun b hb => tg_name) (fun b hb => et_not (et_B (eg_meth (x, b, t) (eg_var rfl) (ea_cons (eg_var rfl) (ea_cons (eg_var rfl) ea_nil)) rfl ⟨hx, giv_lt hb, ht⟩))) (fun b hb _ => eg_var rfl) (Nat.le_trans giv_len (Nat.le_trans hx.1 (by decide)))) ?_
  rw [List.map_id']
  rfl
end
end Lp

/-! part LpBest -/
set_option Elab.async false
set_option linter.all false
set_option maxRecDepth 100000

namespace Lp
open PySem PySem.Spec PyProof.Rows L2
open Evl (Ex ex_l ex_t ex_rd fresh_back)
section
variable {prog : Program} {w : World} {K : PySem.W.Frag} {mg : Str → Option Value} {base : Heap}
abbrev MinTy : Type := Int × Int
/-- a dict with so many keys -/
def DcLen (p : Nat → Prop) : SP := ⟨fun v H => ∃ d kvs, v = .ref d ∧ H d = some (.dK kvs) ∧ p kvs.length, fun e ⟨d, kvs, h1, h2, h3⟩ => ⟨d, kvs, h1, e _ _ h2, h3⟩⟩
theorem ok_Links_best (T : Tx K mg) : FnR prog w K mg base CX0 5 (He.ma K (He.ga K "Links") "best") (spP (fun x : LkD => LkOk x) (fun x => [IsLk K x]) (fun x => DcLen fun n => ∃ F, Greedy x x.L.length F ∧ n = F.length)) := by
  obtain ⟨fd, F⟩ := T.d_Links_best
  refine fn_any F sc_Links_best (fun _ _ _ _ _ _ us hl => match us, hl with | [_], _ => rfl) ?_ fun cdv A outer s H vs Q E hr hsp => ⟨_, PSs.nox (pss_cons (ps_set (i := 1) sc_Links_best.nd rfl (Or.inr rfl) pe_dnewK)
    (pss_cons (ps_for PassesOwn.never rfl (pi_own (E := E0) T.m_Links_iter.at_ T.m_Links_iter.fn (ok_Links_iter T) (hr.mono (by decide)) pass0 (pv 0)) (pg_name (i := 2) sc_Links_best.nd rfl (Or.inl rfl)) (pss_cons (ps_setLc (i := 3) (own := [("giver", 4)]) (g := gName 4) (tt := _) rfl sc_Links_best.nd rfl rfl (sw_true rfl rfl rfl (by decide +kernel)) (pi_listK (K := K) (SlX.pe_methSl (E := E0) (pv 0) T.c_Links T.m_Links_living (ok_Links_living T) (hr.mono (by decide)) pass0 (pa_cons (pv 2) pa_nil))) (blkOk_by (own := [("giver", 4)]) (N := n_Links_best) (sc := defScope s_Links_best) (by decide +kernel)) (fun _ _ _ _ _ => (pg_name (i := 4) sc_Links_best.nd rfl (by first | exact Or.inl rfl | exact Or.inr rfl))) (fun _ _ _ _ _ => pts_one (pt_cmpR (op_notInVals rfl) (pv 4) (pe_bm0J (K := K) PySem.F.plainAttrs_dict PySem.F.slot_dict_values PySem.F.type_dict_values mt_values (pv 1)) (by rfl))) (fun _ _ _ _ _ => (pe_tup (pa_cons (pe_ix (ix_tupK (K := K)) (pe_ix (ix_tupK (K := K)) (pe_slK (K := K) (pv 0)) (pv 4) (fun _ _ => rfl)) pe_int (fun _ _ => rfl)) (pa_cons (pv 4) pa_nil)))))
    (pss_one (ps_if (pt_cmpR op_gt (pe_callB (call_lenK (K := K)) (by rfl) T.f_len (by decide +kernel) (pa_cons (pv 3) pa_nil)) pe_int (nomark _)) (pss_one (ps_dput (hu_of hr) (pv 1) (pv 2) (pe_ix (ix_tupK (K := K)) (pe_callB (cr_minD (α := MinTy) rfl (units_le hr)) (by rfl) T.f_min (by decide +kernel) (pa_cons (pv 3) pa_nil)) pe_int (fun _ _ => rfl)) (by rfl))) (pss_nil)))))
    (pss_one (ps_ret (pv 1))))), ?_⟩
  · rintro vs H Q E ⟨x, hx, ha, hq⟩
    exact ha.len
  obtain ⟨x, hx, ha, hq⟩ := hsp
  have s0 := sat_start (N := n_Links_best) ha
  generalize start n_Links_best vs = σ0 at s0
  refine h_newD fun d hd => ?_
  have sB : Sat [some (IsLk K x), some (Eq1 (.ref d)), none, none, none] (σ0.set 1 (some (.ref d))) H := s0.set (i := 1) (v := .ref d) (P := Eq1 (.ref d)) rfl
  refine h_for_own (n := x.L.length) sB (Ex.new hd) (j := 0) rfl rfl (fun i σ' H' => ∃ F, Greedy x i F ∧ Sat [some (IsLk K x), some (Eq1 (.ref d)), none, none, none] σ' H ∧ Ex H H' ∧ H' d = some (.dK (dkN F))) ⟨[], .zero, sB, Ex.new hd, upd_same⟩ (fun i σ' H' ⟨_, _, _, h, _⟩ => h) (fun t σ1 Ha Hb D' ht p e hn _ => ?_) fun σ' H' p => ?_
  · obtain ⟨F, hF, s1, e1, h1⟩ := p
    have e2 := e1.trans e
    have sA : Sat [some (IsLk K x), some (DcA d (dkN F)), some (Is K t), none, none] (σ1.set 2 (some (.int (t : Int)))) Hb := ((s1.mono e2).know (i := 1) (s1.eq1 (i := 1) rfl) (P := DcA d (dkN F)) ⟨rfl, e _ _ h1⟩).set (i := 2) (P := Is K t) rfl
    refine h_asg (P := Is K (((livF x.L x.keep x.shut x.anew t).filter fun g => !decide (g ∈ F.map Prod.snd)).map fun g => ((ld x.L g).2, (g : Int)))) ?_ sA fun v H2 e3 hv => ?_
    · refine eg_lcI (fun g => !decide (g ∈ F.map Prod.snd)) (fun g : Nat => ((ld x.L g).2, (g : Int))) (ew_list (eg_meth (x, t) (eg_var rfl) (ea_cons (eg_var rfl) ea_nil) rfl ⟨hx, ht⟩)) (fun g hg => tg_name) (fun g hg => et_test (eg_inVals (neg := true) (d := d) (eg_var rfl) rfl)) (fun g hg _ => eg_pair (eg_snd (eg_ixT (eg_sl (eg_var rfl) T.c_Links T.sl_Links_loans rfl) (eg_var rfl) (ld_at (giv_lt (List.mem_filter.mp hg).1)))) (eg_var rfl)) ?_
      exact Nat.le_trans (List.length_filter_le _ _) (Nat.le_trans giv_len (Nat.le_trans hx.1 (by decide)))
    · have s2 := (sA.mono e3).set (i := 3) hv
      have s3 : ∀ v : Option V, Sat [some (IsLk K x), some (Eq1 (.ref d)), none, none, none] ((σ1.set 2 (some (.int (t : Int)))).set 3 v) H := fun v => (s1.none (i := 2)).none (i := 3)
      have hd2 : H2 d = some (.dK (dkN F)) := e3 _ _ (e _ _ h1)
      refine h_if (et_test (K := K) (eg_cmpI (f := fun i j => decide (j < i)) (eg_len (eg_var rfl)) eg_int)) s2 (fun hb H3 e4 => ?_) fun hb H3 e4 => ?_
      · have hne : (((livF x.L x.keep x.shut x.anew t).filter fun g => !decide (g ∈ F.map Prod.snd)).map fun g => ((ld x.L g).2, (g : Int))) ≠ [] := fun z => by
          rw [z] at hb
          cases hb
        refine h_dput (kvs := dkN F) (k := .inl (t : Int)) (s2.dcA (i := 1) rfl) (eg_sndS (eg_minP (eg_var rfl) hne)) (eg_var rfl) (s2.mono e4) (e4 _ _ hd2) (by rw [dkN_len]; have := hF.len; have := hx.1; omega) fun v H4 e5 hv => ?_
        obtain ⟨y, ⟨m, ⟨hm, hle⟩, rfl⟩, hv⟩ := hv
        obtain rfl : v = .int m.2 := hv
        obtain ⟨g, hg, rfl⟩ := List.mem_map.mp hm
        obtain ⟨hg1, hg2⟩ := List.mem_filter.mp hg
        refine hn _ _ ⟨F ++ [(t, g)], hF.take hg1 (by simpa using hg2) (fun g' h1 h2 => ?_), s3 _, Ex.mut (((e2.trans e3).trans e4).trans e5) hd, ?_⟩
        · exact hle ((ld x.L g').2, (g' : Int)) (List.mem_map.mpr ⟨g', List.mem_filter.mpr ⟨h1, by simpa using h2⟩, rfl⟩)
        · rw [upd_same]
          have := dkN_new F t g (fun e he z => by have := hF.lt e he; omega)
          rw [this]
      · refine h_next (hn _ _ ⟨F, hF.skip fun g hg => ?_, s3 _, (e2.trans e3).trans e4, e4 _ _ hd2⟩)
        cases hq2 : decide (g ∈ F.map Prod.snd) with
        | true => exact of_decide_eq_true hq2
        | false =>
          have h0 : 0 < (((livF x.L x.keep x.shut x.anew t).filter fun g => !decide (g ∈ F.map Prod.snd)).map fun g => ((ld x.L g).2, (g : Int))).length := by
            rw [List.length_map]
            exact List.length_pos_of_mem (List.mem_filter.mpr ⟨hg, by rw [hq2]; rfl⟩)
          have hb2 := of_decide_eq_false hb
          omega
  · obtain ⟨F, hF, s1, e1, h1⟩ := p
    exact h_ret (eg_var (i := 1) (P := Eq1 (.ref d)) rfl) (s1.mono e1) fun v H2 e2 hv => hq _ _ (e1.trans e2) ⟨d, _, hv, e2 _ _ h1, F, hF, dkN_len F⟩
end
end Lp

/-! part LpTup -/
set_option Elab.async false
set_option linter.all false
set_option maxRecDepth 100000

namespace Lp
open PySem PySem.Spec PyProof.Rows L2
open Evl (Ex ex_l ex_t ex_rd fresh_back)
section
variable {prog : Program} {w : World} {K : PySem.W.Frag} {mg : Str → Option Value} {base : Heap}
/-- what tupled copies: ints, None, tuples of such, to the depth d -/
inductive Tg (K : PySem.W.Frag) : Nat → SP → Prop
  | int (d : Nat) (i : Int) : Tg K d (Is K i)
  | non (d : Nat) : Tg K d (Eq1 .non)
  | tup {d : Nat} {Ps : List SP} : (∀ P, P ∈ Ps → Tg K d P) → Ps.length ≤ 1000 → Tg K (d + 1) (TuP K Ps)
theorem Tg.rt {d : Nat} {P : SP} (h : Tg K d P) : RT P := by
  induction h with
  | int => exact rt_eq
  | non => exact rt_eq
  | tup _ _ ih => exact rt_tu ih
theorem kit_il {T : String} (h1 : kitB T "list" = some false) (h2 : kitB T "tuple" = some false) : PySem.W.kitAny K (.type T) [.type "list", .type "tuple"] = some false := kit_no h1 h2
theorem tupled_of (T : Tx K mg) (d : Nat) (sp : Sp) (C : SP → Prop) (ok : FnR prog w K mg base CX0 d (He.ga K "tupled") sp)
    (h : ∀ P, C P → (∃ i : Int, P = Is K i) ∨ P = Eq1 .non ∨ ∃ Ps, P = TuP K Ps ∧ Ps.length ≤ 1000 ∧ (∀ P, P ∈ Ps → RT P) ∧ ∀ R, R ∈ Ps → ∀ (vs : List V) (H : Hp) (Q : VK) (E : XK), AllP vs [R] H → (∀ v H2, Ex H H2 → R.p v H2 → Q v H2) → sp vs H Q E) :
    FnR prog w K mg base CX0 (d + 1) (He.ga K "tupled") (spP C (fun P => [P]) (fun P => P)) := by
  have ok_tupled : Tx K mg → FnR prog w K mg base CX0 d (He.ga K "tupled") sp := fun _ => ok
  obtain ⟨fd, F⟩ := T.d_tupled
  refine fn_pure F sc_tupled (fun _ _ _ _ _ _ us hl => match us, hl with | [_], _ => rfl) (fun _ => rfl) fun cdv A outer s H E hr => ⟨_, PSs.nox (pss_one (ps_ret (pe_ifExp (pt_val (pe_callB (call_isiTK (K := K)) (by rfl) T.f_isinstance (by decide +kernel) (pa_cons (pv 0) (pa_cons (pe_tup (pa_cons (pe_bltn (v := .ty "list") rfl T.f_list (by decide +kernel) rfl) (pa_cons (pe_bltn (v := .ty "tuple") rfl T.f_tuple (by decide +kernel) rfl) pa_nil))) pa_nil)))) (pe_callTy call_tuple_of (by rfl) T.f_tuple (by decide +kernel) (pa_cons (pe_lc (own := [("part", 1)]) (g := gName 1) (tt := _) rfl sc_tupled.nd (pi_tupK (K := K) (pv 0)) (blkOk_by (own := [("part", 1)]) (N := n_tupled) (sc := defScope s_tupled) (by decide +kernel)) (fun _ _ _ _ _ => (pg_name (i := 1) sc_tupled.nd rfl (by first | exact Or.inl rfl | exact Or.inr rfl))) (fun _ _ _ _ _ => pts_nil) (fun _ _ _ _ _ => (pe_callR (E := E0) (ok_tupled T) (hr.mono (by first | decide | exact Nat.le_refl _)) (by rfl) T.g_tupled T.k_tupled pass0 (pa_cons (pv 1) pa_nil)))) pa_nil)) (pv 0)))), ?_⟩
  intro P hP
  have tst : ∀ {t : Value} {b : Bool}, (∀ v H, P.p v H → TyX K H v t) → PySem.W.kitAny K t [.type "list", .type "tuple"] = some b → EvT _ (startG n_tupled [P]) b := fun {t b} ht hk => et_B (K := K) (eg_isiT (T := "list") (U := "tuple") (t := t) (b := b) (eg_var (i := 0) (P := P) rfl) ht hk)
  rcases h P hP with ⟨i, rfl⟩ | rfl | ⟨Ps, rfl, hl, hr, hs⟩
  · exact sx_ret (P := Is K i) (eg_if (tst ty_int (kit_il (by decide +kernel) (by decide +kernel))) (fun z => nomatch z) fun _ => eg_var rfl) rfl
  · exact sx_ret (P := Eq1 .non) (eg_if (tst ty_non (kit_il (by decide +kernel) (by decide +kernel))) (fun z => nomatch z) fun _ => eg_var rfl) rfl
  · refine sx_ret (P := TuP K Ps) (eg_if (tst ty_tup (kit_yes2 (by decide +kernel) (by decide +kernel))) (fun _ => ?_) fun z => nomatch z) rfl
    refine eg_tupOf (fun xs H Q q => q) ?_
    have e : LsP K Ps = LsP K ((Ps.attach.filter fun _ => true).map fun x => x.1) := by
      congr 1
      rw [List.filter_eq_self.mpr fun _ _ => rfl]
      exact (List.attach_map_subtype_val Ps).symm
    rw [e]
    refine eg_lc (xs := Ps.attach) (F := fun x => x.1) (f := fun _ => true) (Rf := fun x => x.1) (ew_tup (EvG.to (eg_var rfl) (congrArg (TuP K) (List.attach_map_subtype_val Ps).symm))) (fun x => hr x.1 x.2) (fun x hx => tg_name) (fun x hx => et_yes) (fun x hx _ => ?_) (by rw [List.length_attach]; omega)
    exact fun σ H Q s q => ea_cons (eg_var rfl) ea_nil σ H _ s fun vs H1 e p => hs x.1 x.2 vs H1 Q E0 p fun v H2 e2 r => q v H2 (e.trans e2) r
def spNo : Sp := fun _ _ _ _ => False
theorem fn_no {f : Addr} : FnR prog w K mg base CX0 0 f spNo := fun A outer s H us vs Q E hr e0 r h => h.elim
theorem ok_tupledN (T : Tx K mg) : ∀ d, FnR prog w K mg base CX0 (d + 1) (He.ga K "tupled") (spP (Tg K d) (fun P => [P]) (fun P => P))
  | 0 => tupled_of T 0 spNo _ fn_no fun P hP => by
    cases hP with
    | int _ i => exact .inl ⟨i, rfl⟩
    | non => exact .inr (.inl rfl)
  | d + 1 => tupled_of T (d + 1) _ _ (ok_tupledN T d) fun P hP => by
    cases hP with
    | int _ i => exact .inl ⟨i, rfl⟩
    | non => exact .inr (.inl rfl)
    | @tup _ Ps h hl => exact .inr (.inr ⟨Ps, rfl, hl, fun P hP => (h P hP).rt, fun R hR vs H Q E a q => ⟨R, h R hR, a, q⟩⟩)
theorem ok_tupled (T : Tx K mg) : FnR prog w K mg base CX0 3 (He.ga K "tupled") (spP (Tg K 2) (fun P => [P]) (fun P => P)) := ok_tupledN T 2
theorem tg_pairI {d : Nat} {x : Int × Int} : Tg K (d + 1) (Is K x) := .tup (fun P hP => by
  rcases List.mem_cons.mp hP with e | hP
  · rw [e]; exact .int _ _
  · rcases List.mem_cons.mp hP with e | hP
    · rw [e]; exact .int _ _
    · cases hP) (by show 2 ≤ 1000; decide)
theorem tg_loans {L : Loans} (h : L.length ≤ 1000) : Tg K 2 (Is K (Tp.mk L)) := .tup (fun P hP => by
  obtain ⟨y, _, e⟩ := List.mem_map.mp hP
  rw [← e]
  exact tg_pairI) (by rw [List.length_map]; exact h)
theorem tg_far {f : Option Int × Tp Int} (h : f.2.l.length ≤ 1000) : Tg K 2 (Is K f) := .tup (fun P hP => by
  rcases List.mem_cons.mp hP with e | hP
  · rw [e]
    obtain ⟨o, a⟩ := f
    cases o with
    | none => exact .non _
    | some i => exact .int _ i
  · rcases List.mem_cons.mp hP with e | hP
    · rw [e]
      refine .tup (fun P hP => ?_) (by rw [List.length_map]; exact h)
      obtain ⟨y, _, e⟩ := List.mem_map.mp hP
      rw [← e]
      exact .int _ _
    · cases hP) (by show 2 ≤ 1000; decide)
theorem ok_is_number (T : Tx K mg) : FnR prog w K mg base CX0 1 (He.ga K "is_number") (spP (fun _ : Int × Int => True) (fun g => [Is K g.1, Is K g.2]) (fun g => Is K (decide (g.2 ≤ g.1)))) := by
  obtain ⟨fd, F⟩ := T.d_is_number
  refine fn_pure F sc_is_number (fun _ _ _ _ _ _ us hl => match us, hl with | [_, _], _ => rfl) (fun _ => rfl) fun cdv A outer s H E hr => ⟨_, PSs.nox (pss_one (ps_ret (pe_and (pe_callB (call_isiK' (K := K)) (by rfl) T.f_isinstance (by decide +kernel) (pa_cons (pv 0) (pa_cons (pe_bltn (v := .ty "int") rfl T.f_int (by decide +kernel) rfl) pa_nil))) (pe_and (pe_not (pe_callB (call_isiK' (K := K)) (by rfl) T.f_isinstance (by decide +kernel) (pa_cons (pv 0) (pa_cons (pe_bltn (v := .ty "bool") rfl T.f_bool (by decide +kernel) rfl) pa_nil)))) (pe_one (pe_cmpR op_ge (pv 0) (pv 1) (nomark _))))))), ?_⟩
  rintro ⟨x, b⟩ _
  exact sx_ret (EvG.to (eg_and (eg_isi (b := true) (eg_var rfl) ty_int (kit_ty (by decide +kernel))) fun _ => eg_and (eg_not (eg_isi (b := false) (eg_var rfl) ty_int (kit_ty (by decide +kernel)))) fun _ => eg_cmpI (K := K) (f := fun i j => decide (j ≤ i)) (eg_var rfl) (eg_var rfl)) (by rfl)) rfl
theorem ok_is_tuple (T : Tx K mg) : FnR prog w K mg base CX0 1 (He.ga K "is_tuple") (spP (fun _ : List SP × Nat => True) (fun g => [TuP K g.1, Is K g.2]) (fun g => Is K (decide (g.1.length = g.2)))) := by
  obtain ⟨fd, F⟩ := T.d_is_tuple
  refine fn_pure F sc_is_tuple (fun _ _ _ _ _ _ us hl => match us, hl with | [_, _], _ => rfl) (fun _ => rfl) fun cdv A outer s H E hr => ⟨_, PSs.nox (pss_one (ps_ret (pe_and (pe_callB (call_isiK' (K := K)) (by rfl) T.f_isinstance (by decide +kernel) (pa_cons (pv 0) (pa_cons (pe_bltn (v := .ty "tuple") rfl T.f_tuple (by decide +kernel) rfl) pa_nil))) (pe_one (pe_cmpR op_eq (pe_callB (call_lenK (K := K)) (by rfl) T.f_len (by decide +kernel) (pa_cons (pv 0) pa_nil)) (pv 1) (nomark _)))))), ?_⟩
  rintro ⟨Ps, n⟩ _
  refine sx_ret (EvG.to (eg_and (eg_isi (b := true) (eg_var rfl) ty_tup (kit_ty (by decide +kernel))) fun _ => eg_eqI (K := K) (eg_lenT (eg_var rfl)) (eg_var (P := Is K (n : Int)) rfl)) (P' := Is K (decide (Ps.length = n))) ?_) rfl
  congr 1
  rw [Bool.true_and]
  exact decide_eq_decide.mpr Int.ofNat_inj
/-- Links(loans, keep, far) -/
def spLinks (K : PySem.W.Frag) : Sp := spMk (He.ga K "Links") (fun x : LkD => LkOk x) (fun x => [Is K (Tp.mk x.L), Is K x.keep, Is K (x.shut, Tp.mk x.anew)]) (fun x => IsLk K x)
theorem ok_Links_init (T : Tx K mg) : FnR prog w K mg base CX0 4 (He.ma K (He.ga K "Links") "__init__") (spLinks K) := by
  obtain ⟨fd, F⟩ := T.d_Links_init
  refine fn_any F sc_Links_init (fun _ _ _ _ _ _ us hl => match us, hl with | [_, _, _, _], _ => rfl) ?_ fun cdv A outer s H vs Q E hr hsp => ⟨_, PSs.nox (pss_cons (SlX.ps_sl (pv 0) (pe_callR (E := E0) (ok_tupled T) (hr.mono (by first | decide | exact Nat.le_refl _)) (by rfl) T.g_tupled T.k_tupled pass0 (pa_cons (pv 1) pa_nil)))
    (pss_cons (SlX.ps_sl (pv 0) (pe_listRg rfl (by rfl) T.f_list (prg_1 (by rfl) T.f_range (pe_callB (call_lenK (K := K)) (by rfl) T.f_len (by decide +kernel) (pa_cons (pe_slK (K := K) (pv 0)) pa_nil)))))
    (pss_cons (SlX.ps_sl (pv 0) (pv 2))
    (pss_one (ps_asg (pe_callR (E := E0) (ok_tupled T) (hr.mono (by first | decide | exact Nat.le_refl _)) (by rfl) T.g_tupled T.k_tupled pass0 (pa_cons (pv 3) pa_nil)) (pg_tupK (K := K) (n := 2) rfl (pgs_cons (pg_sl (pv 0)) (pgs_cons (pg_sl (pv 0)) pgs_nil)))))))), ?_⟩
  · exact spMk_len fun _ => rfl
  obtain ⟨x, a, dx, ws, Hb, hx, rfl, o, hw, q⟩ := hsp
  have o0 := o.nones 5
  have s0 : Sat [some (Eq1 (.ref a)), some (Is K (Tp.mk x.L)), some (Is K x.keep), some (Is K (x.shut, Tp.mk x.anew))] (start n_Links_init (.ref a :: ws)) Hb := sat_start (N := n_Links_init) (Ps := [Eq1 (.ref a), Is K (Tp.mk x.L), Is K x.keep, Is K (x.shut, Tp.mk x.anew)]) (.cons rfl hw)
  have ha := s0.eq1 (i := 0) rfl
  generalize start n_Links_init (.ref a :: ws) = σ at s0 ha
  refine h_seq (h_sl ha (eg_call (Is K (Tp.mk x.L)) (ea_cons (eg_var rfl) ea_nil) (tg_loans hx.1)) (s0.mono o0.ex) o0 (RepS.rs _) T.c_Links T.sl_Links_loans fun H1 H2 v e1 p1 es o1 => ?_)
  refine h_seq (h_sl ha (eg_listRg (eg_lenTp (xs := x.L) (eg_slA (eg_var rfl) T.c_Links T.sl_Links_loans rfl)) (Nat.le_trans hx.1 (by decide))) ((s0.mono o1.ex).know (i := 0) (P := OSP a _ dx _) ha ⟨rfl, o1.ob⟩) o1 (RepS.rs _) T.c_Links T.sl_Links_indexes fun H3 H4 v e2 p2 es2 o2 => ?_)
  refine h_seq (h_sl ha (eg_var (i := 2) rfl) (s0.mono o2.ex) o2 (RepS.rs x.keep) T.c_Links T.sl_Links_keep fun H5 H6 v e3 p3 es3 o3 => ?_)
  refine h_asg2 (K := K) (P1 := Is K x.shut) (P2 := Is K (Tp.mk x.anew)) (eg_call (Qs := fun P => [P]) (R := fun P => P) (Is K (x.shut, Tp.mk x.anew)) (ea_cons (eg_var rfl) ea_nil) (tg_far hx.2)) (s0.mono o3.ex) fun v1 v2 H7 e4 p4 p5 => ?_
  refine g_sl ha p4 (o3.mono e4) (RepS.rs _) T.c_Links T.sl_Links_shut fun H8 es4 o4 => ?_
  refine ⟨v2, [], rfl, ?_⟩
  refine g_sl ha (RepS.rs (Tp.mk x.anew) _ _ _ es4 p5) o4 (RepS.rs _) T.c_Links T.sl_Links_anew fun H9 es5 o5 => ?_
  exact ⟨rfl, q _ o5.ex ⟨a, dx, rfl, o5.ob⟩⟩
end
end Lp

/-! part LpPure -/
set_option Elab.async false
set_option linter.all false
set_option maxRecDepth 100000

namespace Lp
open PySem PySem.Spec PyProof.Rows L2
open Evl (Ex ex_l ex_t ex_rd fresh_back)
section
variable {prog : Program} {w : World} {K : PySem.W.Frag} {mg : Str → Option Value} {base : Heap}
/-! ## equal lists -/
theorem canLay_bools : ∀ ns : List Bool, PyData.canLayAll0 (ns.map PyData.bool) = true
  | [] => rfl
  | _ :: r => by simp [PyData.canLayAll0, PyData.canLay0, canLay_bools r]
theorem depth_bools : ∀ ns : List Bool, PyData.depthAll (ns.map PyData.bool) = 0
  | [] => rfl
  | _ :: r => by simp [PyData.depthAll, PyData.depth, depth_bools r]
theorem shaped_bools (ns : List Bool) : SeqAt.shaped (.list (ns.map PyData.bool)) = true := by
  simp [SeqAt.shaped, PyData.canLay0, PyData.depth, canLay_bools, depth_bools]
theorem dp_bool {H : Hp} {v : V} {x : Bool} (h : (Is K x).p v H) : Dp K H v (PySem.W.Datum.toD x) := by
  obtain rfl : v = .bl x := h
  exact .bl x
theorem eg_eqL {γ : Type} [Rep K γ] [DecidableEq γ] [PySem.W.Datum γ] {neg : Bool} {r : R2} (hr : ∀ x y H Q, (∃ d e, Dp K H x d ∧ Dp K H y e ∧ SeqAt.shaped d = true ∧ SeqAt.shaped e = true ∧ Q (.bl (if neg then !PyData.eqv d e else PyData.eqv d e)) H) → r x y H Q)
    (hd : ∀ (x : γ) (v : V) (H : Hp), (Is K x).p v H → Dp K H v (PySem.W.Datum.toD x)) (hs : ∀ xs : List γ, SeqAt.shaped (.list (xs.map PySem.W.Datum.toD)) = true) {Γ : Gm} {ta tb : TE} {xs ys : List γ} (ha : EvG ta Γ (Is K xs)) (hb : EvG tb Γ (Is K ys)) :
    EvG (tOp r ta tb) Γ (Is K (if neg then !decide (xs = ys) else decide (xs = ys))) := fun σ H Q s q =>
  ha.two hb s fun v u H2 e p1 p2 => by
    obtain ⟨a, vs, rfl, h2, h3⟩ := p1
    obtain ⟨b, us, rfl, h4, h5⟩ := p2
    refine hr _ _ _ _ ⟨_, _, .lst h2 (dp_all hd h3), .lst h4 (dp_all hd h5), hs xs, hs ys, q _ H2 e ?_⟩
    have e2 : PyData.eqv (.list (xs.map PySem.W.Datum.toD)) (.list (ys.map PySem.W.Datum.toD)) = decide (xs = ys) := PySem.W.Datum.eqv (α := List γ) xs ys
    rw [e2]
    rfl
theorem eg_neLI {Γ : Gm} {ta tb : TE} {xs ys : List Int} (ha : EvG ta Γ (Is K xs)) (hb : EvG tb Γ (Is K ys)) : EvG (tOp (rNeD K) ta tb) Γ (Is K (!decide (xs = ys))) :=
  eg_eqL (neg := true) (fun x y H Q h => h) (fun _ _ _ => dp_int) (fun xs => PySem.W.ke_shaped_ints xs) ha hb
theorem eg_neLB {Γ : Gm} {ta tb : TE} {xs ys : List Bool} (ha : EvG ta Γ (Is K xs)) (hb : EvG tb Γ (Is K ys)) : EvG (tOp (rNeD K) ta tb) Γ (Is K (!decide (xs = ys))) :=
  eg_eqL (neg := true) (fun x y H Q h => h) (fun _ _ _ => dp_bool) (fun xs => shaped_bools xs) ha hb
theorem eg_nil {Γ : Gm} : EvG (tLst tNil) Γ (Is K ([] : List Int)) := eg_lst ea_nil
/-! ## the law's own plain defs -/
abbrev LoOk (L : Loans) : Prop := L.length ≤ 1000
theorem ok__law_gap (T : Tx K mg) : FnR prog w K mg base CX0 1 (He.ga K "_law_gap") (spP (fun g : Loans × Nat × Nat => g.2.1 < g.1.length ∧ g.2.2 < g.1.length) (fun g => [Is K (Tp.mk g.1), Is K g.2.1, Is K g.2.2]) (fun g => Is K (gapF g.1 g.2.1 g.2.2))) := by
  obtain ⟨fd, F⟩ := T.d__law_gap
  refine fn_pure F sc__law_gap (fun _ _ _ _ _ _ us hl => match us, hl with | [_, _, _], _ => rfl) (fun _ => rfl) fun cdv A outer s H E hr => ⟨_, PSs.nox (pss_one (ps_ret (pe_op op_sub (pe_ix (ix_tupK (K := K)) (pe_ix (ix_tupK (K := K)) (pv 0) (pv 2) (fun _ _ => rfl)) pe_int (fun _ _ => rfl)) (pe_ix (ix_tupK (K := K)) (pe_ix (ix_tupK (K := K)) (pv 0) (pv 1) (fun _ _ => rfl)) pe_int (fun _ _ => rfl))))), ?_⟩
  rintro ⟨L, g, t⟩ ⟨hg, ht⟩
  refine sx_ret ?_ rfl
  exact eg_opI0 (K := K) (f := fun i j => i - j) (eg_fst (eg_ixT (eg_var rfl) (eg_var rfl) (ld_at ht))) (eg_snd (eg_ixT (eg_var rfl) (eg_var rfl) (ld_at hg)))
theorem ok__law_givers (T : Tx K mg) : FnR prog w K mg base CX0 2 (He.ga K "_law_givers") (spP (fun g : Loans × Int × Nat => LoOk g.1 ∧ g.2.2 < g.1.length) (fun g => [Is K (Tp.mk g.1), Is K g.2.1, Is K g.2.2]) (fun g => Is K (givF g.1 (some g.2.1) g.2.2))) := by
  obtain ⟨fd, F⟩ := T.d__law_givers
  refine fn_pure F sc__law_givers (fun _ _ _ _ _ _ us hl => match us, hl with | [_, _, _], _ => rfl) (fun _ => rfl) fun cdv A outer s H E hr => ⟨_, PSs.nox (pss_one (ps_ret (pe_lc (own := [("_law_i", 3)]) (g := gName 3) (tt := _) rfl sc__law_givers.nd (pi_range1 (by rfl) T.f_range (pa_cons (pe_callB (call_lenK (K := K)) (by rfl) T.f_len (by decide +kernel) (pa_cons (pv 0) pa_nil)) pa_nil)) (blkOk_by (own := [("_law_i", 3)]) (N := n__law_givers) (sc := defScope s__law_givers) (by decide +kernel)) (fun _ _ _ _ _ => (pg_name (i := 3) sc__law_givers.nd rfl (by first | exact Or.inl rfl | exact Or.inr rfl))) (fun _ _ _ _ _ => pts_one (pt_chain op_le op_le pe_int (pe_callR (E := E0) (ok__law_gap T) (hr.mono (by first | decide | exact Nat.le_refl _)) (by rfl) T.g__law_gap T.k__law_gap pass0 (pa_cons (pv 0) (pa_cons (pv 3) (pa_cons (pv 2) pa_nil)))) (pv 1))) (fun _ _ _ _ _ => (pv 3))))), ?_⟩
  rintro ⟨L, k, t⟩ ⟨hL, ht⟩
  refine sx_ret (P := Is K (givF L (some k) t)) ?_ rfl
  refine EvG.to (eg_lcI (K := K) (xs := List.range L.length) (fun g => decide (0 ≤ gapF L g t) && decide (gapF L g t ≤ k)) (fun g => g) (ew_rng1 (ea_cons (eg_lenTp (eg_var rfl)) ea_nil) (Nat.le_trans hL (by decide))) (fun b hb => tg_name) (fun b hb => et_test (eg_chain (K := K) (f := fun i j => decide (i ≤ j)) (f' := fun i j => decide (i ≤ j)) eg_int (eg_call (L, b, t) (ea_cons (eg_var rfl) (ea_cons (eg_var rfl) (ea_cons (eg_var rfl) ea_nil))) ⟨List.mem_range.mp hb, ht⟩) (eg_var rfl))) (fun b hb _ => eg_var rfl) (by rw [List.length_range]; exact Nat.le_trans hL (by decide))) ?_
  rw [List.map_id']
  rfl
theorem ok__law_is_dead (T : Tx K mg) : FnR prog w K mg base CX0 2 (He.ga K "_law_is_dead") (spP (fun g : Loans × (Option Int × List Int) × Nat × Nat => g.2.1.2.length ≤ 1000 ∧ g.2.2.1 < g.1.length ∧ g.2.2.2 < g.1.length) (fun g => [Is K (Tp.mk g.1), Is K (g.2.1.1, Tp.mk g.2.1.2), Is K g.2.2.1, Is K g.2.2.2]) (fun g => Is K (deadF g.1 g.2.1.1 g.2.1.2 g.2.2.1 g.2.2.2))) := by
  obtain ⟨fd, F⟩ := T.d__law_is_dead
  refine fn_pure F sc__law_is_dead (fun _ _ _ _ _ _ us hl => match us, hl with | [_, _, _, _], _ => rfl) (fun _ => rfl) fun cdv A outer s H E hr => ⟨_, PSs.nox (pss_cons (ps_if (PW.pt (pw_and (pt_cmp (pc_notN (pe_ix (ix_tupK (K := K)) (pv 1) pe_int (fun _ _ => rfl)))) (pw_and1 (pt_cmpR op_ge (pe_callR (E := E0) (ok__law_gap T) (hr.mono (by first | decide | exact Nat.le_refl _)) (by rfl) T.g__law_gap T.k__law_gap pass0 (pa_cons (pv 0) (pa_cons (pv 2) (pa_cons (pv 3) pa_nil)))) (pe_ix (ix_tupK (K := K)) (pv 1) pe_int (fun _ _ => rfl)) (nomark _))))) (pss_one (ps_ret pe_bl)) (pss_nil))
    (pss_one (ps_ret (pe_cmpR (op_neD hr.units) (pe_lc (own := [("_law_own", 4)]) (g := gName 4) (tt := _) rfl sc__law_is_dead.nd (pi_tupK (K := K) (pe_ix (ix_tupK (K := K)) (pv 1) pe_int (fun _ _ => rfl))) (blkOk_by (own := [("_law_own", 4)]) (N := n__law_is_dead) (sc := defScope s__law_is_dead) (by decide +kernel)) (fun _ _ _ _ _ => (pg_name (i := 4) sc__law_is_dead.nd rfl (by first | exact Or.inl rfl | exact Or.inr rfl))) (fun _ _ _ _ _ => pts_one (pt_chain op_lt op_le (pe_ix (ix_tupK (K := K)) (pe_ix (ix_tupK (K := K)) (pv 0) (pv 2) (fun _ _ => rfl)) pe_int (fun _ _ => rfl)) (pv 4) (pe_ix (ix_tupK (K := K)) (pe_ix (ix_tupK (K := K)) (pv 0) (pv 3) (fun _ _ => rfl)) pe_int (fun _ _ => rfl)))) (fun _ _ _ _ _ => (pv 4))) (pe_lst pa_nil) (nomark _))))), ?_⟩
  rintro ⟨L, ⟨shut, anew⟩, g, t⟩ ⟨hx, hg, ht⟩
  refine sx_ifRet (et_and (et_B (eg_notN (K := K) (o := shut) (eg_fst (x := (shut, Tp.mk anew)) (eg_var rfl)))) fun hs => et_test (eg_cmpI (f := fun i j => decide (j ≤ i)) (eg_call (L, g, t) (ea_cons (eg_var rfl) (ea_cons (eg_var rfl) (ea_cons (eg_var rfl) ea_nil))) ⟨hg, ht⟩) (j := shut.getD 0) (EvG.to (eg_fst (x := (shut, Tp.mk anew)) (eg_var rfl)) ?_))) (fun h => sx_ret (eg_bl (K := K)) ?_) fun h => sx_ret (eg_neLI (EvG.to (eg_lcI (xs := anew) (fun b => decide ((ld L g).1 < b) && decide (b ≤ (ld L t).1)) (fun b => b) (ew_tup (eg_snd (x := (shut, Tp.mk anew)) (eg_var rfl))) (fun b hb => tg_name) (fun b hb => et_test (eg_chain (K := K) (f := fun i j => decide (i < j)) (f' := fun i j => decide (i ≤ j)) (eg_fst (eg_ixT (eg_var rfl) (eg_var rfl) (ld_at hg))) (eg_var rfl) (eg_fst (eg_ixT (eg_var rfl) (eg_var rfl) (ld_at ht))))) (fun b hb _ => eg_var rfl) (Nat.le_trans hx (by decide))) (congrArg (Is K) (List.map_id' _))) eg_nil) ?_
  · cases h : shut with
    | none => rw [h] at hs; cases hs
    | some k => rfl
  · show Is K true = Is K (deadF L shut anew g t)
    congr 1
    unfold deadF
    rw [h]
    rfl
  · show Is K _ = Is K (deadF L shut anew g t)
    congr 1
    unfold deadF
    rw [h, Bool.false_or]
    exact filter_any _ _
theorem ok__law_dead (T : Tx K mg) : FnR prog w K mg base CX0 3 (He.ga K "_law_dead") (spP (fun g : Loans × (Option Int × List Int) × List (Option Nat) => LoOk g.1 ∧ g.2.1.2.length ≤ 1000 ∧ LaneOk g.1 g.2.2) (fun g => [Is K (Tp.mk g.1), Is K (g.2.1.1, Tp.mk g.2.1.2), Is K (Tp.mk g.2.2)]) (fun g => Is K (deadL g.1 g.2.1.1 g.2.1.2 g.2.2))) := by
  obtain ⟨fd, F⟩ := T.d__law_dead
  refine fn_pure F sc__law_dead (fun _ _ _ _ _ _ us hl => match us, hl with | [_, _, _], _ => rfl) (fun _ => rfl) fun cdv A outer s H E hr => ⟨_, PSs.nox (pss_one (ps_ret (pe_lc (own := [("_law_j", 3)]) (g := gName 3) (tt := _) rfl sc__law_dead.nd (pi_range1 (by rfl) T.f_range (pa_cons (pe_callB (call_lenK (K := K)) (by rfl) T.f_len (by decide +kernel) (pa_cons (pv 2) pa_nil)) pa_nil)) (blkOk_by (own := [("_law_j", 3)]) (N := n__law_dead) (sc := defScope s__law_dead) (by decide +kernel)) (fun _ _ _ _ _ => (pg_name (i := 3) sc__law_dead.nd rfl (by first | exact Or.inl rfl | exact Or.inr rfl))) (fun _ _ _ _ _ => pts_one (PW.pt (pw_and (pt_cmp (pc_notN (pe_ix (ix_tupK (K := K)) (pv 2) (pv 3) (fun _ _ => rfl)))) (pw_and1 (pt_val (pe_callR (E := E0) (ok__law_is_dead T) (hr.mono (by first | decide | exact Nat.le_refl _)) (by rfl) T.g__law_is_dead T.k__law_is_dead pass0 (pa_cons (pv 0) (pa_cons (pv 1) (pa_cons (pe_ix (ix_tupK (K := K)) (pv 2) (pv 3) (fun _ _ => rfl)) (pa_cons (pv 3) pa_nil)))))))))) (fun _ _ _ _ _ => (pv 3))))), ?_⟩
  rintro ⟨L, ⟨shut, anew⟩, lane⟩ ⟨hL, hx, hl⟩
  have hn : lane.length ≤ 1000 := by rw [hl.1]; exact hL
  refine sx_ret (P := Is K (deadL L shut anew lane)) ?_ rfl
  refine EvG.to (eg_lcI (K := K) (xs := List.range lane.length) (fun j => dOf L shut anew lane j) (fun j => j) (ew_rng1 (ea_cons (eg_lenTp (eg_var rfl)) ea_nil) (Nat.le_trans hn (by decide))) (fun b hb => tg_name) (fun j hj => EvT.to (et_and (et_B (eg_notN (K := K) (o := lane.getD j none) (eg_ixT (eg_var rfl) (eg_var rfl) (lane_at (List.mem_range.mp hj))))) fun hs => et_B (K := K) (b := dOf L shut anew lane j) ?_) ?_) (fun b hb _ => eg_var rfl) (by rw [List.length_range]; exact Nat.le_trans hn (by decide))) (congrArg (Is K) (List.map_id' _))
  · obtain ⟨g, hg⟩ := Option.isSome_iff_exists.mp hs
    have hj' := List.mem_range.mp hj
    have e : dOf L shut anew lane j = deadF L shut anew g j := by
      unfold dOf
      rw [hg]
    rw [e]
    exact eg_call (L, (shut, anew), g, j) (ea_cons (eg_var rfl) (ea_cons (eg_var rfl) (ea_cons (EvG.to (eg_ixT (K := K) (eg_var rfl) (eg_var rfl) (lane_at hj')) (congrArg (Is K) hg)) (ea_cons (eg_var rfl) ea_nil)))) ⟨hx, lane_lt hl hj' hg, by rw [← hl.1]; exact hj'⟩
  · unfold dOf
    cases lane.getD j none <;> rfl
theorem ok__law_paid (T : Tx K mg) : FnR prog w K mg base CX0 4 (He.ga K "_law_paid") (spP (fun g : Loans × (Option Int × List Int) × (Int × Int) × List (Option Nat) => LoOk g.1 ∧ g.2.1.2.length ≤ 1000 ∧ (0 ≤ g.2.2.1.1 ∧ g.2.2.1.1 ≤ 1000000 ∧ 0 ≤ g.2.2.1.2 ∧ g.2.2.1.2 ≤ 1000000) ∧ LaneOk g.1 g.2.2.2) (fun g => [Is K (Tp.mk g.1), Is K (g.2.1.1, Tp.mk g.2.1.2), Is K g.2.2.1, Is K (Tp.mk g.2.2.2)]) (fun g => Is K (paidF g.1 g.2.1.1 g.2.1.2 g.2.2.1 g.2.2.2))) := by
  obtain ⟨fd, F⟩ := T.d__law_paid
  refine fn_pure F sc__law_paid (fun _ _ _ _ _ _ us hl => match us, hl with | [_, _, _, _], _ => rfl) (fun _ => rfl) fun cdv A outer s H E hr => ⟨_, PSs.nox (pss_one (ps_ret (pe_op op_add (pe_op op_mul (pe_ix (ix_tupK (K := K)) (pv 2) pe_int (fun _ _ => rfl)) (pe_callB (call_lenK (K := K)) (by rfl) T.f_len (by decide +kernel) (pa_cons (pe_callR (E := E0) (ok__law_dead T) (hr.mono (by first | decide | exact Nat.le_refl _)) (by rfl) T.g__law_dead T.k__law_dead pass0 (pa_cons (pv 0) (pa_cons (pv 1) (pa_cons (pv 3) pa_nil)))) pa_nil))) (pe_op op_mul (pe_ix (ix_tupK (K := K)) (pv 2) pe_int (fun _ _ => rfl)) (pe_callB (call_lenK (K := K)) (by rfl) T.f_len (by decide +kernel) (pa_cons (pe_lc (own := [("_law_own", 4)]) (g := gName 4) (tt := _) rfl sc__law_paid.nd (pi_tupK (K := K) (pv 3)) (blkOk_by (own := [("_law_own", 4)]) (N := n__law_paid) (sc := defScope s__law_paid) (by decide +kernel)) (fun _ _ _ _ _ => (pg_name (i := 4) sc__law_paid.nd rfl (by first | exact Or.inl rfl | exact Or.inr rfl))) (fun _ _ _ _ _ => pts_one (pt_cmp (pc_isN (pv 4)))) (fun _ _ _ _ _ => (pv 4))) pa_nil)))))), ?_⟩
  rintro ⟨L, ⟨shut, anew⟩, dues, lane⟩ ⟨hL, hx, ⟨h1, h2, h3, h4⟩, hl⟩
  have hn : lane.length ≤ 1000 := by rw [hl.1]; exact hL
  refine sx_ret (P := Is K (paidF L shut anew dues lane)) ?_ rfl
  refine eg_opI0 (f := fun i j => i + j) (eg_opI (f := fun i j => i * j) (eg_fst (eg_var rfl)) (eg_len (eg_call (L, (shut, anew), lane) (ea_cons (eg_var rfl) (ea_cons (eg_var rfl) (ea_cons (eg_var rfl) ea_nil))) ⟨hL, hx, hl⟩)) (.inl ⟨?_, ?_⟩)) (eg_opI (f := fun i j => i * j) (eg_snd (eg_var rfl)) (eg_len (xs := nones lane) (EvG.to (eg_lcI (K := K) (xs := lane) (fun o => o.isNone) (fun o => o) (ew_tup (eg_var rfl)) (fun b hb => tg_name) (fun o ho => et_B (eg_isN (eg_var rfl))) (fun b hb _ => eg_var rfl) (Nat.le_trans hn (by decide))) (congrArg (Is K) (List.map_id' _)))) (.inl ⟨?_, ?_⟩)) <;> (show _ < _; simp only at *; omega)
theorem ok__law_told (T : Tx K mg) : FnR prog w K mg base CX0 1 (He.ga K "_law_told") (spP (fun R : List (Int × Int) => R.length ≤ 1000) (fun R => [Is K (Tp.mk R)]) (fun R => Is K (toldF R))) := by
  obtain ⟨fd, F⟩ := T.d__law_told
  refine fn_pure F sc__law_told (fun _ _ _ _ _ _ us hl => match us, hl with | [_], _ => rfl) (fun _ => rfl) fun cdv A outer s H E hr => ⟨_, PSs.nox (pss_one (ps_ret (pe_op op_sub (pe_callB (cr_sum rfl) (by rfl) T.f_sum (by decide +kernel) (pa_cons (pe_lc (own := [("_law_pair", 1)]) (g := gName 1) (tt := _) rfl sc__law_told.nd (pi_tupK (K := K) (pv 0)) (blkOk_by (own := [("_law_pair", 1)]) (N := n__law_told) (sc := defScope s__law_told) (by decide +kernel)) (fun _ _ _ _ _ => (pg_name (i := 1) sc__law_told.nd rfl (by first | exact Or.inl rfl | exact Or.inr rfl))) (fun _ _ _ _ _ => pts_nil) (fun _ _ _ _ _ => (pe_ix (ix_tupK (K := K)) (pv 1) pe_int (fun _ _ => rfl)))) pa_nil)) (pe_callB (cr_sum rfl) (by rfl) T.f_sum (by decide +kernel) (pa_cons (pe_lc (own := [("_law_pair", 1)]) (g := gName 1) (tt := _) rfl sc__law_told.nd (pi_tupK (K := K) (pv 0)) (blkOk_by (own := [("_law_pair", 1)]) (N := n__law_told) (sc := defScope s__law_told) (by decide +kernel)) (fun _ _ _ _ _ => (pg_name (i := 1) sc__law_told.nd rfl (by first | exact Or.inl rfl | exact Or.inr rfl))) (fun _ _ _ _ _ => pts_nil) (fun _ _ _ _ _ => (pe_ix (ix_tupK (K := K)) (pv 1) pe_int (fun _ _ => rfl)))) pa_nil))))), ?_⟩
  intro R hR
  refine sx_ret (P := Is K (toldF R)) ?_ rfl
  exact eg_opI0 (f := fun i j => i - j) (eg_sum (eg_lcM (xs := R) Prod.fst (ew_tup (eg_var rfl)) (fun b hb => tg_name) (fun b hb => eg_fst (eg_var rfl)) (Nat.le_trans hR (by decide)))) (eg_sum (eg_lcM (xs := R) Prod.snd (ew_tup (eg_var rfl)) (fun b hb => tg_name) (fun b hb => eg_snd (eg_var rfl)) (Nat.le_trans hR (by decide))))
abbrev DuOk (d : Int × Int) : Prop := 0 ≤ d.1 ∧ d.1 ≤ 1000000 ∧ 0 ≤ d.2 ∧ d.2 ≤ 1000000
theorem b2 (b : Bool) (d : Int) : d * (if b = true then 1 else 0) = if b = true then d else 0 := by
  cases b <;> simp
theorem eg_intB {Γ : Gm} {te : TE} {b : Bool} (h : EvG te Γ (Is K b)) : EvG (tCB (fun xs H Q => (∃ i, xs = [V.int i] ∧ Q (.int i) H) ∨ ∃ k, xs = [V.bl k] ∧ Q (.int (if k then 1 else 0)) H) (tCons te tNil)) Γ (Is K (if b = true then (1 : Int) else 0)) := fun σ H Q s q =>
  h σ H _ s fun v H1 e p => .inr ⟨b, by rw [show v = V.bl b from p], q _ H1 e rfl⟩
theorem ok__law_are_rates (T : Tx K mg) : FnR prog w K mg base CX0 3 (He.ga K "_law_are_rates") (spP (fun g : Loans × Int × (Option Int × List Int) × (Int × Int) × List (Int × Int) => LoOk g.1 ∧ g.2.2.1.2.length ≤ 1000 ∧ DuOk g.2.2.2.1 ∧ RatesOk g.1 (some g.2.1) g.2.2.1.1 g.2.2.1.2 g.2.2.2.1 g.2.2.2.2) (fun g => [Is K (Tp.mk g.1), Is K g.2.1, Is K (g.2.2.1.1, Tp.mk g.2.2.1.2), Is K g.2.2.2.1, Is K (Tp.mk g.2.2.2.2)]) (fun g => Is K true)) := by
  obtain ⟨fd, F⟩ := T.d__law_are_rates
  refine fn_pure F sc__law_are_rates (fun _ _ _ _ _ _ us hl => match us, hl with | [_, _, _, _, _], _ => rfl) (fun _ => rfl) fun cdv A outer s H E hr => ⟨_, PSs.nox (pss_cons (ps_if (PW.pt (pw_or (pt_not (pt_val (pe_callB (call_isiK' (K := K)) (by rfl) T.f_isinstance (by decide +kernel) (pa_cons (pv 4) (pa_cons (pe_bltn (v := .ty "tuple") rfl T.f_tuple (by decide +kernel) rfl) pa_nil))))) (pw_or1 (pt_cmpR op_ne (pe_callB (call_lenK (K := K)) (by rfl) T.f_len (by decide +kernel) (pa_cons (pv 4) pa_nil)) (pe_callB (call_lenK (K := K)) (by rfl) T.f_len (by decide +kernel) (pa_cons (pv 0) pa_nil)) (nomark _))))) (pss_one (ps_ret pe_bl)) (pss_nil))
    (pss_cons (ps_for PassesOwn.never rfl (pi_tupK (K := K) (pv 4)) (pg_name (i := 5) sc__law_are_rates.nd rfl (Or.inl rfl)) (pss_cons (ps_if (PW.pt (pw_or (pt_not (pt_val (pe_callB (call_isiK' (K := K)) (by rfl) T.f_isinstance (by decide +kernel) (pa_cons (pv 5) (pa_cons (pe_bltn (v := .ty "tuple") rfl T.f_tuple (by decide +kernel) rfl) pa_nil))))) (pw_or1 (pt_cmpR op_ne (pe_callB (call_lenK (K := K)) (by rfl) T.f_len (by decide +kernel) (pa_cons (pv 5) pa_nil)) pe_int (nomark _))))) (pss_one (ps_ret pe_bl)) (pss_nil))
    (pss_one (ps_if (pt_cmpR (op_neD hr.units) (pe_lc (own := [("_law_own", 8)]) (g := gName 8) (tt := _) rfl sc__law_are_rates.nd (pi_tupK (K := K) (pv 5)) (blkOk_by (own := [("_law_own", 8)]) (N := n__law_are_rates) (sc := defScope s__law_are_rates) (by decide +kernel)) (fun _ _ _ _ _ => (pg_name (i := 8) sc__law_are_rates.nd rfl (by first | exact Or.inl rfl | exact Or.inr rfl))) (fun _ _ _ _ _ => pts_one (PW.pt (pw_or (pt_not (pt_val (pe_callB (call_isiK' (K := K)) (by rfl) T.f_isinstance (by decide +kernel) (pa_cons (pv 8) (pa_cons (pe_bltn (v := .ty "int") rfl T.f_int (by decide +kernel) rfl) pa_nil))))) (pw_or (pt_val (pe_callB (call_isiK' (K := K)) (by rfl) T.f_isinstance (by decide +kernel) (pa_cons (pv 8) (pa_cons (pe_bltn (v := .ty "bool") rfl T.f_bool (by decide +kernel) rfl) pa_nil)))) (pw_or1 (pt_cmpR op_lt (pv 8) pe_int (nomark _))))))) (fun _ _ _ _ _ => (pv 8))) (pe_lst pa_nil) (nomark _)) (pss_one (ps_ret pe_bl)) (pss_nil)))))
    (pss_cons (ps_for PassesOwn.never rfl (pi_range1 (by rfl) T.f_range (pa_cons (pe_callB (call_lenK (K := K)) (by rfl) T.f_len (by decide +kernel) (pa_cons (pv 4) pa_nil)) pa_nil)) (pg_name (i := 6) sc__law_are_rates.nd rfl (Or.inl rfl)) (pss_cons (ps_if (pt_cmpR op_gt (pe_ix (ix_tupK (K := K)) (pe_ix (ix_tupK (K := K)) (pv 4) (pv 6) (fun _ _ => rfl)) pe_int (fun _ _ => rfl)) (pe_ix (ix_tupK (K := K)) (pv 3) pe_int (fun _ _ => rfl)) (nomark _)) (pss_one (ps_ret pe_bl)) (pss_nil))
    (pss_one (ps_for PassesOwn.never rfl (pi_listK (K := K) (pe_callR (E := E0) (ok__law_givers T) (hr.mono (by first | decide | exact Nat.le_refl _)) (by rfl) T.g__law_givers T.k__law_givers pass0 (pa_cons (pv 0) (pa_cons (pv 1) (pa_cons (pv 6) pa_nil))))) (pg_name (i := 7) sc__law_are_rates.nd rfl (Or.inl rfl)) (pss_one (ps_if (pt_cmpR op_gt (pe_ix (ix_tupK (K := K)) (pe_ix (ix_tupK (K := K)) (pv 4) (pv 6) (fun _ _ => rfl)) pe_int (fun _ _ => rfl)) (pe_op op_add (pe_ix (ix_tupK (K := K)) (pe_ix (ix_tupK (K := K)) (pv 4) (pv 7) (fun _ _ => rfl)) pe_int (fun _ _ => rfl)) (pe_op op_mul (pe_ix (ix_tupK (K := K)) (pv 3) pe_int (fun _ _ => rfl)) (pe_callTy call_int1 (by rfl) T.f_int (by decide +kernel) (pa_cons (pe_callR (E := E0) (ok__law_is_dead T) (hr.mono (by first | decide | exact Nat.le_refl _)) (by rfl) T.g__law_is_dead T.k__law_is_dead pass0 (pa_cons (pv 0) (pa_cons (pv 2) (pa_cons (pv 7) (pa_cons (pv 6) pa_nil))))) pa_nil)))) (nomark _)) (pss_one (ps_ret pe_bl)) (pss_nil)))))))
    (pss_one (ps_ret pe_bl))))), ?_⟩
  rintro ⟨L, k, ⟨shut, anew⟩, dues, R⟩ ⟨hL, hx, hd, hR⟩
  have hn : R.length ≤ 1000 := by rw [hR.len]; exact hL
  refine sx_ifRet (b := false) (EvT.to (et_or (et_not (et_B (eg_isi (K := K) (b := true) (eg_var rfl) ty_tup (kit_ty (by decide +kernel))))) fun _ => et_test (eg_neI (K := K) (eg_lenTp (xs := R) (eg_var rfl)) (eg_lenTp (xs := L) (eg_var rfl)))) ?_) (fun z => nomatch z) fun _ => ?_
  · rw [hR.len]
    simp
  refine sx_seq (N1 := fun Γ2 => Γ2 = startG n__law_are_rates [Is K (Tp.mk L), Is K k, Is K (shut, Tp.mk anew), Is K dues, Is K (Tp.mk R)]) (sx_forL (xs := R) (ew_tup (eg_var rfl)) (fun i p hp => ⟨_, [5], tg_name, ?_⟩) rfl) fun Γ1 e => ?_
  · refine sx_ifRet (b := false) (EvT.to (et_or (et_not (et_B (eg_isi (K := K) (b := true) (eg_var rfl) ty_tup (kit_ty (by decide +kernel))))) fun _ => et_test (eg_neI (K := K) (i := 2) (j := 2) (eg_lenT (Ps := [Is K p.1, Is K p.2]) (eg_var rfl)) eg_int)) rfl) (fun z => nomatch z) fun _ => ?_
    refine sx_if (b := false) (EvT.to (et_test (eg_neLI (EvG.to (eg_lcI (K := K) (xs := [p.1, p.2]) (fun x => decide (x < 0)) (fun x => x) (ew_tup (eg_var rfl)) (fun b hb => tg_name) (fun b hb => EvT.to (et_or (et_not (et_B (eg_isi (K := K) (b := true) (eg_var rfl) ty_int (kit_ty (by decide +kernel))))) fun _ => et_or (et_B (eg_isi (K := K) (b := false) (eg_var rfl) ty_int (kit_ty (by decide +kernel)))) fun _ => et_test (eg_cmpI (K := K) (f := fun i j => decide (i < j)) (eg_var rfl) eg_int)) (by rw [Bool.not_true, Bool.false_or, Bool.false_or])) (fun b hb _ => eg_var rfl) (by show 2 ≤ 100000; decide)) (congrArg (Is K) (List.map_id' _))) eg_nil)) ?_) (fun z => nomatch z) fun _ => sx_next ?_
    · have hp2 := hR.pos p (List.mem_of_getElem? hp)
      have h1 : decide (p.1 < 0) = false := decide_eq_false (by omega)
      have h2 : decide (p.2 < 0) = false := decide_eq_false (by omega)
      simp [List.filter_cons, h1, h2]
    · exact lq_set (lq_refl _) (.inl rfl)
  · subst e
    refine sx_seq (N1 := fun Γ2 => Γ2 = startG n__law_are_rates [Is K (Tp.mk L), Is K k, Is K (shut, Tp.mk anew), Is K dues, Is K (Tp.mk R)]) (sx_forL (xs := List.range R.length) (ew_rng1 (ea_cons (eg_lenTp (eg_var rfl)) ea_nil) (Nat.le_trans hn (by decide))) (fun i j hj => ⟨_, [6], tg_name, ?_⟩) rfl) fun Γ1 e => ?_
    · have hjl : j < L.length := by
        rw [← hR.len]
        exact List.mem_range.mp (List.mem_of_getElem? hj)
      have hjR : j < R.length := List.mem_range.mp (List.mem_of_getElem? hj)
      refine sx_ifRet (b := false) (EvT.to (et_test (eg_cmpI (K := K) (f := fun i j => decide (j < i)) (eg_fst (eg_ixT (eg_var rfl) (eg_var rfl) (rt0_at hjR))) (eg_snd (eg_var rfl)))) (decide_eq_false (Int.not_lt.mpr (hR.new j hjl)))) (fun z => nomatch z) fun _ => ?_
      refine sx_forL (xs := givF L (some k) j) (ew_list (eg_call (L, k, j) (ea_cons (eg_var rfl) (ea_cons (eg_var rfl) (ea_cons (eg_var rfl) ea_nil))) ⟨hL, hjl⟩)) (fun _ i hi => ⟨_, [7], tg_name, ?_⟩) (lq_set (lq_refl _) (.inl rfl))
      have hig := List.mem_of_getElem? hi
      have hil : i < L.length := giv_lt hig
      refine sx_if (b := false) (EvT.to (et_test (eg_cmpI (K := K) (f := fun i j => decide (j < i)) (eg_fst (eg_ixT (eg_var rfl) (eg_var rfl) (rt0_at hjR))) (eg_opI0 (f := fun i j => i + j) (eg_snd (eg_ixT (eg_var rfl) (eg_var rfl) (rt0_at (by rw [hR.len]; exact hil)))) (eg_opI (f := fun i j => i * j) (eg_fst (eg_var rfl)) (eg_intB (eg_call (L, (shut, anew), i, j) (ea_cons (eg_var rfl) (ea_cons (eg_var rfl) (ea_cons (eg_var rfl) (ea_cons (eg_var rfl) ea_nil)))) ⟨hx, hil, hjl⟩)) (.inl ⟨?_, ?_⟩))))) (decide_eq_false ?_)) (fun z => nomatch z) fun _ => sx_next (lq_set (lq_refl _) (.inl rfl))
      · show _ < _; have := hd.1; simp only at *; omega
      · show _ < _; have := hd.2.1; simp only at *; omega
      · have := hR.giv j hjl i hig
        rw [b2]
        simp only at *
        omega
    · subst e
      exact sx_ret (eg_bl (K := K)) rfl
end
end Lp

/-! part LpPack -/
set_option Elab.async false
set_option linter.all false
set_option maxRecDepth 100000

namespace Lp
open PySem PySem.Spec PyProof.Rows L2
open Evl (Ex ex_l ex_t ex_rd fresh_back)
section
variable {prog : Program} {w : World} {K : PySem.W.Frag} {mg : Str → Option Value} {base : Heap}
theorem eg_inL {Γ : Gm} {ta tb : TE} {g : Nat} {xs : List Nat} (ha : EvG ta Γ (Is K g)) (hb : EvG tb Γ (Is K xs)) : EvG (tOp (rIn K false) ta tb) Γ (Is K (decide (g ∈ xs))) := fun σ H Q s q =>
  ha.two hb s fun v u H2 e p1 p2 => by
    obtain rfl : v = .int (g : Int) := p1
    obtain ⟨b, us, rfl, h4, h5⟩ := p2
    have e2 := all_nats h5
    subst e2
    refine ⟨b, _, rfl, .inl h4, rfl, ?_, q _ H2 e ?_⟩
    · rw [List.all_map]
      exact List.all_eq_true.mpr fun _ _ => rfl
    · have : inV (.int (g : Int)) (xs.map fun n : Nat => V.int (n : Int)) = decide (g ∈ xs) := by
        unfold inV
        rw [List.any_map]
        have e3 : ((fun y => eqV y (V.int (g : Int))) ∘ fun n : Nat => V.int (n : Int)) = fun n => decide (n = g) := by
          funext n
          show ((n : Int) == (g : Int)) = _
          rw [Bool.beq_eq_decide_eq]
          exact decide_eq_decide.mpr Int.ofNat_inj
        rw [e3]
        cases h : decide (g ∈ xs) with
        | true => exact List.any_eq_true.mpr ⟨g, of_decide_eq_true h, decide_eq_true rfl⟩
        | false =>
          cases h2 : xs.any fun n => decide (n = g) with
          | false => rfl
          | true =>
            obtain ⟨n, hn, e⟩ := List.any_eq_true.mp h2
            have := of_decide_eq_true e
            subst this
            exact absurd hn (of_decide_eq_false h)
      show V.bl _ = V.bl _
      rw [this]
      rfl
theorem eg_lenD {Γ : Gm} {te : TE} {p : Nat → Prop} (h : EvG te Γ (DcLen p)) : EvG (tCB (fun vs H Q => ∃ (d : Addr) (kvs : List (Key × V)), vs = [V.ref d] ∧ H d = some (.dK kvs) ∧ Q (.int kvs.length) H) (tCons te tNil)) Γ (Ssm (γ := Nat) p (fun n => Is K n)) := fun σ H Q s q =>
  h σ H _ s fun v H1 e ⟨d, kvs, h1, h2, h3⟩ => ⟨d, kvs, by rw [h1], h2, q _ H1 e ⟨_, h3, rfl⟩⟩
theorem ok_dead (T : Tx K mg) : FnR prog w K mg base CX0 6 (He.ga K "dead") (spP (fun g : Loans × (Option Int × List Int) × List (Option Nat) => LoOk g.1 ∧ g.2.1.2.length ≤ 1000 ∧ LaneOk g.1 g.2.2) (fun g => [Is K (Tp.mk g.1), Is K (g.2.1.1, Tp.mk g.2.1.2), Is K (Tp.mk g.2.2)]) (fun g => Is K (deadL g.1 g.2.1.1 g.2.1.2 g.2.2))) := by
  obtain ⟨fd, F⟩ := T.d_dead
  refine fn_pure F sc_dead (fun _ _ _ _ _ _ us hl => match us, hl with | [_, _, _], _ => rfl) (fun _ => rfl) fun cdv A outer s H E hr => ⟨_, PSs.nox (pss_cons (ps_set (i := 3) sc_dead.nd rfl (Or.inr rfl) (StX.pe_makeR (E := E0) T.mk_Links (ok_Links_init T) (hr.mono (by first | decide | exact Nat.le_refl _)) (by rfl) T.g_Links pass0 (pa_cons (pv 0) (pa_cons pe_non (pa_cons (pv 1) pa_nil)))))
    (pss_one (ps_ret (pe_lc (own := [("taker", 4)]) (g := gName 4) (tt := _) rfl sc_dead.nd (pi_own (E := E0) T.m_Links_iter.at_ T.m_Links_iter.fn (ok_Links_iter T) (hr.mono (by first | decide | exact Nat.le_refl _)) pass0 (pv 3)) (blkOk_by (own := [("taker", 4)]) (N := n_dead) (sc := defScope s_dead) (by decide +kernel)) (fun _ _ _ _ _ => (pg_name (i := 4) sc_dead.nd rfl (by first | exact Or.inl rfl | exact Or.inr rfl))) (fun _ _ _ _ _ => pts_one (PW.pt (pw_and (pt_cmp (pc_notN (pe_ix (ix_tupK (K := K)) (pv 2) (pv 4) (fun _ _ => rfl)))) (pw_and1 (pt_val (SlX.pe_methSl (E := E0) (pv 3) T.c_Links T.m_Links_is_dead (ok_Links_is_dead T) (hr.mono (by first | decide | exact Nat.le_refl _)) pass0 (pa_cons (pe_ix (ix_tupK (K := K)) (pv 2) (pv 4) (fun _ _ => rfl)) (pa_cons (pv 4) pa_nil)))))))) (fun _ _ _ _ _ => (pv 4)))))), ?_⟩
  rintro ⟨L, ⟨shut, anew⟩, lane⟩ ⟨hL, hx, hl⟩
  have hn : lane.length ≤ 1000 := by rw [hl.1]; exact hL
  refine sx_set (eg_make (⟨L, none, shut, anew⟩ : LkD) (ea_cons (eg_var rfl) (ea_cons (eg_non (α := Int)) (ea_cons (eg_var rfl) ea_nil))) ⟨hL, hx⟩) ?_
  refine sx_ret (P := Is K (deadL L shut anew lane)) ?_ rfl
  refine EvG.to (eg_lcI (K := K) (xs := List.range L.length) (fun j => dOf L shut anew lane j) (fun j => j) (ew_own (eg_var rfl) rfl) (fun b hb => tg_name) (fun j hj => EvT.to (et_and (et_B (eg_notN (K := K) (o := lane.getD j none) (eg_ixT (eg_var rfl) (eg_var rfl) (lane_at (by rw [hl.1]; exact List.mem_range.mp hj))))) fun hs => et_B (K := K) (b := dOf L shut anew lane j) ?_) ?_) (fun b hb _ => eg_var rfl) (by rw [List.length_range]; exact Nat.le_trans hL (by decide))) ?_
  · obtain ⟨g, hg⟩ := Option.isSome_iff_exists.mp hs
    have hj' := List.mem_range.mp hj
    have hj2 : j < lane.length := by rw [hl.1]; exact hj'
    have e : dOf L shut anew lane j = deadF L shut anew g j := by
      unfold dOf
      rw [hg]
    rw [e]
    exact eg_meth ((⟨L, none, shut, anew⟩ : LkD), g, j) (eg_var rfl) (ea_cons (EvG.to (eg_ixT (K := K) (eg_var rfl) (eg_var rfl) (lane_at hj2)) (congrArg (Is K) hg)) (ea_cons (eg_var rfl) ea_nil)) rfl ⟨⟨hL, hx⟩, lane_lt hl hj2 hg, hj'⟩
  · unfold dOf
    cases lane.getD j none <;> rfl
  · unfold deadL
    rw [hl.1]
    exact congrArg (Is K) (List.map_id' _)
theorem ok_fewest_lifeless (T : Tx K mg) : FnR prog w K mg base CX0 6 (He.ga K "fewest_lifeless") (spP (fun x : LkD => LkOk x) (fun x => [Is K (Tp.mk x.L), Is K x.keep, Is K (x.shut, Tp.mk x.anew)]) (fun x => Ssm (γ := Int) (fun m => ∃ F, Greedy x x.L.length F ∧ m = (x.L.length : Int) - (F.length : Int)) (fun m => Is K m))) := by
  obtain ⟨fd, F⟩ := T.d_fewest_lifeless
  refine fn_pure F sc_fewest_lifeless (fun _ _ _ _ _ _ us hl => match us, hl with | [_, _, _], _ => rfl) (fun _ => rfl) fun cdv A outer s H E hr => ⟨_, PSs.nox (pss_cons (ps_set (i := 3) sc_fewest_lifeless.nd rfl (Or.inl rfl) (StX.pe_makeR (E := E0) T.mk_Links (ok_Links_init T) (hr.mono (by first | decide | exact Nat.le_refl _)) (by rfl) T.g_Links pass0 (pa_cons (pv 0) (pa_cons (pv 1) (pa_cons (pv 2) pa_nil)))))
    (pss_one (ps_ret (pe_op op_sub (pe_callB (call_lenOwn (E := E0) T.m_Links_len.at_ T.m_Links_len.fn (ok_Links_len T) (hr.mono (by first | decide | exact Nat.le_refl _)) pass0) (by rfl) T.f_len (by decide +kernel) (pa_cons (pv 3) pa_nil)) (pe_callB call_lenD (by rfl) T.f_len (by decide +kernel) (pa_cons (SlX.pe_methSl0 (E := E0) (pv 3) T.c_Links T.m_Links_best (ok_Links_best T) (hr.mono (by first | decide | exact Nat.le_refl _)) pass0) pa_nil)))))), ?_⟩
  intro x hx
  refine sx_set (eg_make x (ea_cons (eg_var rfl) (ea_cons (eg_var rfl) (ea_cons (eg_var rfl) ea_nil))) hx) ?_
  refine sx_ret (P := Ssm (γ := Int) (fun m => ∃ F, Greedy x x.L.length F ∧ m = (x.L.length : Int) - (F.length : Int)) (fun m => Is K m)) ?_ rfl
  intro σ H Q s q
  refine (eg_lenOwn x x.L.length (eg_var rfl) rfl hx rfl (Nat.le_trans hx.1 (by decide)) : EvG _ _ (Is K x.L.length)).two (eg_lenD (K := K) (eg_meth (Ps := []) x (eg_var rfl) ea_nil rfl hx)) s fun v u H2 e p1 p2 => ?_
  obtain ⟨n, ⟨F, hF, rfl⟩, p2⟩ := p2
  exact ⟨_, _, p1, p2, q _ H2 e ⟨_, ⟨F, hF, rfl⟩, rfl⟩⟩
theorem ok_fee (T : Tx K mg) : FnR prog w K mg base CX0 7 (He.ga K "fee") (spP (fun g : Loans × (Option Int × List Int) × (Int × Int) × List (Option Nat) => LoOk g.1 ∧ g.2.1.2.length ≤ 1000 ∧ DuOk g.2.2.1 ∧ LaneOk g.1 g.2.2.2) (fun g => [Is K (Tp.mk g.1), Is K (g.2.1.1, Tp.mk g.2.1.2), Is K g.2.2.1, Is K (Tp.mk g.2.2.2)]) (fun g => Is K (paidF g.1 g.2.1.1 g.2.1.2 g.2.2.1 g.2.2.2))) := by
  obtain ⟨fd, F⟩ := T.d_fee
  refine fn_pure F sc_fee (fun _ _ _ _ _ _ us hl => match us, hl with | [_, _, _, _], _ => rfl) (fun _ => rfl) fun cdv A outer s H E hr => ⟨_, PSs.nox (pss_cons (ps_set (i := 4) sc_fee.nd rfl (Or.inl rfl) (pe_callB (call_lenK (K := K)) (by rfl) T.f_len (by decide +kernel) (pa_cons (pe_lc (own := [("taker", 5)]) (g := gName 5) (tt := _) rfl sc_fee.nd (pi_tupK (K := K) (pv 3)) (blkOk_by (own := [("taker", 5)]) (N := n_fee) (sc := defScope s_fee) (by decide +kernel)) (fun _ _ _ _ _ => (pg_name (i := 5) sc_fee.nd rfl (by first | exact Or.inl rfl | exact Or.inr rfl))) (fun _ _ _ _ _ => pts_one (pt_cmp (pc_isN (pv 5)))) (fun _ _ _ _ _ => (pv 5))) pa_nil)))
    (pss_one (ps_ret (pe_op op_add (pe_op op_mul (pe_ix (ix_tupK (K := K)) (pv 2) pe_int (fun _ _ => rfl)) (pe_callB (call_lenK (K := K)) (by rfl) T.f_len (by decide +kernel) (pa_cons (pe_callR (E := E0) (ok_dead T) (hr.mono (by first | decide | exact Nat.le_refl _)) (by rfl) T.g_dead T.k_dead pass0 (pa_cons (pv 0) (pa_cons (pv 1) (pa_cons (pv 3) pa_nil)))) pa_nil))) (pe_op op_mul (pe_ix (ix_tupK (K := K)) (pv 2) pe_int (fun _ _ => rfl)) (pv 4)))))), ?_⟩
  rintro ⟨L, ⟨shut, anew⟩, dues, lane⟩ ⟨hL, hx, ⟨h1, h2, h3, h4⟩, hl⟩
  have hn : lane.length ≤ 1000 := by rw [hl.1]; exact hL
  refine sx_set (eg_len (xs := nones lane) (EvG.to (eg_lcI (K := K) (xs := lane) (fun o => o.isNone) (fun o => o) (ew_tup (eg_var rfl)) (fun b hb => tg_name) (fun o ho => et_B (eg_isN (eg_var rfl))) (fun b hb _ => eg_var rfl) (Nat.le_trans hn (by decide))) (congrArg (Is K) (List.map_id' _)))) ?_
  refine sx_ret (P := Is K (paidF L shut anew dues lane)) ?_ rfl
  refine eg_opI0 (f := fun i j => i + j) (eg_opI (f := fun i j => i * j) (eg_fst (eg_var rfl)) (eg_len (eg_call (L, (shut, anew), lane) (ea_cons (eg_var rfl) (ea_cons (eg_var rfl) (ea_cons (eg_var rfl) ea_nil))) ⟨hL, hx, hl⟩)) (.inl ⟨?_, ?_⟩)) (eg_opI (f := fun i j => i * j) (eg_snd (eg_var rfl)) (eg_var rfl) (.inl ⟨?_, ?_⟩)) <;> (show _ < _; simp only at *; omega)
theorem somes_len {lane : List (Option Nat)} : (somes lane).length ≤ lane.length := by
  unfold somes
  rw [List.length_map]
  exact List.length_filter_le _ _
theorem ok_is_handing (T : Tx K mg) : FnR prog w K mg base CX0 6 (He.ga K "is_handing") (spP (fun g : Loans × Int × List (Option Nat) => LoOk g.1 ∧ HandOk g.1 (some g.2.1) g.2.2) (fun g => [Is K (Tp.mk g.1), Is K g.2.1, Is K (Tp.mk g.2.2)]) (fun g => Is K true)) := by
  obtain ⟨fd, F⟩ := T.d_is_handing
  refine fn_pure F sc_is_handing (fun _ _ _ _ _ _ us hl => match us, hl with | [_, _, _], _ => rfl) (fun _ => rfl) fun cdv A outer s H E hr => ⟨_, PSs.nox (pss_cons (ps_set (i := 3) sc_is_handing.nd rfl (Or.inr rfl) (StX.pe_makeR (E := E0) T.mk_Links (ok_Links_init T) (hr.mono (by first | decide | exact Nat.le_refl _)) (by rfl) T.g_Links pass0 (pa_cons (pv 0) (pa_cons (pv 1) (pa_cons (pe_tup (pa_cons pe_non (pa_cons (pe_tup pa_nil) pa_nil))) pa_nil)))))
    (pss_cons (ps_if (PW.pt (pw_or (pt_not (pt_val (pe_callR (E := E0) (ok_is_tuple T) (hr.mono (by first | decide | exact Nat.le_refl _)) (by rfl) T.g_is_tuple T.k_is_tuple pass0 (pa_cons (pv 2) (pa_cons (pe_callB (call_lenOwn (E := E0) T.m_Links_len.at_ T.m_Links_len.fn (ok_Links_len T) (hr.mono (by first | decide | exact Nat.le_refl _)) pass0) (by rfl) T.f_len (by decide +kernel) (pa_cons (pv 3) pa_nil)) pa_nil))))) (pw_or1 (pt_not (pt_val (pe_callB (cr_all rfl) (by rfl) T.f_all (by decide +kernel) (pa_cons (pe_lc (own := [("part", 5)]) (g := gName 5) (tt := _) rfl sc_is_handing.nd (pi_tupK (K := K) (pv 2)) (blkOk_by (own := [("part", 5)]) (N := n_is_handing) (sc := defScope s_is_handing) (by decide +kernel)) (fun _ _ _ _ _ => (pg_name (i := 5) sc_is_handing.nd rfl (by first | exact Or.inl rfl | exact Or.inr rfl))) (fun _ _ _ _ _ => pts_nil) (fun _ _ _ _ _ => (pe_or (pe_cmp (pc_isN (pv 5))) (pe_one (pe_callR (E := E0) (ok_is_number T) (hr.mono (by first | decide | exact Nat.le_refl _)) (by rfl) T.g_is_number T.k_is_number pass0 (pa_cons (pv 5) (pa_cons pe_int pa_nil))))))) pa_nil))))))) (pss_one (ps_ret pe_bl)) (pss_nil))
    (pss_cons (ps_setLc (i := 4) (own := [("part", 5)]) (g := gName 5) (tt := _) rfl sc_is_handing.nd rfl rfl (sw_true rfl rfl rfl (by decide +kernel)) (pi_tupK (K := K) (pv 2)) (blkOk_by (own := [("part", 5)]) (N := n_is_handing) (sc := defScope s_is_handing) (by decide +kernel)) (fun _ _ _ _ _ => (pg_name (i := 5) sc_is_handing.nd rfl (by first | exact Or.inl rfl | exact Or.inr rfl))) (fun _ _ _ _ _ => pts_one (pt_cmp (pc_notN (pv 5)))) (fun _ _ _ _ _ => (pv 5)))
    (pss_cons (ps_if (pt_cmpR op_lt (RZ.pe_lenSetI (by rfl) T.f_len (by rfl) T.f_set (pv 4)) (pe_callB (call_lenK (K := K)) (by rfl) T.f_len (by decide +kernel) (pa_cons (pv 4) pa_nil)) (nomark _)) (pss_one (ps_ret pe_bl)) (pss_nil))
    (pss_one (ps_ret (pe_callB (cr_all rfl) (by rfl) T.f_all (by decide +kernel) (pa_cons (pe_lc (own := [("taker", 6)]) (g := gName 6) (tt := _) rfl sc_is_handing.nd (pi_own (E := E0) T.m_Links_iter.at_ T.m_Links_iter.fn (ok_Links_iter T) (hr.mono (by first | decide | exact Nat.le_refl _)) pass0 (pv 3)) (blkOk_by (own := [("taker", 6)]) (N := n_is_handing) (sc := defScope s_is_handing) (by decide +kernel)) (fun _ _ _ _ _ => (pg_name (i := 6) sc_is_handing.nd rfl (by first | exact Or.inl rfl | exact Or.inr rfl))) (fun _ _ _ _ _ => pts_nil) (fun _ _ _ _ _ => (pe_or (pe_cmp (pc_isN (pe_ix (ix_tupK (K := K)) (pv 2) (pv 6) (fun _ _ => rfl)))) (pe_one (pe_cmpR (op_inK (K := K)) (pe_ix (ix_tupK (K := K)) (pv 2) (pv 6) (fun _ _ => rfl)) (SlX.pe_methSl (E := E0) (pv 3) T.c_Links T.m_Links_givers (ok_Links_givers T) (hr.mono (by first | decide | exact Nat.le_refl _)) pass0 (pa_cons (pv 6) pa_nil)) (by rfl)))))) pa_nil)))))))), ?_⟩
  rintro ⟨L, k, lane⟩ ⟨hL, hl⟩
  have hn : lane.length ≤ 1000 := by rw [hl.len]; exact hL
  have hx : LkOk (⟨L, some k, none, []⟩ : LkD) := ⟨hL, Nat.zero_le _⟩
  refine sx_set (eg_make (⟨L, some k, none, []⟩ : LkD) (ea_cons (eg_var rfl) (ea_cons (eg_var rfl) (ea_cons (eg_pair (x := (none : Option Int)) (y := Tp.mk ([] : List Int)) (eg_non (α := Int)) (eg_tup ea_nil)) ea_nil))) hx) ?_
  refine sx_ifRet (b := false) (EvT.to (et_or (et_not (et_B (b := true) (EvG.to (eg_call (lane.map (Is K), L.length) (ea_cons (eg_var rfl) (ea_cons (eg_lenOwn (⟨L, some k, none, []⟩ : LkD) L.length (eg_var rfl) rfl hx rfl (Nat.le_trans hL (by decide))) ea_nil)) trivial) (congrArg (Is K) (decide_eq_true (by rw [List.length_map]; exact hl.len)))))) fun _ => et_not (et_B (b := true) (EvG.to (eg_all (eg_lcM (xs := lane) (fun o => o.isNone || decide ((0 : Int) ≤ ((o.getD 0 : Nat) : Int))) (ew_tup (eg_var rfl)) (fun b hb => tg_name) (fun o ho => eg_or (eg_isN (K := K) (eg_var rfl)) fun hs => ?_) (Nat.le_trans hn (by decide)))) (congrArg (Is K) ?_)))) rfl) (fun z => nomatch z) fun _ => ?_
  · cases o with
    | none => cases hs
    | some g => exact eg_call ((g : Int), (0 : Int)) (ea_cons (eg_var rfl) (ea_cons eg_int ea_nil)) trivial
  · rw [List.all_map]
    refine List.all_eq_true.mpr fun o _ => ?_
    show (o.isNone || decide ((0 : Int) ≤ ((o.getD 0 : Nat) : Int))) = true
    rw [decide_eq_true (by omega), Bool.or_true]
  refine sx_set (P := Is K (somes lane)) (EvG.to (eg_lc (K := K) (xs := lane) (F := Is K) (f := fun o => o.isSome) (Rf := fun o => Is K (o.getD 0)) (ew_tup (eg_var rfl)) (fun o => RepT.rt _) (fun b hb => tg_name) (fun o ho => et_B (eg_notN (K := K) (eg_var rfl))) (fun o ho hs => ?_) (Nat.le_trans hn (by decide))) ?_) ?_
  · cases o with
    | none => cases hs
    | some g => exact eg_var rfl
  · show _ = LsP K ((somes lane).map (Is K))
    unfold somes
    rw [List.map_map]
    rfl
  refine sx_ifRet (b := false) (EvT.to (et_test (eg_cmpI (K := K) (f := fun i j => decide (i < j)) (i := (somes lane).length) ?_ (eg_len (xs := somes lane) (eg_var rfl)))) (decide_eq_false (by omega))) (fun z => nomatch z) fun _ => ?_
  · intro σ H Q s q
    refine (eg_var (i := 4) (P := Is K (somes lane)) rfl : EvG _ _ _) σ H _ s fun v H1 e ⟨a, vs, h1, h2, h3⟩ => ?_
    rw [all_nats h3] at h2
    refine ⟨a, (somes lane).map fun n : Nat => (n : Int), h1, ?_, ?_, ?_, q _ H1 e ?_⟩
    · rw [List.map_map]
      exact h2
    · exact List.Pairwise.map _ (fun a b h e => h (Int.ofNat_inj.mp e)) hl.nd
    · rw [List.length_map]
      have := somes_len (lane := lane)
      omega
    · rw [List.length_map]
      rfl
  refine sx_ret (EvG.to (eg_all (eg_lcM (xs := List.range L.length) (fun j => (lane.getD j none).isNone || decide ((lane.getD j none).getD 0 ∈ givF L (some k) j)) (ew_own (eg_var rfl) rfl) (fun b hb => tg_name) (fun j hj => eg_or (eg_isN (K := K) (eg_ixT (eg_var rfl) (eg_var rfl) (lane_at (by rw [hl.len]; exact List.mem_range.mp hj)))) fun hs => ?_) (by rw [List.length_range]; exact Nat.le_trans hL (by decide)))) (congrArg (Is K) (a₂ := true) ?_)) rfl
  · have hj' := List.mem_range.mp hj
    refine eg_inL (g := (lane.getD j none).getD 0) (EvG.to (eg_ixT (K := K) (eg_var rfl) (eg_var rfl) (lane_at (by rw [hl.len]; exact hj'))) ?_) (eg_meth ((⟨L, some k, none, []⟩ : LkD), j) (eg_var rfl) (ea_cons (eg_var rfl) ea_nil) rfl ⟨hx, hj'⟩)
    cases h : lane.getD j none with
    | none => rw [h] at hs; cases hs
    | some g => rfl
  · rw [List.all_map]
    refine List.all_eq_true.mpr fun j hj => ?_
    show ((lane.getD j none).isNone || decide ((lane.getD j none).getD 0 ∈ givF L (some k) j)) = true
    cases h : lane.getD j none with
    | none => rfl
    | some g => exact decide_eq_true (hl.giv j (List.mem_range.mp hj) g h)
end
end Lp

/-! part LpPurse -/
set_option Elab.async false
set_option linter.all false
set_option maxRecDepth 100000

namespace Lp
open PySem PySem.Spec PyProof.Rows L2
open Evl (Ex ex_l ex_t ex_rd fresh_back)
section
variable {prog : Program} {w : World} {K : PySem.W.Frag} {mg : Str → Option Value} {base : Heap}
structure PuD where
  x : LkD
  dues : Int × Int
  M : Mt
abbrev PuD.E (p : PuD) : Net := netF p.x p.dues
def IsPu (K : PySem.W.Frag) (p : PuD) : SP := ObP (He.ga K "Purse") [Is K p.dues.1, IsLk K p.x, Is K p.dues.2, DcE (dkN p.M)]
abbrev DuOk' (d : Int × Int) : Prop := 0 ≤ d.1 ∧ d.1 ≤ 1000000 ∧ 0 ≤ d.2 ∧ d.2 ≤ 1000000
theorem ok_Purse_fee (T : Tx K mg) : FnR prog w K mg base CX0 3 (He.ma K (He.ga K "Purse") "fee") (spP (fun g : PuD × Nat × Nat => LkOk g.1.x ∧ g.2.1 < g.1.x.L.length ∧ g.2.2 < g.1.x.L.length) (fun g => [IsPu K g.1, Is K g.2.1, Is K g.2.2]) (fun g => Is K (g.1.E.c g.2.1 g.2.2))) := by
  obtain ⟨fdO, FO⟩ := T.d_Purse_fee
  refine fn_pure FO sc_Purse_fee (fun _ _ _ _ _ _ us hl => match us, hl with | [_, _, _], _ => rfl) (fun _ => rfl) fun cdv A outer s H E hr => ⟨_, PSs.nox (pss_one (ps_ret (pe_ifExp (pt_val (SlX.pe_methSl (E := E0) (pe_slK (K := K) (pv 0)) T.c_Links T.m_Links_is_dead (ok_Links_is_dead T) (hr.mono (by first | decide | exact Nat.le_refl _)) pass0 (pa_cons (pv 1) (pa_cons (pv 2) pa_nil)))) (pe_slK (K := K) (pv 0)) pe_int))), ?_⟩
  rintro ⟨p, g, t⟩ ⟨hx, hg, ht⟩
  refine sx_ret (P := Is K (p.E.c g t)) (eg_if (et_B (K := K) (b := deadF p.x.L p.x.shut p.x.anew g t) (eg_meth (p.x, g, t) (eg_sl (eg_var rfl) T.c_Purse T.sl_Purse_links rfl) (ea_cons (eg_var rfl) (ea_cons (eg_var rfl) ea_nil)) rfl ⟨hx, hg, ht⟩)) (fun h => EvG.to (eg_sl (eg_var rfl) T.c_Purse T.sl_Purse_dead rfl) ?_) fun h => EvG.to (eg_int (K := K)) ?_) rfl
  · show Is K p.dues.1 = Is K (if deadF p.x.L p.x.shut p.x.anew g t = true then p.dues.1 else 0)
    rw [h, if_pos rfl]
  · show Is K (0 : Int) = Is K (if deadF p.x.L p.x.shut p.x.anew g t = true then p.dues.1 else 0)
    rw [h, if_neg (by decide)]
/-- what ways() gives -/
def WaysP (K : PySem.W.Frag) (E : Net) (M : Mt) (k : Nat) : SP := ⟨fun v H => ∃ d kvs F, v = .ref d ∧ H d = some (.dK kvs) ∧ FnRep K kvs F H ∧ ∃ u v' X, Cx E M k u v' X ∧ Fk E M k u X F ∧ Closed E M F, fun e ⟨d, kvs, F, h1, h2, h3, h4⟩ => ⟨d, kvs, F, h1, e _ _ h2, h3.mono e, h4⟩⟩
structure PurOk (p : PuD) (k : Nat) : Prop where
  x : LkOk p.x
  d : DuOk' p.dues
  lt : k < p.x.L.length
  m : MOk p.E k p.M
  o : Opt p.E k p.M
abbrev gO (K : PySem.W.Frag) (p : PuD) (k : Nat) (d : Addr) (more : Bool) : Gm := [some (IsPu K p), some (Is K k), some (Eq1 (.ref d)), some (Eq1 (.bl more)), none, none, none, none, none, none]
abbrev gI (K : PySem.W.Frag) (p : PuD) (k : Nat) (d : Addr) (more : Bool) (one : Nat) (cost : Int) (w : Addr) : Gm := [some (IsPu K p), some (Is K k), some (Eq1 (.ref d)), some (Eq1 (.bl more)), some (Is K one), none, some (Is K cost), some (Eq1 (.ref w)), none, none]
theorem ok_Purse_ways (T : Tx K mg) : FnR prog w K mg base CX0 4 (He.ma K (He.ga K "Purse") "ways") (spPF (fun g : PuD × Nat => PurOk g.1 g.2) (fun g => [IsPu K g.1, Is K g.2]) (fun g => WaysP K g.1.E g.1.M g.2)) := by
  obtain ⟨fdO, FO⟩ := T.d_Purse_ways
  refine fn_any FO sc_Purse_ways (fun _ _ _ _ _ _ us hl => match us, hl with | [_, _], _ => rfl) ?_ fun cdv A outer s H vs Q E hr hsp => ⟨_, PSs.nox (pss_cons (ps_par (i := 2) (j := 3) rfl sc_Purse_ways.nd rfl rfl (by decide) rfl rfl (pa_cons (pe_disp (pps_cons (pv 1) (pe_tup (pa_cons pe_int (pa_cons (pe_tupF pa_nil) pa_nil))) pps_nil) (by rfl) (by rfl) (fun z => by cases z) (by decide)) (pa_cons pe_bl pa_nil)) (by rfl))
    (pss_cons (ps_while PassesOwn.never (pt_val (pv 3)) (pss_cons (ps_set (i := 3) sc_Purse_ways.nd rfl (Or.inl rfl) pe_bl)
    (pss_one (ps_for PassesOwn.never rfl (pi_listK (K := K) (LiI.pe_listItems rfl (pv 2) (by rfl) T.f_list (by decide +kernel))) (pg_tupK (K := K) (n := 2) rfl (pgs_cons (pg_name (i := 4) sc_Purse_ways.nd rfl (Or.inl rfl)) (pgs_cons (pg_tupK (K := K) (n := 2) rfl (pgs_cons (pg_name (i := 6) sc_Purse_ways.nd rfl (Or.inl rfl)) (pgs_cons (pg_name (i := 7) sc_Purse_ways.nd rfl (Or.inl rfl)) pgs_nil))) pgs_nil))) (pss_one (ps_for PassesOwn.never rfl (pi_listK (K := K) (SlX.pe_methSl (E := E0) (pe_slK (K := K) (pv 0)) T.c_Links T.m_Links_givers (ok_Links_givers T) (hr.mono (by first | decide | exact Nat.le_refl _)) pass0 (pa_cons (pv 4) pa_nil))) (pg_name (i := 5) sc_Purse_ways.nd rfl (Or.inl rfl)) (pss_cons (ps_set (i := 8) sc_Purse_ways.nd rfl (Or.inl rfl) (pe_dget2 (hu_of hr) (pe_slK (K := K) (pv 0)) (pv 5) (pv 4) ⟨rfl, rfl, rfl, rfl⟩))
    (pss_cons (ps_set (i := 9) sc_Purse_ways.nd rfl (Or.inl rfl) (pe_op op_sub (pe_op op_add (pv 6) (SlX.pe_methSl (E := E0) (pv 0) T.c_Purse T.m_Purse_fee (ok_Purse_fee T) (hr.mono (by first | decide | exact Nat.le_refl _)) pass0 (pa_cons (pv 5) (pa_cons (pv 4) pa_nil)))) (SlX.pe_methSl (E := E0) (pv 0) T.c_Purse T.m_Purse_fee (ok_Purse_fee T) (hr.mono (by first | decide | exact Nat.le_refl _)) pass0 (pa_cons (pv 5) (pa_cons (pv 8) pa_nil)))))
    (pss_one (ps_if (PW.pt (pw_and (pt_cmpR op_ne (pv 8) (pv 4) (nomark _)) (pw_and1 (PW.pt (pw_or (pt_cmp (pc_dnotin (hu_of hr) (pv 8) (pv 2))) (pw_or1 (pt_cmpR op_lt (pv 9) (pe_ix (ix_tupK (K := K)) (pe_dget (hu_of hr) (pv 2) (pv 8) (fun _ _ => rfl)) pe_int (fun _ _ => rfl)) (nomark _)))))))) (pss_cons (ps_dput (hu_of hr) (pv 2) (pv 8) (pe_tup (pa_cons (pv 9) (pa_cons (pe_tupF (StX.pa_star (pv 7) (pa_cons (pe_tup (pa_cons (pv 5) (pa_cons (pv 4) pa_nil))) pa_nil))) pa_nil))) (by rfl))
    (pss_one (ps_set (i := 3) sc_Purse_ways.nd rfl (Or.inl rfl) pe_bl))) (pss_nil)))))))))))
    (pss_one (ps_ret (pv 2))))), ?_⟩
  · rintro vs H Q E ⟨g, hx, ha, hq⟩
    exact ha.len
  obtain ⟨⟨p, k⟩, hp, ha, hq⟩ := hsp
  have hp : PurOk p k := hp
  have hq : ∀ v H2, Ex H H2 → (WaysP K p.E p.M k).p v H2 → (∀ a, v = .ref a → H a = none) → Q v H2 := hq
  have s0 : Sat (startG n_Purse_ways [IsPu K p, Is K k]) (start n_Purse_ways vs) H := sat_start (N := n_Purse_ways) ha
  generalize start n_Purse_ways vs = σ0 at s0
  obtain ⟨u, v, hf, hd⟩ := hp.o
  have hE : NetOk p.E := net_ok hp.d.1 hp.d.2.2.1
  have cx : Cx p.E p.M k u v p.dues.1 := ⟨hE, hp.m, hf, slack hE hp.m hf hd, net_x hp.d.1⟩
  refine h_seq (ent_start (K := K) (i := 1) (k := k) (by
    obtain ⟨v, h1, h2⟩ := s0.at' 1 (Is K k) rfl
    obtain rfl : v = .int (k : Int) := h2
    exact h1) fun d kvs0 H1 e1 nd hd1 rep1 => ?_)
  have s1 : Sat (gO K p k d true) ((σ0.set 2 (some (.ref d))).set 3 (some (.bl true))) H := (s0.set (i := 2) (P := Eq1 (.ref d)) rfl).set (i := 3) (P := Eq1 (.bl true)) rfl
  generalize (σ0.set 2 (some (.ref d))).set 3 (some (.bl true)) = σ1 at s1
  refine h_seq ?_
  refine ⟨fun m σ' H' => ∃ F more kvs, m = 2 * mu p.E k p.dues.1 F + (if more = true then 1 else 0) ∧ Sat (gO K p k d more) σ' H ∧ Ex H H' ∧ H' d = some (.dK kvs) ∧ FnRep K kvs F H' ∧ Fk p.E p.M k u p.dues.1 F ∧ (more = false → Closed p.E p.M F), ⟨_, [(k, 0, [])], true, kvs0, rfl, s1, e1, hd1, rep1, fk_start cx, fun z => nomatch z⟩, ?_⟩
  rintro m σ H2 ⟨F, more, kvs, rfl, s, e, hdk, rep, fk, hcl⟩
  refine ⟨_, s.eq1 (i := 3) rfl, more, rfl, ?_⟩
  cases more with
  | false =>
    show tRet (tVar 2) _ σ H2
    exact h_ret (eg_var (i := 2) (P := Eq1 (.ref d)) rfl) (s.mono e) fun v H3 e3 hv => hq v H3 (e.trans e3) ⟨d, kvs, F, hv, e3 _ _ hdk, rep.mono e3, u, _, p.dues.1, cx, fk, hcl rfl⟩ fun a ea => by
      rw [show v = .ref d from hv] at ea
      injection ea with ea
      rw [← ea]
      exact nd
  | true =>
    refine ⟨fun σ' H' => ∃ F' more kvs, 2 * mu p.E k p.dues.1 F' + (if more = true then 1 else 0) < 2 * mu p.E k p.dues.1 F + 1 ∧ Sat (gO K p k d more) σ' H ∧ Ex H H' ∧ H' d = some (.dK kvs) ∧ FnRep K kvs F' H' ∧ Fk p.E p.M k u p.dues.1 F' ∧ (more = false → Closed p.E p.M F'), fun σ' H' ⟨F', more, kvs, h1, h2⟩ => ⟨_, h1, F', more, kvs, rfl, h2⟩, ?_⟩
    refine h_asg (P := Eq1 (.bl false)) eg_c (s.mono e) fun v H3 e3 hv => ?_
    obtain rfl : v = .bl false := hv
    have s2 : Sat (gO K p k d false) (σ.set 3 (some (.bl false))) H := s.set (i := 3) (P := Eq1 (.bl false)) rfl
    generalize σ.set 3 (some (.bl false)) = σ2 at s2
    have e4 := e.trans e3
    have hd3 := e3 _ _ hdk
    have rep3 := rep.mono e3
    refine ⟨_, s2.eq1 (i := 2) rfl, d, kvs, rfl, hd3, fun H4 pl ts e5 np nts npts hpl hts => ⟨pl, rfl, ⟨_, .inl (.inl hpl)⟩, ?_⟩⟩
    have e6 : Ex H H4 := e4.trans e5
    have hd4 := e5 _ _ hd3
    have rep4 : FnRep K kvs F H4 := rep3.mono e5
    have len1 : ts.length = kvs.length := Paired.length hts
    have len2 : kvs.length = F.length := Paired.length rep4
    refine for_list (xs := ts.map V.ref) (fun i σ' H' => ∃ F' more kvs', Sat (gO K p k d more) σ' H ∧ Exb d H4 H' ∧ Ex H H' ∧ H' d = some (.dK kvs') ∧ FnRep K kvs' F' H' ∧ Fk p.E p.M k u p.dues.1 F' ∧ Imp F F' ∧ (more = true → mu p.E k p.dues.1 F' < mu p.E k p.dues.1 F) ∧ (more = false → F' = F ∧ ∀ e, e ∈ F.take i → ∀ g, g ∈ p.E.giv e.1 → ClG p.E p.M F e g))
      ⟨F, false, kvs, s2, .refl _, e6, hd4, rep4, fk, .refl F, (fun z => nomatch z), fun _ => ⟨rfl, fun e he => by simp at he⟩⟩
      (fun i σ' H' _ ⟨_, _, _, _, h, _⟩ => exb_l h hd4 (.inl (.inl hpl))) (fun i x σ' H' hx ⟨F', more, kvs', sO, x1, x2, x3, x4, x5, x6, x7, x8⟩ => ?_) fun σ' H' ⟨F', more, kvs', sO, x1, x2, x3, x4, x5, x6, x7, x8⟩ => ?_
    · rw [List.getElem?_map] at hx
      obtain ⟨t, ht, rfl⟩ := Option.map_eq_some_iff.mp hx
      obtain ⟨q, hq1, hq2⟩ := LiI.paired_get hts ht
      obtain ⟨e, he1, hk1, a, w, ps, hv1, ha1, hw1, hp1⟩ := LiI.paired_get rep4 hq1
      have he : e ∈ F := List.mem_of_getElem? he1
      rw [hk1, hv1] at hq2
      have hek : e.1 ≤ k := (fk.way e he).le hp.m
      have hen : e.1 < p.x.L.length := Nat.lt_of_le_of_lt hek hp.lt
      refine ⟨t, _, rfl, exb_t x1 hd4 (.inl (.inl hq2)), rfl, _, _, rfl, _, _, rfl, a, _, rfl, exb_t x1 hd4 ha1, rfl, _, _, rfl, _, _, rfl, rfl, rfl, ?_⟩
      have sI : Sat (gI K p k d more e.1 e.2.1 w) (((σ'.set 4 (some (.int (e.1 : Int)))).set 6 (some (.int e.2.1))).set 7 (some (.ref w))) H := ((sO.set (i := 4) (P := Is K e.1) rfl).set (i := 6) (P := Is K e.2.1) rfl).set (i := 7) (P := Eq1 (.ref w)) rfl
      show tFor _ _ _ _ (((σ'.set 4 (some (.int (e.1 : Int)))).set 6 (some (.int e.2.1))).set 7 (some (.ref w))) H'
      generalize ((σ'.set 4 (some (.int (e.1 : Int)))).set 6 (some (.int e.2.1))).set 7 (some (.ref w)) = σ4 at sI
      refine h_forLs (Ps := (givF p.x.L p.x.keep e.1).map (Is K)) (eg_meth (p.x, e.1) (eg_sl (eg_var rfl) T.c_Purse T.sl_Purse_links rfl) (ea_cons (eg_var rfl) ea_nil) rfl ⟨hp.x, hen⟩) (sI.mono x2) fun al vs5 H5 e7 hl5 al5 => ?_
      have hvs5 := all_nats al5
      subst hvs5
      have hd5 := e7 _ _ x3
      refine ⟨fun j σ' H' => ∃ F' more kvs', Sat (gI K p k d more e.1 e.2.1 w) σ' H ∧ Exb d H4 H' ∧ Exb d H5 H' ∧ Ex H H' ∧ H' d = some (.dK kvs') ∧ FnRep K kvs' F' H' ∧ Fk p.E p.M k u p.dues.1 F' ∧ Imp F F' ∧ (more = true → mu p.E k p.dues.1 F' < mu p.E k p.dues.1 F) ∧ (more = false → F' = F ∧ (∀ e, e ∈ F.take i → ∀ g, g ∈ p.E.giv e.1 → ClG p.E p.M F e g) ∧ ∀ g, g ∈ (givF p.x.L p.x.keep e.1).take j → ClG p.E p.M F e g),
        ⟨F', more, kvs', sI, x1.trans (exb_ex e7), .refl _, x2.trans e7, hd5, x4.mono e7, x5, x6, x7, fun hm => ⟨(x8 hm).1, (x8 hm).2, fun g hg => by simp at hg⟩⟩, fun j σ' H' ⟨_, _, _, _, _, h, _⟩ => exb_l h hd5 hl5, fun j x σ' H' D' hx ⟨F', more, kvs', sI, x1, y1, x2, x3, x4, x5, x6, x7, x8⟩ hn _ => ?_, fun σ' H' ⟨F', more, kvs', sI, x1, y1, x2, x3, x4, x5, x6, x7, x8⟩ => ?_⟩
      · rw [List.getElem?_map] at hx
        obtain ⟨g, hgx, rfl⟩ := Option.map_eq_some_iff.mp hx
        have hg : g ∈ givF p.x.L p.x.keep e.1 := List.mem_of_getElem? hgx
        have hgn : g < p.x.L.length := giv_lt hg
        have hon : getM p.M g e.1 < p.x.L.length := by
          rcases getM_or (M := p.M) (g := g) (z := e.1) with h | h
          · exact Nat.lt_trans (hp.m.mem _ h).2 hp.lt
          · rw [h]; exact hen
        have s5 := sI.set (i := 5) (P := Is K g) (v := .int (g : Int)) rfl
        refine h_asg (eg_get2 (M := p.M) (g := g) (z := e.1) (eg_sl (eg_var rfl) T.c_Purse T.sl_Purse_taken rfl) (eg_var rfl) (eg_var rfl)) (s5.mono x2) fun v6 H6 e8 hv6 => ?_
        obtain rfl : v6 = .int ((getM p.M g e.1 : Nat) : Int) := hv6
        generalize hoth : getM p.M g e.1 = other at *
        have s6 := s5.set (i := 8) (P := Is K other) (v := .int (other : Int)) rfl
        refine h_asg (P := Is K (e.2.1 + p.E.c g e.1 - p.E.c g other)) (eg_opI0 (f := fun i j => i - j) (eg_opI0 (f := fun i j => i + j) (eg_var rfl) (eg_meth (p, g, e.1) (eg_var rfl) (ea_cons (eg_var rfl) (ea_cons (eg_var rfl) ea_nil)) rfl ⟨hp.x, hgn, hen⟩)) (eg_meth (p, g, other) (eg_var rfl) (ea_cons (eg_var rfl) (ea_cons (eg_var rfl) ea_nil)) rfl ⟨hp.x, hgn, hon⟩)) (s6.mono (x2.trans e8)) fun v7 H7 e9 hv7 => ?_
        obtain rfl : v7 = .int (e.2.1 + p.E.c g e.1 - p.E.c g other) := hv7
        have s7 := s6.set (i := 9) (P := Is K (e.2.1 + p.E.c g e.1 - p.E.c g other)) (v := .int (e.2.1 + p.E.c g e.1 - p.E.c g other)) rfl
        have e10 := e8.trans e9
        have hd7 := e10 _ _ x3
        have rep7 := x4.mono e10
        have ex7 := x2.trans e10
        have s8 := (s7.mono ex7).know (i := 2) (P := FdA K d kvs' F') (s7.eq1 (i := 2) rfl) ⟨rfl, hd7, rep7⟩
        have sE : ∀ o5 o8 o9, Sat (gI K p k d more e.1 e.2.1 w) (((σ'.set 5 o5).set 8 o8).set 9 o9) H := fun o5 o8 o9 => ((sI.none (i := 5)).none (i := 8)).none (i := 9)
        have hsn : Sn p.E p.M k u p.dues.1 F' e := (fk.sn he).imp cx x6
        refine h_if (b := (!decide ((other : Int) = (e.1 : Int))) && ((fd F' other).isNone || decide (e.2.1 + p.E.c g e.1 - p.E.c g other < costD F' other))) (et_and (et_test (eg_neI (K := K) (eg_var rfl) (eg_var rfl))) fun _ => et_or (et_B (eg_notinF (d := d) (eg_var rfl) rfl)) fun h2 => et_test (eg_cmpI (K := K) (f := fun i j => decide (i < j)) (eg_var rfl) (eg_costF' (eg_var rfl) rfl h2))) s8 (fun hb H8 e11 => ?_) fun hb H8 e11 => ?_
        · obtain ⟨hb1, hb2⟩ := Bool.and_eq_true_iff.mp hb
          have hne : other ≠ e.1 := fun z => by
            rw [z] at hb1
            simp at hb1
          have hm : (g, other) ∈ p.M := by
            rcases getM_or (M := p.M) (g := g) (z := e.1) with h | h
            · rw [hoth] at h; exact h
            · exact absurd (hoth.symm.trans h) hne
          have hup : ∀ e', e' ∈ F' → e'.1 = other → e.2.1 + p.E.c g e.1 - p.E.c g other < e'.2.1 := fun e' he' hk' => by
            have hf : fd F' other = some e'.2 := (fd_some x5.nd).mpr (by rw [← hk']; exact he')
            have hc : costD F' other = e'.2.1 := by unfold costD; rw [hf]; rfl
            rw [hf, hc] at hb2
            simpa using hb2
          obtain ⟨st1, st2, st3⟩ := x5.step cx hsn hg hm hne hup
          have hps : ps.length ≤ 100000 := by
            have h1 : ps.length = e.2.2.length := Paired.length hp1
            have h2 := (fk.way e he).alen hp.m
            have := hp.x.1
            have := hp.lt
            omega
          refine h_seq ?_
          have x1' : Exb d H4 H8 := x1.trans (exb_ex (e10.trans e11))
          refine ent_new (K := K) (s7.eq1 (i := 9) rfl) (s7.eq1 (i := 7) rfl) (s7.eq1 (i := 5) rfl) (s7.eq1 (i := 4) rfl) (exb_fz x1' hd4 hw1) (Paired.mapP hp1 fun _ _ z => exb_t x1' hd4 z) hps fun v9 H9 e12 hent => ?_
          have hd9 := e12 _ _ (e11 _ _ hd7)
          have hlen : kvs'.length < sizeLine := by
            have h1 : kvs'.length = F'.length := Paired.length x4
            have h2 := x5.le cx
            have := hp.x.1
            have := hp.lt
            exact Evl.sz_lt (by omega)
          refine ⟨_, s7.eq1 (i := 2) rfl, _, s7.eq1 (i := 8) rfl, d, _, rfl, DPut.k (k := .inl (other : Int)) hd9 hlen, ?_⟩
          refine hn _ _ ⟨_, true, _, ((sE _ _ _).set (i := 3) (P := Eq1 (.bl true)) rfl), (x1'.trans (exb_ex e12)).trans exb_upd, (y1.trans (exb_ex ((e10.trans e11).trans e12))).trans exb_upd, ?_, upd_same, ((rep_put ((rep7.mono e11).mono e12) other hent).exb exb_upd hd9), st1, x6.trans st2, fun _ => ?_, fun z => nomatch z⟩
          · exact Ex.mut ((ex7.trans e11).trans e12) nd
          · cases more with
            | true => exact Nat.lt_trans st3 (x7 rfl)
            | false => rw [(x8 rfl).1] at st3 ⊢; exact st3
        · refine h_next (hn _ _ ⟨F', more, kvs', sE _ _ _, x1.trans (exb_ex (e10.trans e11)), y1.trans (exb_ex (e10.trans e11)), ex7.trans e11, e11 _ _ hd7, rep7.mono e11, x5, x6, x7, fun hm => ⟨(x8 hm).1, (x8 hm).2.1, fun g' hg' => ?_⟩⟩)
          rcases mem_take_succ hgx hg' with h | h
          · exact (x8 hm).2.2 g' h
          · subst h
            intro o ho hne
            have := getM_of (z := e.1) hp.m.gk ho
            rw [hoth] at this
            subst this
            have hFF := (x8 hm).1
            rw [hFF] at hb
            have h1 : (!decide ((other : Int) = (e.1 : Int))) = true := by
              rw [decide_eq_false fun z => hne (Int.ofNat_inj.mp z)]
              rfl
            rw [h1, Bool.true_and] at hb
            obtain ⟨hb1, hb2⟩ := Bool.or_eq_false_iff.mp hb
            cases hf : fd F other with
            | none => rw [hf] at hb1; cases hb1
            | some y =>
              have hc : costD F other = y.1 := by unfold costD; rw [hf]; rfl
              rw [hc] at hb2
              have := of_decide_eq_false hb2
              exact ⟨(other, y), (fd_some fk.nd).mp hf, rfl, by show y.1 ≤ _; omega⟩
      · rw [List.length_map] at x8
        refine ⟨F', more, kvs', sI.less (by repeat first | exact lq_nil | apply lq_none | apply lq_cons), x1, x2, x3, x4, x5, x6, x7, fun hm => ⟨(x8 hm).1, fun e0 he0 g hg => ?_⟩⟩
        rcases mem_take_succ he1 he0 with h | h
        · exact (x8 hm).2.1 e0 h g hg
        · subst h
          exact (x8 hm).2.2 g (by rw [List.take_length]; exact hg)
    · refine ⟨F', more, kvs', ?_, sO, x2, x3, x4, x5, fun hm e he g hg other ho hne => ?_⟩
      · cases more with
        | true =>
          have := x7 rfl
          simp only [if_true]
          omega
        | false =>
          rw [(x8 rfl).1]
          simp
      · have h8 := x8 hm
        rw [List.length_map, len1, len2, List.take_length] at h8
        rw [h8.1] at he ⊢
        exact h8.2 e he g hg other ho hne
end
end Lp

/-! part LpPlace -/
set_option Elab.async false
set_option linter.all false
set_option maxRecDepth 100000

namespace Lp
open PySem PySem.Spec PyProof.Rows L2
open Evl (Ex ex_l ex_t ex_rd fresh_back)
section
variable {prog : Program} {w : World} {K : PySem.W.Frag} {mg : Str → Option Value} {base : Heap}
theorem ok_Links_giversF (T : Tx K mg) : FnR prog w K mg base CX0 3 (He.ma K (He.ga K "Links") "givers") (spPF (fun g : LkD × Nat => LkOk g.1 ∧ g.2 < g.1.L.length) (fun g => [IsLk K g.1, Is K g.2]) (fun g => Is K (givF g.1.L g.1.keep g.2))) := by
  obtain ⟨fdO, FO⟩ := T.d_Links_givers
  refine fn_any FO sc_Links_givers (fun _ _ _ _ _ _ us hl => match us, hl with | [_, _], _ => rfl) ?_ fun cdv A outer s H vs Q E hr hsp => ⟨_, PSs.nox (pss_one (ps_ret (pe_lc (own := [("giver", 2)]) (g := gName 2) (tt := _) rfl sc_Links_givers.nd (pi_own (E := E0) T.m_Links_iter.at_ T.m_Links_iter.fn (ok_Links_iter T) (hr.mono (by first | decide | exact Nat.le_refl _)) pass0 (pv 0)) (blkOk_by (own := [("giver", 2)]) (N := n_Links_givers) (sc := defScope s_Links_givers) (by decide +kernel)) (fun _ _ _ _ _ => (pg_name (i := 2) sc_Links_givers.nd rfl (by first | exact Or.inl rfl | exact Or.inr rfl))) (fun _ _ _ _ _ => pts_one (pt_val (SlX.pe_methSl (E := E0) (pv 0) T.c_Links T.m_Links_can_follow (ok_Links_can_follow T) (hr.mono (by first | decide | exact Nat.le_refl _)) pass0 (pa_cons (pv 2) (pa_cons (pv 1) pa_nil))))) (fun _ _ _ _ _ => (pv 2))))), ?_⟩
  · rintro vs H Q E ⟨g, _, ha, _⟩
    exact ha.len
  obtain ⟨⟨x, t⟩, ⟨hx, ht⟩, ha, hq⟩ := hsp
  have s0 : Sat (startG n_Links_givers [IsLk K x, Is K t]) (start n_Links_givers vs) H := sat_start (N := n_Links_givers) ha
  have hq : ∀ v H2, Ex H H2 → (LsP K (((List.range x.L.length).filter fun g => canF x.L x.keep g t).map fun g => Is K g)).p v H2 → (∀ a, v = .ref a → H a = none) → Q v H2 := hq
  exact eg_lcF (K := K) (xs := List.range x.L.length) (F := Is K) (f := fun g => canF x.L x.keep g t) (Rf := fun g => Is K g) (ew_own (eg_var rfl) rfl) (fun g => RepT.rt g) (fun b hb => tg_name) (fun b hb => et_B (K := K) (eg_meth (x, b, t) (eg_var rfl) (ea_cons (eg_var rfl) (ea_cons (eg_var rfl) ea_nil)) rfl ⟨hx, List.mem_range.mp hb, ht⟩)) (fun b hb _ => eg_var rfl) (by rw [List.length_range]; exact Nat.le_trans hx.1 (by decide)) _ H _ s0 fun v H2 e p fr => hq v H2 e p fr
/-- self.place(k): the dict of the taken at d changes, all else stands -/
def spPlace (K : PySem.W.Frag) : Sp := fun vs H Q _ => ∃ (p : PuD) (k : Nat) (a dx d : Addr), vs = [.ref a, .int (k : Int)] ∧ PurOk p k ∧ ObA H a (He.ga K "Purse") dx [some (Is K p.dues.1), some (IsLk K p.x), some (Is K p.dues.2), some (Eq1 (.ref d))] ∧ H d = some (.dK (dkN p.M)) ∧
  ∀ H' M', Exb d H H' → H' d = some (.dK (dkN M')) → MOk p.E (k + 1) M' → Opt p.E (k + 1) M' → Q .non H'
theorem pu_of {H : Hp} {p : PuD} {a dx d : Addr} (h : ObA H a (He.ga K "Purse") dx [some (Is K p.dues.1), some (IsLk K p.x), some (Is K p.dues.2), some (Eq1 (.ref d))]) (hd : H d = some (.dK (dkN p.M))) : (IsPu K p).p (.ref a) H := by
  obtain ⟨vs, h1, h2⟩ := h
  refine ⟨a, dx, rfl, vs, h1, fun i P hP => ?_⟩
  match i, hP with
  | 0, hP => exact h2 0 P hP
  | 1, hP => exact h2 1 P hP
  | 2, hP => exact h2 2 P hP
  | 3, hP =>
    obtain ⟨w, hw, hp⟩ := h2 3 _ rfl
    obtain rfl : w = .ref d := hp
    injection hP with hP
    injection hP with hP
    subst hP
    exact ⟨_, hw, d, rfl, .inl hd⟩
  | _ + 4, hP => simp at hP
abbrev gP (K : PySem.W.Frag) (p : PuD) (k : Nat) (sl : Addr) : Gm := [some (IsPu K p), some (Is K k), some (Eq1 (.ref sl)), none, none, none, none]
abbrev gQ (K : PySem.W.Frag) (p : PuD) (k : Nat) (sl : Addr) (one : Nat) (cost : Int) (w : Addr) : Gm := [some (IsPu K p), some (Is K k), some (Eq1 (.ref sl)), some (Is K one), none, some (Is K cost), some (Eq1 (.ref w))]
def So (E : Net) (M : Mt) (F : Fn) (x : Int × Mt) : Prop := ∃ e, e ∈ F ∧ (x = (e.2.1 + E.N, e.2.2) ∨ ∃ g, g ∈ E.giv e.1 ∧ g ∉ M.map Prod.fst ∧ x = (e.2.1 + E.c g e.1, e.2.2 ++ [(g, e.1)]))
def PrA (E : Net) (S : List (Int × Mt)) (e : Nat × Int × Mt) : Prop := ∃ x, x ∈ S ∧ x.1 = e.2.1 + E.N
def PrB (E : Net) (M : Mt) (S : List (Int × Mt)) (e : Nat × Int × Mt) (g : Nat) : Prop := g ∉ M.map Prod.fst → ∃ x, x ∈ S ∧ x.1 = e.2.1 + E.c g e.1
theorem PrA.app {E : Net} {S : List (Int × Mt)} {e : Nat × Int × Mt} {y : Int × Mt} (h : PrA E S e) : PrA E (S ++ [y]) e := by
  obtain ⟨x, h1, h2⟩ := h
  exact ⟨x, List.mem_append_left _ h1, h2⟩
theorem PrB.app {E : Net} {M : Mt} {S : List (Int × Mt)} {e : Nat × Int × Mt} {g : Nat} {y : Int × Mt} (h : PrB E M S e g) : PrB E M (S ++ [y]) e g := fun hg => by
  obtain ⟨x, h1, h2⟩ := h hg
  exact ⟨x, List.mem_append_left _ h1, h2⟩
theorem ok_Purse_place (T : Tx K mg) : FnR prog w K mg base CX0 5 (He.ma K (He.ga K "Purse") "place") (spPlace K) := by
  obtain ⟨fdO, FO⟩ := T.d_Purse_place
  refine fn_any FO sc_Purse_place (fun _ _ _ _ _ _ us hl => match us, hl with | [_, _], _ => rfl) ?_ fun cdv A outer s H vs Q E hr hsp => ⟨_, PSs.nox (pss_cons (ps_set (i := 2) sc_Purse_place.nd rfl (Or.inl rfl) (pe_lst pa_nil))
    (pss_cons (ps_for PassesOwn.never rfl (pi_itemsN (SlX.pe_methSl (E := E0) (pv 0) T.c_Purse T.m_Purse_ways (ok_Purse_ways T) (hr.mono (by first | decide | exact Nat.le_refl _)) pass0 (pa_cons (pv 1) pa_nil))) (pg_tupK (K := K) (n := 2) rfl (pgs_cons (pg_name (i := 3) sc_Purse_place.nd rfl (Or.inl rfl)) (pgs_cons (pg_tupK (K := K) (n := 2) rfl (pgs_cons (pg_name (i := 5) sc_Purse_place.nd rfl (Or.inl rfl)) (pgs_cons (pg_name (i := 6) sc_Purse_place.nd rfl (Or.inl rfl)) pgs_nil))) pgs_nil))) (pss_cons (ps_expr (pe_bm PySem.F.plainAttrs_list PySem.F.slot_list_append PySem.F.type_list_append mt_append (pv 2) (pa_cons (pe_tup (pa_cons (pe_op op_add (pv 5) (pe_slK (K := K) (pv 0))) (pa_cons (pv 6) pa_nil))) pa_nil)))
    (pss_one (ps_for PassesOwn.never rfl (pi_listK (K := K) (SlX.pe_methSl (E := E0) (pe_slK (K := K) (pv 0)) T.c_Links T.m_Links_givers (ok_Links_giversF T) (hr.mono (by first | decide | exact Nat.le_refl _)) pass0 (pa_cons (pv 3) pa_nil))) (pg_name (i := 4) sc_Purse_place.nd rfl (Or.inl rfl)) (pss_one (ps_if (pt_cmp (pc_dnotin (hu_of hr) (pv 4) (pe_slK (K := K) (pv 0)))) (pss_one (ps_expr (pe_bm PySem.F.plainAttrs_list PySem.F.slot_list_append PySem.F.type_list_append mt_append (pv 2) (pa_cons (pe_tup (pa_cons (pe_op op_add (pv 5) (SlX.pe_methSl (E := E0) (pv 0) T.c_Purse T.m_Purse_fee (ok_Purse_fee T) (hr.mono (by first | decide | exact Nat.le_refl _)) pass0 (pa_cons (pv 4) (pa_cons (pv 3) pa_nil)))) (pa_cons (pe_tupF (StX.pa_star (pv 6) (pa_cons (pe_tup (pa_cons (pv 4) (pa_cons (pv 3) pa_nil))) pa_nil))) pa_nil))) pa_nil)))) (pss_nil)))))))
    (pss_one (ps_expr (pe_bm PySem.F.plainAttrs_dict PySem.F.slot_dict_update PySem.F.type_dict_update (mt_updT rfl) (pe_slK (K := K) (pv 0)) (pa_cons (pe_ix (ix_tupK (K := K)) (pe_callB (cr_minD (α := MinTyW) rfl (units_le hr)) (by rfl) T.f_min (by decide +kernel) (pa_cons (pv 2) pa_nil)) pe_int (fun _ _ => rfl)) pa_nil)))))), ?_⟩
  · rintro vs H Q E ⟨p, k, a, dx, d, rfl, _⟩
    rfl
  obtain ⟨p, k, a, dx, dT, rfl, hp, hob, hdT, hq⟩ := hsp
  have s0 : Sat (startG n_Purse_place [IsPu K p, Is K k]) (start n_Purse_place [.ref a, .int (k : Int)]) H := sat_start (N := n_Purse_place) (.cons (pu_of hob hdT) (.cons rfl .nil))
  have ha0 : (start n_Purse_place [.ref a, .int (k : Int)])[0]? = some (some (.ref a)) := rfl
  generalize start n_Purse_place [.ref a, .int (k : Int)] = σ0 at s0 ha0
  refine h_newL fun sl hsl => ?_
  have s1 : Sat (gP K p k sl) (σ0.set 2 (some (.ref sl))) H := s0.set (i := 2) (P := Eq1 (.ref sl)) rfl
  have ha1 : (σ0.set 2 (some (.ref sl)))[0]? = some (some (.ref a)) := by rw [List.getElem?_set_ne (by decide)]; exact ha0
  generalize σ0.set 2 (some (.ref sl)) = σ1 at s1 ha1
  have e0 : Ex H (upd H sl (.lst [])) := Evl.Ex.new hsl
  refine h_seq ?_
  unfold tFor
  refine (eg_methF (E := E0) (p, k) (eg_var (Γ := gP K p k sl) (P := IsPu K p) (i := 0) rfl) (ea_cons (eg_var (P := Is K k) (i := 1) rfl) ea_nil) rfl hp : EvGF _ _ (WaysP K p.E p.M k)) σ1 _ _ (s1.mono e0) fun v H3 e3 ⟨d, kvs, F, hv, hd3, rep3, u, v', X, cx, fk, hcl⟩ fr => ?_
  refine ⟨d, kvs, hv, hd3, fun o => ?_⟩
  have e03 := e0.trans e3
  have hsl3 : H3 sl = some (.lst []) := e3 _ _ upd_same
  have hdn : (upd H sl (.lst [])) d = none := fr d hv
  have hdn0 : H d = none := fresh_back e0 hdn
  have hne : sl ≠ d := fun z => by rw [← z, upd_same] at hdn; cases hdn
  have lk : Exb d H3 (upd H3 d (.frz o (.dK kvs))) := exb_upd
  have rep4 : FnRep K kvs F (upd H3 d (.frz o (.dK kvs))) := rep3.nt lk hd3 rfl
  have ex4 : Ex H (upd H3 d (.frz o (.dK kvs))) := Ex.mut e03 hdn0
  have hsl4 : (upd H3 d (.frz o (.dK kvs))) sl = some (.lst []) := by rw [upd_ne hne]; exact hsl3
  have hd4 : (upd H3 d (.frz o (.dK kvs))) d = some (.frz o (.dK kvs)) := upd_same
  generalize upd H3 d (.frz o (.dK kvs)) = H4 at rep4 ex4 hsl4 hd4
  have lenF : kvs.length = F.length := Paired.length rep4
  have leF : F.length ≤ k + 1 := fk.le cx
  have hk1 := hp.lt
  have hn1 := hp.x.1
  refine for_it walk_items (fun i σ' H' => ∃ S vsS, Sat (gP K p k sl) σ' H ∧ σ'[0]? = some (some (.ref a)) ∧ Ex H H' ∧ Exb sl H4 H' ∧ H' sl = some (.lst vsS) ∧ Paired (fun v x => EntP K x v H') vsS S ∧ S.length ≤ i * (p.x.L.length + 1) ∧ (∀ x, x ∈ S → So p.E p.M F x) ∧ ∀ e, e ∈ F.take i → PrA p.E S e ∧ ∀ g, g ∈ p.E.giv e.1 → PrB p.E p.M S e g)
    ⟨[], [], s1, ha1, ex4, .refl _, hsl4, .nil, Nat.zero_le _, (fun x hx => by cases hx), fun e he => by simp at he⟩ (fun i σ' H' _ ⟨_, _, _, _, _, h, _⟩ => h _ _ (Ne.symm hne) hd4) (fun i x σ' Ha Hb hi ⟨S, vsS, sO, y0, y1, y2, y3, y4, y5, y6, y7⟩ ⟨Tt, kx, vx, hT1, hT2, hT3, hk5, hv5⟩ => ?_) fun σ' H' ⟨S, vsS, sO, y0, y1, y2, y3, y4, y5, y6, y7⟩ => ?_
  · have hik : i < kvs.length := hi
    obtain ⟨q, hq1⟩ : ∃ q, kvs[i]? = some q := ⟨_, List.getElem?_eq_getElem hik⟩
    obtain ⟨e, he1, hk1, a5, w, ps, hv1, ha5, hw5, hp5⟩ := LiI.paired_get rep4 hq1
    have he : e ∈ F := List.mem_of_getElem? he1
    have hek : e.1 ≤ k := (fk.way e he).le hp.m
    have hen : e.1 < p.x.L.length := Nat.lt_of_le_of_lt hek hp.lt
    have hk6 : (kvs[i]?.map fun kv => kV kv.1) = some kx := hk5
    have hv6 : kvs[i]?.map Prod.snd = some vx := hv5
    rw [hq1] at hk6 hv6
    have hk5 : kx = .int (e.1 : Int) := by
      have := Option.some.inj hk6
      rw [← this]
      show kV q.1 = _
      rw [hk1]
      rfl
    have hv5 : vx = .ref a5 := by
      have := Option.some.inj hv6
      rw [← this]
      exact hv1
    subst hk5 hv5 hT1 hT3
    have e5 : Ex Ha (upd Ha Tt (.tup [.int (e.1 : Int), .ref a5])) := Evl.Ex.new hT2
    refine ⟨Tt, _, rfl, .inl (.inl upd_same), rfl, _, _, rfl, _, _, rfl, a5, _, rfl, ex_t e5 (nt_t y2 hsl4 rfl ha5), rfl, _, _, rfl, _, _, rfl, rfl, rfl, ?_⟩
    generalize upd Ha Tt (.tup [.int (e.1 : Int), .ref a5]) = Hb at e5
    have sI : Sat (gQ K p k sl e.1 e.2.1 w) (((σ'.set 3 (some (.int (e.1 : Int)))).set 5 (some (.int e.2.1))).set 6 (some (.ref w))) H := ((sO.set (i := 3) (P := Is K e.1) rfl).set (i := 5) (P := Is K e.2.1) rfl).set (i := 6) (P := Eq1 (.ref w)) rfl
    have z0 : (((σ'.set 3 (some (.int (e.1 : Int)))).set 5 (some (.int e.2.1))).set 6 (some (.ref w)))[0]? = some (some (.ref a)) := by
      rw [List.getElem?_set_ne (by decide), List.getElem?_set_ne (by decide), List.getElem?_set_ne (by decide)]
      exact y0
    show tSeq _ _ _ (((σ'.set 3 (some (.int (e.1 : Int)))).set 5 (some (.int e.2.1))).set 6 (some (.ref w))) Hb
    generalize ((σ'.set 3 (some (.int (e.1 : Int)))).set 5 (some (.int e.2.1))).set 6 (some (.ref w)) = σ4 at sI z0
    have y2b : Exb sl H4 Hb := y2.trans (exb_ex e5)
    have y1b := y1.trans e5
    have y3b := e5 _ _ y3
    have y4b : Paired (fun v x => EntP K x v Hb) vsS S := Paired.mapP y4 fun _ _ z => z.mono e5
    have lenS : vsS.length = S.length := Paired.length y4
    have hbig : i * (p.x.L.length + 1) + 1 + p.x.L.length ≤ 1100000 := by
      have h1 : i ≤ 1000 := by omega
      have h2 : p.x.L.length + 1 ≤ 1001 := by omega
      have := Nat.mul_le_mul h1 h2
      omega
    have hps : ps.length ≤ 100000 := by
      have h1 : ps.length = e.2.2.length := Paired.length hp5
      have h2 := (fk.way e he).alen hp.m
      omega
    refine h_seq (h_app (K := K) (Pr := fun v H' => EntP K (e.2.1 + p.dues.2, e.2.2) v H') (sI.eq1 (i := 2) rfl) y3b (by omega) (fun Q q => ent_pair (eg_opI0 (f := fun i j => i + j) (eg_var (i := 5) (P := Is K e.2.1) rfl) (eg_sl (eg_var (i := 0) (P := IsPu K p) rfl) T.c_Purse T.sl_Purse_new rfl)) (sI.mono y1b) (sI.eq1 (i := 6) rfl) (nt_fz y2b hsl4 rfl hw5) (Paired.mapP hp5 fun _ _ z => nt_t y2b hsl4 rfl z) q) fun v6 H6 e6 hent6 => ?_)
    have hsl6 := e6 _ _ y3b
    have ex7 : Ex H (upd H6 sl (.lst (vsS ++ [v6]))) := Ex.mut (y1b.trans e6) hsl
    have xb7 : Exb sl H4 (upd H6 sl (.lst (vsS ++ [v6]))) := (y2b.trans (exb_ex e6)).trans exb_upd
    have rp7 : Paired (fun v x => EntP K x v (upd H6 sl (.lst (vsS ++ [v6])))) (vsS ++ [v6]) (S ++ [(e.2.1 + p.dues.2, e.2.2)]) :=
      Paired.app (Paired.mapP y4b fun _ _ z => (z.mono e6).nt exb_upd hsl6 rfl) (.cons (hent6.nt exb_upd hsl6 rfl) .nil)
    have hsl7 : (upd H6 sl (.lst (vsS ++ [v6]))) sl = some (.lst (vsS ++ [v6])) := upd_same
    generalize upd H6 sl (.lst (vsS ++ [v6])) = H7 at ex7 xb7 rp7 hsl7
    have hgv : EvGF (SlX.tMethSl (He.ga K "Links") (spPF (fun g : LkD × Nat => LkOk g.1 ∧ g.2 < g.1.L.length) (fun g => [IsLk K g.1, Is K g.2]) (fun g => Is K (givF g.1.L g.1.keep g.2))) E0 (SlX.tSl K (tVar 0) "own_links") (tCons (tVar 3) tNil)) (gQ K p k sl e.1 e.2.1 w) (LsP K ((givF p.x.L p.x.keep e.1).map (Is K))) := eg_methF (p.x, e.1) (eg_sl (eg_var (P := IsPu K p) rfl) T.c_Purse T.sl_Purse_links rfl) (ea_cons (eg_var (P := Is K e.1) rfl) ea_nil) rfl ⟨hp.x, hen⟩
    refine h_forLsF (Ps := (givF p.x.L p.x.keep e.1).map (Is K)) hgv (sI.mono ex7) fun al vs5 H8 e8 nal hl8 al8 => ?_
    have hvs5 := all_nats al8
    subst hvs5
    have hals : al ≠ sl := fun z => by rw [z, hsl7] at nal; cases nal
    refine ⟨fun j σ' H' => ∃ S vsS, Sat (gQ K p k sl e.1 e.2.1 w) σ' H ∧ σ'[0]? = some (some (.ref a)) ∧ Ex H H' ∧ Exb sl H4 H' ∧ Exb sl H8 H' ∧ H' sl = some (.lst vsS) ∧ Paired (fun v x => EntP K x v H') vsS S ∧ S.length ≤ i * (p.x.L.length + 1) + 1 + j ∧ (∀ x, x ∈ S → So p.E p.M F x) ∧ (∀ e, e ∈ F.take i → PrA p.E S e ∧ ∀ g, g ∈ p.E.giv e.1 → PrB p.E p.M S e g) ∧ PrA p.E S e ∧ ∀ g, g ∈ (givF p.x.L p.x.keep e.1).take j → PrB p.E p.M S e g,
      ⟨S ++ [(e.2.1 + p.dues.2, e.2.2)], vsS ++ [v6], sI, z0, ex7.trans e8, xb7.trans (exb_ex e8), .refl _, e8 _ _ hsl7, Paired.mapP rp7 fun _ _ z => z.mono e8, ?_, fun x hx => ?_, fun e' he' => ⟨(y7 e' he').1.app, fun g hg => ((y7 e' he').2 g hg).app⟩, ⟨_, List.mem_append_right _ List.mem_cons_self, rfl⟩, fun g hg => by simp at hg⟩,
      fun j σ' H' ⟨_, _, _, _, _, _, h, _⟩ => exl_l h hals hl8, fun j x σ' H' D' hx ⟨S, vsS, sI, z0, x1, x2, x3, x4, x5, x6, x7, x8, x9, x10⟩ hn _ => ?_, fun σ' H' ⟨S, vsS, sI, z0, x1, x2, x3, x4, x5, x6, x7, x8, x9, x10⟩ => ?_⟩
    · rw [List.length_append]
      show S.length + 1 ≤ _
      omega
    · rcases List.mem_append.mp hx with h | h
      · exact y6 x h
      · rw [List.mem_singleton.mp h]
        exact ⟨e, he, .inl rfl⟩
    · rw [List.getElem?_map] at hx
      obtain ⟨g, hgx, rfl⟩ := Option.map_eq_some_iff.mp hx
      have hg : g ∈ givF p.x.L p.x.keep e.1 := List.mem_of_getElem? hgx
      have hgn : g < p.x.L.length := giv_lt hg
      have hjn : j < (givF p.x.L p.x.keep e.1).length := (List.getElem?_eq_some_iff.mp hgx).1
      have hjl := giv_len (L := p.x.L) (keep := p.x.keep) (t := e.1)
      have s5 := sI.set (i := 4) (P := Is K g) (v := .int (g : Int)) rfl
      have z5 : (σ'.set 4 (some (.int (g : Int))))[0]? = some (some (.ref a)) := by
        rw [List.getElem?_set_ne (by decide)]
        exact z0
      have sE : Sat (gQ K p k sl e.1 e.2.1 w) (σ'.set 4 (some (.int (g : Int)))) H := sI.none (i := 4)
      show tIfS _ _ _ _ (σ'.set 4 (some (.int (g : Int)))) H'
      generalize σ'.set 4 (some (.int (g : Int))) = σ5 at s5 z5 sE
      refine h_if (et_B (eg_notinD (M := p.M) (g := g) (eg_var (i := 4) (P := Is K g) rfl) (eg_sl (eg_var (i := 0) (P := IsPu K p) rfl) T.c_Purse T.sl_Purse_taken rfl))) (s5.mono x1) (fun hb H9 e9 => ?_) fun hb H9 e9 => ?_
      · have hfree : g ∉ p.M.map Prod.fst := by simpa using hb
        have x2' : Exb sl H4 H9 := x2.trans (exb_ex e9)
        have lenS2 : vsS.length = S.length := Paired.length x5
        refine h_app (K := K) (Pr := fun v H' => EntP K (e.2.1 + p.E.c g e.1, e.2.2 ++ [(g, e.1)]) v H') (sE.eq1 (i := 2) rfl) (e9 _ _ x4) (by omega) (fun Q q => ent_newE (eg_opI0 (f := fun i j => i + j) (eg_var (i := 5) (P := Is K e.2.1) rfl) (eg_meth (p, g, e.1) (eg_var (i := 0) (P := IsPu K p) rfl) (ea_cons (eg_var (P := Is K g) rfl) (ea_cons (eg_var (P := Is K e.1) rfl) ea_nil)) rfl ⟨hp.x, hgn, hen⟩)) ((s5.mono x1).mono e9) (sE.eq1 (i := 6) rfl) (s5.eq1 (i := 4) rfl) (s5.eq1 (i := 3) rfl) (nt_fz x2' hsl4 rfl hw5) (Paired.mapP hp5 fun _ _ z => nt_t x2' hsl4 rfl z) hps q) fun v10 H10 e10 hent => ?_
        have hsl10 := e10 _ _ (e9 _ _ x4)
        refine hn _ _ ⟨S ++ [(e.2.1 + p.E.c g e.1, e.2.2 ++ [(g, e.1)])], vsS ++ [v10], sE, z5, Ex.mut ((x1.trans e9).trans e10) hsl, (x2'.trans (exb_ex e10)).trans exb_upd, (x3.trans (exb_ex (e9.trans e10))).trans exb_upd, upd_same, Paired.app (Paired.mapP x5 fun _ _ z => (z.mono (e9.trans e10)).nt exb_upd hsl10 rfl) (.cons (hent.nt exb_upd hsl10 rfl) .nil), ?_, fun x hx => ?_, fun e' he' => ⟨(x8 e' he').1.app, fun g hg => ((x8 e' he').2 g hg).app⟩, x9.app, fun g' hg' => ?_⟩
        · rw [List.length_append]
          show S.length + 1 ≤ _
          omega
        · rcases List.mem_append.mp hx with h | h
          · exact x7 x h
          · rw [List.mem_singleton.mp h]
            exact ⟨e, he, .inr ⟨g, hg, hfree, rfl⟩⟩
        · rcases mem_take_succ hgx hg' with h | h
          · exact (x10 g' h).app
          · rw [h]
            exact fun _ => ⟨_, List.mem_append_right _ List.mem_cons_self, rfl⟩
      · have hin : g ∈ p.M.map Prod.fst := by simpa using hb
        refine h_next (hn _ _ ⟨S, vsS, sE, z5, x1.trans e9, x2.trans (exb_ex e9), x3.trans (exb_ex e9), e9 _ _ x4, Paired.mapP x5 fun _ _ z => z.mono e9, by omega, x7, x8, x9, fun g' hg' => ?_⟩)
        rcases mem_take_succ hgx hg' with h | h
        · exact x10 g' h
        · rw [h]
          exact fun z => absurd hin z
    · rw [List.length_map] at x6 x10
      have hjl := giv_len (L := p.x.L) (keep := p.x.keep) (t := e.1)
      refine ⟨S, vsS, sI.less (by repeat first | exact lq_nil | apply lq_none | apply lq_cons), z0, x1, x2, x4, x5, ?_, x7, fun e' he' => ?_⟩
      · have : (i + 1) * (p.x.L.length + 1) = i * (p.x.L.length + 1) + (p.x.L.length + 1) := Nat.succ_mul _ _
        omega
      · rcases mem_take_succ he1 he' with h | h
        · exact x8 e' h
        · rw [h]
          refine ⟨x9, fun g hg => x10 g ?_⟩
          rw [List.take_length]
          exact hg
  · have y7 : ∀ e, e ∈ F → PrA p.E S e ∧ ∀ g, g ∈ p.E.giv e.1 → PrB p.E p.M S e g := fun e he => y7 e (by rw [lenF, List.take_length]; exact he)
    have hne0 : S ≠ [] := fun z => by
      obtain ⟨x, hx, _⟩ := (y7 _ fk.k0).1
      rw [z] at hx
      cases hx
    obtain ⟨vs, h1, h2⟩ := hob.mono y1
    obtain ⟨wt, hw1, hw2⟩ := h2 3 _ rfl
    obtain rfl : wt = .ref dT := hw2
    have hdT' := y1 _ _ hdT
    dsimp only
    refine ⟨_, y0, a, _, dx, _, vs, 3, _, rfl, h1, T.c_Purse, T.sl_Purse_taken, hw1, .inr (.inr (.inl ⟨rfl, .inl ⟨_, hdT'⟩⟩)), ?_⟩
    refine min_ent (sO.eq1 (i := 2) rfl) y3 y4 hne0 fun x w ps hx hmin hw hps => ?_
    have hlenM : p.M.length ≤ k := by
      have := nodup_le (n := k) hp.m.tk fun t ht => by
        obtain ⟨e, he, rfl⟩ := List.mem_map.mp ht
        exact (hp.m.mem e he).2
      rwa [List.length_map] at this
    obtain ⟨e, he, hor⟩ := y6 x hx
    have hway := (fk.way e he)
    have hD1 : ∀ e, e ∈ F → x.1 ≤ e.2.1 + p.E.N := fun e he => by
      obtain ⟨y, hy, hy2⟩ := (y7 e he).1
      rw [← hy2]
      exact hmin y hy
    have hD2 : ∀ e, e ∈ F → ∀ g, g ∈ p.E.giv e.1 → g ∉ p.M.map Prod.fst → x.1 ≤ e.2.1 + p.E.c g e.1 := fun e he g hg hgn => by
      obtain ⟨y, hy, hy2⟩ := (y7 e he).2 g hg hgn
      rw [← hy2]
      exact hmin y hy
    have key : x.2.length ≤ k + 2 ∧ MOk p.E (k + 1) (updM p.M x.2) ∧ tot p.E (k + 1) (updM p.M x.2) = tot p.E k p.M + x.1 := by
      have hl := hway.alen hp.m
      rcases hor with rfl | ⟨g, hg, hgf, rfl⟩
      · obtain ⟨b1, b2⟩ := hway.end1 hp.m
        exact ⟨by show e.2.2.length ≤ _; omega, b1, b2⟩
      · obtain ⟨b1, b2⟩ := hway.end2 hp.m hg hgf
        exact ⟨by show (e.2.2 ++ [(g, e.1)]).length ≤ _; rw [List.length_append]; show e.2.2.length + 1 ≤ _; omega, b1, b2⟩
    obtain ⟨k1, k2, k3⟩ := key
    refine ⟨dT, dkN p.M, w, ps, dkN x.2, rfl, rfl, hdT', hw, ?_, ?_, ?_⟩
    · have : ∀ {ps : List Addr} {way : Mt}, Paired (fun q (e : Nat × Nat) => SqT K H' q [.int (e.1 : Int), .int (e.2 : Int)]) ps way → Paired (fun p (kv : Key × V) => SqT K H' p [kV kv.1, kv.2]) ps (dkN way) := fun h => by
        induction h with
        | nil => exact .nil
        | cons r t ih => exact .cons r ih
      exact this hps
    · rw [dkN_len, dkN_len]
      exact Nat.le_trans (by omega : p.M.length + x.2.length ≤ 100000) (by decide)
    · rw [dkN_upd]
      exact hq _ _ ((exb_ex y1).trans exb_upd) upd_same k2 (place_opt cx fk hcl hD1 hD2 k2 k3)
end
end Lp

/-! part LpPurse2 -/
set_option Elab.async false
set_option linter.all false
set_option maxRecDepth 100000

namespace Lp
open PySem PySem.Spec PyProof.Rows L2
open Evl (Ex ex_l ex_t ex_rd fresh_back)
section
variable {prog : Program} {w : World} {K : PySem.W.Frag} {mg : Str → Option Value} {base : Heap}
def IsPuX (K : PySem.W.Frag) (p : PuD) : SP := ObP (He.ga K "Purse") [Is K p.dues.1, IsLk K p.x, Is K p.dues.2, DcX (dkN p.M)]
def IsPuL (K : PySem.W.Frag) (p : PuD) : SP := ObP (He.ga K "Purse") [Is K p.dues.1, IsLk K p.x, Is K p.dues.2, DcL (dkN p.M)]
structure Full (p : PuD) : Prop where
  x : LkOk p.x
  d : DuOk' p.dues
  m : MOk p.E p.x.L.length p.M
  o : Opt p.E p.x.L.length p.M
theorem ob_imp {C : Addr} {A B X Y Y' : SP} (h : ∀ v H, Y.p v H → Y'.p v H) (v : V) (H : Hp) (o : (ObP C [A, B, X, Y]).p v H) : (ObP C [A, B, X, Y']).p v H := by
  obtain ⟨a, dx, rfl, vs, h1, h2⟩ := o
  refine ⟨a, dx, rfl, vs, h1, fun i P hP => ?_⟩
  match i, hP with
  | 0, hP => exact h2 0 P hP
  | 1, hP => exact h2 1 P hP
  | 2, hP => exact h2 2 P hP
  | 3, hP =>
    obtain ⟨w, hw, hp⟩ := h2 3 _ rfl
    injection hP with hP
    injection hP with hP
    subst hP
    exact ⟨w, hw, h _ _ hp⟩
  | _ + 4, hP => simp at hP
theorem puX_pu {p : PuD} (v : V) (H : Hp) (o : (IsPuX K p).p v H) : (IsPu K p).p v H := ob_imp (Y := DcX (dkN p.M)) (Y' := DcE (dkN p.M)) (fun v H h => by obtain ⟨d, h1, h2⟩ := h; exact ⟨d, h1, .inl h2⟩) v H o
theorem puL_pu {p : PuD} (v : V) (H : Hp) (o : (IsPuL K p).p v H) : (IsPu K p).p v H := ob_imp (Y := DcL (dkN p.M)) (Y' := DcE (dkN p.M)) (fun v H h => by obtain ⟨d, q, h1, h2⟩ := h; exact ⟨d, h1, .inr ⟨q, h2⟩⟩) v H o
theorem rm_lk {x : LkD} : RM (IsLk K x) := rm_ob fun P hP => by
  rcases List.mem_cons.mp hP with e | hP
  · rw [e]; exact RepM.rm _
  · rcases List.mem_cons.mp hP with e | hP
    · rw [e]; exact RepM.rm _
    · rcases List.mem_cons.mp hP with e | hP
      · rw [e]; exact RepM.rm _
      · rcases List.mem_cons.mp hP with e | hP
        · rw [e]; exact RepM.rm _
        · rcases List.mem_cons.mp hP with e | hP
          · rw [e]; exact RepM.rm _
          · cases hP
theorem pux_d {p : PuD} {v : V} {H : Hp} (o : (IsPuX K p).p v H) : ∃ d, H d = some (.dK (dkN p.M)) ∧ ∀ od, (IsPuL K p).p v (upd H d (.frz od (.dK (dkN p.M)))) := by
  obtain ⟨a, dx, rfl, vs, h1, h2⟩ := o
  obtain ⟨w, hw, d, rfl, hd⟩ := h2 3 _ rfl
  refine ⟨d, hd, fun od => ?_⟩
  have rm : Rm H (upd H d (.frz od (.dK (dkN p.M)))) := rm_lock hd
  refine ⟨a, dx, rfl, vs, rm.o _ _ _ _ h1, fun i P hP => ?_⟩
  match i, hP with
  | 0, hP =>
    obtain ⟨w, hw, hp⟩ := h2 0 P hP
    injection hP with hP
    injection hP with hP
    subst hP
    exact ⟨w, hw, hp⟩
  | 1, hP =>
    obtain ⟨w, hw, hp⟩ := h2 1 P hP
    injection hP with hP
    injection hP with hP
    subst hP
    exact ⟨w, hw, rm_lk _ _ _ rm hp⟩
  | 2, hP =>
    obtain ⟨w, hw, hp⟩ := h2 2 P hP
    injection hP with hP
    injection hP with hP
    subst hP
    exact ⟨w, hw, hp⟩
  | 3, hP =>
    injection hP with hP
    injection hP with hP
    subst hP
    exact ⟨_, hw, d, od, rfl, upd_same⟩
  | _ + 4, hP => simp at hP
theorem ok_Purse_total (T : Tx K mg) : FnR prog w K mg base CX0 4 (He.ma K (He.ga K "Purse") "total") (spP (fun p : PuD => Full p) (fun p => [IsPuX K p]) (fun p => Is K (tot p.E p.x.L.length p.M))) := by
  obtain ⟨fdO, FO⟩ := T.d_Purse_total
  refine fn_any FO sc_Purse_total (fun _ _ _ _ _ _ us hl => match us, hl with | [_], _ => rfl) ?_ fun cdv A outer s H vs Q E hr hsp => ⟨_, PSs.nox (pss_cons (ps_lock (ps_setLc (i := 1) (own := [("giver", 2), ("taker", 3)]) (g := _) (tt := _) rfl sc_Purse_total.nd rfl rfl (sw_true rfl rfl rfl (by decide +kernel)) (pi_items (pe_slK (K := K) (pv 0))) (blkOk_by (own := [("giver", 2), ("taker", 3)]) (N := n_Purse_total) (sc := defScope s_Purse_total) (by decide +kernel)) (fun _ _ _ _ _ => (pg_tupK (K := K) (n := 2) rfl (pgs_cons (pg_name (i := 2) sc_Purse_total.nd rfl (by first | exact Or.inl rfl | exact Or.inr rfl)) (pgs_cons (pg_name (i := 3) sc_Purse_total.nd rfl (by first | exact Or.inl rfl | exact Or.inr rfl)) pgs_nil)))) (fun _ _ _ _ _ => pts_nil) (fun _ _ _ _ _ => (SlX.pe_methSl (E := E0) (pv 0) T.c_Purse T.m_Purse_fee (ok_Purse_fee T) (hr.mono (by first | decide | exact Nat.le_refl _)) pass0 (pa_cons (pv 2) (pa_cons (pv 3) pa_nil))))))
    (pss_one (ps_ret (pe_op op_add (pe_callB (cr_sum rfl) (by rfl) T.f_sum (by decide +kernel) (pa_cons (pv 1) pa_nil)) (pe_op op_mul (pe_slK (K := K) (pv 0)) (pe_op op_sub (pe_callB (call_lenOwn (E := E0) T.m_Links_len.at_ T.m_Links_len.fn (ok_Links_len T) (hr.mono (by first | decide | exact Nat.le_refl _)) pass0) (by rfl) T.f_len (by decide +kernel) (pa_cons (pe_slK (K := K) (pv 0)) pa_nil)) (pe_callB (call_lenK (K := K)) (by rfl) T.f_len (by decide +kernel) (pa_cons (pv 1) pa_nil)))))))), ?_⟩
  · rintro vs H Q E ⟨g, _, ha, _⟩
    exact ha.len
  obtain ⟨p, hp, ha, hq⟩ := hsp
  have s0 : Sat (startG n_Purse_total [IsPuX K p]) (start n_Purse_total vs) H := sat_start (N := n_Purse_total) ha
  generalize start n_Purse_total vs = σ0 at s0
  obtain ⟨v0, hv0, hpx⟩ := s0.at' 0 _ rfl
  obtain ⟨d, hd, hL⟩ := pux_d hpx
  have hlenM : p.M.length ≤ p.x.L.length := by
    have := nodup_le (n := p.x.L.length) hp.m.tk fun t ht => by
      obtain ⟨e, he, rfl⟩ := List.mem_map.mp ht
      exact (hp.m.mem e he).2
    rwa [List.length_map] at this
  have hE : NetOk p.E := net_ok hp.d.1 hp.d.2.2.1
  refine h_lockAsg (Γ' := [some (IsPuL K p), none, none, none]) (P := Is K (p.M.map fun e => p.E.c e.1 e.2)) hd (fun od => ⟨s0.len, fun i P hP => ?_⟩) ?_ (rm_P (RepM.rm _)) fun v H2 e2 p2 => ?_
  · match i, hP with
    | 0, hP =>
      injection hP with hP
      injection hP with hP
      subst hP
      exact ⟨v0, hv0, hL od⟩
    | 1, hP => simp at hP
    | 2, hP => simp at hP
    | 3, hP => simp at hP
    | _ + 4, hP => simp at hP
  · exact eg_lcM (xs := p.M) (fun e => p.E.c e.1 e.2) (ew_items (eg_sl (eg_var (P := IsPuL K p) rfl) T.c_Purse T.sl_Purse_taken rfl)) (fun e he => tg_pair (x := e.1) (y := e.2) tg_name tg_name) (fun e he => eg_meth (p, e.1, e.2) (EvG.weak (eg_var (P := IsPuL K p) rfl) puL_pu) (ea_cons (eg_var rfl) (ea_cons (eg_var rfl) ea_nil)) rfl ⟨hp.x, hE.lt _ _ (hp.m.mem e he).1, (hp.m.mem e he).2⟩) (by have := hp.x.1; omega)
  · have s2 := (s0.mono e2).set (i := 1) p2
    refine h_ret (P := Is K (tot p.E p.x.L.length p.M)) (EvG.to (eg_opI0 (f := fun i j => i + j) (eg_sum (xs := p.M.map fun e => p.E.c e.1 e.2) (eg_var rfl)) (eg_opI (f := fun i j => i * j) (eg_sl (eg_var (P := IsPuX K p) rfl) T.c_Purse T.sl_Purse_new rfl) (eg_opI0 (f := fun i j => i - j) (eg_lenOwn p.x p.x.L.length (eg_sl (eg_var (P := IsPuX K p) rfl) T.c_Purse T.sl_Purse_links rfl) rfl hp.x rfl (Nat.le_trans hp.x.1 (by decide))) (eg_len (xs := p.M.map fun e => p.E.c e.1 e.2) (eg_var rfl))) (.inl ⟨?_, ?_⟩))) ?_) s2 fun v H3 e3 p3 => hq v H3 (e2.trans e3) p3
    · have := hp.d.2.2.1; show _ < _; omega
    · have := hp.d.2.2.2; show _ < _; omega
    · show Is K _ = Is K _
      congr 1
      rw [List.length_map]
      rfl
theorem ok_Purse_handing (T : Tx K mg) : FnR prog w K mg base CX0 2 (He.ma K (He.ga K "Purse") "handing") (spP (fun p : PuD => Full p) (fun p => [IsPuX K p]) (fun p => Is K (Tp.mk ((List.range p.x.L.length).map (handF p.M))))) := by
  obtain ⟨fdO, FO⟩ := T.d_Purse_handing
  refine fn_any FO sc_Purse_handing (fun _ _ _ _ _ _ us hl => match us, hl with | [_], _ => rfl) ?_ fun cdv A outer s H vs Q E hr hsp => ⟨_, PSs.nox (pss_cons (ps_set (i := 1) sc_Purse_handing.nd rfl (Or.inr rfl) (pe_lock (pe_dc (own := [("giver", 2), ("taker", 3)]) rfl sc_Purse_handing.nd (pi_items (pe_slK (K := K) (pv 0))) (blkOk_by (own := [("giver", 2), ("taker", 3)]) (N := n_Purse_handing) (sc := defScope s_Purse_handing) (by decide +kernel)) (fun _ _ _ _ _ => (pg_tupK (K := K) (n := 2) rfl (pgs_cons (pg_name (i := 2) sc_Purse_handing.nd rfl (by first | exact Or.inl rfl | exact Or.inr rfl)) (pgs_cons (pg_name (i := 3) sc_Purse_handing.nd rfl (by first | exact Or.inl rfl | exact Or.inr rfl)) pgs_nil)))) (fun _ _ _ _ _ => pts_nil) (fun _ _ _ _ _ => (pv 3)) (fun _ _ _ _ _ => (pv 2)))))
    (pss_one (ps_ret (pe_callTy call_tuple_of (by rfl) T.f_tuple (by decide +kernel) (pa_cons (pe_lc (own := [("taker", 3)]) (g := gName 3) (tt := _) rfl sc_Purse_handing.nd (pi_own (E := E0) T.m_Links_iter.at_ T.m_Links_iter.fn (ok_Links_iter T) (hr.mono (by first | decide | exact Nat.le_refl _)) pass0 (pe_slK (K := K) (pv 0))) (blkOk_by (own := [("taker", 3)]) (N := n_Purse_handing) (sc := defScope s_Purse_handing) (by decide +kernel)) (fun _ _ _ _ _ => (pg_name (i := 3) sc_Purse_handing.nd rfl (by first | exact Or.inl rfl | exact Or.inr rfl))) (fun _ _ _ _ _ => pts_nil) (fun _ _ _ _ _ => (pe_dget1 (hu_of hr) (pv 1) (pv 3) ⟨rfl, rfl, rfl, rfl⟩))) pa_nil))))), ?_⟩
  · rintro vs H Q E ⟨g, _, ha, _⟩
    exact ha.len
  obtain ⟨p, hp, ha, hq⟩ := hsp
  have s0 : Sat (startG n_Purse_handing [IsPuX K p]) (start n_Purse_handing vs) H := sat_start (N := n_Purse_handing) ha
  generalize start n_Purse_handing vs = σ0 at s0
  obtain ⟨v0, hv0, hpx⟩ := s0.at' 0 _ rfl
  obtain ⟨d, hd, hL⟩ := pux_d hpx
  have hlenM : p.M.length ≤ p.x.L.length := by
    have := nodup_le (n := p.x.L.length) hp.m.tk fun t ht => by
      obtain ⟨e, he, rfl⟩ := List.mem_map.mp ht
      exact (hp.m.mem e he).2
    rwa [List.length_map] at this
  refine h_asgLock (Γ' := [some (IsPuL K p), none, none, none]) (P := DcX (dkN (p.M.map fun e => (e.2, e.1)))) hd (fun od => ⟨s0.len, fun i P hP => ?_⟩) ?_ dcx_P fun v H2 e2 p2 => ?_
  · match i, hP with
    | 0, hP =>
      injection hP with hP
      injection hP with hP
      subst hP
      exact ⟨v0, hv0, hL od⟩
    | 1, hP => simp at hP
    | 2, hP => simp at hP
    | 3, hP => simp at hP
    | _ + 4, hP => simp at hP
  · exact eg_dc (xs := p.M) (F := Is K) (fun e => e.2) (fun e => e.1) (ew_items (eg_sl (eg_var (P := IsPuL K p) rfl) T.c_Purse T.sl_Purse_taken rfl)) hp.m.tk (fun e he => tg_pair (x := e.1) (y := e.2) tg_name tg_name) (fun e he => eg_var rfl) (fun e he => eg_var rfl) (by have := hp.x.1; omega)
  · have s2 := (s0.mono e2).set (i := 1) p2
    refine h_ret (P := Is K (Tp.mk ((List.range p.x.L.length).map (handF p.M)))) (eg_tupOf (fun xs H Q q => q) (Ps := ((List.range p.x.L.length).map (handF p.M)).map (Is K)) (eg_lcM (K := K) (xs := List.range p.x.L.length) (handF p.M) (ew_own (eg_sl (eg_var (P := IsPuX K p) rfl) T.c_Purse T.sl_Purse_links rfl) rfl) (fun t ht => tg_name) (fun t ht => eg_get1 (M := p.M) (eg_var rfl) (eg_var rfl)) (by rw [List.length_range]; exact Nat.le_trans hp.x.1 (by decide)))) s2 fun v H3 e3 p3 => hq v H3 (e2.trans e3) p3
end
end Lp

/-! part LpPurse3 -/
set_option Elab.async false
set_option linter.all false
set_option maxRecDepth 100000

namespace Lp
open PySem PySem.Spec PyProof.Rows L2
open Evl (Ex ex_l ex_t ex_rd fresh_back)
section
variable {prog : Program} {w : World} {K : PySem.W.Frag} {mg : Str → Option Value} {base : Heap}
theorem handL_ix {n t : Nat} {M : Mt} (h : t < n) : (handL n M)[t]? = some (handF M t) := by
  unfold handL
  rw [List.getElem?_map, List.getElem?_range h]
  rfl
theorem hand_lt {p : PuD} (hm : MOk p.E p.x.L.length p.M) {t g : Nat} (h : handF p.M t = some g) : g < p.x.L.length := giv_lt (hm.mem _ (handF_mem h)).1
theorem ok_Purse_taking (T : Tx K mg) : FnR prog w K mg base CX0 4 (He.ma K (He.ga K "Purse") "taking") (spP (fun g : PuD × List Int × Nat => LkOk g.1.x ∧ MOk g.1.E g.1.x.L.length g.1.M ∧ g.2.1.length = g.1.x.L.length ∧ g.2.2 < g.1.x.L.length) (fun g => [IsPuX K g.1, Is K g.2.1, Is K (Tp.mk (handL g.1.x.L.length g.1.M)), Is K g.2.2]) (fun g => Is K (takF g.1.E g.1.M g.2.1 g.2.2))) := by
  obtain ⟨fdO, FO⟩ := T.d_Purse_taking
  refine fn_pure FO sc_Purse_taking (fun _ _ _ _ _ _ us hl => match us, hl with | [_, _, _, _], _ => rfl) (fun _ => rfl) fun cdv A outer s H E hr => ⟨_, PSs.nox (pss_cons (ps_set (i := 4) sc_Purse_taking.nd rfl (Or.inl rfl) (pe_ix (ix_tupK (K := K)) (pv 2) (pv 3) (fun _ _ => rfl)))
    (pss_one (ps_ret (pe_ifExp (pt_cmp (pc_isN (pv 4))) (pe_slK (K := K) (pv 0)) (pe_op op_add (pe_ix (ix_listK (K := K)) (pv 1) (pv 4) (fun _ _ => rfl)) (SlX.pe_methSl (E := E0) (pv 0) T.c_Purse T.m_Purse_fee (ok_Purse_fee T) (hr.mono (by first | decide | exact Nat.le_refl _)) pass0 (pa_cons (pv 4) (pa_cons (pv 3) pa_nil)))))))), ?_⟩
  rintro ⟨p, fl, t⟩ ⟨hx, hm, hl, ht⟩
  refine sx_set (P := Is K (handF p.M t)) (eg_ixT (eg_var rfl) (eg_var rfl) (handL_ix ht)) ?_
  refine sx_ret (P := Is K (takF p.E p.M fl t)) (eg_if (et_B (eg_isN (K := K) (o := handF p.M t) (eg_var rfl))) (fun h => EvG.to (eg_sl (eg_var rfl) T.c_Purse T.sl_Purse_new rfl) ?_) fun h => ?_) rfl
  · show Is K p.dues.2 = Is K (takF p.E p.M fl t)
    unfold takF
    cases hh : handF p.M t with
    | none => rfl
    | some g => rw [hh] at h; cases h
  · obtain ⟨g, hh⟩ : ∃ g, handF p.M t = some g := by
      cases hh : handF p.M t with
      | none => rw [hh] at h; cases h
      | some g => exact ⟨g, rfl⟩
    · have hg := hand_lt hm hh
      have e1 : EvG (tVar 4) ((startG n_Purse_taking [IsPuX K p, Is K fl, Is K (Tp.mk (handL p.x.L.length p.M)), Is K t]).set 4 (some (Is K (handF p.M t)))) (Is K g) := EvG.to (eg_var rfl) (congrArg (Is K) hh)
      refine EvG.to (eg_opI0 (K := K) (f := fun i j => i + j) (eg_ixL (eg_var rfl) e1 (atI_i (by rw [hl]; exact hg))) (eg_meth (p, g, t) (EvG.weak (eg_var (P := IsPuX K p) rfl) puX_pu) (ea_cons e1 (ea_cons (eg_var rfl) ea_nil)) rfl ⟨hx, hg, ht⟩)) ?_
      show Is K _ = Is K (takF p.E p.M fl t)
      unfold takF
      rw [hh]
theorem ok_Purse_are_rates (T : Tx K mg) : FnR prog w K mg base CX0 4 (He.ma K (He.ga K "Purse") "are_rates") (spP (fun g : PuD × List (Int × Int) => LkOk g.1.x ∧ RatesOk g.1.x.L g.1.x.keep g.1.x.shut g.1.x.anew g.1.dues g.2) (fun g => [IsPuX K g.1, Is K (Tp.mk g.2)]) (fun g => Is K true)) := by
  obtain ⟨fdO, FO⟩ := T.d_Purse_are_rates
  refine fn_pure FO sc_Purse_are_rates (fun _ _ _ _ _ _ us hl => match us, hl with | [_, _], _ => rfl) (fun _ => rfl) fun cdv A outer s H E hr => ⟨_, PSs.nox (pss_cons (ps_for PassesOwn.never rfl (pi_own (E := E0) T.m_Links_iter.at_ T.m_Links_iter.fn (ok_Links_iter T) (hr.mono (by first | decide | exact Nat.le_refl _)) pass0 (pe_slK (K := K) (pv 0))) (pg_name (i := 2) sc_Purse_are_rates.nd rfl (Or.inl rfl)) (pss_cons (ps_if (pt_cmpR op_gt (pe_ix (ix_tupK (K := K)) (pe_ix (ix_tupK (K := K)) (pv 1) (pv 2) (fun _ _ => rfl)) pe_int (fun _ _ => rfl)) (pe_slK (K := K) (pv 0)) (nomark _)) (pss_one (ps_ret pe_bl)) (pss_nil))
    (pss_one (ps_for PassesOwn.never rfl (pi_listK (K := K) (SlX.pe_methSl (E := E0) (pe_slK (K := K) (pv 0)) T.c_Links T.m_Links_givers (ok_Links_givers T) (hr.mono (by first | decide | exact Nat.le_refl _)) pass0 (pa_cons (pv 2) pa_nil))) (pg_name (i := 3) sc_Purse_are_rates.nd rfl (Or.inl rfl)) (pss_one (ps_if (pt_cmpR op_gt (pe_ix (ix_tupK (K := K)) (pe_ix (ix_tupK (K := K)) (pv 1) (pv 2) (fun _ _ => rfl)) pe_int (fun _ _ => rfl)) (pe_op op_add (pe_ix (ix_tupK (K := K)) (pe_ix (ix_tupK (K := K)) (pv 1) (pv 3) (fun _ _ => rfl)) pe_int (fun _ _ => rfl)) (SlX.pe_methSl (E := E0) (pv 0) T.c_Purse T.m_Purse_fee (ok_Purse_fee T) (hr.mono (by first | decide | exact Nat.le_refl _)) pass0 (pa_cons (pv 3) (pa_cons (pv 2) pa_nil)))) (nomark _)) (pss_one (ps_ret pe_bl)) (pss_nil)))))))
    (pss_one (ps_ret pe_bl))), ?_⟩
  rintro ⟨p, R⟩ ⟨hx, hR⟩
  have hR : RatesOk p.x.L p.x.keep p.x.shut p.x.anew p.dues R := hR
  refine sx_seq (N1 := fun Γ2 => Γ2 = startG n_Purse_are_rates [IsPuX K p, Is K (Tp.mk R)]) (sx_forL (xs := List.range p.x.L.length) (ew_own (eg_sl (eg_var rfl) T.c_Purse T.sl_Purse_links rfl) rfl) (fun i t ht => ⟨_, [2], tg_name, ?_⟩) rfl) fun Γ1 e => ?_
  · have htl : t < p.x.L.length := List.mem_range.mp (List.mem_of_getElem? ht)
    have htR : t < R.length := by rw [hR.len]; exact htl
    refine sx_ifRet (b := false) (EvT.to (et_test (eg_cmpI (K := K) (f := fun i j => decide (j < i)) (eg_fst (eg_ixT (eg_var rfl) (eg_var rfl) (rt0_at htR))) (eg_sl (eg_var rfl) T.c_Purse T.sl_Purse_new rfl))) (decide_eq_false (Int.not_lt.mpr (hR.new t htl)))) (fun z => nomatch z) fun _ => ?_
    refine sx_forL (xs := givF p.x.L p.x.keep t) (ew_list (eg_meth (p.x, t) (eg_sl (eg_var rfl) T.c_Purse T.sl_Purse_links rfl) (ea_cons (eg_var rfl) ea_nil) rfl ⟨hx, htl⟩)) (fun _ i hi => ⟨_, [3], tg_name, ?_⟩) (lq_set (lq_refl _) (.inl rfl))
    have hig := List.mem_of_getElem? hi
    have hil : i < p.x.L.length := giv_lt hig
    refine sx_if (b := false) (EvT.to (et_test (eg_cmpI (K := K) (f := fun i j => decide (j < i)) (eg_fst (eg_ixT (eg_var rfl) (eg_var rfl) (rt0_at htR))) (eg_opI0 (f := fun i j => i + j) (eg_snd (eg_ixT (eg_var rfl) (eg_var rfl) (rt0_at (by rw [hR.len]; exact hil)))) (eg_meth (p, i, t) (EvG.weak (eg_var (P := IsPuX K p) rfl) puX_pu) (ea_cons (eg_var rfl) (ea_cons (eg_var rfl) ea_nil)) rfl ⟨hx, hil, htl⟩)))) (decide_eq_false ?_)) (fun z => nomatch z) fun _ => sx_next (lq_set (lq_refl _) (.inl rfl))
    have h1 := hR.giv t htl i hig
    have h2 : p.E.c i t = if deadF p.x.L p.x.shut p.x.anew i t = true then p.dues.1 else 0 := rfl
    simp only at *
    omega
  · subst e
    exact sx_ret (eg_bl (K := K)) rfl
/-- what givings() gives -/
def GvR (p : PuD) (f : List Int) : Prop := ∃ u v, Feas p.E p.x.L.length u v ∧ CS p.E p.x.L.length p.M u v ∧ Gv p.x.L.length v f ∧ GvC p.E p.M f
abbrev gG (K : PySem.W.Frag) (p : PuD) (l : Addr) (v2 : V) (more : Bool) : Gm := [some (IsPuX K p), some (Eq1 (.ref l)), some (Eq1 v2), some (Eq1 (.bl more)), none, none, none]
abbrev gH (K : PySem.W.Frag) (p : PuD) (l : Addr) (v2 : V) (more : Bool) (t : Nat) : Gm := [some (IsPuX K p), some (Eq1 (.ref l)), some (Eq1 v2), some (Eq1 (.bl more)), some (Is K t), none, none]
theorem ok_Purse_givings (T : Tx K mg) : FnR prog w K mg base CX0 5 (He.ma K (He.ga K "Purse") "givings") (spP (fun p : PuD => Full p) (fun p => [IsPuX K p]) (fun p => Ssm (GvR p) (fun f : List Int => Is K f))) := by
  obtain ⟨fdO, FO⟩ := T.d_Purse_givings
  refine fn_any FO sc_Purse_givings (fun _ _ _ _ _ _ us hl => match us, hl with | [_], _ => rfl) ?_ fun cdv A outer s H vs Q E hr hsp => ⟨_, PSs.nox (pss_cons (ps_par3 (i := 1) (j := 2) (l := 3) rfl sc_Purse_givings.nd rfl rfl rfl (by decide) (by decide) (by decide) rfl rfl rfl (pa_cons (pe_lc (own := [("taker", 4)]) (g := gName 4) (tt := _) rfl sc_Purse_givings.nd (pi_own (E := E0) T.m_Links_iter.at_ T.m_Links_iter.fn (ok_Links_iter T) (hr.mono (by first | decide | exact Nat.le_refl _)) pass0 (pe_slK (K := K) (pv 0))) (blkOk_by (own := [("taker", 4)]) (N := n_Purse_givings) (sc := defScope s_Purse_givings) (by decide +kernel)) (fun _ _ _ _ _ => (pg_name (i := 4) sc_Purse_givings.nd rfl (by first | exact Or.inl rfl | exact Or.inr rfl))) (fun _ _ _ _ _ => pts_nil) (fun _ _ _ _ _ => pe_int)) (pa_cons (SlX.pe_methSl0 (E := E0) (pv 0) T.c_Purse T.m_Purse_handing (ok_Purse_handing T) (hr.mono (by first | decide | exact Nat.le_refl _)) pass0) (pa_cons pe_bl pa_nil))) (by rfl))
    (pss_cons (ps_while PassesOwn.never (pt_val (pv 3)) (pss_cons (ps_set (i := 3) sc_Purse_givings.nd rfl (Or.inl rfl) pe_bl)
    (pss_one (ps_for PassesOwn.never rfl (pi_own (E := E0) T.m_Links_iter.at_ T.m_Links_iter.fn (ok_Links_iter T) (hr.mono (by first | decide | exact Nat.le_refl _)) pass0 (pe_slK (K := K) (pv 0))) (pg_name (i := 4) sc_Purse_givings.nd rfl (Or.inl rfl)) (pss_one (ps_for PassesOwn.never rfl (pi_listK (K := K) (SlX.pe_methSl (E := E0) (pe_slK (K := K) (pv 0)) T.c_Links T.m_Links_givers (ok_Links_giversF T) (hr.mono (by first | decide | exact Nat.le_refl _)) pass0 (pa_cons (pv 4) pa_nil))) (pg_name (i := 5) sc_Purse_givings.nd rfl (Or.inl rfl)) (pss_cons (ps_set (i := 6) sc_Purse_givings.nd rfl (Or.inl rfl) (pe_op op_sub (SlX.pe_methSl (E := E0) (pv 0) T.c_Purse T.m_Purse_taking (ok_Purse_taking T) (hr.mono (by first | decide | exact Nat.le_refl _)) pass0 (pa_cons (pv 1) (pa_cons (pv 2) (pa_cons (pv 4) pa_nil)))) (SlX.pe_methSl (E := E0) (pv 0) T.c_Purse T.m_Purse_fee (ok_Purse_fee T) (hr.mono (by first | decide | exact Nat.le_refl _)) pass0 (pa_cons (pv 5) (pa_cons (pv 4) pa_nil)))))
    (pss_one (ps_if (pt_cmpR op_lt (pe_ix (ix_listK (K := K)) (pv 1) (pv 5) (fun _ _ => rfl)) (pv 6) (nomark _)) (pss_cons (ps_asg (pv 6) (pg_sub (pv 1) (pv 5) set_list))
    (pss_one (ps_set (i := 3) sc_Purse_givings.nd rfl (Or.inl rfl) pe_bl))) (pss_nil))))))))))
    (pss_one (ps_ret (pv 1))))), ?_⟩
  · rintro vs H Q E ⟨g, _, ha, _⟩
    exact ha.len
  obtain ⟨p, hp, ha, hq⟩ := hsp
  have hp : Full p := hp
  have hq : ∀ v H2, Ex H H2 → (Ssm (GvR p) (fun f : List Int => Is K f)).p v H2 → Q v H2 := hq
  have s0 : Sat (startG n_Purse_givings [IsPuX K p]) (start n_Purse_givings vs) H := sat_start (N := n_Purse_givings) ha
  generalize start n_Purse_givings vs = σ0 at s0
  obtain ⟨u, v, hf, hd⟩ := hp.o
  have hE : NetOk p.E := net_ok hp.d.1 hp.d.2.2.1
  have hs := slack hE hp.m hf hd
  have hn : p.x.L.length ≤ 1000 := hp.x.1
  refine h_seq ?_
  unfold tPar3
  show tLc _ _ _ _ _ σ0 H _
  refine eg_lcX (xs := List.range p.x.L.length) (F := Is K) (f := fun _ => true) (Rf := fun _ => Is K (0 : Int)) (ew_own (eg_sl (eg_var rfl) T.c_Purse T.sl_Purse_links rfl) rfl) (fun _ => RepT.rt _) (fun b hb => tg_name) (fun _ _ => et_yes) (fun _ _ _ => eg_int) (by rw [List.length_range]; omega) σ0 H _ s0 fun l acc H1 e1 nl hl1 al => ?_
  refine (eg_meth (Ps := []) p (eg_var (Γ := startG n_Purse_givings [IsPuX K p]) (i := 0) rfl) ea_nil rfl hp : EvG _ _ (Is K (Tp.mk (handL p.x.L.length p.M)))) σ0 H1 _ (s0.mono e1) fun v2 H2 e2 p2 => ?_
  refine ⟨_, _, _, rfl, ?_⟩
  have hacc : acc = ((List.range p.x.L.length).map fun _ => (0 : Int)).map V.int := all_ints (K := K) (H := H1) (by
    rw [List.filter_eq_self.mpr fun _ _ => rfl] at al
    rw [List.map_map]
    exact al)
  have hl2 : H2 l = some (.lst (((List.range p.x.L.length).map fun _ => (0 : Int)).map V.int)) := by
    rw [← hacc]
    exact e2 _ _ hl1
  have e02 := e1.trans e2
  have g0 : Gv p.x.L.length v ((List.range p.x.L.length).map fun _ => (0 : Int)) := by
    have z : ∀ g, ((List.range p.x.L.length).map fun _ => (0 : Int)).getD g 0 = 0 := fun g => by
      rw [List.getD_eq_getElem?_getD, List.getElem?_map]
      cases (List.range p.x.L.length)[g]? <;> rfl
    exact ⟨by simp, fun g => by rw [z]; exact Int.le_refl _, fun g _ => by rw [z]; exact hf.v0 g⟩
  have s1 : Sat (gG K p l v2 true) (((σ0.set 1 (some (.ref l))).set 2 (some v2)).set 3 (some (.bl true))) H := ((s0.set (i := 1) (P := Eq1 (.ref l)) rfl).set (i := 2) (P := Eq1 v2) rfl).set (i := 3) (P := Eq1 (.bl true)) rfl
  show tSeq _ _ _ (((σ0.set 1 (some (.ref l))).set 2 (some v2)).set 3 (some (.bl true))) H2
  generalize ((σ0.set 1 (some (.ref l))).set 2 (some v2)).set 3 (some (.bl true)) = σ1 at s1
  have lane : ∀ {H' : Hp}, Exb l H2 H' → (Is K (Tp.mk (handL p.x.L.length p.M))).p v2 H' := fun x => RepT.rt (K := K) (Tp.mk (handL p.x.L.length p.M)) _ _ _ (nt_kt x hl2 rfl) p2
  refine h_seq ?_
  refine ⟨fun m σ' H' => ∃ fl more, m = 2 * gmu p.x.L.length v fl + (if more = true then 1 else 0) ∧ Sat (gG K p l v2 more) σ' H ∧ Ex H H' ∧ Exb l H2 H' ∧ H' l = some (.lst (fl.map V.int)) ∧ Gv p.x.L.length v fl ∧ (more = false → GvC p.E p.M fl), ⟨_, _, true, rfl, s1, e02, .refl _, hl2, g0, fun z => nomatch z⟩, ?_⟩
  rintro m σ H3 ⟨fl, more, rfl, s, e, x2, hl3, gv, hc⟩
  refine ⟨_, s.eq1 (i := 3) rfl, more, rfl, ?_⟩
  cases more with
  | false =>
    show tRet (tVar 1) _ σ H3
    exact h_ret (eg_var (i := 1) (P := Eq1 (.ref l)) rfl) (s.mono e) fun w H4 e4 hw => hq w H4 (e.trans e4) ⟨fl, ⟨u, v, hf, hs, gv, hc rfl⟩, by
      rw [show w = .ref l from hw]
      exact is_ints (e4 _ _ hl3)⟩
  | true =>
    refine ⟨fun σ' H' => ∃ fl' more, 2 * gmu p.x.L.length v fl' + (if more = true then 1 else 0) < 2 * gmu p.x.L.length v fl + 1 ∧ Sat (gG K p l v2 more) σ' H ∧ Ex H H' ∧ Exb l H2 H' ∧ H' l = some (.lst (fl'.map V.int)) ∧ Gv p.x.L.length v fl' ∧ (more = false → GvC p.E p.M fl'), fun σ' H' ⟨fl', more, h1, h2⟩ => ⟨_, h1, fl', more, rfl, h2⟩, ?_⟩
    refine h_asg (P := Eq1 (.bl false)) eg_c (s.mono e) fun w H4 e4 hw => ?_
    obtain rfl : w = .bl false := hw
    have s4 : Sat (gG K p l v2 false) (σ.set 3 (some (.bl false))) H := s.set (i := 3) (P := Eq1 (.bl false)) rfl
    generalize σ.set 3 (some (.bl false)) = σ4 at s4
    refine h_for_ownSl (n := p.x.L.length) s4 (e.trans e4) (j := 0) rfl T.c_Purse T.sl_Purse_links rfl rfl (fun i σ' H' => ∃ fl' more, Sat (gG K p l v2 more) σ' H ∧ Ex H H' ∧ Exb l H2 H' ∧ H' l = some (.lst (fl'.map V.int)) ∧ Gv p.x.L.length v fl' ∧ (more = true → gmu p.x.L.length v fl' < gmu p.x.L.length v fl) ∧ (more = false → fl' = fl ∧ ∀ t, t < i → ∀ g, g ∈ p.E.giv t → takF p.E p.M fl t - p.E.c g t ≤ fl.getD g 0))
      ⟨fl, false, s4, e.trans e4, x2.trans (exb_ex e4), e4 _ _ hl3, gv, (fun z => nomatch z), fun _ => ⟨rfl, fun t ht => absurd ht (Nat.not_lt_zero _)⟩⟩ (fun i σ H ⟨_, _, _, h, _⟩ => h) (fun t σ5 H5 H6 D' ht ⟨fl', more, s5, e5, x5, hl5, gv5, y1, y2⟩ e6 hn5 _ => ?_) fun σ5 H5 ⟨fl', more, s5, e5, x5, hl5, gv5, y1, y2⟩ => ?_
    · have s6 : Sat (gH K p l v2 more t) (σ5.set 4 (some (.int (t : Int)))) H := s5.set (i := 4) (P := Is K t) rfl
      generalize σ5.set 4 (some (.int (t : Int))) = σ6 at s6
      have hl6 := e6 _ _ hl5
      have hgv : EvGF (SlX.tMethSl (He.ga K "Links") (spPF (fun g : LkD × Nat => LkOk g.1 ∧ g.2 < g.1.L.length) (fun g => [IsLk K g.1, Is K g.2]) (fun g => Is K (givF g.1.L g.1.keep g.2))) E0 (SlX.tSl K (tVar 0) "own_links") (tCons (tVar 4) tNil)) (gH K p l v2 more t) (LsP K ((givF p.x.L p.x.keep t).map (Is K))) := eg_methF (p.x, t) (eg_sl (eg_var (P := IsPuX K p) rfl) T.c_Purse T.sl_Purse_links rfl) (ea_cons (eg_var (P := Is K t) rfl) ea_nil) rfl ⟨hp.x, ht⟩
      refine h_forLsF (Ps := (givF p.x.L p.x.keep t).map (Is K)) hgv (s6.mono (e5.trans e6)) fun al vs7 H7 e7 nal hal al7 => ?_
      have hvs7 := all_nats al7
      subst hvs7
      have hals : al ≠ l := fun z => by rw [z, hl6] at nal; cases nal
      refine ⟨fun j σ' H' => ∃ fl' more, Sat (gH K p l v2 more t) σ' H ∧ Ex H H' ∧ Exb l H2 H' ∧ Exb l H7 H' ∧ H' l = some (.lst (fl'.map V.int)) ∧ Gv p.x.L.length v fl' ∧ (more = true → gmu p.x.L.length v fl' < gmu p.x.L.length v fl) ∧ (more = false → fl' = fl ∧ (∀ t', t' < t → ∀ g, g ∈ p.E.giv t' → takF p.E p.M fl t' - p.E.c g t' ≤ fl.getD g 0) ∧ ∀ g, g ∈ (givF p.x.L p.x.keep t).take j → takF p.E p.M fl t - p.E.c g t ≤ fl.getD g 0),
        ⟨fl', more, s6, (e5.trans e6).trans e7, (x5.trans (exb_ex e6)).trans (exb_ex e7), .refl _, e7 _ _ hl6, gv5, y1, fun h => ⟨(y2 h).1, (y2 h).2, fun g hg => by simp at hg⟩⟩, fun j σ' H' ⟨_, _, _, _, _, h, _⟩ => exl_l h hals hal, fun j x σ8 H8 D' hx ⟨fl8, more8, s8, e8, x8, w8, hl8, gv8, z1, z2⟩ hn8 _ => ?_, fun σ8 H8 ⟨fl8, more8, s8, e8, x8, w8, hl8, gv8, z1, z2⟩ => ?_⟩
      · rw [List.getElem?_map] at hx
        obtain ⟨g, hgx, rfl⟩ := Option.map_eq_some_iff.mp hx
        have hg : g ∈ givF p.x.L p.x.keep t := List.mem_of_getElem? hgx
        have hgn : g < p.x.L.length := giv_lt hg
        have s9 : Sat ((gH K p l v2 more8 t).set 5 (some (Is K g))) (σ8.set 5 (some (.int (g : Int)))) H := s8.set (i := 5) (P := Is K g) rfl
        show tSeq _ _ _ (σ8.set 5 (some (.int (g : Int)))) H8
        generalize σ8.set 5 (some (.int (g : Int))) = σ9 at s9
        have s9' : Sat [some (IsPuX K p), some (Is K fl8), some (Is K (Tp.mk (handL p.x.L.length p.M))), some (Eq1 (.bl more8)), some (Is K t), some (Is K g), none] σ9 H8 := ((s9.mono e8).know (i := 1) (s9.eq1 (i := 1) rfl) (is_ints hl8)).know (i := 2) (s9.eq1 (i := 2) rfl) (lane x8)
        refine h_asg (P := Is K (takF p.E p.M fl8 t - p.E.c g t)) (eg_opI0 (f := fun i j => i - j) (eg_meth (p, fl8, t) (eg_var (P := IsPuX K p) rfl) (ea_cons (eg_var rfl) (ea_cons (eg_var rfl) (ea_cons (eg_var rfl) ea_nil))) rfl ⟨hp.x, hp.m, gv8.len, ht⟩) (eg_meth (p, g, t) (EvG.weak (eg_var (P := IsPuX K p) rfl) puX_pu) (ea_cons (eg_var rfl) (ea_cons (eg_var rfl) ea_nil)) rfl ⟨hp.x, hgn, ht⟩)) s9' fun v10 H10 e10 p10 => ?_
        have s10 := (s9'.mono e10).set (i := 6) p10
        obtain rfl : v10 = .int (takF p.E p.M fl8 t - p.E.c g t) := p10
        have sE : ∀ o, Sat (gH K p l v2 more8 t) (σ9.set 6 o) H := fun o => (s9.none (i := 6)).less (by repeat first | exact lq_nil | apply lq_none | apply lq_cons)
        have hl10 := e10 _ _ hl8
        refine h_if (et_test (eg_cmpI (K := K) (f := fun i j => decide (i < j)) (eg_ixL (xs := fl8) (i := g) (eg_var rfl) (eg_var rfl) (atI_i (by rw [gv8.len]; exact hgn))) (eg_var rfl))) s10 (fun hb H11 e11 => ?_) fun hb H11 e11 => ?_
        · have hlt := of_decide_eq_true hb
          have g11 := gv_step hE hp.m hf hs gv8 ht hg hlt
          have m11 := gmu_lt gv8 (show g < p.E.n from hgn) hlt g11
          have hl11 := e11 _ _ hl10
          refine h_seq ⟨_, s10.eq1 (i := 6) rfl, _, (sE _).eq1 (i := 1) rfl, _, s10.eq1 (i := 5) rfl, l, _, _, g, rfl, rfl, hl11, ?_, ?_⟩
          · rw [List.length_map, gv8.len]
            show ixN _ _ = _
            unfold ixN
            rw [if_pos (by omega)]
            simp
            omega
          · show tAsg (tC (.bl true)) (gName 3) _ _ _
            have x12 : Exb l H11 (upd H11 l (.lst ((fl8.map V.int).set g (.int (takF p.E p.M fl8 t - p.E.c g t))))) := exb_upd
            have hl12 : (upd H11 l (.lst ((fl8.map V.int).set g (.int (takF p.E p.M fl8 t - p.E.c g t))))) l = some (.lst ((fl8.set g (takF p.E p.M fl8 t - p.E.c g t)).map V.int)) := by
              rw [upd_same, List.map_set]
            refine hn8 _ _ ⟨_, true, (sE _).set (i := 3) (P := Eq1 (.bl true)) rfl, Ex.mut ((e8.trans e10).trans e11) nl, ((x8.trans (exb_ex e10)).trans (exb_ex e11)).trans x12, ((w8.trans (exb_ex e10)).trans (exb_ex e11)).trans x12, hl12, g11, fun _ => ?_, fun z => nomatch z⟩
            cases more8 with
            | true => exact Nat.lt_trans m11 (z1 rfl)
            | false => rw [(z2 rfl).1] at m11 ⊢; exact m11
        · refine h_next (hn8 _ _ ⟨fl8, more8, sE _, (e8.trans e10).trans e11, (x8.trans (exb_ex e10)).trans (exb_ex e11), (w8.trans (exb_ex e10)).trans (exb_ex e11), e11 _ _ hl10, gv8, z1, fun h => ⟨(z2 h).1, (z2 h).2.1, fun g' hg' => ?_⟩⟩)
          rcases mem_take_succ hgx hg' with h1 | h1
          · exact (z2 h).2.2 g' h1
          · subst h1
            have h2 := of_decide_eq_false hb
            rw [(z2 h).1] at h2
            exact Int.not_lt.mp h2
      · rw [List.length_map] at z2
        refine hn5 _ _ ⟨fl8, more8, s8.less (by repeat first | exact lq_nil | apply lq_none | apply lq_cons), e8, x8, hl8, gv8, z1, fun h => ⟨(z2 h).1, fun t' ht' g hg => ?_⟩⟩
        by_cases ht2 : t' < t
        · exact (z2 h).2.1 t' ht2 g hg
        · have : t' = t := by omega
          subst this
          exact (z2 h).2.2 g (by rw [List.take_length]; exact hg)
    · refine ⟨fl', more, ?_, s5, e5, x5, hl5, gv5, fun h => ?_⟩
      · cases more with
        | true =>
          have := y1 rfl
          simp only [if_true]
          omega
        | false =>
          rw [(y2 rfl).1]
          simp
      · have h5 := y2 h
        rw [h5.1]
        exact fun t ht g hg => h5.2 t ht g hg
end
end Lp

/-! part LpPurse4 -/
set_option Elab.async false
set_option linter.all false
set_option maxRecDepth 100000

namespace Lp
open PySem PySem.Spec PyProof.Rows L2
open Evl (Ex ex_l ex_t ex_rd fresh_back)
section
variable {prog : Program} {w : World} {K : PySem.W.Frag} {mg : Str → Option Value} {base : Heap}
def RtR (p : PuD) (R : List (Int × Int)) : Prop := RatesOk p.x.L p.x.keep p.x.shut p.x.anew p.dues R ∧ toldF R = tot p.E p.x.L.length p.M
theorem ok_Purse_rates (T : Tx K mg) : FnR prog w K mg base CX0 6 (He.ma K (He.ga K "Purse") "rates") (spP (fun p : PuD => Full p) (fun p => [IsPuX K p]) (fun p => Ssm (RtR p) (fun R => Is K (Tp.mk R)))) := by
  obtain ⟨fdO, FO⟩ := T.d_Purse_rates
  refine fn_any FO sc_Purse_rates (fun _ _ _ _ _ _ us hl => match us, hl with | [_], _ => rfl) ?_ fun cdv A outer s H vs Q E hr hsp => ⟨_, PSs.nox (pss_cons (ps_asg (pe_tup (pa_cons (SlX.pe_methSl0 (E := E0) (pv 0) T.c_Purse T.m_Purse_givings (ok_Purse_givings T) (hr.mono (by first | decide | exact Nat.le_refl _)) pass0) (pa_cons (SlX.pe_methSl0 (E := E0) (pv 0) T.c_Purse T.m_Purse_handing (ok_Purse_handing T) (hr.mono (by first | decide | exact Nat.le_refl _)) pass0) pa_nil))) (pg_tupK (K := K) (n := 2) rfl (pgs_cons (pg_name (i := 1) sc_Purse_rates.nd rfl (Or.inr rfl)) (pgs_cons (pg_name (i := 2) sc_Purse_rates.nd rfl (Or.inr rfl)) pgs_nil))))
    (pss_one (ps_ret (pe_callTy call_tuple_of (by rfl) T.f_tuple (by decide +kernel) (pa_cons (pe_lc (own := [("taker", 3)]) (g := gName 3) (tt := _) rfl sc_Purse_rates.nd (pi_own (E := E0) T.m_Links_iter.at_ T.m_Links_iter.fn (ok_Links_iter T) (hr.mono (by first | decide | exact Nat.le_refl _)) pass0 (pe_slK (K := K) (pv 0))) (blkOk_by (own := [("taker", 3)]) (N := n_Purse_rates) (sc := defScope s_Purse_rates) (by decide +kernel)) (fun _ _ _ _ _ => (pg_name (i := 3) sc_Purse_rates.nd rfl (by first | exact Or.inl rfl | exact Or.inr rfl))) (fun _ _ _ _ _ => pts_nil) (fun _ _ _ _ _ => (pe_tup (pa_cons (SlX.pe_methSl (E := E0) (pv 0) T.c_Purse T.m_Purse_taking (ok_Purse_taking T) (hr.mono (by first | decide | exact Nat.le_refl _)) pass0 (pa_cons (pv 1) (pa_cons (pv 2) (pa_cons (pv 3) pa_nil)))) (pa_cons (pe_ix (ix_listK (K := K)) (pv 1) (pv 3) (fun _ _ => rfl)) pa_nil))))) pa_nil))))), ?_⟩
  · rintro vs H Q E ⟨g, _, ha, _⟩
    exact ha.len
  obtain ⟨p, hp, ha, hq⟩ := hsp
  have hp : Full p := hp
  have hq : ∀ v H2, Ex H H2 → (Ssm (RtR p) (fun R => Is K (Tp.mk R))).p v H2 → Q v H2 := hq
  have s0 : Sat (startG n_Purse_rates [IsPuX K p]) (start n_Purse_rates vs) H := sat_start (N := n_Purse_rates) ha
  generalize start n_Purse_rates vs = σ0 at s0
  have hE : NetOk p.E := net_ok hp.d.1 hp.d.2.2.1
  have hn : p.x.L.length ≤ 1000 := hp.x.1
  refine h_seq (h_asg2 (K := K) (P1 := Ssm (GvR p) (fun f : List Int => Is K f)) (P2 := Is K (Tp.mk (handL p.x.L.length p.M))) (eg_tup (ea_cons (eg_meth (Ps := []) p (eg_var (i := 0) rfl) ea_nil rfl hp) (ea_cons (eg_meth (Ps := []) p (eg_var (i := 0) rfl) ea_nil rfl hp) ea_nil))) s0 fun v1 v2 H1 e1 p1 p2 => ?_)
  obtain ⟨fl, ⟨u, v, hf, hs, gv, hc⟩, p1⟩ := p1
  have s1 := ((s0.mono e1).set (i := 1) (P := Is K fl) p1).set (i := 2) p2
  show ∃ v r, _
  refine ⟨v2, [], rfl, ?_⟩
  refine ⟨rfl, ?_⟩
  have hR : RtR p (ratesL p.E p.M fl) := ⟨rates_ok hE hp.m hf hs gv hc, by rw [rates_told]; exact gv_told hE hp.m hs gv⟩
  refine h_ret (P := Is K (Tp.mk (ratesL p.E p.M fl))) (eg_tupOf (fun xs H Q q => q) (Ps := (ratesL p.E p.M fl).map (Is K)) (eg_lcM (K := K) (xs := List.range p.x.L.length) (fun t => (takF p.E p.M fl t, fl.getD t 0)) (ew_own (eg_sl (eg_var (P := IsPuX K p) (i := 0) rfl) T.c_Purse T.sl_Purse_links rfl) rfl) (fun t ht => tg_name) (fun t ht => ?_) (by rw [List.length_range]; omega))) s1 fun w H2 e2 p3 => hq w H2 (e1.trans e2) ⟨_, hR, p3⟩
  have htl := List.mem_range.mp ht
  exact eg_pair (eg_meth (p, fl, t) (eg_var (P := IsPuX K p) rfl) (ea_cons (eg_var rfl) (ea_cons (eg_var rfl) (ea_cons (eg_var rfl) ea_nil))) rfl ⟨hp.x, hp.m, gv.len, htl⟩) (eg_ixL (xs := fl) (eg_var rfl) (eg_var rfl) (atI_i (by rw [gv.len]; exact htl)))
/-- a dict changes: own objects stay -/
theorem exb_slt {d a C dx : Addr} {H H' : Hp} {kvs : List (Key × V)} {vs : List (Option V)} (e : Exb d H H') (hd : H d = some (.dK kvs)) (h : SlX.Slt H a C dx vs) : SlX.Slt H' a C dx vs := by
  have off : ∀ (b : Addr) (u : HO), H b = some u → (∀ ks, u ≠ .dK ks) → H' b = some u := fun b u h hu => e b u (fun z => by subst z; rw [hd] at h; cases h; exact hu _ rfl) h
  rcases h with ⟨h, e⟩ | ⟨h, h'⟩
  · exact .inl ⟨off _ _ h (fun _ z => nomatch z), e⟩
  · exact .inr ⟨off _ _ h (fun _ z => nomatch z), off _ _ h' (fun _ z => nomatch z)⟩
/-- self.f = {} -/
theorem h_slD {σ : L2.St} {H Hb : Hp} {D : Ends} {a C dx p : Addr} {f : Str} {i j : Nat} {Ss : Gm} (hj : σ[j]? = some (some (.ref a))) (o : Ob Hb H a C dx Ss) (hc : SlX.SCls K C) (hs : SlX.Slot1 K C f p i) (k : ∀ d H2, H d = none → H2 d = some (.dK []) → Ob Hb H2 a C dx (Ss.set i (some (Eq1 (.ref d)))) → D.nx σ H2) : SlX.sSl K (tVar j) tDNewK f D σ H :=
  fun d hd => ⟨_, hj, by
    have o1 := o.mono (Evl.Ex.new (o := .dK []) hd)
    obtain ⟨vs, h1, h2⟩ := o1.ob
    obtain ⟨o2, es⟩ := o1.put (i := i) (P := Eq1 (.ref d)) (v := .ref d) rfl rs_eq vs h1 h2
    exact ⟨a, C, dx, p, vs, i, rfl, h1, hc, hs, k d _ hd (es _ _ upd_same rfl) o2⟩⟩
def PuR (g : LkD × (Int × Int)) (p : PuD) : Prop := p.x = g.1 ∧ p.dues = g.2 ∧ Full p
def spPurse (K : PySem.W.Frag) : Sp := spMk (He.ga K "Purse") (fun g : LkD × (Int × Int) => LkOk g.1 ∧ DuOk' g.2) (fun g => [IsLk K g.1, Is K g.2]) (fun g => Ssm (PuR g) (IsPuX K))
theorem ok_Purse_init (T : Tx K mg) : FnR prog w K mg base CX0 6 (He.ma K (He.ga K "Purse") "__init__") (spPurse K) := by
  obtain ⟨fdO, FO⟩ := T.d_Purse_init
  refine fn_any FO sc_Purse_init (fun _ _ _ _ _ _ us hl => match us, hl with | [_, _, _], _ => rfl) ?_ fun cdv A outer s H vs Q E hr hsp => ⟨_, PSs.nox (pss_cons (SlX.ps_sl (pv 0) (pv 1))
    (pss_cons (ps_asg (pe_callR (E := E0) (ok_tupled T) (hr.mono (by first | decide | exact Nat.le_refl _)) (by rfl) T.g_tupled T.k_tupled pass0 (pa_cons (pv 2) pa_nil)) (pg_tupK (K := K) (n := 2) rfl (pgs_cons (pg_sl (pv 0)) (pgs_cons (pg_sl (pv 0)) pgs_nil))))
    (pss_cons (SlX.ps_sl (pv 0) pe_dnewK)
    (pss_one (ps_for PassesOwn.never rfl (pi_own (E := E0) T.m_Links_iter.at_ T.m_Links_iter.fn (ok_Links_iter T) (hr.mono (by first | decide | exact Nat.le_refl _)) pass0 (pv 1)) (pg_name (i := 3) sc_Purse_init.nd rfl (Or.inl rfl)) (pss_one (ps_expr (SlX.pe_methSl (E := E0) (pv 0) T.c_Purse T.m_Purse_place (ok_Purse_place T) (hr.mono (by first | decide | exact Nat.le_refl _)) pass0 (pa_cons (pv 3) pa_nil))))))))), ?_⟩
  · exact spMk_len fun _ => rfl
  obtain ⟨⟨x, dues⟩, a, dx, ws, Hb, ⟨hx, hdu⟩, rfl, o, hw, q⟩ := hsp
  have hx : LkOk x := hx
  have hdu : DuOk' dues := hdu
  have q : ∀ H2, Ex Hb H2 → (Ssm (PuR (x, dues)) (IsPuX K)).p (.ref a) H2 → Q .non H2 := q
  have o0 := o.nones 4
  have s0 : Sat [some (Eq1 (.ref a)), some (IsLk K x), some (Is K dues), none] (start n_Purse_init (.ref a :: ws)) Hb := sat_start (N := n_Purse_init) (Ps := [Eq1 (.ref a), IsLk K x, Is K dues]) (.cons rfl hw)
  have ha := s0.eq1 (i := 0) rfl
  generalize start n_Purse_init (.ref a :: ws) = σ at s0 ha
  obtain ⟨v0, hv0, hlk⟩ := s0.at' 1 _ rfl
  have sL : Sat [some (Eq1 (.ref a)), some (Eq1 v0), some (Is K dues), none] σ Hb := s0.know (i := 1) (P := Eq1 v0) hv0 rfl
  refine h_seq (h_sl ha (eg_var (i := 1) rfl) (sL.mono o0.ex) o0 rs_eq T.c_Purse T.sl_Purse_links fun H1 H2 v e1 p1 es o1 => ?_)
  refine h_seq (h_asg2 (K := K) (P1 := Is K dues.1) (P2 := Is K dues.2) (eg_call (Qs := fun P => [P]) (R := fun P => P) (Is K dues) (ea_cons (eg_var (i := 2) rfl) ea_nil) tg_pairI) (sL.mono o1.ex) fun v1 v2 H7 e4 p4 p5 => ?_)
  refine g_sl ha p4 (o1.mono e4) (RepS.rs _) T.c_Purse T.sl_Purse_dead fun H8 es4 o4 => ?_
  refine ⟨v2, [], rfl, ?_⟩
  refine g_sl ha (RepS.rs dues.2 _ _ _ es4 p5) o4 (RepS.rs _) T.c_Purse T.sl_Purse_new fun H9 es5 o5 => ?_
  refine ⟨rfl, ?_⟩
  refine h_seq (h_slD ha o5 T.c_Purse T.sl_Purse_taken fun d H10 nd hd o6 => ?_)
  have ndb : Hb d = none := fresh_back o5.ex nd
  have hE : NetOk (netF x dues) := net_ok hdu.1 hdu.2.2.1
  refine h_for_own1 (n := x.L.length) s0 o6.ex (j := 1) rfl rfl (fun i σ' H' => ∃ M, Sat [some (Eq1 (.ref a)), some (IsLk K x), some (Is K dues), none] σ' Hb ∧ σ'[1]? = some (some v0) ∧ Ex Hb H' ∧ ObA H' a (He.ga K "Purse") dx [some (Is K dues.1), some (Eq1 v0), some (Is K dues.2), some (Eq1 (.ref d))] ∧ H' d = some (.dK (dkN M)) ∧ MOk (netF x dues) i M ∧ Opt (netF x dues) i M)
    ⟨[], s0, hv0, o6.ex, o6.ob, hd, ⟨List.nodup_nil, List.nodup_nil, fun e he => by cases he⟩, opt_zero⟩ (fun i σ' H' ⟨_, _, _, h, _⟩ => h) (fun t σ1 Ha Hc D' ht ⟨M, s1, y1, e1, ob, hM, hm, ho⟩ e hn _ => ?_) fun σ' H' ⟨M, s1, y1, e1, ob, hM, hm, ho⟩ => ?_
  · have s2 : Sat [some (Eq1 (.ref a)), some (IsLk K x), some (Is K dues), some (Is K t)] (σ1.set 3 (some (.int (t : Int)))) Hb := s1.set (i := 3) (P := Is K t) rfl
    have sE : Sat [some (Eq1 (.ref a)), some (IsLk K x), some (Is K dues), none] (σ1.set 3 (some (.int (t : Int)))) Hb := s1.none (i := 3)
    have y2 : (σ1.set 3 (some (.int (t : Int))))[1]? = some (some v0) := by rw [List.getElem?_set_ne (by decide)]; exact y1
    generalize σ1.set 3 (some (.int (t : Int))) = σ2 at s2 sE y2
    have ob2 : ObA Hc a (He.ga K "Purse") dx [some (Is K dues.1), some (Eq1 v0), some (Is K dues.2), some (Eq1 (.ref d))] := ob.mono e
    have e2 := e1.trans e
    obtain ⟨vs, h1, h2⟩ := id ob2
    refine ⟨_, s2.eq1 (i := 0) rfl, a, dx, vs, rfl, h1, _, s2.eq1 (i := 3) rfl, ⟨x, dues, M⟩, t, a, dx, d, rfl, ⟨hx, hdu, ht, hm, ho⟩, ⟨vs, h1, fun i P hP => ?_⟩, e _ _ hM, fun H' M' xb hM' hm' ho' => ?_⟩
    · match i, hP with
      | 0, hP => exact h2 0 P hP
      | 1, hP =>
        obtain ⟨w, hw, hp⟩ := h2 1 _ rfl
        obtain rfl : w = v0 := hp
        injection hP with hP
        injection hP with hP
        subst hP
        exact ⟨_, hw, (IsLk K x).mono e2 hlk⟩
      | 2, hP => exact h2 2 P hP
      | 3, hP => exact h2 3 P hP
      | _ + 4, hP => simp at hP
    · refine hn _ _ ⟨M', sE, y2, fun b u hb => xb b u (ne_of_none hb ndb) (e2 b u hb), ⟨vs, exb_slt xb (e _ _ hM) h1, fun i P hP => ?_⟩, hM', hm', ho'⟩
      obtain ⟨w, hw, hp⟩ := h2 i P hP
      refine ⟨w, hw, ?_⟩
      match i, hP with
      | 0, hP => injection hP with hP; injection hP with hP; subst hP; exact hp
      | 1, hP => injection hP with hP; injection hP with hP; subst hP; exact hp
      | 2, hP => injection hP with hP; injection hP with hP; subst hP; exact hp
      | 3, hP => injection hP with hP; injection hP with hP; subst hP; exact hp
      | _ + 4, hP => simp at hP
  · obtain ⟨vs, h1, h2⟩ := ob
    refine q _ e1 ⟨⟨x, dues, M⟩, ⟨rfl, rfl, hx, hdu, hm, ho⟩, a, dx, rfl, vs, h1, fun i P hP => ?_⟩
    match i, hP with
    | 0, hP => exact h2 0 P hP
    | 1, hP =>
      obtain ⟨w, hw, hp⟩ := h2 1 _ rfl
      obtain rfl : w = v0 := hp
      injection hP with hP
      injection hP with hP
      subst hP
      exact ⟨_, hw, (IsLk K x).mono e1 hlk⟩
    | 2, hP => exact h2 2 P hP
    | 3, hP =>
      obtain ⟨w, hw, hp⟩ := h2 3 _ rfl
      obtain rfl : w = .ref d := hp
      injection hP with hP
      injection hP with hP
      subst hP
      exact ⟨_, hw, d, rfl, hM⟩
    | _ + 4, hP => simp at hP
end
end Lp

/-! part LpFees -/
set_option Elab.async false
set_option linter.all false
set_option maxRecDepth 100000

namespace Lp
open PySem PySem.Spec PyProof.Rows L2
open Evl (Ex ex_l ex_t ex_rd fresh_back)
section
variable {prog : Program} {w : World} {K : PySem.W.Frag} {mg : Str → Option Value} {base : Heap}
def LeastFee (x : LkD) (dues : Int × Int) (m : Int) : Prop := ∃ M, MOk (netF x dues) x.L.length M ∧ Opt (netF x dues) x.L.length M ∧ m = tot (netF x dues) x.L.length M
theorem LeastFee.uniq {x : LkD} {dues : Int × Int} {m m' : Int} (hd : DuOk' dues) (h : LeastFee x dues m) (h' : LeastFee x dues m') : m = m' := by
  obtain ⟨M, h1, h2, rfl⟩ := h
  obtain ⟨M', h3, h4, rfl⟩ := h'
  have hE : NetOk (netF x dues) := net_ok hd.1 hd.2.2.1
  exact Int.le_antisymm (h2.least hE h3) (h4.least hE h1)
theorem eg_ssm {γ δ : Type} {Γ : Gm} {te : TE} {p : γ → Prop} {q : δ → Prop} {F : γ → SP} {G : δ → SP} (h : EvG te Γ (Ssm p F)) (f : γ → δ) (hp : ∀ x, p x → q (f x)) (he : ∀ x, p x → F x = G (f x)) : EvG te Γ (Ssm q G) :=
  h.weak fun v H ⟨x, hx, hv⟩ => ⟨f x, hp x hx, he x hx ▸ hv⟩
/-- the word tells it -/
theorem EvG.of {γ : Type} {Γ : Gm} {te : TE} {p : γ → Prop} {F : γ → SP} (h : EvG te Γ (Ssm p F)) (c : γ) (e : ∀ x, p x → x = c) : EvG te Γ (F c) :=
  h.weak fun v H ⟨x, hx, hv⟩ => e x hx ▸ hv
theorem Full.least {p : PuD} {x : LkD} {dues : Int × Int} (h : PuR (x, dues) p) : LeastFee x dues (tot p.E p.x.L.length p.M) := by
  obtain ⟨rfl, rfl, h⟩ := h
  exact ⟨p.M, h.m, h.o, rfl⟩
abbrev FeeC (g : LkD × (Int × Int)) : Prop := LkOk g.1 ∧ DuOk' g.2
abbrev FeeA (K : PySem.W.Frag) (g : LkD × (Int × Int)) : List SP := [Is K (Tp.mk g.1.L), Is K g.1.keep, Is K (g.1.shut, Tp.mk g.1.anew), Is K g.2]
theorem ok_purse (T : Tx K mg) : FnR prog w K mg base CX0 8 (He.ga K "purse") (spP FeeC (FeeA K) (fun g => Ssm (PuR g) (IsPuX K))) := by
  obtain ⟨fdO, FO⟩ := T.d_purse
  refine fn_pure FO sc_purse (fun _ _ _ _ _ _ us hl => match us, hl with | [_, _, _, _], _ => rfl) (fun _ => rfl) fun cdv A outer s H E hr => ⟨_, PSs.nox (pss_one (ps_ret (StX.pe_makeR (E := E0) T.mk_Purse (ok_Purse_init T) (hr.mono (by first | decide | exact Nat.le_refl _)) (by rfl) T.g_Purse pass0 (pa_cons (StX.pe_makeR (E := E0) T.mk_Links (ok_Links_init T) (hr.mono (by first | decide | exact Nat.le_refl _)) (by rfl) T.g_Links pass0 (pa_cons (pv 0) (pa_cons (pv 1) (pa_cons (pv 2) pa_nil)))) (pa_cons (pv 3) pa_nil))))), ?_⟩
  rintro ⟨x, dues⟩ ⟨hx, hd⟩
  refine sx_ret (P := Ssm (PuR (x, dues)) (IsPuX K)) ?_ rfl
  exact eg_make (x, dues) (ea_cons (eg_make x (ea_cons (eg_var rfl) (ea_cons (eg_var rfl) (ea_cons (eg_var rfl) ea_nil))) hx) (ea_cons (eg_var rfl) ea_nil)) ⟨hx, hd⟩
theorem ok_least_fee (T : Tx K mg) : FnR prog w K mg base CX0 9 (He.ga K "least_fee") (spP FeeC (FeeA K) (fun g => Ssm (LeastFee g.1 g.2) (Is K))) := by
  obtain ⟨fdO, FO⟩ := T.d_least_fee
  refine fn_pure FO sc_least_fee (fun _ _ _ _ _ _ us hl => match us, hl with | [_, _, _, _], _ => rfl) (fun _ => rfl) fun cdv A outer s H E hr => ⟨_, PSs.nox (pss_one (ps_ret (SlX.pe_methSl0 (E := E0) (pe_callR (E := E0) (ok_purse T) (hr.mono (by first | decide | exact Nat.le_refl _)) (by rfl) T.g_purse T.k_purse pass0 (pa_cons (pv 0) (pa_cons (pv 1) (pa_cons (pv 2) (pa_cons (pv 3) pa_nil))))) T.c_Purse T.m_Purse_total (ok_Purse_total T) (hr.mono (by first | decide | exact Nat.le_refl _)) pass0))), ?_⟩
  rintro ⟨x, dues⟩ ⟨hx, hd⟩
  refine sx_ret (P := Ssm (LeastFee x dues) (Is K)) ?_ rfl
  exact eg_ssm (eg_methS (pr := PuR (x, dues)) (Os := fun p => [Is K p.dues.1, IsLk K p.x, Is K p.dues.2, DcX (dkN p.M)]) (eg_call (x, dues) (ea_cons (eg_var rfl) (ea_cons (eg_var rfl) (ea_cons (eg_var rfl) (ea_cons (eg_var rfl) ea_nil)))) ⟨hx, hd⟩) fun p hp => hp.2.2) (fun p => tot p.E p.x.L.length p.M) (fun p hp => Full.least hp) fun _ _ => rfl
def ChR (x : LkD) (dues : Int × Int) (lane : List (Option Nat)) : Prop := HandOk x.L x.keep lane ∧ LeastFee x dues (paidF x.L x.shut x.anew dues lane)
theorem ok_cheapest (T : Tx K mg) : FnR prog w K mg base CX0 9 (He.ga K "cheapest") (spP FeeC (FeeA K) (fun g => Ssm (ChR g.1 g.2) (fun lane => Is K (Tp.mk lane)))) := by
  obtain ⟨fdO, FO⟩ := T.d_cheapest
  refine fn_pure FO sc_cheapest (fun _ _ _ _ _ _ us hl => match us, hl with | [_, _, _, _], _ => rfl) (fun _ => rfl) fun cdv A outer s H E hr => ⟨_, PSs.nox (pss_one (ps_ret (SlX.pe_methSl0 (E := E0) (pe_callR (E := E0) (ok_purse T) (hr.mono (by first | decide | exact Nat.le_refl _)) (by rfl) T.g_purse T.k_purse pass0 (pa_cons (pv 0) (pa_cons (pv 1) (pa_cons (pv 2) (pa_cons (pv 3) pa_nil))))) T.c_Purse T.m_Purse_handing (ok_Purse_handing T) (hr.mono (by first | decide | exact Nat.le_refl _)) pass0))), ?_⟩
  rintro ⟨x, dues⟩ ⟨hx, hd⟩
  refine sx_ret (P := Ssm (ChR x dues) (fun lane => Is K (Tp.mk lane))) ?_ rfl
  refine eg_ssm (eg_methS (pr := PuR (x, dues)) (Os := fun p => [Is K p.dues.1, IsLk K p.x, Is K p.dues.2, DcX (dkN p.M)]) (eg_call (x, dues) (ea_cons (eg_var rfl) (ea_cons (eg_var rfl) (ea_cons (eg_var rfl) (ea_cons (eg_var rfl) ea_nil)))) ⟨hx, hd⟩) fun p hp => hp.2.2) (fun p => handL p.x.L.length p.M) (fun p hp => ?_) fun _ _ => rfl
  obtain ⟨rfl, rfl, h⟩ := hp
  exact ⟨hand_ok (dues := p.dues) h.m, by rw [hand_paid h.m]; exact ⟨p.M, h.m, h.o, rfl⟩⟩
def RaR (x : LkD) (dues : Int × Int) (R : List (Int × Int)) : Prop := RatesOk x.L x.keep x.shut x.anew dues R ∧ LeastFee x dues (toldF R)
theorem ok_rates (T : Tx K mg) : FnR prog w K mg base CX0 9 (He.ga K "rates") (spP FeeC (FeeA K) (fun g => Ssm (RaR g.1 g.2) (fun R => Is K (Tp.mk R)))) := by
  obtain ⟨fdO, FO⟩ := T.d_rates
  refine fn_pure FO sc_rates (fun _ _ _ _ _ _ us hl => match us, hl with | [_, _, _, _], _ => rfl) (fun _ => rfl) fun cdv A outer s H E hr => ⟨_, PSs.nox (pss_one (ps_ret (SlX.pe_methSl0 (E := E0) (pe_callR (E := E0) (ok_purse T) (hr.mono (by first | decide | exact Nat.le_refl _)) (by rfl) T.g_purse T.k_purse pass0 (pa_cons (pv 0) (pa_cons (pv 1) (pa_cons (pv 2) (pa_cons (pv 3) pa_nil))))) T.c_Purse T.m_Purse_rates (ok_Purse_rates T) (hr.mono (by first | decide | exact Nat.le_refl _)) pass0))), ?_⟩
  rintro ⟨x, dues⟩ ⟨hx, hd⟩
  refine sx_ret (P := Ssm (RaR x dues) (fun R => Is K (Tp.mk R))) ?_ rfl
  refine EvG.weak (eg_methS (pr := PuR (x, dues)) (Os := fun p => [Is K p.dues.1, IsLk K p.x, Is K p.dues.2, DcX (dkN p.M)]) (eg_call (x, dues) (ea_cons (eg_var rfl) (ea_cons (eg_var rfl) (ea_cons (eg_var rfl) (ea_cons (eg_var rfl) ea_nil)))) ⟨hx, hd⟩) fun p hp => hp.2.2) fun v H h => ?_
  obtain ⟨p, hp, R, ⟨hR, ht⟩, hv⟩ := h
  have hl := Full.least hp
  obtain ⟨rfl, rfl, h⟩ := hp
  exact ⟨R, ⟨hR, by rw [ht]; exact hl⟩, hv⟩
theorem ok_is_cheapest (T : Tx K mg) : FnR prog w K mg base CX0 10 (He.ga K "is_cheapest") (spP (fun g : (LkD × (Int × Int)) × Int × List (Option Nat) × Int => FeeC g.1 ∧ g.1.1.keep = some g.2.1 ∧ HandOk g.1.1.L g.1.1.keep g.2.2.1 ∧ LeastFee g.1.1 g.1.2 g.2.2.2) (fun g => FeeA K g.1 ++ [Is K (Tp.mk g.2.2.1)]) (fun g => Is K (decide (paidF g.1.1.L g.1.1.shut g.1.1.anew g.1.2 g.2.2.1 = g.2.2.2)))) := by
  obtain ⟨fdO, FO⟩ := T.d_is_cheapest
  refine fn_pure FO sc_is_cheapest (fun _ _ _ _ _ _ us hl => match us, hl with | [_, _, _, _, _], _ => rfl) (fun _ => rfl) fun cdv A outer s H E hr => ⟨_, PSs.nox (pss_one (ps_ret (pe_and (pe_callR (E := E0) (ok_is_handing T) (hr.mono (by first | decide | exact Nat.le_refl _)) (by rfl) T.g_is_handing T.k_is_handing pass0 (pa_cons (pv 0) (pa_cons (pv 1) (pa_cons (pv 4) pa_nil)))) (pe_one (pe_cmpR op_eq (pe_callR (E := E0) (ok_fee T) (hr.mono (by first | decide | exact Nat.le_refl _)) (by rfl) T.g_fee T.k_fee pass0 (pa_cons (pv 0) (pa_cons (pv 2) (pa_cons (pv 3) (pa_cons (pv 4) pa_nil))))) (pe_callR (E := E0) (ok_least_fee T) (hr.mono (by first | decide | exact Nat.le_refl _)) (by rfl) T.g_least_fee T.k_least_fee pass0 (pa_cons (pv 0) (pa_cons (pv 1) (pa_cons (pv 2) (pa_cons (pv 3) pa_nil))))) (nomark _)))))), ?_⟩
  rintro ⟨⟨x, dues⟩, k, lane, m⟩ ⟨⟨hx, hd⟩, hk, hl, hm⟩
  have hk : x.keep = some k := hk
  have hl : HandOk x.L x.keep lane := hl
  have hm : LeastFee x dues m := hm
  have hd : DuOk' dues := hd
  refine sx_ret (P := Is K (decide (paidF x.L x.shut x.anew dues lane = m))) (EvG.to (eg_and (eg_call (x.L, k, lane) (ea_cons (eg_var rfl) (ea_cons (EvG.to (eg_var (i := 1) (P := Is K x.keep) rfl) (by rw [hk]; rfl)) (ea_cons (eg_var rfl) ea_nil))) ⟨hx.1, by rw [hk] at hl; exact hl⟩) fun _ => eg_eqI (K := K) (i := paidF x.L x.shut x.anew dues lane) (j := m) (eg_call (x.L, (x.shut, x.anew), dues, lane) (ea_cons (eg_var rfl) (ea_cons (eg_var rfl) (ea_cons (eg_var rfl) (ea_cons (eg_var rfl) ea_nil)))) ⟨hx.1, hx.2, hd, hl.lane⟩) (EvG.of (F := Is K) (eg_call (x, dues) (ea_cons (eg_var rfl) (ea_cons (eg_var rfl) (ea_cons (eg_var rfl) (ea_cons (eg_var rfl) ea_nil)))) ⟨hx, hd⟩) m fun m' hm' => hm'.uniq hd hm)) rfl) rfl
end
end Lp

/-! part LpFees2 -/
set_option Elab.async false
set_option linter.all false
set_option maxRecDepth 100000

namespace Lp
open PySem PySem.Spec PyProof.Rows L2
open Evl (Ex ex_l ex_t ex_rd fresh_back)
section
variable {prog : Program} {w : World} {K : PySem.W.Frag} {mg : Str → Option Value} {base : Heap}
theorem ok_is_rates (T : Tx K mg) : FnR prog w K mg base CX0 9 (He.ga K "is_rates") (spP (fun g : (LkD × (Int × Int)) × List (Int × Int) => FeeC g.1 ∧ RaR g.1.1 g.1.2 g.2) (fun g => FeeA K g.1 ++ [Is K (Tp.mk g.2)]) (fun g => Is K true)) := by
  obtain ⟨fdO, FO⟩ := T.d_is_rates
  refine fn_pure FO sc_is_rates (fun _ _ _ _ _ _ us hl => match us, hl with | [_, _, _, _, _], _ => rfl) (fun _ => rfl) fun cdv A outer s H E hr => ⟨_, PSs.nox (pss_cons (ps_set (i := 5) sc_is_rates.nd rfl (Or.inl rfl) (pe_callR (E := E0) (ok_purse T) (hr.mono (by first | decide | exact Nat.le_refl _)) (by rfl) T.g_purse T.k_purse pass0 (pa_cons (pv 0) (pa_cons (pv 1) (pa_cons (pv 2) (pa_cons (pv 3) pa_nil))))))
    (pss_cons (ps_if (PW.pt (pw_or (pt_not (pt_val (pe_callR (E := E0) (ok_is_tuple T) (hr.mono (by first | decide | exact Nat.le_refl _)) (by rfl) T.g_is_tuple T.k_is_tuple pass0 (pa_cons (pv 4) (pa_cons (pe_callB (call_lenK (K := K)) (by rfl) T.f_len (by decide +kernel) (pa_cons (pv 0) pa_nil)) pa_nil))))) (pw_or1 (pt_not (pt_val (pe_callB (cr_all rfl) (by rfl) T.f_all (by decide +kernel) (pa_cons (pe_lc (own := [("part", 6)]) (g := gName 6) (tt := _) rfl sc_is_rates.nd (pi_tupK (K := K) (pv 4)) (blkOk_by (own := [("part", 6)]) (N := n_is_rates) (sc := defScope s_is_rates) (by decide +kernel)) (fun _ _ _ _ _ => (pg_name (i := 6) sc_is_rates.nd rfl (by first | exact Or.inl rfl | exact Or.inr rfl))) (fun _ _ _ _ _ => pts_nil) (fun _ _ _ _ _ => (pe_callR (E := E0) (ok_is_tuple T) (hr.mono (by first | decide | exact Nat.le_refl _)) (by rfl) T.g_is_tuple T.k_is_tuple pass0 (pa_cons (pv 6) (pa_cons (pe_glob (v := .int 2) rfl T.i_PAIR.choose_spec ⟨_, rfl⟩) pa_nil))))) pa_nil))))))) (pss_one (ps_ret pe_bl)) (pss_nil))
    (pss_cons (ps_if (PW.pt (pw_or (pt_not (pt_val (pe_callB (cr_all rfl) (by rfl) T.f_all (by decide +kernel) (pa_cons (pe_lc2 (own := [("pair", 7), ("part", 6)]) (vs1 := [6]) rfl sc_is_rates.nd (pi_tupK (K := K) (pv 4)) (blkOk_by (own := [("pair", 7), ("part", 6)]) (N := n_is_rates) (sc := defScope s_is_rates) (by decide +kernel)) (by decide) (fun _ _ _ _ _ => (pg_name (i := 7) sc_is_rates.nd rfl (by first | exact Or.inl rfl | exact Or.inr rfl))) (fun _ _ _ _ _ => pts_nil) (fun _ _ _ _ _ => (pi_tupK (K := K) (pv 7))) (fun _ _ _ _ _ => (pg_name (i := 6) sc_is_rates.nd rfl (by first | exact Or.inl rfl | exact Or.inr rfl))) (fun _ _ _ _ _ => pts_nil) (fun _ _ _ _ _ => (pe_callR (E := E0) (ok_is_number T) (hr.mono (by first | decide | exact Nat.le_refl _)) (by rfl) T.g_is_number T.k_is_number pass0 (pa_cons (pv 6) (pa_cons pe_int pa_nil))))) pa_nil)))) (pw_or1 (pt_not (pt_val (SlX.pe_methSl (E := E0) (pv 5) T.c_Purse T.m_Purse_are_rates (ok_Purse_are_rates T) (hr.mono (by first | decide | exact Nat.le_refl _)) pass0 (pa_cons (pv 4) pa_nil))))))) (pss_one (ps_ret pe_bl)) (pss_nil))
    (pss_one (ps_ret (pe_cmpR op_eq (pe_op op_sub (pe_callB (cr_sum rfl) (by rfl) T.f_sum (by decide +kernel) (pa_cons (pe_lc (own := [("taking", 8), ("giving", 9)]) (g := _) (tt := _) rfl sc_is_rates.nd (pi_tupK (K := K) (pv 4)) (blkOk_by (own := [("taking", 8), ("giving", 9)]) (N := n_is_rates) (sc := defScope s_is_rates) (by decide +kernel)) (fun _ _ _ _ _ => (pg_tupK (K := K) (n := 2) rfl (pgs_cons (pg_name (i := 8) sc_is_rates.nd rfl (by first | exact Or.inl rfl | exact Or.inr rfl)) (pgs_cons (pg_name (i := 9) sc_is_rates.nd rfl (by first | exact Or.inl rfl | exact Or.inr rfl)) pgs_nil)))) (fun _ _ _ _ _ => pts_nil) (fun _ _ _ _ _ => (pv 8))) pa_nil)) (pe_callB (cr_sum rfl) (by rfl) T.f_sum (by decide +kernel) (pa_cons (pe_lc (own := [("taking", 8), ("giving", 9)]) (g := _) (tt := _) rfl sc_is_rates.nd (pi_tupK (K := K) (pv 4)) (blkOk_by (own := [("taking", 8), ("giving", 9)]) (N := n_is_rates) (sc := defScope s_is_rates) (by decide +kernel)) (fun _ _ _ _ _ => (pg_tupK (K := K) (n := 2) rfl (pgs_cons (pg_name (i := 8) sc_is_rates.nd rfl (by first | exact Or.inl rfl | exact Or.inr rfl)) (pgs_cons (pg_name (i := 9) sc_is_rates.nd rfl (by first | exact Or.inl rfl | exact Or.inr rfl)) pgs_nil)))) (fun _ _ _ _ _ => pts_nil) (fun _ _ _ _ _ => (pv 9))) pa_nil))) (SlX.pe_methSl0 (E := E0) (pv 5) T.c_Purse T.m_Purse_total (ok_Purse_total T) (hr.mono (by first | decide | exact Nat.le_refl _)) pass0) (nomark _))))))), ?_⟩
  rintro ⟨⟨x, dues⟩, R⟩ ⟨⟨hx, hd⟩, hR, hm⟩
  have hx : LkOk x := hx
  have hd : DuOk' dues := hd
  have hR : RatesOk x.L x.keep x.shut x.anew dues R := hR
  have hm : LeastFee x dues (toldF R) := hm
  have hn : R.length ≤ 1000 := by rw [hR.len]; exact hx.1
  refine sx_setS (p := PuR (x, dues)) (F := IsPuX K) (eg_call (x, dues) (ea_cons (eg_var rfl) (ea_cons (eg_var rfl) (ea_cons (eg_var rfl) (ea_cons (eg_var rfl) ea_nil)))) ⟨hx, hd⟩) fun p hp => ?_
  have hlf := Full.least hp
  obtain ⟨ex, ed, hf⟩ := hp
  simp only at ex ed
  refine sx_ifRet (b := false) (EvT.to (et_or (et_not (et_B (b := true) (EvG.to (eg_call (R.map (Is K), x.L.length) (ea_cons (eg_var rfl) (ea_cons (eg_lenTp (xs := x.L) (eg_var rfl)) ea_nil)) trivial) (congrArg (Is K) (decide_eq_true (by rw [List.length_map]; exact hR.len)))))) fun _ => et_not (et_B (b := true) (EvG.to (eg_all (eg_lcM (xs := R) (fun _ => true) (ew_tup (eg_var rfl)) (fun b hb => tg_name) (fun b hb => EvG.to (eg_call ([Is K b.1, Is K b.2], 2) (ea_cons (eg_var rfl) (ea_cons eg_c ea_nil)) trivial) rfl) (Nat.le_trans hn (by decide)))) (congrArg (Is K) ?_)))) rfl) (fun z => nomatch z) fun _ => ?_
  · rw [List.all_map]
    exact List.all_eq_true.mpr fun _ _ => rfl
  refine sx_ifRet (b := false) (EvT.to (et_or (et_not (et_B (b := true) (eg_allS (eg_all2 (R := R) rfl (by decide) (by decide) (Nat.le_of_ble_eq_true rfl) (Nat.le_of_ble_eq_true rfl) (fun q hq n hn' => EvG.to (eg_call (n, (0 : Int)) (ea_cons (eg_var rfl) (ea_cons eg_int ea_nil)) trivial) (congrArg (Is K) (decide_eq_true ?_))) hn)))) fun _ => et_not (et_B (b := true) (eg_meth (p, R) (eg_var (P := IsPuX K p) rfl) (ea_cons (eg_var rfl) ea_nil) rfl ⟨hf.x, by rw [ex, ed]; exact hR⟩))) rfl) (fun z => nomatch z) fun _ => ?_
  · have := hR.pos q hq
    rcases hn' with e | e <;> rw [e] <;> omega
  refine sx_ret (P := Is K true) (EvG.to (eg_eqI (K := K) (i := toldF R) (j := tot p.E p.x.L.length p.M) (eg_opI0 (f := fun i j => i - j) (eg_sum (eg_lcM (xs := R) Prod.fst (ew_tup (eg_var rfl)) (fun b hb => tg_pair (x := b.1) (y := b.2) tg_name tg_name) (fun b hb => eg_var rfl) (Nat.le_trans hn (by decide)))) (eg_sum (eg_lcM (xs := R) Prod.snd (ew_tup (eg_var rfl)) (fun b hb => tg_pair (x := b.1) (y := b.2) tg_name tg_name) (fun b hb => eg_var rfl) (Nat.le_trans hn (by decide))))) (eg_meth (Ps := []) p (eg_var (P := IsPuX K p) rfl) ea_nil rfl hf)) (congrArg (Is K) (decide_eq_true ?_))) rfl
  exact hm.uniq hd hlf
end
end Lp

/-! part LpPool1 -/
set_option Elab.async false
set_option linter.all false
set_option maxRecDepth 100000

namespace Lp
open PySem PySem.Spec PyProof.Rows L2
open Evl (Ex ex_l ex_t ex_rd fresh_back)
section
variable {prog : Program} {w : World} {K : PySem.W.Frag} {mg : Str → Option Value} {base : Heap}
/-- the pool as a value that only is read -/
def IsPo (K : PySem.W.Frag) (p : PoS) : SP := ObP (He.ga K "Pool") [Is K p.depth, Is K p.idle, Is K p.keep, Is K p.lent, Is K p.made, Is K p.now, Is K p.there]
theorem ok_Pool_len (T : Tx K mg) : FnR prog w K mg base CX0 1 (He.ma K (He.ga K "Pool") "__len__") (spP (fun _ : PoS => True) (fun p => [IsPo K p]) (fun p => Is K p.there.length)) := by
  obtain ⟨fdO, FO⟩ := T.d_Pool_len
  refine fn_pure FO sc_Pool_len (fun _ _ _ _ _ _ us hl => match us, hl with | [_], _ => rfl) (fun _ => rfl) fun cdv A outer s H E hr => ⟨_, PSs.nox (pss_one (ps_ret (pe_callB (call_lenK (K := K)) (by rfl) T.f_len (by decide +kernel) (pa_cons (pe_slK (K := K) (pv 0)) pa_nil)))), ?_⟩
  rintro p -
  exact sx_ret (eg_len (xs := p.there) (eg_sl (eg_var rfl) T.c_Pool T.sl_Pool_there rfl)) rfl
theorem ok_Pool_now (T : Tx K mg) : FnR prog w K mg base CX0 1 (pg K "Pool" "now") (spP (fun _ : PoS => True) (fun p => [IsPo K p]) (fun p => Is K p.now)) := by
  obtain ⟨fdO, FO⟩ := T.d_Pool_now
  refine fn_pure FO sc_Pool_now (fun _ _ _ _ _ _ us hl => match us, hl with | [_], _ => rfl) (fun _ => rfl) fun cdv A outer s H E hr => ⟨_, PSs.nox (pss_one (ps_ret (pe_slK (K := K) (pv 0)))), ?_⟩
  rintro p -
  exact sx_ret (eg_sl (eg_var rfl) T.c_Pool T.sl_Pool_now rfl) rfl
theorem ok_Pool_made (T : Tx K mg) : FnR prog w K mg base CX0 1 (pg K "Pool" "made") (spP (fun _ : PoS => True) (fun p => [IsPo K p]) (fun p => Is K p.made)) := by
  obtain ⟨fdO, FO⟩ := T.d_Pool_made
  refine fn_pure FO sc_Pool_made (fun _ _ _ _ _ _ us hl => match us, hl with | [_], _ => rfl) (fun _ => rfl) fun cdv A outer s H E hr => ⟨_, PSs.nox (pss_one (ps_ret (pe_slK (K := K) (pv 0)))), ?_⟩
  rintro p -
  exact sx_ret (eg_sl (eg_var rfl) T.c_Pool T.sl_Pool_made rfl) rfl
def plF (p : PoS) : Int := match p.depth with
  | none => (p.idle.length : Int) - 1
  | some d => min d ((p.idle.length : Int) - 1)
theorem ok_Pool_place (T : Tx K mg) : FnR prog w K mg base CX0 1 (He.ma K (He.ga K "Pool") "place") (spP (fun _ : PoS => True) (fun p => [IsPo K p]) (fun p => Is K (plF p))) := by
  obtain ⟨fdO, FO⟩ := T.d_Pool_place
  refine fn_pure FO sc_Pool_place (fun _ _ _ _ _ _ us hl => match us, hl with | [_], _ => rfl) (fun _ => rfl) fun cdv A outer s H E hr => ⟨_, PSs.nox (pss_cons (ps_set (i := 1) sc_Pool_place.nd rfl (Or.inl rfl) (pe_op op_sub (pe_callB (call_lenK (K := K)) (by rfl) T.f_len (by decide +kernel) (pa_cons (pe_slK (K := K) (pv 0)) pa_nil)) pe_int))
    (pss_one (ps_ret (pe_ifExp (pt_cmp (pc_isN (pe_slK (K := K) (pv 0)))) (pv 1) (pe_callB (call_min2 rfl) (by rfl) T.f_min (by decide +kernel) (pa_cons (pe_slK (K := K) (pv 0)) (pa_cons (pv 1) pa_nil))))))), ?_⟩
  rintro p -
  refine sx_set (P := Is K ((p.idle.length : Int) - 1)) (eg_opI0 (K := K) (f := fun i j => i - j) (eg_len (xs := p.idle) (eg_sl (eg_var rfl) T.c_Pool T.sl_Pool_idle rfl)) eg_int) ?_
  refine sx_ret (P := Is K (plF p)) (eg_if (et_B (eg_isN (K := K) (o := p.depth) (eg_sl (eg_var rfl) T.c_Pool T.sl_Pool_depth rfl))) (fun h => EvG.to (eg_var (i := 1) (P := Is K ((p.idle.length : Int) - 1)) rfl) ?_) fun h => ?_) rfl
  · show _ = Is K (plF p)
    unfold plF
    cases hd : p.depth with
    | none => rfl
    | some d => rw [hd] at h; cases h
  · obtain ⟨d, hd⟩ : ∃ d, p.depth = some d := by
      cases hd : p.depth with
      | none => rw [hd] at h; cases h
      | some d => exact ⟨d, rfl⟩
    refine EvG.to (eg_min2 (K := K) (i := d) (j := (p.idle.length : Int) - 1) (fun xs H Q h => h) (EvG.to (eg_sl (eg_var rfl) T.c_Pool T.sl_Pool_depth rfl) (congrArg (Is K) hd)) (eg_var rfl)) ?_
    show _ = Is K (plF p)
    unfold plF
    rw [hd]
/-- what a value stands for does not ask the heap -/
def Fre (P : SP) : Prop := ∀ (v : V) (H H' : Hp), P.p v H → P.p v H'
theorem fre_eq {x : V} : Fre (Eq1 x) := fun _ _ _ h => h
theorem fre_opt {o : Option Int} : Fre (Is K o) := by
  cases o with
  | none => exact fre_eq
  | some i => exact fre_eq
abbrev poSs (K : PySem.W.Frag) (p : PoS) (li le lt : Addr) : Gm := [some (Is K p.depth), some (Eq1 (.ref li)), some (Is K p.keep), some (Eq1 (.ref le)), some (Is K p.made), some (Is K p.now), some (Eq1 (.ref lt))]
theorem poSs_fre {p : PoS} {li le lt : Addr} (i : Nat) (P : SP) (h : (poSs K p li le lt)[i]? = some (some P)) : Fre P := by
  match i, h with
  | 0, h => injection h with h; injection h with h; subst h; exact fre_opt
  | 1, h => injection h with h; injection h with h; subst h; exact fre_eq
  | 2, h => injection h with h; injection h with h; subst h; exact fre_eq
  | 3, h => injection h with h; injection h with h; subst h; exact fre_eq
  | 4, h => injection h with h; injection h with h; subst h; exact fre_eq
  | 5, h => injection h with h; injection h with h; subst h; exact fre_eq
  | 6, h => injection h with h; injection h with h; subst h; exact fre_eq
  | _ + 7, h => simp at h
structure PoA (K : PySem.W.Frag) (G : Hp) (p : PoS) (a dx li le lt : Addr) (vi : List V) (H : Hp) : Prop where
  ob : Ob G H a (He.ga K "Pool") dx (poSs K p li le lt)
  gi : G li = none
  ge : G le = none
  gt : G lt = none
  ie : li ≠ le
  it : li ≠ lt
  et : le ≠ lt
  hi : H li = some (.lst vi)
  ri : AllP vi (p.idle.map (Is K)) H
  he : H le = some (.lst (p.lent.map fun n : Nat => V.int (n : Int)))
  ht : H lt = some (.lst (p.there.map fun n : Nat => V.int (n : Int)))
/-- the pool p at a; all else is what G knows -/
def PoH (K : PySem.W.Frag) (G : Hp) (p : PoS) (a : Addr) (H : Hp) : Prop := ∃ dx li le lt vi, PoA K G p a dx li le lt vi H
theorem PoA.mono {G H H' : Hp} {p : PoS} {a dx li le lt : Addr} {vi : List V} (h : PoA K G p a dx li le lt vi H) (e : Ex H H') : PoA K G p a dx li le lt vi H' :=
  ⟨h.ob.mono e, h.gi, h.ge, h.gt, h.ie, h.it, h.et, e _ _ h.hi, AllP.mono h.ri e, e _ _ h.he, e _ _ h.ht⟩
theorem PoH.mono {G H H' : Hp} {p : PoS} {a : Addr} (h : PoH K G p a H) (e : Ex H H') : PoH K G p a H' := by
  obtain ⟨dx, li, le, lt, vi, h⟩ := h
  exact ⟨dx, li, le, lt, vi, h.mono e⟩
theorem PoH.ex {G H : Hp} {p : PoS} {a : Addr} (h : PoH K G p a H) : Ex G H := by
  obtain ⟨dx, li, le, lt, vi, h⟩ := h
  exact h.ob.ex
theorem PoA.po {G H : Hp} {p : PoS} {a dx li le lt : Addr} {vi : List V} (h : PoA K G p a dx li le lt vi H) : (IsPo K p).p (.ref a) H := by
  obtain ⟨vs, h1, h2⟩ := h.ob.ob
  refine ⟨a, dx, rfl, vs, h1, fun i P hP => ?_⟩
  match i, hP with
  | 0, hP => exact h2 0 P hP
  | 1, hP =>
    obtain ⟨w, hw, hp⟩ := h2 1 _ rfl
    obtain rfl : w = .ref li := hp
    injection hP with hP
    injection hP with hP
    subst hP
    exact ⟨_, hw, li, vi, rfl, .inl (.inl h.hi), h.ri⟩
  | 2, hP => exact h2 2 P hP
  | 3, hP =>
    obtain ⟨w, hw, hp⟩ := h2 3 _ rfl
    obtain rfl : w = .ref le := hp
    injection hP with hP
    injection hP with hP
    subst hP
    exact ⟨_, hw, le, _, rfl, .inl (.inl h.he), nats_all⟩
  | 4, hP => exact h2 4 P hP
  | 5, hP => exact h2 5 P hP
  | 6, hP =>
    obtain ⟨w, hw, hp⟩ := h2 6 _ rfl
    obtain rfl : w = .ref lt := hp
    injection hP with hP
    injection hP with hP
    subst hP
    exact ⟨_, hw, lt, _, rfl, .inl (.inl h.ht), nats_all⟩
  | _ + 7, hP => simp at hP
theorem PoH.po {G H : Hp} {p : PoS} {a : Addr} (h : PoH K G p a H) : (IsPo K p).p (.ref a) H := by
  obtain ⟨dx, li, le, lt, vi, h⟩ := h
  exact h.po
/-- a cell changes that is none of the object's -/
theorem Ob.off {G G' H : Hp} {a C dx b : Addr} {Ss : Gm} {u : HO} (h : Ob G H a C dx Ss) (hf : ∀ (i : Nat) (P : SP), Ss[i]? = some (some P) → Fre P) (ha : a ≠ b) (hd : dx ≠ b) (ga : G' a = none) (gd : G' dx = none) (ge : Ex G' (upd H b u)) : Ob G' (upd H b u) a C dx Ss := by
  obtain ⟨vs, h1, h2⟩ := h.ob
  refine ⟨ga, gd, ge, ⟨vs, ?_, fun i P hP => ?_⟩, ⟨h.own.1, fun o ho => h.own.2 o (by rwa [upd_ne hd] at ho)⟩, by rw [upd_ne hd]; exact h.hd, h.rs⟩
  · rcases h1 with ⟨h1, e⟩ | ⟨h1, h1'⟩
    · exact .inl ⟨by rw [upd_ne ha]; exact h1, e⟩
    · exact .inr ⟨by rw [upd_ne ha]; exact h1, by rw [upd_ne hd]; exact h1'⟩
  · obtain ⟨w, hw, hp⟩ := h2 i P hP
    exact ⟨w, hw, hf i P hP _ _ _ hp⟩
theorem slt_lst {H : Hp} {a C dx l : Addr} {vs : List (Option V)} {xs : List V} (h : SlX.Slt H a C dx vs) (hl : H l = some (.lst xs)) : a ≠ l := fun z => by
  subst z
  rcases h with ⟨h, _⟩ | ⟨h, _⟩ <;> rw [hl] at h <;> cases h
theorem Ob.lst {G H : Hp} {a C dx l : Addr} {Ss : Gm} {xs ys : List V} (h : Ob G H a C dx Ss) (hf : ∀ (i : Nat) (P : SP), Ss[i]? = some (some P) → Fre P) (hl : H l = some (.lst xs)) (gl : G l = none) : Ob G (upd H l (.lst ys)) a C dx Ss := by
  obtain ⟨vs, h1, h2⟩ := id h.ob
  refine h.off hf (slt_lst h1 hl) (fun z => ?_) h.na h.nd (Ex.mut h.ex gl)
  subst z
  have := h.own.2 _ hl
  cases this
end
end Lp

/-! part LpPool2 -/
set_option Elab.async false
set_option linter.all false
set_option maxRecDepth 100000

namespace Lp
open PySem PySem.Spec PyProof.Rows L2
open Evl (Ex ex_l ex_t ex_rd fresh_back)
section
variable {prog : Program} {w : World} {K : PySem.W.Frag} {mg : Str → Option Value} {base : Heap}
section
variable {σ : L2.St} {H G : Hp} {D : Ends} {a C dx : Addr} {Ss Γ : Gm} {f : Str} {i j : Nat} {p l : Addr} {xs : List V} {ta : TA} {Ps : List SP} {r : V → List V → Hp → VK → Prop} {tx ty te : TE} {P : SP}
/-- self.f.m(e, ..), the list at l -/
theorem h_bmSl (hj : σ[j]? = some (some (.ref a))) (o : Ob G H a C dx Ss) (hc : SlX.SCls K C) (hs : SlX.Slot1 K C f p i) (hx : Ss[i]? = some (some (Eq1 (.ref l)))) (hl : H l = some (.lst xs)) (ha : EvA ta Γ Ps) (s : Sat Γ σ H)
    (k : ∀ vs H2, Ex H H2 → AllP vs Ps H2 → r (.ref l) vs H2 fun _ H3 => D.nx σ H3) : tDrop (tBM K "list" r (SlX.tSl K (tVar j) f) ta) D σ H := by
  obtain ⟨vs, h1, h2⟩ := o.ob
  obtain ⟨w, hw, hp⟩ := h2 i _ hx
  obtain rfl : w = .ref l := hp
  exact ⟨_, hj, a, C, dx, p, vs, i, _, rfl, h1, hc, hs, hw, .inl ⟨rfl, xs, .inl (.inl hl)⟩, ha σ H _ s k⟩
theorem h_slAug {n : Nat} (hj : σ[j]? = some (some (.ref a))) (o : Ob G H a C dx Ss) (hc : SlX.SCls K C) (hs : SlX.Slot1 K C f p i) (hx : Ss[i]? = some (some (Is K n))) (k : ∀ H2, Es H H2 → Ob G H2 a C dx (Ss.set i (some (Is K (n + 1)))) → D.nx σ H2) : sSlAug K (tVar j) (tC (.int 1)) rAdd f D σ H := by
  obtain ⟨vs, h1, h2⟩ := o.ob
  obtain ⟨w, hw, hp⟩ := h2 i _ hx
  obtain rfl : w = .int (n : Int) := hp
  refine ⟨_, hj, a, C, dx, p, vs, i, _, rfl, h1, hc, hs, hw, (n : Int), 1, rfl, rfl, vs, h1, ?_⟩
  obtain ⟨o2, es⟩ := o.put (i := i) (P := Is K (n + 1)) (v := .int ((n : Int) + 1)) rfl (RepS.rs (K := K) (n + 1)) vs h1 h2
  exact k _ es o2
theorem eg_ninL {g : Nat} {zs : List Nat} (ha : EvG tx Γ (Is K g)) (hb : EvG ty Γ (Is K zs)) : EvG (tOp (rIn K true) tx ty) Γ (Is K (!decide (g ∈ zs))) := fun σ H Q s q =>
  ha.two hb s fun v u H2 e p1 p2 => by
    obtain rfl : v = .int (g : Int) := p1
    obtain ⟨b, us, rfl, h4, h5⟩ := p2
    have e2 := all_nats h5
    subst e2
    refine ⟨b, _, rfl, .inl h4, rfl, ?_, q _ H2 e ?_⟩
    · rw [List.all_map]
      exact List.all_eq_true.mpr fun _ _ => rfl
    · have : inV (.int (g : Int)) (zs.map fun n : Nat => V.int (n : Int)) = decide (g ∈ zs) := by
        unfold inV
        rw [List.any_map]
        have e3 : ((fun y => eqV y (V.int (g : Int))) ∘ fun n : Nat => V.int (n : Int)) = fun n => decide (n = g) := by
          funext n
          show ((n : Int) == (g : Int)) = _
          rw [Bool.beq_eq_decide_eq]
          exact decide_eq_decide.mpr Int.ofNat_inj
        rw [e3]
        cases h : decide (g ∈ zs) with
        | true => exact List.any_eq_true.mpr ⟨g, of_decide_eq_true h, decide_eq_true rfl⟩
        | false =>
          cases h2 : zs.any fun n => decide (n = g) with
          | false => rfl
          | true =>
            obtain ⟨n, hn, e⟩ := List.any_eq_true.mp h2
            have := of_decide_eq_true e
            subst this
            exact absurd hn (of_decide_eq_false h)
      show V.bl _ = V.bl _
      rw [this]
      rfl
end
theorem canLay_pairs : ∀ ns : List (Int × Int), PyData.canLayAll0 (ns.map PySem.W.Datum.toD) = true
  | [] => rfl
  | n :: r => by
    have h : PyData.canLay0 (PySem.W.Datum.toD n) = true := rfl
    simp [PyData.canLayAll0, h, canLay_pairs r]
theorem depth_pairs : ∀ ns : List (Int × Int), PyData.depthAll (ns.map PySem.W.Datum.toD) ≤ 2
  | [] => by show 0 ≤ 2; decide
  | n :: r => by
    have h : PyData.depth (PySem.W.Datum.toD n) ≤ 2 := by show PyData.depth (.tuple [.int n.1, .int n.2]) ≤ 2; simp [PyData.depth, PyData.depthAll]
    have h2 := depth_pairs r
    simp only [List.map_cons, PyData.depthAll]
    omega
theorem shaped_pairs (ns : List (Int × Int)) : SeqAt.shaped (.list (ns.map PySem.W.Datum.toD)) = true := by
  have h1 := depth_pairs ns
  have h2 : PyData.depth (.list (ns.map PySem.W.Datum.toD)) ≤ 64 := by
    simp only [PyData.depth]
    omega
  unfold SeqAt.shaped
  rw [decide_eq_true h2, Bool.and_true]
  show PyData.canLayAll0 _ = true
  exact canLay_pairs ns
theorem eg_ninP {Γ : Gm} {tx ty : TE} {x : Int × Int} {zs : List (Int × Int)} (ha : EvG tx Γ (Is K x)) (hb : EvG ty Γ (Is K zs)) : EvG (tOp (rNotInD K) tx ty) Γ (Is K (!decide (x ∈ zs))) := fun σ H Q s q =>
  ha.two hb s fun v u H2 e p1 p2 => by
    obtain ⟨b, us, rfl, h4, h5⟩ := p2
    refine ⟨_, _, dp_pair p1, .lst h4 (dp_all (fun _ _ _ => dp_pair) h5), rfl, shaped_pairs zs, q _ H2 e ?_⟩
    have : ((zs.map PySem.W.Datum.toD).any fun z => PyData.eqv z (PySem.W.Datum.toD x)) = decide (x ∈ zs) := by
      rw [List.any_map]
      have e3 : ((fun z => PyData.eqv z (PySem.W.Datum.toD x)) ∘ PySem.W.Datum.toD) = fun z : Int × Int => decide (z = x) := by
        funext z
        exact PySem.W.Datum.eqv z x
      rw [e3]
      cases h : decide (x ∈ zs) with
      | true => exact List.any_eq_true.mpr ⟨x, of_decide_eq_true h, decide_eq_true rfl⟩
      | false =>
        cases h2 : zs.any fun n => decide (n = x) with
        | false => rfl
        | true =>
          obtain ⟨n, hn, e⟩ := List.any_eq_true.mp h2
          have := of_decide_eq_true e
          subst this
          exact absurd hn (of_decide_eq_false h)
    show V.bl _ = V.bl _
    rw [this]
theorem erase_ix {k : Nat} : ∀ {l : List Nat}, k ∈ l → ∃ j, l[j]? = some k ∧ (∀ m, m < j → l[m]? ≠ some k) ∧ l.eraseIdx j = l.erase k
  | [], h => by cases h
  | x :: l, h => by
    by_cases hx : x = k
    · subst hx
      exact ⟨0, rfl, fun m hm => absurd hm (Nat.not_lt_zero _), by simp⟩
    · have hm : k ∈ l := by
        rcases List.mem_cons.mp h with e | e
        · exact absurd e.symm hx
        · exact e
      obtain ⟨j, h1, h2, h3⟩ := erase_ix hm
      refine ⟨j + 1, h1, fun m hmj e => ?_, ?_⟩
      · cases m with
        | zero => exact hx (Option.some.inj e)
        | succ m => exact h2 m (by omega) e
      · rw [List.eraseIdx_cons_succ, h3, List.erase_cons_tail (by simpa using hx)]
theorem eraseIdx_map' {α β : Type} {f : α → β} : ∀ (l : List α) (j : Nat), (l.map f).eraseIdx j = (l.eraseIdx j).map f
  | [], j => by simp
  | x :: l, 0 => rfl
  | x :: l, j + 1 => by
    show f x :: (l.map f).eraseIdx j = f x :: (l.eraseIdx j).map f
    rw [eraseIdx_map' l j]
theorem PoA.lent {G H : Hp} {p : PoS} {a dx li le lt : Addr} {vi : List V} (h : PoA K G p a dx li le lt vi H) (ns : List Nat) : PoA K G { p with lent := ns } a dx li le lt vi (upd H le (.lst (ns.map fun n : Nat => V.int (n : Int)))) :=
  ⟨h.ob.lst (fun i P hP => poSs_fre i P hP) h.he h.ge, h.gi, h.ge, h.gt, h.ie, h.it, h.et, by rw [upd_ne h.ie]; exact h.hi, h.ri.kt (fun P hP => by
    obtain ⟨e, _, rfl⟩ := List.mem_map.mp hP
    exact RepT.rt e) (kt_upd h.he rfl), upd_same, by rw [upd_ne h.et.symm]; exact h.ht⟩
theorem PoA.there {G H : Hp} {p : PoS} {a dx li le lt : Addr} {vi : List V} (h : PoA K G p a dx li le lt vi H) (ns : List Nat) : PoA K G { p with there := ns } a dx li le lt vi (upd H lt (.lst (ns.map fun n : Nat => V.int (n : Int)))) :=
  ⟨h.ob.lst (fun i P hP => poSs_fre i P hP) h.ht h.gt, h.gi, h.ge, h.gt, h.ie, h.it, h.et, by rw [upd_ne h.it]; exact h.hi, h.ri.kt (fun P hP => by
    obtain ⟨e, _, rfl⟩ := List.mem_map.mp hP
    exact RepT.rt e) (kt_upd h.ht rfl), by rw [upd_ne h.et]; exact h.he, upd_same⟩
theorem PoA.idle {G H : Hp} {p : PoS} {a dx li le lt : Addr} {vi : List V} (h : PoA K G p a dx li le lt vi H) (ns : List (Nat × Nat)) (ws : List V) (hw : AllP ws (ns.map (Is K)) H) : PoA K G { p with idle := ns } a dx li le lt ws (upd H li (.lst ws)) :=
  ⟨h.ob.lst (fun i P hP => poSs_fre i P hP) h.hi h.gi, h.gi, h.ge, h.gt, h.ie, h.it, h.et, upd_same, hw.kt (fun P hP => by
    obtain ⟨e, _, rfl⟩ := List.mem_map.mp hP
    exact RepT.rt e) (kt_upd h.hi rfl), by rw [upd_ne h.ie.symm]; exact h.he, by rw [upd_ne h.it.symm]; exact h.ht⟩
theorem PoA.es {G H H2 : Hp} {p p' : PoS} {a dx li le lt : Addr} {vi : List V} (h : PoA K G p a dx li le lt vi H) (e : Es H H2) (o : Ob G H2 a (He.ga K "Pool") dx (poSs K p' li le lt)) (h1 : p'.idle = p.idle) (h2 : p'.lent = p.lent) (h3 : p'.there = p.there) : PoA K G p' a dx li le lt vi H2 :=
  have hR : ∀ P ∈ p.idle.map (Is K), RS P := fun P hP => by
    obtain ⟨e, _, rfl⟩ := List.mem_map.mp hP
    exact RepS.rs e
  ⟨o, h.gi, h.ge, h.gt, h.ie, h.it, h.et, e _ _ h.hi rfl, by rw [h1]; exact h.ri.es hR e, by rw [h2]; exact e _ _ h.he rfl, by rw [h3]; exact e _ _ h.ht rfl⟩
def spGive (K : PySem.W.Frag) : Sp := fun vs H Q _ => ∃ (G : Hp) (p : PoS) (a : Addr) (k : Nat), PoH K G p a H ∧ vs = [.ref a, .int (k : Int)] ∧ k ∈ p.lent ∧ p.idle.length ≤ 1000 ∧ ∀ H', PoH K G (giveP p k) a H' → Q .non H'
theorem ok_Pool_give (T : Tx K mg) : FnR prog w K mg base CX0 1 (He.ma K (He.ga K "Pool") "give") (spGive K) := by
  obtain ⟨fdO, FO⟩ := T.d_Pool_give
  refine fn_any FO sc_Pool_give (fun _ _ _ _ _ _ us hl => match us, hl with | [_, _], _ => rfl) ?_ fun cdv A outer s H vs Q E hr hsp => ⟨_, PSs.nox (pss_cons (ps_if (pt_cmpR (op_notInK (K := K)) (pv 1) (pe_slK (K := K) (pv 0)) (by rfl)) (pss_one (ps_never)) (pss_nil))
    (pss_cons (ps_expr (pe_bm PySem.F.plainAttrs_list PySem.F.slot_list_remove PySem.F.type_list_remove mt_remove (pe_slK (K := K) (pv 0)) (pa_cons (pv 1) pa_nil)))
    (pss_one (ps_expr (pe_bm PySem.F.plainAttrs_list PySem.F.slot_list_insert PySem.F.type_list_insert mt_insert (pe_slK (K := K) (pv 0)) (pa_cons pe_int (pa_cons (pe_tup (pa_cons (pv 1) (pa_cons (pe_slK (K := K) (pv 0)) pa_nil))) pa_nil))))))), ?_⟩
  · rintro vs H Q E ⟨G, p, a, k, _, rfl, _⟩
    rfl
  obtain ⟨G, p, a, k, ⟨dx, li, le, lt, vi, po⟩, rfl, hk, hil, hq⟩ := hsp
  have s0 : Sat [some (IsPo K p), some (Is K k)] (start n_Pool_give [.ref a, .int (k : Int)]) H := sat_start (N := n_Pool_give) (Ps := [IsPo K p, Is K k]) (.cons po.po (.cons rfl .nil))
  have hj : (start n_Pool_give [.ref a, .int (k : Int)])[0]? = some (some (.ref a)) := rfl
  have hk1 : (start n_Pool_give [.ref a, .int (k : Int)])[1]? = some (some (.int (k : Int))) := rfl
  generalize start n_Pool_give [.ref a, .int (k : Int)] = σ at s0 hj hk1
  refine h_seq (h_if (b := false) (EvT.to (et_test (eg_ninL (K := K) (g := k) (zs := p.lent) (eg_var (i := 1) rfl) (eg_sl (eg_var (i := 0) (P := IsPo K p) rfl) T.c_Pool T.sl_Pool_lent rfl))) (by simp [hk])) s0 (fun z => nomatch z) fun _ H1 e1 => h_next ?_)
  have po1 := po.mono e1
  have s1 := s0.mono e1
  obtain ⟨x, hx1, hx2, hx3⟩ := erase_ix hk
  refine h_seq (h_bmSl hj po1.ob T.c_Pool T.sl_Pool_lent rfl po1.he (ea_cons (eg_var (i := 1) rfl) ea_nil) s1 fun vs H2 e2 al => ?_)
  cases al with
  | cons r t =>
    cases t
    obtain rfl : _ = V.int (k : Int) := r
    have po2 := po1.mono e2
    have hmap : ∀ l : List Nat, (l.map fun n : Nat => V.int (n : Int)) = (l.map fun n : Nat => (n : Int)).map V.int := fun l => by rw [List.map_map]; rfl
    refine ⟨le, p.lent.map fun n : Nat => (n : Int), (k : Int), x, rfl, rfl, by rw [← hmap]; exact po2.he, by rw [List.getElem?_map, hx1]; rfl, fun m hm e => ?_, ?_⟩
    · rw [List.getElem?_map] at e
      obtain ⟨n, hn, e⟩ := Option.map_eq_some_iff.mp e
      exact hx2 m hm (by rw [hn, Int.ofNat_inj.mp e])
    · have e3 : ((p.lent.map fun n : Nat => (n : Int)).eraseIdx x).map V.int = (p.lent.erase k).map fun n : Nat => V.int (n : Int) := by
        rw [← hx3, hmap]
        congr 1
        exact eraseIdx_map' _ _
      rw [e3]
      have po3 := po2.lent (p.lent.erase k)
      generalize upd H2 le (.lst ((p.lent.erase k).map fun n : Nat => V.int (n : Int))) = H3 at po3
      have s3 : Sat [some (IsPo K { p with lent := p.lent.erase k }), some (Is K k)] σ H3 := ⟨by rw [s0.len]; rfl, fun i P hP => by
        match i, hP with
        | 0, hP => injection hP with hP; injection hP with hP; subst hP; exact ⟨_, hj, po3.po⟩
        | 1, hP => injection hP with hP; injection hP with hP; subst hP; exact ⟨_, hk1, rfl⟩
        | _ + 2, hP => simp at hP⟩
      have ev : EvA (tCons (tC (.int 0)) (tCons (tTup (tCons (tVar 1) (tCons (SlX.tSl K (tVar 0) "own_now") tNil))) tNil)) [some (IsPo K { p with lent := p.lent.erase k }), some (Is K k)] [Is K (0 : Int), Is K (k, p.now)] := ea_cons eg_int (ea_cons (eg_pair (x := k) (y := p.now) (eg_var (i := 1) rfl) (eg_sl (eg_var (i := 0) (P := IsPo K { p with lent := p.lent.erase k }) rfl) T.c_Pool T.sl_Pool_now rfl)) ea_nil)
      dsimp only
      refine h_bmSl hj po3.ob T.c_Pool T.sl_Pool_idle rfl po3.hi ev s3 fun vs H4 e4 al => ?_
      cases al with
      | cons r t =>
        cases t with
        | cons r2 t =>
          cases t
          obtain rfl : _ = V.int 0 := r
          have po4 := po3.mono e4
          have lvi : vi.length = p.idle.length := by
            have := po4.ri.len
            rwa [List.length_map] at this
          refine ⟨li, vi, 0, _, rfl, rfl, po4.hi, by rw [lvi]; exact Nat.lt_of_le_of_lt hil (by decide), by decide, by decide, ?_⟩
          have po5 := po4.idle ((k, p.now) :: p.idle) (_ :: vi) (.cons r2 po4.ri)
          exact hq _ ⟨dx, li, le, lt, _, po5⟩
end
end Lp

/-! part LpPool3 -/
set_option Elab.async false
set_option linter.all false
set_option maxRecDepth 100000

namespace Lp
open PySem PySem.Spec PyProof.Rows L2
open Evl (Ex ex_l ex_t ex_rd fresh_back)
section
variable {prog : Program} {w : World} {K : PySem.W.Frag} {mg : Str → Option Value} {base : Heap}
/-- what take() does -/
def TkR (p p' : PoS) (c : Nat) : Prop := (p.idle = [] ∧ p' = { p with made := p.made + 1, lent := p.lent ++ [p.made], there := p.there ++ [p.made] } ∧ c = p.made) ∨
  ∃ x e, p.idle[x]? = some e ∧ p' = { p with idle := p.idle.eraseIdx x, lent := p.lent ++ [e.1] } ∧ c = e.1
structure PoB (p : PoS) : Prop where
  i : p.idle.length ≤ 1000
  l : p.lent.length ≤ 1000
  t : p.there.length ≤ 1000
  d : ∀ d, p.depth = some d → 0 ≤ d
def spTake (K : PySem.W.Frag) : Sp := fun vs H Q _ => ∃ (G : Hp) (p : PoS) (a : Addr), PoH K G p a H ∧ vs = [.ref a] ∧ PoB p ∧ ∀ H' p' c, TkR p p' c → PoH K G p' a H' → Q (.int (c : Int)) H'
theorem pl_ix {p : PoS} (b : PoB p) (h : p.idle ≠ []) : ∃ x : Nat, plF p = (x : Int) ∧ x < p.idle.length := by
  have h1 : 0 < p.idle.length := List.length_pos_iff.mpr h
  unfold plF
  cases hd : p.depth with
  | none => exact ⟨p.idle.length - 1, by simp only; omega, by omega⟩
  | some d =>
    have h2 := b.d d hd
    exact ⟨(min d ((p.idle.length : Int) - 1)).toNat, by simp only; omega, by omega⟩
theorem ok_Pool_take (T : Tx K mg) : FnR prog w K mg base CX0 2 (He.ma K (He.ga K "Pool") "take") (spTake K) := by
  obtain ⟨fdO, FO⟩ := T.d_Pool_take
  refine fn_any FO sc_Pool_take (fun _ _ _ _ _ _ us hl => match us, hl with | [_], _ => rfl) ?_ fun cdv A outer s H vs Q E hr hsp => ⟨_, PSs.nox (pss_cons (ps_if (pt_cmpR op_eq (pe_callB (call_lenK (K := K)) (by rfl) T.f_len (by decide +kernel) (pa_cons (pe_slK (K := K) (pv 0)) pa_nil)) pe_int (nomark _)) (pss_cons (ps_slAug (pv 0) pe_int in_add)
    (pss_cons (ps_expr (pe_bm PySem.F.plainAttrs_list PySem.F.slot_list_append PySem.F.type_list_append mt_append (pe_slK (K := K) (pv 0)) (pa_cons (pe_op op_sub (pe_slK (K := K) (pv 0)) pe_int) pa_nil)))
    (pss_cons (ps_expr (pe_bm PySem.F.plainAttrs_list PySem.F.slot_list_append PySem.F.type_list_append mt_append (pe_slK (K := K) (pv 0)) (pa_cons (pe_op op_sub (pe_slK (K := K) (pv 0)) pe_int) pa_nil)))
    (pss_one (ps_ret (pe_op op_sub (pe_slK (K := K) (pv 0)) pe_int)))))) (pss_nil))
    (pss_cons (ps_asg (pe_bm PySem.F.plainAttrs_list PySem.F.slot_list_pop PySem.F.type_list_pop mt_popAt (pe_slK (K := K) (pv 0)) (pa_cons (SlX.pe_methSl0 (E := E0) (pv 0) T.c_Pool T.m_Pool_place (ok_Pool_place T) (hr.mono (by first | decide | exact Nat.le_refl _)) pass0) pa_nil)) (pg_tupK (K := K) (n := 2) rfl (pgs_cons (pg_name (i := 1) sc_Pool_take.nd rfl (Or.inl rfl)) (pgs_cons (pg_name (i := 2) sc_Pool_take.nd rfl (Or.inl rfl)) pgs_nil))))
    (pss_cons (ps_expr (pe_bm PySem.F.plainAttrs_list PySem.F.slot_list_append PySem.F.type_list_append mt_append (pe_slK (K := K) (pv 0)) (pa_cons (pv 1) pa_nil)))
    (pss_one (ps_ret (pv 1)))))), ?_⟩
  · rintro vs H Q E ⟨G, p, a, _, rfl, _⟩
    rfl
  obtain ⟨G, p, a, ⟨dx, li, le, lt, vi, po⟩, rfl, hb, hq⟩ := hsp
  have s0 : Sat [some (IsPo K p), none, none] (start n_Pool_take [.ref a]) H := sat_start (N := n_Pool_take) (Ps := [IsPo K p]) (.cons po.po .nil)
  have hj : (start n_Pool_take [.ref a])[0]? = some (some (.ref a)) := rfl
  generalize start n_Pool_take [.ref a] = σ at s0 hj
  have mk : ∀ {p' : PoS} {vi' : List V} {H' : Hp}, PoA K G p' a dx li le lt vi' H' → Sat [some (IsPo K p'), none, none] σ H' := fun po' => ⟨by rw [s0.len]; rfl, fun i P hP => by
    match i, hP with
    | 0, hP => injection hP with hP; injection hP with hP; subst hP; exact ⟨_, hj, po'.po⟩
    | 1, hP => simp at hP
    | 2, hP => simp at hP
    | _ + 3, hP => simp at hP⟩
  refine h_seq (h_if (et_test (eg_eqI (K := K) (i := p.idle.length) (j := 0) (eg_len (xs := p.idle) (eg_sl (eg_var (i := 0) (P := IsPo K p) rfl) T.c_Pool T.sl_Pool_idle rfl)) eg_int)) s0 (fun hb1 H1 e1 => ?_) fun hb1 H1 e1 => ?_)
  · have hid : p.idle = [] := List.length_eq_zero_iff.mp (by have := of_decide_eq_true hb1; omega)
    have po1 := po.mono e1
    refine h_seq (h_slAug hj po1.ob T.c_Pool T.sl_Pool_made rfl fun H2 es o2 => ?_)
    have po2 : PoA K G { p with made := p.made + 1 } a dx li le lt vi H2 := po1.es es o2 rfl rfl rfl
    have em : ((p.made + 1 : Nat) : Int) - 1 = (p.made : Int) := by omega
    have ev : ∀ {p' : PoS}, p'.made = p.made + 1 → EvG (tOp (rI0 fun i j => .int (i - j)) (SlX.tSl K (tVar 0) "own_made") (tC (.int 1))) [some (IsPo K p'), none, none] (Is K p.made) := fun {p'} h => EvG.to (eg_opI0 (K := K) (f := fun i j => i - j) (i := p'.made) (j := 1) (eg_sl (eg_var (i := 0) (P := IsPo K p') rfl) T.c_Pool T.sl_Pool_made rfl) eg_int) (by show Is K ((p'.made : Int) - 1) = Is K (p.made : Int); rw [h, em])
    dsimp only
    refine h_seq (h_bmSl hj po2.ob T.c_Pool T.sl_Pool_lent rfl po2.he (ea_cons (ev rfl) ea_nil) (mk po2) fun vs H3 e3 al => ?_)
    cases al with
    | cons r t =>
      cases t
      obtain rfl : _ = V.int (p.made : Int) := r
      have po3 := po2.mono e3
      refine ⟨le, _, _, rfl, rfl, po3.he, by rw [List.length_map]; exact Nat.lt_of_le_of_lt hb.l (by decide), ?_⟩
      have po4 := po3.lent (p.lent ++ [p.made])
      rw [List.map_append] at po4
      dsimp only
      refine h_seq (h_bmSl hj po4.ob T.c_Pool T.sl_Pool_there rfl po4.ht (ea_cons (ev rfl) ea_nil) (mk po4) fun vs H5 e5 al => ?_)
      cases al with
      | cons r t =>
        cases t
        obtain rfl : _ = V.int (p.made : Int) := r
        have po5 := po4.mono e5
        refine ⟨lt, _, _, rfl, rfl, po5.ht, by rw [List.length_map]; exact Nat.lt_of_le_of_lt hb.t (by decide), ?_⟩
        have po6 := po5.there (p.there ++ [p.made])
        rw [List.map_append] at po6
        dsimp only
        exact h_ret (ev rfl) (mk po6) fun w H7 e7 hw => by
          obtain rfl : w = .int (p.made : Int) := hw
          exact hq H7 _ _ (.inl ⟨hid, rfl, rfl⟩) ⟨dx, li, le, lt, vi, po6.mono e7⟩
  · have hid : p.idle ≠ [] := fun z => by
      rw [z] at hb1
      exact absurd hb1 (by decide)
    obtain ⟨x, hx1, hx2⟩ := pl_ix hb hid
    have po1 := po.mono e1
    refine h_next ?_
    dsimp only
    refine h_seq ?_
    obtain ⟨vs, h1, h2⟩ := po1.ob.ob
    obtain ⟨w, hw, hp⟩ := h2 1 _ rfl
    obtain rfl : w = .ref li := hp
    refine ⟨_, hj, a, _, dx, _, vs, 1, _, rfl, h1, T.c_Pool, T.sl_Pool_idle, hw, .inl ⟨rfl, vi, .inl (.inl po1.hi)⟩, ?_⟩
    refine ea_cons (EvG.to (eg_meth (Ps := []) p (eg_var (Γ := [some (IsPo K p), none, none]) (i := 0) (P := IsPo K p) rfl) ea_nil rfl trivial) (P' := Is K (x : Int)) (congrArg (Is K) hx1)) ea_nil σ H1 _ (mk po1) fun vs2 H2 e2 al => ?_
    cases al with
    | cons r t =>
      cases t
      obtain rfl : _ = V.int (x : Int) := r
      have po2 := po1.mono e2
      have lvi : vi.length = p.idle.length := by
        have := AllP.len po2.ri
        rwa [List.length_map] at this
      have hxv : x < vi.length := by omega
      obtain ⟨e, he⟩ : ∃ e, p.idle[x]? = some e := ⟨_, List.getElem?_eq_getElem hx2⟩
      obtain ⟨v, hv, hvp⟩ := AllP.nth po2.ri (map_at (K := K) he)
      obtain ⟨tt, us, rfl, ht1, ht2⟩ := hvp
      cases ht2 with
      | cons r1 t1 =>
        cases t1 with
        | cons r2 t2 =>
          cases t2
          rename_i u1 u2
          obtain rfl : u1 = V.int (e.1 : Int) := r1
          have hbi := hb.i
          have hix : ixN vi.length (x : Int) = some x := by
            unfold ixN
            rw [if_pos (by omega), if_pos (by omega)]
            simp
          refine ⟨li, vi, (x : Int), x, _, rfl, rfl, po2.hi, by omega, by omega, (ixN_seq hix).1, hv, ?_⟩
          have hws : AllP (vi.eraseIdx x) ((p.idle.eraseIdx x).map (Is K)) H2 := by
            rw [← eraseIdx_map']
            have : ∀ {vs : List V} {Ps : List SP} (j : Nat), AllP vs Ps H2 → AllP (vs.eraseIdx j) (Ps.eraseIdx j) H2 := fun {vs Ps} j h => by
              induction h generalizing j with
              | nil => exact .nil
              | cons r t ih =>
                cases j with
                | zero => exact t
                | succ j => exact .cons r (ih j)
            exact this x po2.ri
          have po3 := po2.idle (p.idle.eraseIdx x) (vi.eraseIdx x) hws
          have ht3 : SqT K (upd H2 li (.lst (vi.eraseIdx x))) tt [V.int (e.1 : Int), u2] := kt_t (kt_upd po2.hi rfl) ht1
          generalize upd H2 li (.lst (vi.eraseIdx x)) = H3 at po3 ht3
          refine ⟨tt, _, rfl, ht3, rfl, _, _, rfl, _, _, rfl, rfl, ?_⟩
          have hj4 : ((σ.set 1 (some (.int (e.1 : Int)))).set 2 (some u2))[0]? = some (some (.ref a)) := by
            rw [List.getElem?_set_ne (by decide), List.getElem?_set_ne (by decide)]
            exact hj
          have s4 : Sat [some (IsPo K { p with idle := p.idle.eraseIdx x }), some (Is K e.1), none] ((σ.set 1 (some (.int (e.1 : Int)))).set 2 (some u2)) H3 := ((mk po3).set (i := 1) (P := Is K e.1) rfl).none (i := 2)
          show tSeq _ _ _ ((σ.set 1 (some (.int (e.1 : Int)))).set 2 (some u2)) H3
          generalize (σ.set 1 (some (.int (e.1 : Int)))).set 2 (some u2) = σ4 at hj4 s4
          refine h_seq (h_bmSl hj4 po3.ob T.c_Pool T.sl_Pool_lent rfl po3.he (ea_cons (eg_var (i := 1) (P := Is K e.1) rfl) ea_nil) s4 fun vs5 H5 e5 al => ?_)
          cases al with
          | cons r t =>
            cases t
            obtain rfl : _ = V.int (e.1 : Int) := r
            have po5 := po3.mono e5
            refine ⟨le, _, _, rfl, rfl, po5.he, by rw [List.length_map]; exact Nat.lt_of_le_of_lt hb.l (by decide), ?_⟩
            have po6 := po5.lent (p.lent ++ [e.1])
            rw [List.map_append] at po6
            dsimp only
            refine ⟨_, s4.eq1 (i := 1) (v := .int (e.1 : Int)) rfl, ?_⟩
            exact hq _ _ _ (.inr ⟨x, e, he, rfl, rfl⟩) ⟨dx, li, le, lt, _, po6⟩
end
end Lp

/-! part LpPool4 -/
set_option Elab.async false
set_option linter.all false
set_option maxRecDepth 100000

namespace Lp
open PySem PySem.Spec PyProof.Rows L2
open Evl (Ex ex_l ex_t ex_rd fresh_back)
section
variable {prog : Program} {w : World} {K : PySem.W.Frag} {mg : Str → Option Value} {base : Heap}
theorem room65 {k : Nat} {A : Around} (hr : Room k A) : A.units + 65 < cLine := by
  have := hr.un
  omega
theorem op_notInDK {X : L2.Cx} (hu : X.A.units + 65 < cLine) (h : X.K = K := by rfl) : OpR X (compareOp .NotIn) (rNotInD K) := h ▸ op_notInD hu
theorem PoH.rebase {G G' H : Hp} {p : PoS} {a : Addr} (h : PoH K G p a H) (hn : ∀ c, (∃ o, H c = some o) → G c = none → G' c = none) (he : Ex G' H) : PoH K G' p a H := by
  obtain ⟨dx, li, le, lt, vi, h⟩ := h
  have ha : ∃ o, H a = some o := by
    obtain ⟨vs, h1, _⟩ := h.ob.ob
    rcases h1 with ⟨h1, _⟩ | ⟨h1, _⟩
    · exact ⟨_, h1⟩
    · exact ⟨_, h1⟩
  exact ⟨dx, li, le, lt, vi, ⟨hn _ ha h.ob.na, hn _ h.ob.hd h.ob.nd, he, h.ob.ob, h.ob.own, h.ob.hd, h.ob.rs⟩, hn _ ⟨_, h.hi⟩ h.gi, hn _ ⟨_, h.he⟩ h.ge, hn _ ⟨_, h.ht⟩ h.gt, h.ie, h.it, h.et, h.hi, h.ri, h.he, h.ht⟩
theorem ex_updu {G H : Hp} {b : Addr} {u : HO} (e : Ex G H) : Ex (upd G b u) (upd H b u) := fun c o hc => by
  by_cases z : c = b
  · subst z
    rw [upd_same] at hc ⊢
    exact hc
  · rw [upd_ne z] at hc ⊢
    exact e c o hc
theorem PoH.new {G H : Hp} {p : PoS} {a b : Addr} {u : HO} (h : PoH K G p a H) (hb : H b = none) : PoH K (upd G b u) p a (upd H b u) := by
  obtain ⟨dx, li, le, lt, vi, h⟩ := h
  have off : ∀ c : Addr, (∃ o, H c = some o) → c ≠ b := fun c ⟨o, ho⟩ z => by rw [z, hb] at ho; cases ho
  have ha : ∃ o, H a = some o := by
    obtain ⟨vs, h1, _⟩ := h.ob.ob
    rcases h1 with ⟨h1, _⟩ | ⟨h1, _⟩
    · exact ⟨_, h1⟩
    · exact ⟨_, h1⟩
  have h' := h.mono (Ex.new (o := u) hb)
  exact ⟨dx, li, le, lt, vi, ⟨by rw [upd_ne (off _ ha)]; exact h.ob.na, by rw [upd_ne (off _ h.ob.hd)]; exact h.ob.nd, ex_updu h.ob.ex, h'.ob.ob, h'.ob.own, h'.ob.hd, h'.ob.rs⟩, by rw [upd_ne (off _ ⟨_, h.hi⟩)]; exact h.gi, by rw [upd_ne (off _ ⟨_, h.he⟩)]; exact h.ge, by rw [upd_ne (off _ ⟨_, h.ht⟩)]; exact h.gt, h.ie, h.it, h.et, h'.hi, h'.ri, h'.he, h'.ht⟩
theorem PoH.put {G H : Hp} {p : PoS} {a b : Addr} {o u : HO} (h : PoH K G p a H) (hb : G b = some o) (hn : notTup o = true) : PoH K (upd G b u) p a (upd H b u) := by
  obtain ⟨dx, li, le, lt, vi, h⟩ := h
  have hbH := h.ob.ex _ _ hb
  have off : ∀ c : Addr, G c = none → c ≠ b := fun c hc z => by rw [z, hb] at hc; cases hc
  have o' : Ob (upd G b u) (upd H b u) a (He.ga K "Pool") dx (poSs K p li le lt) := h.ob.off (fun i P hP => poSs_fre i P hP) (off _ h.ob.na) (off _ h.ob.nd) (by rw [upd_ne (off _ h.ob.na)]; exact h.ob.na) (by rw [upd_ne (off _ h.ob.nd)]; exact h.ob.nd) (ex_updu h.ob.ex)
  have hR : ∀ P ∈ p.idle.map (Is K), RT P := fun P hP => by
    obtain ⟨e, _, rfl⟩ := List.mem_map.mp hP
    exact RepT.rt e
  exact ⟨dx, li, le, lt, vi, o', by rw [upd_ne (off _ h.gi)]; exact h.gi, by rw [upd_ne (off _ h.ge)]; exact h.ge, by rw [upd_ne (off _ h.gt)]; exact h.gt, h.ie, h.it, h.et, by rw [upd_ne (off _ h.gi)]; exact h.hi, AllP.kt h.ri hR (kt_upd hbH hn), by rw [upd_ne (off _ h.ge)]; exact h.he, by rw [upd_ne (off _ h.gt)]; exact h.ht⟩
def castP (e : Nat × Nat) : Int × Int := ((e.1 : Int), (e.2 : Int))
theorem is_cast {zs : List (Nat × Nat)} : Is K zs = Is K (zs.map castP) := by
  show LsP K (zs.map (Is K)) = LsP K ((zs.map castP).map (Is K))
  rw [List.map_map]
  rfl
theorem eg_ninQ {Γ : Gm} {tx ty : TE} {x : Nat × Nat} {zs : List (Nat × Nat)} (ha : EvG tx Γ (Is K x)) (hb : EvG ty Γ (Is K zs)) : EvG (tOp (rNotInD K) tx ty) Γ (Is K (!decide (x ∈ zs))) := by
  refine EvG.to (eg_ninP (x := castP x) (zs := zs.map castP) ha (EvG.to hb is_cast)) ?_
  have : (castP x ∈ zs.map castP) ↔ x ∈ zs := by
    constructor
    · intro h
      obtain ⟨y, hy, e⟩ := List.mem_map.mp h
      have : y = x := by
        unfold castP at e
        injection e with e1 e2
        exact Prod.ext (Int.ofNat_inj.mp e1) (Int.ofNat_inj.mp e2)
      rw [← this]
      exact hy
    · exact fun h => List.mem_map.mpr ⟨x, h, rfl⟩
  show Is K _ = Is K _
  rw [decide_eq_decide.mpr this]
def spPass (K : PySem.W.Frag) : Sp := fun vs H Q _ => ∃ (G : Hp) (p : PoS) (a : Addr), PoH K G p a H ∧ vs = [.ref a] ∧ PoB p ∧ ∀ H' b zs, PoH K G (passP p) a H' → H' b = some (.lst zs) → zs.length ≤ p.idle.length → Q (.ref b) H'
theorem ok_Pool_pass_on (T : Tx K mg) : FnR prog w K mg base CX0 1 (He.ma K (He.ga K "Pool") "pass_on") (spPass K) := by
  obtain ⟨fdO, FO⟩ := T.d_Pool_pass_on
  refine fn_any FO sc_Pool_pass_on (fun _ _ _ _ _ _ us hl => match us, hl with | [_], _ => rfl) ?_ fun cdv A outer s H vs Q E hr hsp => ⟨_, PSs.nox (pss_cons (ps_set (i := 1) sc_Pool_pass_on.nd rfl (Or.inr rfl) (pe_lc (own := [("row", 3)]) (g := gName 3) (tt := _) rfl sc_Pool_pass_on.nd (pi_listK (K := K) (pe_slK (K := K) (pv 0))) (blkOk_by (own := [("row", 3)]) (N := n_Pool_pass_on) (sc := defScope s_Pool_pass_on) (by decide +kernel)) (fun _ _ _ _ _ => (pg_name (i := 3) sc_Pool_pass_on.nd rfl (by first | exact Or.inl rfl | exact Or.inr rfl))) (fun _ _ _ _ _ => pts_one (pt_cmpR op_le (pe_op op_add (pe_ix (ix_tupK (K := K)) (pv 3) pe_int (fun _ _ => rfl)) (pe_slK (K := K) (pv 0))) (pe_slK (K := K) (pv 0)) (nomark _))) (fun _ _ _ _ _ => (pv 3))))
    (pss_cons (SlX.ps_sl (pv 0) (pe_lc (own := [("row", 3)]) (g := gName 3) (tt := _) rfl sc_Pool_pass_on.nd (pi_listK (K := K) (pe_slK (K := K) (pv 0))) (blkOk_by (own := [("row", 3)]) (N := n_Pool_pass_on) (sc := defScope s_Pool_pass_on) (by decide +kernel)) (fun _ _ _ _ _ => (pg_name (i := 3) sc_Pool_pass_on.nd rfl (by first | exact Or.inl rfl | exact Or.inr rfl))) (fun _ _ _ _ _ => pts_one (pt_cmpR (op_notInDK (K := K) (room65 hr)) (pv 3) (pv 1) (by rfl))) (fun _ _ _ _ _ => (pv 3))))
    (pss_cons (ps_slAug (pv 0) pe_int in_add)
    (pss_cons (ps_set (i := 2) sc_Pool_pass_on.nd rfl (Or.inr rfl) (pe_lc (own := [("number", 4), ("beat", 5)]) (g := _) (tt := _) rfl sc_Pool_pass_on.nd (pi_listK (K := K) (pv 1)) (blkOk_by (own := [("number", 4), ("beat", 5)]) (N := n_Pool_pass_on) (sc := defScope s_Pool_pass_on) (by decide +kernel)) (fun _ _ _ _ _ => (pg_tupK (K := K) (n := 2) rfl (pgs_cons (pg_name (i := 4) sc_Pool_pass_on.nd rfl (by first | exact Or.inl rfl | exact Or.inr rfl)) (pgs_cons (pg_name (i := 5) sc_Pool_pass_on.nd rfl (by first | exact Or.inl rfl | exact Or.inr rfl)) pgs_nil)))) (fun _ _ _ _ _ => pts_nil) (fun _ _ _ _ _ => (pv 4))))
    (pss_cons (SlX.ps_sl (pv 0) (pe_lc (own := [("number", 4)]) (g := gName 4) (tt := _) rfl sc_Pool_pass_on.nd (pi_listK (K := K) (pe_slK (K := K) (pv 0))) (blkOk_by (own := [("number", 4)]) (N := n_Pool_pass_on) (sc := defScope s_Pool_pass_on) (by decide +kernel)) (fun _ _ _ _ _ => (pg_name (i := 4) sc_Pool_pass_on.nd rfl (by first | exact Or.inl rfl | exact Or.inr rfl))) (fun _ _ _ _ _ => pts_one (pt_cmpR (op_notInK (K := K)) (pv 4) (pv 2) (by rfl))) (fun _ _ _ _ _ => (pv 4))))
    (pss_one (ps_ret (pe_revL (pv 2))))))))), ?_⟩
  · rintro vs H Q E ⟨G, p, a, _, rfl, _⟩
    rfl
  obtain ⟨G, p, a, ⟨dx, li, le, lt, vi, po⟩, rfl, hb, hq⟩ := hsp
  have s0 : Sat [some (IsPo K p), none, none, none, none, none] (start n_Pool_pass_on [.ref a]) H := sat_start (N := n_Pool_pass_on) (Ps := [IsPo K p]) (.cons po.po .nil)
  have hj : (start n_Pool_pass_on [.ref a])[0]? = some (some (.ref a)) := rfl
  generalize start n_Pool_pass_on [.ref a] = σ at s0 hj
  have hbi := hb.i
  refine h_asg (P := Is K (goneP p)) (EvG.to (eg_lcI (K := K) (xs := p.idle) (fun e => decide ((e.2 : Int) + p.keep ≤ p.now)) (fun e => e) (ew_list (eg_sl (eg_var (i := 0) (P := IsPo K p) rfl) T.c_Pool T.sl_Pool_idle rfl)) (fun e he => tg_name) (fun e he => et_test (eg_cmpI (K := K) (f := fun i j => decide (i ≤ j)) (eg_opI0 (f := fun i j => i + j) (eg_snd (x := e) (eg_var rfl)) (eg_sl (eg_var (i := 0) (P := IsPo K p) rfl) T.c_Pool T.sl_Pool_keep rfl)) (eg_sl (eg_var (i := 0) (P := IsPo K p) rfl) T.c_Pool T.sl_Pool_now rfl))) (fun e he _ => eg_var rfl) (by omega)) (congrArg (Is K) (List.map_id' _))) s0 fun v1 H1 e1 p1 => ?_
  have po1 := po.mono e1
  have hj1 : (σ.set 1 (some v1))[0]? = some (some (.ref a)) := by rw [List.getElem?_set_ne (by decide)]; exact hj
  have hl1 : (σ.set 1 (some v1)).length = 6 := by rw [List.length_set, s0.len]; rfl
  have hv1 : (σ.set 1 (some v1))[1]? = some (some v1) := List.getElem?_set_self (by rw [s0.len]; show 1 < 6; decide)
  have s1 : Sat [some (IsPo K p), some (Is K (goneP p)), none, none, none, none] (σ.set 1 (some v1)) H1 := (s0.mono e1).set (i := 1) p1
  generalize σ.set 1 (some v1) = σ1 at hj1 hl1 hv1 s1
  refine h_seq ?_
  unfold SlX.sSl
  refine eg_lcX (xs := p.idle) (F := Is K) (f := fun e => !decide (e ∈ goneP p)) (Rf := fun e => Is K e) (ew_list (eg_sl (eg_var (i := 0) (P := IsPo K p) rfl) T.c_Pool T.sl_Pool_idle rfl)) (fun e => RepT.rt e) (fun e he => tg_name) (fun e he => et_test (eg_ninQ (eg_var rfl) (eg_var (i := 1) rfl))) (fun e he _ => eg_var rfl) (by omega) σ1 H1 _ s1 fun l2 acc H2 e2 nl2 hl2 al2 => ?_
  have po2 := po1.mono e2
  have p2 := (Is K (goneP p)).mono e2 p1
  have nlG : G l2 = none := fresh_back po1.ob.ex nl2
  refine g_sl (f := "own_idle") (P := Eq1 (.ref l2)) hj1 rfl po2.ob rs_eq T.c_Pool T.sl_Pool_idle fun H3 es3 o3 => ?_
  have off : ∀ c : Addr, (∃ o, H1 c = some o) → l2 ≠ c := fun c ⟨o, ho⟩ z => by rw [← z, nl2] at ho; cases ho
  have hR : ∀ P ∈ (p.idle.filter fun e => !decide (e ∈ goneP p)).map (Is K), RS P := fun P hP => by
    obtain ⟨e, _, rfl⟩ := List.mem_map.mp hP
    exact RepS.rs e
  have po3 : PoA K G { p with idle := p.idle.filter fun e => !decide (e ∈ goneP p) } a dx l2 le lt acc H3 := ⟨o3, nlG, po2.ge, po2.gt, off _ ⟨_, po1.he⟩, off _ ⟨_, po1.ht⟩, po2.et, es3 _ _ hl2 rfl, AllP.es al2 hR es3, es3 _ _ po2.he rfl, es3 _ _ po2.ht rfl⟩
  have p3 := RepS.rs (K := K) (goneP p) _ _ _ es3 p2
  dsimp only
  refine h_seq (h_slAug hj1 po3.ob T.c_Pool T.sl_Pool_now rfl fun H4 es4 o4 => ?_)
  have po4 : PoA K G { p with idle := p.idle.filter (fun e => !decide (e ∈ goneP p)), now := p.now + 1 } a dx l2 le lt acc H4 := po3.es es4 o4 rfl rfl rfl
  have p4 := RepS.rs (K := K) (goneP p) _ _ _ es4 p3
  dsimp only
  have s4 : Sat [some (IsPo K { p with idle := p.idle.filter (fun e => !decide (e ∈ goneP p)), now := p.now + 1 }), some (Is K (goneP p)), none, none, none, none] σ1 H4 := ((sat_no (n := 6) hl1).know (i := 0) hj1 po4.po).know (i := 1) hv1 p4
  have hgl : (goneP p).length ≤ p.idle.length := List.length_filter_le _ _
  refine h_asg (P := Is K ((goneP p).map Prod.fst)) (eg_lcM (K := K) (xs := goneP p) Prod.fst (ew_list (eg_var (i := 1) rfl)) (fun e he => tg_pair (x := e.1) (y := e.2) tg_name tg_name) (fun e he => eg_var rfl) (by omega)) s4 fun v5 H5 e5 p5 => ?_
  have po5 := po4.mono e5
  have hj5 : (σ1.set 2 (some v5))[0]? = some (some (.ref a)) := by rw [List.getElem?_set_ne (by decide)]; exact hj1
  have hl5 : (σ1.set 2 (some v5)).length = 6 := by rw [List.length_set, hl1]
  have hv5 : (σ1.set 2 (some v5))[2]? = some (some v5) := List.getElem?_set_self (by rw [hl1]; decide)
  generalize σ1.set 2 (some v5) = σ5 at hj5 hl5 hv5
  have s5 : Sat [some (IsPo K { p with idle := p.idle.filter (fun e => !decide (e ∈ goneP p)), now := p.now + 1 }), none, some (Is K ((goneP p).map Prod.fst)), none, none, none] σ5 H5 := ((sat_no (n := 6) hl5).know (i := 0) hj5 po5.po).know (i := 2) hv5 p5
  have hbt := hb.t
  refine h_seq ?_
  refine eg_lcX (xs := p.there) (F := Is K) (f := fun k => !decide (k ∈ (goneP p).map Prod.fst)) (Rf := fun k => Is K k) (ew_list (eg_sl (eg_var (i := 0) (P := IsPo K { p with idle := p.idle.filter (fun e => !decide (e ∈ goneP p)), now := p.now + 1 }) rfl) T.c_Pool T.sl_Pool_there rfl)) (fun k => RepT.rt k) (fun e he => tg_name) (fun e he => et_test (eg_ninL (eg_var rfl) (eg_var (i := 2) rfl))) (fun e he _ => eg_var rfl) (by omega) σ5 H5 _ s5 fun l6 acc6 H6 e6 nl6 hl6 al6 => ?_
  have po6 := po5.mono e6
  have p6 := (Is K ((goneP p).map Prod.fst)).mono e6 p5
  have nlG6 : G l6 = none := fresh_back po5.ob.ex nl6
  refine g_sl (f := "own_there") (P := Eq1 (.ref l6)) hj5 rfl po6.ob rs_eq T.c_Pool T.sl_Pool_there fun H7 es7 o7 => ?_
  have off6 : ∀ c : Addr, (∃ o, H5 c = some o) → c ≠ l6 := fun c ⟨o, ho⟩ z => by rw [z, nl6] at ho; cases ho
  have hacc : acc6 = (p.there.filter fun k => !decide (k ∈ (goneP p).map Prod.fst)).map fun n : Nat => V.int (n : Int) := all_nats al6
  have po7 : PoA K G (passP p) a dx l2 le l6 acc H7 := ⟨o7, po6.gi, po6.ge, nlG6, po6.ie, off6 _ ⟨_, po5.hi⟩, off6 _ ⟨_, po5.he⟩, es7 _ _ po6.hi rfl, AllP.es po6.ri hR es7, es7 _ _ po6.he rfl, by rw [es7 _ _ hl6 rfl, hacc]; rfl⟩
  have p7 := RepS.rs (K := K) ((goneP p).map Prod.fst) _ _ _ es7 p6
  dsimp only
  obtain ⟨b8, xs8, rfl, h8, a8⟩ := p7
  refine ⟨_, hv5, b8, xs8, rfl, h8, fun q hq8 => ?_⟩
  refine hq _ q xs8.reverse ⟨dx, l2, le, l6, acc, po7.mono (Ex.new hq8)⟩ upd_same ?_
  rw [List.length_reverse, AllP.len a8, List.length_map, List.length_map]
  exact hgl
end
end Lp

/-! part LpPool5 -/
set_option Elab.async false
set_option linter.all false
set_option maxRecDepth 100000

namespace Lp
open PySem PySem.Spec PyProof.Rows L2
open Evl (Ex ex_l ex_t ex_rd fresh_back)
section
variable {prog : Program} {w : World} {K : PySem.W.Frag} {mg : Str → Option Value} {base : Heap}
/-- a def with defaults: n values are written, the defaults behind the first j fill up -/
theorem fn_anyD {x qual : Str} {st : Stmt} {f : Addr} {fd : FuncData} {N ps : List Str} {k : Nat} {sp : Sp} {dvs : List V} (F : FunD K x qual (defArgs st) (defBody st) (defScope st) dvs [] f fd) (S : FnScope N ps (defScope st)) (n j : Nat) (hd : dvs ≠ []) (hn : n + (dvs.length - j) = ps.length)
    (hb : ∀ (T : Addr) (kV doc pm : Value) (an : Option Addr) (cdv ct : Value) (us its : List Value), us.length = n → its.length = dvs.length → ∃ k, bindArgs (PySem.W.fnOf x qual (defArgs st) (defBody st) (defScope st) (.ref T) kV doc pm an cdv ct) ⟨us, []⟩ = seqItems? (.ref T) >>= k ∧ k (some its.toArray) = pure (ps.zip (us ++ its.drop j)))
    (hl : ∀ vs H Q E, sp vs H Q E → vs.length = ps.length)
    (h : ∀ (cdv : Value) (A : Around) (outer : List Env) (s : Shared) (H : Hp) (vs : List V) (Q : VK) (E : XK), Room k (A.deeper (envOfC qual (defScope st) s.heap.objs.size f cdv)) → sp vs H Q E →
      ∃ t, PSs (cxOf CX0 prog w K mg base N qual (defScope st) f cdv A outer s H E) (defBody st) t ∧ t { nx := fun _ H' => Q .non H', rt := Q } (L2.start N vs) H) : FnR prog w K mg base CX0 (k + 1) f (fun vs H Q E => sp (vs ++ dvs.drop j) H Q E) := by
  have ok : FnOk prog w K mg base CX0 (k + 1) f fd ps sp := F.ok S hl h
  obtain ⟨ds, hv, hB⟩ := F.binds1 n j hd hn hb
  exact ok.raw hB hv
section
variable {Γ : Gm} {ta : TA} {σ : L2.St} {H : Hp} {D : Ends}
theorem h_forR {n : Nat} {g : TG} {tb : TS} (h : EvA ta Γ [Is K n]) (hn : n ≤ 100000) (s : Sat Γ σ H) (k : ∀ H1, Ex H H1 → ∃ Pv : Nat → L2.St → Hp → Prop, Pv 0 σ H1 ∧ (∀ i σ H D', i < n → Pv i σ H → (∀ σ H, Pv (i + 1) σ H → Ends.nx D' σ H) → Ends.rt D' = D.rt → g (.int (i : Int)) σ H fun σ2 H2 => tb D' σ2 H2) ∧ (∀ σ H, Pv n σ H → D.nx σ H)) : tFor (iRng1 ta) g tb D σ H :=
  h σ H _ s fun vs H1 e p => by
    cases p with
    | cons r t =>
      cases t
      obtain rfl : _ = V.int (n : Int) := r
      obtain ⟨Pv, p0, ps, pd⟩ := k H1 e
      have w : Walk (Itr 0 n) n (fun _ => True) (YFn fun i => .int (0 + (i : Int))) := walk_range
      refine ⟨(n : Int), rfl, by omega, by omega, for_it w Pv p0 (fun _ _ _ _ _ => trivial) (fun i x σ Ha Hb hi p y => ?_) pd⟩
      obtain ⟨e1, e2⟩ := y
      subst e1
      have e3 : x = .int (i : Int) := by rw [e2]; show V.int (0 + (i : Int)) = _; rw [Int.zero_add]
      rw [e3]
      exact ps i σ Hb _ hi p (fun _ _ q => q) rfl
end
theorem ok_Pool_wait (T : Tx K mg) : FnR prog w K mg base CX0 2 (He.ma K (He.ga K "Pool") "wait") (spPass K) := by
  obtain ⟨fdO, FO⟩ := T.d_Pool_wait
  have R := fn_anyD (prog := prog) (w := w) (mg := mg) (base := base) (k := 2 - 1) (sp := fun vs H Q _ => ∃ (G : Hp) (p : PoS) (a : Addr), PoH K G p a H ∧ vs = [.ref a, .int 1] ∧ PoB p ∧ ∀ H' b zs, PoH K G (passP p) a H' → H' b = some (.lst zs) → zs.length ≤ p.idle.length → Q (.ref b) H') FO sc_Pool_wait 1 0 (by simp) rfl (fun T kV doc pm an cdv ct us its h1 h2 => match us, its, h1, h2 with | [_], [_], _, _ => ⟨_, rfl, rfl⟩) (fun vs H Q E ⟨_, _, _, _, e, _⟩ => by rw [e]; rfl) (fun cdv A outer s H vs Q E hr hsp => ⟨_, PSs.nox (pss_cons (ps_set (i := 2) sc_Pool_wait.nd rfl (Or.inl rfl) (pe_lst pa_nil))
    (pss_cons (ps_for PassesOwn.never rfl (pi_range1 (by rfl) T.f_range (pa_cons (pv 1) pa_nil)) (pg_name (i := 3) sc_Pool_wait.nd rfl (Or.inl rfl)) (pss_one (ps_expr (pe_bm PySem.F.plainAttrs_list PySem.F.slot_list_extend PySem.F.type_list_extend mt_extend (pv 2) (pa_cons (SlX.pe_methSl0 (E := E0) (pv 0) T.c_Pool T.m_Pool_pass_on (ok_Pool_pass_on T) (hr.mono (by first | decide | exact Nat.le_refl _)) pass0) pa_nil)))))
    (pss_one (ps_ret (pv 2))))), ?_⟩)
  · refine R.imp fun vs H Q E ⟨G, p, a, h1, h2, h3⟩ => ⟨G, p, a, h1, ?_, h3⟩
    rw [h2]
    rfl
  obtain ⟨G, p, a, po, rfl, hb, hq⟩ := hsp
  have s0 : Sat [some (IsPo K p), some (Is K (1 : Nat)), none, none] (start n_Pool_wait [.ref a, .int 1]) H := sat_start (N := n_Pool_wait) (Ps := [IsPo K p, Is K (1 : Nat)]) (.cons po.po (.cons rfl .nil))
  have hj : (start n_Pool_wait [.ref a, .int 1])[0]? = some (some (.ref a)) := rfl
  generalize start n_Pool_wait [.ref a, .int 1] = σ at s0 hj
  refine h_newL fun lf hlf => ?_
  have hGlf : G lf = none := fresh_back po.ex hlf
  have po1 : PoH K (upd G lf (.lst [])) p a (upd H lf (.lst [])) := po.new hlf
  have s1 : Sat [some (IsPo K p), some (Is K (1 : Nat)), some (Eq1 (.ref lf)), none] (σ.set 2 (some (.ref lf))) (upd H lf (.lst [])) := (s0.mono (Ex.new hlf)).set (i := 2) (P := Eq1 (.ref lf)) rfl
  have hj1 : (σ.set 2 (some (.ref lf)))[0]? = some (some (.ref a)) := by rw [List.getElem?_set_ne (by decide)]; exact hj
  generalize σ.set 2 (some (.ref lf)) = σ1 at s1 hj1
  generalize hH1 : upd H lf (.lst []) = H1 at s1 po1
  refine h_seq (h_forR (n := 1) (ea_cons (eg_var (i := 1) (P := Is K (1 : Nat)) rfl) ea_nil) (by decide) s1 fun H2 e2 => ?_)
  refine ⟨fun i σ' H' => σ'[0]? = some (some (.ref a)) ∧ σ'[2]? = some (some (.ref lf)) ∧ (i = 0 → PoH K (upd G lf (.lst [])) p a H') ∧ (i ≠ 0 → ∃ zs, PoH K G (passP p) a H' ∧ H' lf = some (.lst zs) ∧ zs.length ≤ p.idle.length), ⟨hj1, s1.eq1 (i := 2) rfl, fun _ => po1.mono e2, fun z => absurd rfl z⟩, fun i σ3 H3 D' hi ⟨y0, y2, y3, _⟩ hn _ => ?_, fun σ3 H3 ⟨y0, y2, _, y4⟩ => ?_⟩
  · have hi0 : i = 0 := by omega
    have po3 := y3 hi0
    have z0 : (σ3.set 3 (some (.int (i : Int))))[0]? = some (some (.ref a)) := by rw [List.getElem?_set_ne (by decide)]; exact y0
    have z2 : (σ3.set 3 (some (.int (i : Int))))[2]? = some (some (.ref lf)) := by rw [List.getElem?_set_ne (by decide)]; exact y2
    have hlf3 : H3 lf = some (.lst []) := po3.ex _ _ upd_same
    obtain ⟨dx, li, le, lt, vi, poA⟩ := id po3
    obtain ⟨vs, h1, _⟩ := poA.ob.ob
    refine ⟨_, z2, .inl ⟨rfl, [], .inl (.inl hlf3)⟩, _, z0, a, dx, vs, rfl, h1, _, p, a, po3, rfl, hb, fun H4 b zs po4 hb4 hz4 => ?_⟩
    have hlf4 : H4 lf = some (.lst []) := po4.ex _ _ upd_same
    have hbi := hb.i
    refine ⟨lf, b, [], zs, rfl, rfl, hlf4, hb4, Nat.le_trans (show 0 + zs.length ≤ 1000 by omega) (by decide), ?_⟩
    have po5 := po4.put (b := lf) (u := .lst ([] ++ zs)) upd_same rfl
    have po6 : PoH K G (passP p) a (upd H4 lf (.lst ([] ++ zs))) := po5.rebase (fun c _ hc => by
      by_cases z : c = lf
      · rw [z]; exact hGlf
      · rw [upd_ne z, upd_ne z] at hc
        exact hc) (fun c o hc => by
      have z : c ≠ lf := ne_of_none hc hGlf
      refine po5.ex c o ?_
      rw [upd_ne z, upd_ne z]
      exact hc)
    exact hn _ _ ⟨z0, z2, fun z => absurd z (Nat.succ_ne_zero _), fun _ => ⟨_, po6, upd_same, hz4⟩⟩
  · obtain ⟨zs, po5, h5, hz⟩ := y4 (by decide)
    exact ⟨_, y2, hq H3 lf zs po5 h5 hz⟩
/-- self.f = [] -/
theorem h_slL {σ : L2.St} {H Hb : Hp} {D : Ends} {a C dx p : Addr} {f : Str} {i j : Nat} {Ss : Gm} (hj : σ[j]? = some (some (.ref a))) (o : Ob Hb H a C dx Ss) (hc : SlX.SCls K C) (hs : SlX.Slot1 K C f p i) (k : ∀ d H2, H d = none → Es H H2 → H2 d = some (.lst []) → Ob Hb H2 a C dx (Ss.set i (some (Eq1 (.ref d)))) → D.nx σ H2) : SlX.sSl K (tVar j) (tLst tNil) f D σ H :=
  ⟨Nat.zero_le _, fun d hd => ⟨_, hj, by
    have o1 := o.mono (Evl.Ex.new (o := .lst []) hd)
    obtain ⟨vs, h1, h2⟩ := o1.ob
    obtain ⟨o2, es⟩ := o1.put (i := i) (P := Eq1 (.ref d)) (v := .ref d) rfl rs_eq vs h1 h2
    exact ⟨a, C, dx, p, vs, i, rfl, h1, hc, hs, k d _ hd ((es_ex (Evl.Ex.new hd)).trans es) (es _ _ upd_same rfl) o2⟩⟩⟩
def spPool (K : PySem.W.Frag) : Sp := fun vs H Q _ => ∃ (G : Hp) (a dx : Addr) (keep : Int) (depth : Option Int) (vd : V), Ob G H a (He.ga K "Pool") dx [] ∧ vs = [.ref a, .int keep, vd] ∧ (Is K depth).p vd H ∧ ∀ H2, PoH K G ⟨keep, depth, 0, [], [], 0, []⟩ a H2 → Q .non H2
theorem ok_Pool_init (T : Tx K mg) : FnR prog w K mg base CX0 1 (He.ma K (He.ga K "Pool") "__init__") (spPool K) := by
  obtain ⟨fdO, FO⟩ := T.d_Pool_init
  have R := fn_anyD (prog := prog) (w := w) (mg := mg) (base := base) (k := 1 - 1) (sp := spPool K) FO sc_Pool_init 3 1 (by simp) rfl (fun T kV doc pm an cdv ct us its h1 h2 => match us, its, h1, h2 with | [_, _, _], [_], _, _ => ⟨_, rfl, rfl⟩) (fun vs H Q E ⟨_, _, _, _, _, _, _, e, _⟩ => by rw [e]; rfl) (fun cdv A outer s H vs Q E hr hsp => ⟨_, PSs.nox (pss_cons (SlX.ps_sl (pv 0) (pv 1))
    (pss_cons (SlX.ps_sl (pv 0) (pv 2))
    (pss_cons (SlX.ps_sl (pv 0) pe_int)
    (pss_cons (SlX.ps_sl (pv 0) (pe_lst pa_nil))
    (pss_cons (SlX.ps_sl (pv 0) (pe_lst pa_nil))
    (pss_cons (SlX.ps_sl (pv 0) pe_int)
    (pss_one (SlX.ps_sl (pv 0) (pe_lst pa_nil))))))))), ?_⟩)
  · refine R.imp fun vs H Q E h => ?_
    show spPool K (vs ++ []) H Q E
    rw [List.append_nil]
    exact h
  obtain ⟨G, a, dx, keep, depth, vd, o, rfl, hd, hq⟩ := hsp
  have o0 := o.nones 7
  have s0 : Sat [some (Eq1 (.ref a)), some (Is K keep), some (Eq1 vd)] (start n_Pool_init [.ref a, .int keep, vd]) H := sat_start (N := n_Pool_init) (Ps := [Eq1 (.ref a), Is K keep, Eq1 vd]) (.cons rfl (.cons rfl (.cons rfl .nil)))
  have hj := s0.eq1 (i := 0) rfl
  generalize start n_Pool_init [.ref a, .int keep, vd] = σ at s0 hj
  have fre : ∀ {H'}, Sat [some (Eq1 (.ref a)), some (Is K keep), some (Is K depth)] σ H' := fun {H'} => ⟨s0.len, fun i P hP => by
    match i, hP with
    | 0, hP => injection hP with hP; injection hP with hP; subst hP; exact ⟨_, hj, rfl⟩
    | 1, hP =>
      obtain ⟨v, h1, h2⟩ := s0.at' 1 _ rfl
      injection hP with hP; injection hP with hP; subst hP
      exact ⟨v, h1, h2⟩
    | 2, hP =>
      injection hP with hP; injection hP with hP; subst hP
      exact ⟨_, s0.eq1 (i := 2) rfl, fre_opt _ _ _ hd⟩
    | _ + 3, hP => simp at hP⟩
  refine h_seq (h_sl hj (eg_var (i := 1) (P := Is K keep) rfl) fre o0 (RepS.rs keep) T.c_Pool T.sl_Pool_keep fun _ H1 _ _ _ _ o1 => ?_)
  refine h_seq (h_sl hj (eg_var (i := 2) (P := Is K depth) rfl) fre o1 (RepS.rs depth) T.c_Pool T.sl_Pool_depth fun _ H2 _ _ _ _ o2 => ?_)
  refine h_seq (h_sl hj (eg_c : EvG _ [some (Eq1 (.ref a)), some (Is K keep), some (Is K depth)] (Is K (0 : Nat))) fre o2 (RepS.rs (K := K) (0 : Nat)) T.c_Pool T.sl_Pool_now fun _ H3 _ _ _ _ o3 => ?_)
  refine h_seq (h_slL hj o3 T.c_Pool T.sl_Pool_idle fun li H4 n4 es4 h4 o4 => ?_)
  refine h_seq (h_slL hj o4 T.c_Pool T.sl_Pool_lent fun le H5 n5 es5 h5 o5 => ?_)
  refine h_seq (h_sl hj (eg_c : EvG _ [some (Eq1 (.ref a)), some (Is K keep), some (Is K depth)] (Is K (0 : Nat))) fre o5 (RepS.rs (K := K) (0 : Nat)) T.c_Pool T.sl_Pool_made fun H6 H7 _ e6 _ es7 o7 => ?_)
  refine h_slL hj o7 T.c_Pool T.sl_Pool_there fun lt H8 n8 es8 h8 o8 => ?_
  have hi7 : H7 li = some (.lst []) := es7 _ _ (e6 _ _ (es5 _ _ h4 rfl)) rfl
  have he7 : H7 le = some (.lst []) := es7 _ _ (e6 _ _ h5) rfl
  refine hq H8 ⟨dx, li, le, lt, [], o8, fresh_back o3.ex n4, fresh_back o4.ex n5, fresh_back o7.ex n8, fun z => ?_, fun z => ?_, fun z => ?_, es8 _ _ hi7 rfl, .nil, es8 _ _ he7 rfl, h8⟩
  · rw [← z, h4] at n5; cases n5
  · rw [← z, hi7] at n8; cases n8
  · rw [← z, he7] at n8; cases n8
end
end Lp

/-! part LpStory1 -/
set_option Elab.async false
set_option linter.all false
set_option maxRecDepth 100000

namespace Lp
open PySem PySem.Spec PyProof.Rows L2
open Evl (Ex ex_l ex_t ex_rd fresh_back)
section
variable {prog : Program} {w : World} {K : PySem.W.Frag} {mg : Str → Option Value} {base : Heap}
def thM (ks : List Nat) : Mt := (List.range ks.length).map fun i => (i, ks.getD i 0)
theorem thM_app (ks : List Nat) (c : Nat) : thM (ks ++ [c]) = thM ks ++ [(ks.length, c)] := by
  unfold thM
  rw [List.length_append, show [c].length = 1 from rfl, List.range_succ, List.map_append]
  congr 1
  · refine List.map_congr_left fun i hi => ?_
    have hi := List.mem_range.mp hi
    rw [List.getD_eq_getElem?_getD, List.getD_eq_getElem?_getD, List.getElem?_append_left hi]
  · simp
theorem thM_len (ks : List Nat) : (thM ks).length = ks.length := by simp [thM]
abbrev stSs (lg lm ln d : Addr) : Gm := [some (Eq1 (.ref lg)), some (Eq1 (.ref lm)), some (Eq1 (.ref ln)), some (Eq1 (.ref d))]
theorem stSs_fre {lg lm ln d : Addr} (i : Nat) (P : SP) (h : (stSs lg lm ln d)[i]? = some (some P)) : Fre P := by
  match i, h with
  | 0, h => injection h with h; injection h with h; subst h; exact fre_eq
  | 1, h => injection h with h; injection h with h; subst h; exact fre_eq
  | 2, h => injection h with h; injection h with h; subst h; exact fre_eq
  | 3, h => injection h with h; injection h with h; subst h; exact fre_eq
  | _ + 4, h => simp at h
/-- a story's object and what it keeps, over the base B -/
structure StA (K : PySem.W.Frag) (B : Hp) (ks : List Nat) (sa dx lg lm ln d : Addr) (xg xm xn : List V) (G : Hp) : Prop where
  ob : Ob B G sa (He.ga K "Story") dx (stSs lg lm ln d)
  bg : B lg = none
  bm : B lm = none
  bn : B ln = none
  bd : B d = none
  gm : lg ≠ lm
  gn : lg ≠ ln
  mn : lm ≠ ln
  hg : G lg = some (.lst xg)
  hm : G lm = some (.lst xm)
  hn : G ln = some (.lst xn)
  hd : G d = some (.dK (dkN (thM ks)))
section
variable {B G : Hp} {ks : List Nat} {sa dx lg lm ln d : Addr} {xg xm xn : List V}
theorem StA.put (h : StA K B ks sa dx lg lm ln d xg xm xn G) (ks' : List Nat) : StA K B ks' sa dx lg lm ln d xg xm xn (upd G d (.dK (dkN (thM ks')))) := by
  obtain ⟨vs, h1, _⟩ := h.ob.ob
  have ne : ∀ {l : Addr} {xs : List V}, G l = some (.lst xs) → l ≠ d := fun hl z => by rw [z, h.hd] at hl; cases hl
  have o : Ob B (upd G d (.dK (dkN (thM ks')))) sa (He.ga K "Story") dx (stSs lg lm ln d) := h.ob.off (fun i P hP => stSs_fre i P hP) (fun z => by
      rcases h1 with ⟨h1, _⟩ | ⟨h1, _⟩ <;> rw [z, h.hd] at h1 <;> cases h1) (fun z => by
      have := h.ob.own.2 _ (by rw [z]; exact h.hd)
      cases this) h.ob.na h.ob.nd (Ex.mut h.ob.ex h.bd)
  exact ⟨o, h.bg, h.bm, h.bn, h.bd, h.gm, h.gn, h.mn, by rw [upd_ne (ne h.hg)]; exact h.hg, by rw [upd_ne (ne h.hm)]; exact h.hm, by rw [upd_ne (ne h.hn)]; exact h.hn, upd_same⟩
theorem StA.dne (h : StA K B ks sa dx lg lm ln d xg xm xn G) {l : Addr} {xs : List V} (hl : G l = some (.lst xs)) : d ≠ l := fun z => by
  have := h.hd
  rw [z, hl] at this
  cases this
theorem StA.made (h : StA K B ks sa dx lg lm ln d xg xm xn G) (ys : List V) : StA K B ks sa dx lg lm ln d xg ys xn (upd G lm (.lst ys)) :=
  ⟨h.ob.lst (fun i P hP => stSs_fre i P hP) h.hm h.bm, h.bg, h.bm, h.bn, h.bd, h.gm, h.gn, h.mn, by rw [upd_ne h.gm]; exact h.hg, upd_same, by rw [upd_ne h.mn.symm]; exact h.hn, by rw [upd_ne (h.dne h.hm)]; exact h.hd⟩
theorem StA.gone (h : StA K B ks sa dx lg lm ln d xg xm xn G) (ys : List V) : StA K B ks sa dx lg lm ln d ys xm xn (upd G lg (.lst ys)) :=
  ⟨h.ob.lst (fun i P hP => stSs_fre i P hP) h.hg h.bg, h.bg, h.bm, h.bn, h.bd, h.gm, h.gn, h.mn, upd_same, by rw [upd_ne h.gm.symm]; exact h.hm, by rw [upd_ne h.gn.symm]; exact h.hn, by rw [upd_ne (h.dne h.hg)]; exact h.hd⟩
theorem StA.nums (h : StA K B ks sa dx lg lm ln d xg xm xn G) (ys : List V) : StA K B ks sa dx lg lm ln d xg xm ys (upd G ln (.lst ys)) :=
  ⟨h.ob.lst (fun i P hP => stSs_fre i P hP) h.hn h.bn, h.bg, h.bm, h.bn, h.bd, h.gm, h.gn, h.mn, by rw [upd_ne h.gn]; exact h.hg, by rw [upd_ne h.mn]; exact h.hm, upd_same, by rw [upd_ne (h.dne h.hn)]; exact h.hd⟩
end
/-- [x] * k -/
theorem rep_new {σ : L2.St} {H : Hp} {Γ : Gm} {t1 t2 : TE} {P : SP} {k : Nat} {Q : VK} (h1 : EvG t1 Γ P) (h2 : EvG t2 Γ (Is K k)) (s : Sat Γ σ H) (hk : k ≤ 1000) (q : ∀ p zs H', Ex H H' → H' p = some (.lst zs) → zs.length = k → Q (.ref p) H') : tOp rRep (tLst (tCons t1 tNil)) t2 σ H Q :=
  h1 σ H _ s fun v H1 e1 p1 => ⟨by show 1 ≤ sizeLine; decide, fun l hl => h2 σ _ _ (s.mono (e1.trans (Ex.new (o := .lst [v]) hl))) fun u H2 e2 p2 => by
    obtain rfl : u = .int (k : Int) := p2
    refine ⟨l, (k : Int), [v], rfl, rfl, e2 _ _ upd_same, by omega, by omega, ?_, fun p hp => ?_⟩
    · show 1 * k ≤ sizeLine
      exact Nat.le_trans (by omega) (show 1000 ≤ sizeLine by decide)
    · refine q p _ _ ((e1.trans (Ex.new hl)).trans (e2.trans (Ex.new hp))) upd_same ?_
      simp⟩
/-- a story with its pool, at a beat -/
structure StP (K : PySem.W.Frag) (L : Loans) (B : Hp) (r : Nat) (ks : List Nat) (p : PoS) (sa pa dx lg lm ln d : Addr) (xg xm xn : List V) (G H : Hp) : Prop where
  st : StA K B ks sa dx lg lm ln d xg xm xn G
  po : PoH K G p pa H
  iv : PInv L r ks p
  kl : ks.length ≤ L.length
  xm : xm.length ≤ ks.length
  xg : xg.length ≤ 100 * p.now
  xn : xn.length ≤ p.now
  dp : ∀ d, p.depth = some d → 0 ≤ d
theorem StP.bd {L : Loans} {B : Hp} {r : Nat} {ks : List Nat} {p : PoS} {sa pa dx lg lm ln d : Addr} {xg xm xn : List V} {G H : Hp} (hL : PlOk L) (h : StP K L B r ks p sa pa dx lg lm ln d xg xm xn G H) : PoB p := by
  have h1 := h.iv.idl
  have h2 := h.iv.lel
  have h3 := h.iv.tl
  have h4 := h.iv.ml
  have h5 := h.kl
  have h6 := hL.len
  exact ⟨by omega, by omega, by omega, h.dp⟩
end
end Lp

/-! part LpStory2 -/
set_option Elab.async false
set_option linter.all false
set_option maxRecDepth 100000

namespace Lp
open PySem PySem.Spec PyProof.Rows L2
open Evl (Ex ex_l ex_t ex_rd fresh_back)
section
variable {prog : Program} {w : World} {K : PySem.W.Frag} {mg : Str → Option Value} {base : Heap}
def spBegin (K : PySem.W.Frag) : Sp := fun vs H Q _ => ∃ (L : Loans) (B G : Hp) (ks : List Nat) (p : PoS) (sa pa dx lg lm ln d : Addr) (xg xm xn : List V) (v1 : V) (m : Nat),
  PlOk L ∧ StP K L B L.length ks p sa pa dx lg lm ln d xg xm xn G H ∧ vs = [.ref sa, v1, .ref pa] ∧ (Is K ((List.range m).map fun j => ks.length + j)).p v1 B ∧ ks.length + m ≤ L.length ∧ (∀ j, j < m → (ld L (ks.length + j)).1 = p.now) ∧
  ∀ G' H' ks' p' xm', StP K L B L.length ks' p' sa pa dx lg lm ln d xg xm' xn G' H' → ks'.length = ks.length + m → p'.now = p.now → p'.keep = p.keep → p'.depth = p.depth → Q .non H'
theorem ok_Story_begin (T : Tx K mg) : FnR prog w K mg base CX0 3 (He.ma K (He.ga K "Story") "begin") (spBegin K) := by
  obtain ⟨fdO, FO⟩ := T.d_Story_begin
  refine fn_any FO sc_Story_begin (fun _ _ _ _ _ _ us hl => match us, hl with | [_, _, _], _ => rfl) ?_ fun cdv A outer s H vs Q E hr hsp => ⟨_, PSs.nox (pss_one (ps_for PassesOwn.never rfl (pi_listK (K := K) (pv 1)) (pg_name (i := 3) sc_Story_begin.nd rfl (Or.inl rfl)) (pss_cons (ps_set (i := 4) sc_Story_begin.nd rfl (Or.inl rfl) (SlX.pe_propSl (E := E0) (pv 2) T.c_Pool T.p_Pool_made.at_ T.p_Pool_made.get T.p_Pool_made.tk T.p_Pool_made.rc (ok_Pool_made T) (hr.mono (by first | decide | exact Nat.le_refl _)) (fun _ _ _ _ x => x)))
    (pss_cons (ps_dput (hu_of hr) (pe_slK (K := K) (pv 0)) (pv 3) (SlX.pe_methSl0 (E := E0) (pv 2) T.c_Pool T.m_Pool_take (ok_Pool_take T) (hr.mono (by first | decide | exact Nat.le_refl _)) pass0) (by rfl))
    (pss_one (ps_expr (pe_bm PySem.F.plainAttrs_list PySem.F.slot_list_extend PySem.F.type_list_extend mt_extend (pe_slK (K := K) (pv 0)) (pa_cons (pe_op op_rep (pe_lst (pa_cons (SlX.pe_propSl (E := E0) (pv 2) T.c_Pool T.p_Pool_now.at_ T.p_Pool_now.get T.p_Pool_now.tk T.p_Pool_now.rc (ok_Pool_now T) (hr.mono (by first | decide | exact Nat.le_refl _)) (fun _ _ _ _ x => x)) pa_nil)) (pe_op op_sub (SlX.pe_propSl (E := E0) (pv 2) T.c_Pool T.p_Pool_made.at_ T.p_Pool_made.get T.p_Pool_made.tk T.p_Pool_made.rc (ok_Pool_made T) (hr.mono (by first | decide | exact Nat.le_refl _)) (fun _ _ _ _ x => x)) (pv 4))) pa_nil)))))))), ?_⟩
  · rintro vs H Q E ⟨_, _, _, _, _, _, _, _, _, _, _, _, _, _, _, _, _, _, _, e, _⟩
    rw [e]
    rfl
  obtain ⟨L, B, G, ks, p, sa, pa, dx, lg, lm, ln, d, xg, xm, xn, v1, m, hL, sp0, rfl, hso, hkm, hbn, hq⟩ := hsp
  have hj : (start n_Story_begin [.ref sa, v1, .ref pa])[0]? = some (some (.ref sa)) := rfl
  have h1 : (start n_Story_begin [.ref sa, v1, .ref pa])[1]? = some (some v1) := rfl
  have h2 : (start n_Story_begin [.ref sa, v1, .ref pa])[2]? = some (some (.ref pa)) := rfl
  have hl : (start n_Story_begin [.ref sa, v1, .ref pa]).length = 5 := rfl
  generalize start n_Story_begin [.ref sa, v1, .ref pa] = σ at hj h1 h2 hl
  obtain ⟨al, ws, rfl, hlB, hal⟩ := hso
  have hws := all_nats hal
  subst hws
  have hLl := hL.len
  unfold tFor
  refine ⟨_, h1, al, rfl, ⟨_, ex_l (sp0.st.ob.ex.trans sp0.po.ex) hlB⟩, for_list (fun j σ' H' => σ'.length = 5 ∧ σ'[0]? = some (some (.ref sa)) ∧ σ'[2]? = some (some (.ref pa)) ∧ ∃ G' ks' p' xm', StP K L B L.length ks' p' sa pa dx lg lm ln d xg xm' xn G' H' ∧ ks'.length = ks.length + j ∧ p'.now = p.now ∧ p'.keep = p.keep ∧ p'.depth = p.depth)
    ⟨hl, hj, h2, G, ks, p, xm, sp0, rfl, rfl, rfl, rfl⟩ (fun j σ' H' _ ⟨_, _, _, _, _, _, _, h, _⟩ => ex_l (h.st.ob.ex.trans h.po.ex) hlB) (fun j x σ' H' hx ⟨yl, y0, y2, G', ks', p', xm', sp, k1, k2, k3, k4⟩ => ?_) fun σ' H' ⟨yl, y0, y2, G', ks', p', xm', sp, k1, k2, k3, k4⟩ => ?_⟩
  · have hjm : j < m := by
      have := (List.getElem?_eq_some_iff.mp hx).1
      simpa using this
    have hxe : x = .int ((ks'.length : Nat) : Int) := by
      rw [List.getElem?_map, List.getElem?_map, List.getElem?_range hjm] at hx
      rw [k1]
      exact (Option.some.inj hx).symm
    subst hxe
    have hbj : (ld L ks'.length).1 = p'.now := by rw [k1, k2]; exact hbn j hjm
    have hkl : ks'.length < L.length := by omega
    have hlt := (hL.pos _ hkl).2.1
    have z0 : (σ'.set 3 (some (.int ((ks'.length : Nat) : Int))))[0]? = some (some (.ref sa)) := by rw [List.getElem?_set_ne (by decide)]; exact y0
    have z2 : (σ'.set 3 (some (.int ((ks'.length : Nat) : Int))))[2]? = some (some (.ref pa)) := by rw [List.getElem?_set_ne (by decide)]; exact y2
    have z3 : (σ'.set 3 (some (.int ((ks'.length : Nat) : Int))))[3]? = some (some (.int ((ks'.length : Nat) : Int))) := List.getElem?_set_self (by rw [yl]; decide)
    have zl : (σ'.set 3 (some (.int ((ks'.length : Nat) : Int)))).length = 5 := by rw [List.length_set, yl]
    show tSeq _ _ _ (σ'.set 3 (some (.int ((ks'.length : Nat) : Int)))) H'
    generalize σ'.set 3 (some (.int ((ks'.length : Nat) : Int))) = σ5 at z0 z2 z3 zl
    have s5 : Sat [none, none, some (IsPo K p'), none, none] σ5 H' := (sat_no (n := 5) zl).know (i := 2) z2 sp.po.po
    refine h_asg (P := Is K p'.made) (eg_prop p' (eg_var (i := 2) (P := IsPo K p') rfl) rfl trivial) s5 fun v6 H1 e1 p6 => ?_
    obtain rfl : v6 = .int (p'.made : Int) := p6
    have a0 : (σ5.set 4 (some (.int (p'.made : Int))))[0]? = some (some (.ref sa)) := by rw [List.getElem?_set_ne (by decide)]; exact z0
    have a2 : (σ5.set 4 (some (.int (p'.made : Int))))[2]? = some (some (.ref pa)) := by rw [List.getElem?_set_ne (by decide)]; exact z2
    have a3 : (σ5.set 4 (some (.int (p'.made : Int))))[3]? = some (some (.int ((ks'.length : Nat) : Int))) := by rw [List.getElem?_set_ne (by decide)]; exact z3
    have a4 : (σ5.set 4 (some (.int (p'.made : Int))))[4]? = some (some (.int (p'.made : Int))) := List.getElem?_set_self (by rw [zl]; decide)
    have al' : (σ5.set 4 (some (.int (p'.made : Int)))).length = 5 := by rw [List.length_set, zl]
    generalize σ5.set 4 (some (.int (p'.made : Int))) = σ6 at a0 a2 a3 a4 al'
    have po1 := sp.po.mono e1
    obtain ⟨pdx, pli, ple, plt, pvi, poA⟩ := id po1
    obtain ⟨pvs, ps1, _⟩ := poA.ob.ob
    have hB := sp.bd hL
    refine h_seq ⟨_, a2, pa, pdx, pvs, rfl, ps1, G', p', pa, po1, rfl, hB, fun H2 p2 c tk po2 => ?_⟩
    have hT : Tk L ks' p' p2 c := by
      rcases tk with ⟨t1, t2, t3⟩ | ⟨xx, e, t1, t2, t3⟩
      · subst t2 t3
        exact sp.iv.new hbj hlt t1
      · subst t2 t3
        exact sp.iv.old hkl hbj hlt t1
    have st2 : StA K B ks' sa dx lg lm ln d xg xm' xn G' := sp.st
    obtain ⟨vs2, q1, q2⟩ := (st2.ob.ob).mono po2.ex
    obtain ⟨w3, hw3, hp3⟩ := q2 3 _ rfl
    obtain rfl : w3 = .ref d := hp3
    have hd2 := po2.ex _ _ st2.hd
    have hput : putK (dkN (thM ks')) (.inl ((ks'.length : Nat) : Int)) (.int (c : Int)) = dkN (thM (ks' ++ [c])) := by
      rw [thM_app, dkN_new]
      intro e he z
      obtain ⟨i, hi, rfl⟩ := List.mem_map.mp he
      have := List.mem_range.mp hi
      simp only at z
      omega
    refine ⟨_, a0, sa, _, dx, _, vs2, 3, _, rfl, q1, T.c_Story, T.sl_Story_things, hw3, _, a3, d, _, rfl, DPut.k (k := .inl ((ks'.length : Nat) : Int)) hd2 (by rw [dkN_len, thM_len]; exact Evl.sz_lt (by omega)), ?_⟩
    rw [hput]
    have po3 : PoH K (upd G' d (.dK (dkN (thM (ks' ++ [c]))))) p2 pa (upd H2 d (.dK (dkN (thM (ks' ++ [c]))))) := po2.put st2.hd rfl
    have st3 := st2.put (ks' ++ [c])
    generalize upd H2 d (.dK (dkN (thM (ks' ++ [c])))) = H3 at po3
    generalize upd G' d (.dK (dkN (thM (ks' ++ [c])))) = G3 at po3 st3
    dsimp only
    obtain ⟨vs3, r1, r2⟩ := (st3.ob.ob).mono po3.ex
    obtain ⟨w4, hw4, hp4⟩ := r2 1 _ rfl
    obtain rfl : w4 = .ref lm := hp4
    have hm3 := po3.ex _ _ st3.hm
    have s7 : Sat [none, none, some (IsPo K p2), none, some (Is K p'.made)] σ6 H3 := ((sat_no (n := 5) al').know (i := 2) a2 po3.po).know (i := 4) (P := Is K p'.made) a4 rfl
    have hle := hT.le
    have hmd := hT.md
    refine ⟨_, a0, sa, _, dx, _, vs3, 1, _, rfl, r1, T.c_Story, T.sl_Story_made, hw4, .inl ⟨rfl, xm', .inl (.inl hm3)⟩, rep_new (K := K) (k := p2.made - p'.made) (eg_prop p2 (eg_var (i := 2) (P := IsPo K p2) rfl) rfl trivial) (EvG.to (eg_opI0 (K := K) (f := fun i j => i - j) (i := p2.made) (j := p'.made) (eg_prop p2 (eg_var (i := 2) (P := IsPo K p2) rfl) rfl trivial) (eg_var (i := 4) rfl)) ?_) s7 (by omega) fun b zs H4 e4 hb4 hz => ?_⟩
    · show Is K ((p2.made : Int) - (p'.made : Int)) = Is K (((p2.made - p'.made : Nat)) : Int)
      congr 1
      omega
    · have po4 := po3.mono e4
      have hxm := sp.xm
      refine ⟨lm, b, xm', zs, rfl, rfl, e4 _ _ hm3, hb4, Nat.le_trans (show xm'.length + zs.length ≤ 1000 by omega) (by decide), ?_⟩
      have po5 := po4.put (b := lm) (u := .lst (xm' ++ zs)) st3.hm rfl
      have st5 := st3.made (xm' ++ zs)
      have hxn := sp.xn
      have hxg := sp.xg
      refine ⟨al', a0, a2, _, ks' ++ [c], p2, _, ⟨st5, po5, hT.inv, by rw [List.length_append]; show ks'.length + 1 ≤ _; omega, by rw [List.length_append, List.length_append]; show xm'.length + zs.length ≤ ks'.length + 1; omega, by rw [hT.now]; exact hxg, by rw [hT.now]; exact hxn, by rw [hT.depth]; exact sp.dp⟩, by rw [List.length_append]; show ks'.length + 1 = _; omega, hT.now.trans k2, hT.keep.trans k3, hT.depth.trans k4⟩
  · rw [List.length_map, List.length_map, List.length_range] at k1
    exact hq G' H' ks' p' xm' sp k1 k2 k3 k4
end
end Lp

/-! part LpStory3 -/
set_option Elab.async false
set_option linter.all false
set_option maxRecDepth 100000

namespace Lp
open PySem PySem.Spec PyProof.Rows L2
open Evl (Ex ex_l ex_t ex_rd fresh_back)
section
variable {prog : Program} {w : World} {K : PySem.W.Frag} {mg : Str → Option Value} {base : Heap}
theorem perm_sorted : ∀ {xs ys : List Int}, xs.Perm ys → xs.Pairwise (· ≤ ·) → ys.Pairwise (· ≤ ·) → xs = ys
  | [], ys, p, _, _ => (List.nil_perm.mp p).symm
  | x :: xs, [], p, _, _ => by
    have := p.length_eq
    cases this
  | x :: xs, y :: ys, p, h1, h2 => by
    obtain ⟨a1, a2⟩ := List.pairwise_cons.mp h1
    obtain ⟨b1, b2⟩ := List.pairwise_cons.mp h2
    have hx : x ∈ y :: ys := p.mem_iff.mp List.mem_cons_self
    have hy : y ∈ x :: xs := p.mem_iff.mpr List.mem_cons_self
    have e : x = y := by
      rcases List.mem_cons.mp hx with e | hx
      · exact e
      · rcases List.mem_cons.mp hy with e | hy
        · exact e.symm
        · exact Int.le_antisymm (a1 y hy) (b1 x hx)
    subst e
    rw [perm_sorted (List.Perm.cons_inv p) a2 b2]
def MaxP (xs : List Int) (m : Int) : Prop := (∀ x, x ∈ xs → x ≤ m) ∧ (xs = [] → m = 0) ∧ (xs ≠ [] → m ∈ xs)
theorem MaxP.uniq {xs : List Int} {m m' : Int} (h : MaxP xs m) (h' : MaxP xs m') : m = m' := by
  by_cases hn : xs = []
  · rw [h.2.1 hn, h'.2.1 hn]
  · exact Int.le_antisymm (h'.1 _ (h.2.2 hn)) (h.1 _ (h'.2.2 hn))
theorem maxP_ex : ∀ xs : List Int, ∃ m, MaxP xs m
  | [] => ⟨0, ⟨fun x hx => (by cases hx), fun _ => rfl, fun h => absurd rfl h⟩⟩
  | x :: xs => by
    obtain ⟨m, h1, h2, h3⟩ := maxP_ex xs
    by_cases hn : xs = []
    · subst hn
      exact ⟨x, ⟨fun y hy => (by rw [List.mem_singleton.mp hy]; exact Int.le_refl _), fun z => (nomatch z), fun _ => List.mem_cons_self⟩⟩
    · refine ⟨max x m, ⟨fun y hy => ?_, fun z => (nomatch z), fun _ => ?_⟩⟩
      · rcases List.mem_cons.mp hy with e | hy
        · rw [e]; exact Int.le_max_left _ _
        · exact Int.le_trans (h1 y hy) (Int.le_max_right _ _)
      · rcases Int.le_total x m with h | h
        · rw [Int.max_eq_right h]; exact List.mem_cons_of_mem _ (h3 hn)
        · rw [Int.max_eq_left h]; exact List.mem_cons_self
theorem eg_maxDef {Γ : Gm} {te : TE} {xs : List Int} (h : EvG te Γ (Is K xs)) : EvG (tCKw (rMaxDef K) (tCons te tNil) (tCons (tC (.int 0)) tNil)) Γ (Ssm (MaxP xs) (Is K)) := fun σ H Q s q => h σ H _ s fun v H1 e1 p1 => by
  obtain ⟨a, us, rfl, h2, h3⟩ := p1
  rw [all_ints h3] at h2
  exact ⟨a, xs, 0, rfl, rfl, h2, fun m h4 h5 h6 => q _ H1 e1 ⟨m, ⟨h5, h4, h6⟩, rfl⟩⟩
theorem ok_last_end (T : Tx K mg) : FnR prog w K mg base CX0 1 (He.ga K "last_end") (spP (fun L : Loans => PlOk L) (fun L => [Is K (Tp.mk L)]) (fun L => Ssm (MaxP (L.map Prod.snd)) (Is K))) := by
  obtain ⟨fdO, FO⟩ := T.d_last_end
  refine fn_pure FO sc_last_end (fun _ _ _ _ _ _ us hl => match us, hl with | [_], _ => rfl) (fun _ => rfl) fun cdv A outer s H E hr => ⟨_, PSs.nox (pss_one (ps_ret (pe_callBK (cr_maxDef rfl (hu_of hr)) (by rfl) T.f_max (by decide +kernel) (pa_cons (pe_lc (own := [("begin", 1), ("end", 2)]) (g := _) (tt := _) rfl sc_last_end.nd (pi_tupK (K := K) (pv 0)) (blkOk_by (own := [("begin", 1), ("end", 2)]) (N := n_last_end) (sc := defScope s_last_end) (by decide +kernel)) (fun _ _ _ _ _ => (pg_tupK (K := K) (n := 2) rfl (pgs_cons (pg_name (i := 1) sc_last_end.nd rfl (by first | exact Or.inl rfl | exact Or.inr rfl)) (pgs_cons (pg_name (i := 2) sc_last_end.nd rfl (by first | exact Or.inl rfl | exact Or.inr rfl)) pgs_nil)))) (fun _ _ _ _ _ => pts_nil) (fun _ _ _ _ _ => (pv 2))) pa_nil) (pk_cons pe_int pk_nil)))), ?_⟩
  intro L hL
  exact sx_ret (P := Ssm (MaxP (L.map Prod.snd)) (Is K)) (eg_maxDef (eg_lcM (K := K) (xs := L) Prod.snd (ew_tup (eg_var rfl)) (fun b hb => tg_pair (x := b.1) (y := b.2) tg_name tg_name) (fun b hb => eg_var rfl) (by have := hL.len; omega))) rfl
theorem max_ends {L : Loans} (hL : PlOk L) {m : Int} (h : MaxP (L.map Prod.snd) m) : (∀ i, i < L.length → (ld L i).2 ≤ m) ∧ m ≤ 100 := by
  refine ⟨fun i hi => h.1 _ (List.mem_map.mpr ⟨_, List.mem_of_getElem? (ld_at hi), rfl⟩), ?_⟩
  by_cases hn : L.map Prod.snd = []
  · rw [h.2.1 hn]; decide
  · obtain ⟨b, hb, rfl⟩ := List.mem_map.mp (h.2.2 hn)
    obtain ⟨i, hi, e⟩ := List.mem_iff_getElem.mp hb
    have h7 := (hL.pos i hi).2.2
    have h8 : ld L i = b := by
      have := ld_at hi
      rw [List.getElem?_eq_getElem hi, e] at this
      exact (Option.some.inj this).symm
    rw [h8] at h7
    exact h7
def AnyP : SP := ⟨fun _ _ => True, fun _ _ => trivial⟩
def IsSt (K : PySem.W.Frag) (ks : List Nat) : SP := ObP (He.ga K "Story") [AnyP, AnyP, AnyP, DcE (dkN (thM ks))]
theorem eg_dgetE {Γ : Gm} {td ty : TE} {m : List (Nat × Nat)} {g v : Nat} (hd : EvG td Γ (DcE (dkN m))) (hy : EvG ty Γ (Is K g)) (hv : (m.find? fun e => decide (e.1 = g)) = some (g, v)) : EvG (tDGet td ty) Γ (Is K v) := fun σ H Q s q =>
  hd σ H _ s fun x H1 e1 ⟨d, h1, h2⟩ => hy σ H1 _ (s.mono e1) fun u H2 e2 p2 => by
    obtain rfl : u = .int (g : Int) := p2
    refine ⟨d, .int (v : Int), h1, .inl ⟨_, .inl (g : Int), ex_rd e2 h2, rfl, ?_⟩, q _ H2 (e1.trans e2) rfl⟩
    rw [dkN_val, hv]
    rfl
theorem thM_find {ks : List Nat} {i : Nat} (hi : i < ks.length) : ((thM ks).find? fun e => decide (e.1 = i)) = some (i, ks.getD i 0) := by
  have hm : (i, ks.getD i 0) ∈ thM ks := List.mem_map.mpr ⟨i, List.mem_range.mpr hi, rfl⟩
  cases hf : (thM ks).find? fun e => decide (e.1 = i) with
  | none => exact absurd (decide_eq_true rfl) (List.find?_eq_none.mp hf _ hm)
  | some e =>
    have h1 : e.1 = i := by simpa using List.find?_some hf
    obtain ⟨j, _, rfl⟩ := List.mem_map.mp (List.mem_of_find?_eq_some hf)
    simp only at h1
    rw [h1]
theorem ks_eq (ks : List Nat) : (List.range ks.length).map (fun i => ks.getD i 0) = ks := by
  refine List.ext_getElem (by simp) fun i h1 h2 => ?_
  rw [List.getElem_map, List.getElem_range, List.getD_eq_getElem?_getD, List.getElem?_eq_getElem h2]
  rfl
theorem ok_Story_got (T : Tx K mg) : FnR prog w K mg base CX0 1 (He.ma K (He.ga K "Story") "got") (spP (fun ks : List Nat => ks.length ≤ 50) (fun ks => [IsSt K ks]) (fun ks => Is K (Tp.mk ks))) := by
  obtain ⟨fdO, FO⟩ := T.d_Story_got
  refine fn_pure FO sc_Story_got (fun _ _ _ _ _ _ us hl => match us, hl with | [_], _ => rfl) (fun _ => rfl) fun cdv A outer s H E hr => ⟨_, PSs.nox (pss_one (ps_ret (pe_callTy call_tuple_of (by rfl) T.f_tuple (by decide +kernel) (pa_cons (pe_lc (own := [("number", 1)]) (g := gName 1) (tt := _) rfl sc_Story_got.nd (pi_listK (K := K) (pe_callB (call_sortedDI rfl) (by rfl) T.f_sorted (by decide +kernel) (pa_cons (pe_slK (K := K) (pv 0)) pa_nil))) (blkOk_by (own := [("number", 1)]) (N := n_Story_got) (sc := defScope s_Story_got) (by decide +kernel)) (fun _ _ _ _ _ => (pg_name (i := 1) sc_Story_got.nd rfl (by first | exact Or.inl rfl | exact Or.inr rfl))) (fun _ _ _ _ _ => pts_nil) (fun _ _ _ _ _ => (pe_dget (hu_of hr) (pe_slK (K := K) (pv 0)) (pv 1) (fun _ _ => rfl)))) pa_nil)))), ?_⟩
  intro ks hk
  refine sx_ret (P := Is K (Tp.mk ks)) (eg_tupOf (fun xs H Q q => q) (Ps := ks.map (Is K)) (EvG.to (eg_lcM (K := K) (xs := List.range ks.length) (fun i => ks.getD i 0) (ew_list (Ps := (List.range ks.length).map (Is K)) ?_) (fun b hb => tg_name) (fun i hi => eg_dgetE (m := thM ks) (g := i) (eg_sl (eg_var (i := 0) (P := IsSt K ks) rfl) T.c_Story T.sl_Story_things rfl) (eg_var rfl) (thM_find (List.mem_range.mp hi))) (by rw [List.length_range]; omega)) ?_)) rfl
  · intro σ H Q s q
    refine (eg_sl (eg_var (i := 0) (P := IsSt K ks) rfl) T.c_Story T.sl_Story_things rfl : EvG _ _ (DcE (dkN (thM ks)))) σ H _ s fun v H1 e1 ⟨d, h1, h2⟩ => ?_
    subst h1
    refine ⟨d, _, (List.range ks.length).map fun i : Nat => (i : Int), rfl, h2, ?_, by simp; omega, fun ys p hp hs hH => ?_⟩
    · unfold dkN thM
      rw [List.map_map, List.map_map, List.map_map]
      rfl
    · have hy : ys = (List.range ks.length).map fun i : Nat => (i : Int) := perm_sorted hp hs (List.Pairwise.map _ (fun a b h => by omega) (List.pairwise_lt_range (n := ks.length)))
      subst hy
      refine q _ _ (e1.trans (Ex.new hH)) ⟨p, _, rfl, .inl (.inl upd_same), ?_⟩
      rw [List.map_map]
      exact nats_all
  · show Is K _ = Is K ks
    rw [ks_eq]
end
end Lp

/-! part LpStory4 -/
set_option Elab.async false
set_option linter.all false
set_option maxRecDepth 100000

namespace Lp
open PySem PySem.Spec PyProof.Rows L2
open Evl (Ex ex_l ex_t ex_rd fresh_back)
section
variable {prog : Program} {w : World} {K : PySem.W.Frag} {mg : Str → Option Value} {base : Heap}
theorem PoH_grow {G H H2 : Hp} {p : PoS} {a l : Addr} {u : HO} (h : PoH K G p a H) (e : Ex H H2) (hl : H l = none) (h2 : H2 l = some u) : PoH K (upd G l u) p a H2 := by
  obtain ⟨dx, li, le, lt, vi, h⟩ := h
  have off : ∀ c : Addr, (∃ o, H c = some o) → c ≠ l := fun c ⟨o, ho⟩ z => by rw [z, hl] at ho; cases ho
  have ha : ∃ o, H a = some o := by
    obtain ⟨vs, h1, _⟩ := h.ob.ob
    rcases h1 with ⟨h1, _⟩ | ⟨h1, _⟩
    · exact ⟨_, h1⟩
    · exact ⟨_, h1⟩
  have h' := h.mono e
  have ex : Ex (upd G l u) H2 := fun c o hc => by
    by_cases z : c = l
    · subst z
      rw [upd_same] at hc
      rw [h2]
      exact hc
    · rw [upd_ne z] at hc
      exact e _ _ (h.ob.ex c o hc)
  exact ⟨dx, li, le, lt, vi, ⟨by rw [upd_ne (off _ ha)]; exact h.ob.na, by rw [upd_ne (off _ h.ob.hd)]; exact h.ob.nd, ex, h'.ob.ob, h'.ob.own, h'.ob.hd, h'.ob.rs⟩, by rw [upd_ne (off _ ⟨_, h.hi⟩)]; exact h.gi, by rw [upd_ne (off _ ⟨_, h.he⟩)]; exact h.ge, by rw [upd_ne (off _ ⟨_, h.ht⟩)]; exact h.gt, h.ie, h.it, h.et, h'.hi, h'.ri, h'.he, h'.ht⟩
section
variable {B B' G G' : Hp} {ks : List Nat} {sa dx lg lm ln d : Addr} {xg xm xn : List V}
theorem StA.mono (h : StA K B ks sa dx lg lm ln d xg xm xn G) (e : Ex G G') : StA K B ks sa dx lg lm ln d xg xm xn G' :=
  ⟨h.ob.mono e, h.bg, h.bm, h.bn, h.bd, h.gm, h.gn, h.mn, e _ _ h.hg, e _ _ h.hm, e _ _ h.hn, e _ _ h.hd⟩
theorem ex_none {H H' : Hp} {b : Addr} (e : Ex H H') (h : H' b = none) : H b = none := by
  cases hb : H b with
  | none => rfl
  | some o => rw [e _ _ hb] at h; cases h
theorem StA.less (h : StA K B' ks sa dx lg lm ln d xg xm xn G) (e : Ex B B') : StA K B ks sa dx lg lm ln d xg xm xn G :=
  ⟨⟨ex_none e h.ob.na, ex_none e h.ob.nd, e.trans h.ob.ex, h.ob.ob, h.ob.own, h.ob.hd, h.ob.rs⟩, ex_none e h.bg, ex_none e h.bm, ex_none e h.bn, ex_none e h.bd, h.gm, h.gn, h.mn, h.hg, h.hm, h.hn, h.hd⟩
theorem StA.add {l : Addr} {u : HO} (h : StA K B ks sa dx lg lm ln d xg xm xn G) (hl : G l = none) : StA K (upd B l u) ks sa dx lg lm ln d xg xm xn (upd G l u) := by
  have off : ∀ c : Addr, (∃ o, G c = some o) → c ≠ l := fun c ⟨o, ho⟩ z => by rw [z, hl] at ho; cases ho
  have ha : ∃ o, G sa = some o := by
    obtain ⟨vs, h1, _⟩ := h.ob.ob
    rcases h1 with ⟨h1, _⟩ | ⟨h1, _⟩
    · exact ⟨_, h1⟩
    · exact ⟨_, h1⟩
  have h' := h.mono (Ex.new (o := u) hl)
  exact ⟨⟨by rw [upd_ne (off _ ha)]; exact h.ob.na, by rw [upd_ne (off _ h.ob.hd)]; exact h.ob.nd, ex_updu h.ob.ex, h'.ob.ob, h'.ob.own, h'.ob.hd, h'.ob.rs⟩, by rw [upd_ne (off _ ⟨_, h.hg⟩)]; exact h.bg, by rw [upd_ne (off _ ⟨_, h.hm⟩)]; exact h.bm, by rw [upd_ne (off _ ⟨_, h.hn⟩)]; exact h.bn, by rw [upd_ne (off _ ⟨_, h.hd⟩)]; exact h.bd, h.gm, h.gn, h.mn, h'.hg, h'.hm, h'.hn, h'.hd⟩
theorem StA.is (h : StA K B ks sa dx lg lm ln d xg xm xn G) : (IsSt K ks).p (.ref sa) G := by
  obtain ⟨vs, h1, h2⟩ := h.ob.ob
  refine ⟨sa, dx, rfl, vs, h1, fun i P hP => ?_⟩
  match i, hP with
  | 0, hP =>
    obtain ⟨w, hw, hp⟩ := h2 0 _ rfl
    injection hP with hP; injection hP with hP; subst hP
    exact ⟨_, hw, trivial⟩
  | 1, hP =>
    obtain ⟨w, hw, hp⟩ := h2 1 _ rfl
    injection hP with hP; injection hP with hP; subst hP
    exact ⟨_, hw, trivial⟩
  | 2, hP =>
    obtain ⟨w, hw, hp⟩ := h2 2 _ rfl
    injection hP with hP; injection hP with hP; subst hP
    exact ⟨_, hw, trivial⟩
  | 3, hP =>
    obtain ⟨w, hw, hp⟩ := h2 3 _ rfl
    obtain rfl : w = .ref d := hp
    injection hP with hP; injection hP with hP; subst hP
    exact ⟨_, hw, d, rfl, .inl h.hd⟩
  | _ + 4, hP => simp at hP
end
/-- the loans that begin at a beat -/
theorem filter_mid (c c' : Nat) : ∀ n, (List.range n).filter (fun i => decide (c ≤ i) && decide (i < c')) = (List.range (min n c' - c)).map fun j => c + j
  | 0 => by simp
  | n + 1 => by
    rw [List.range_succ, List.filter_append, filter_mid c c' n]
    by_cases h : c ≤ n ∧ n < c'
    · have e1 : ([n].filter fun i => decide (c ≤ i) && decide (i < c')) = [n] := by simp [h.1, h.2]
      have e2 : min (n + 1) c' - c = (min n c' - c) + 1 := by omega
      rw [e1, e2, List.range_succ, List.map_append]
      congr 1
      show [n] = [c + (min n c' - c)]
      congr 1
      omega
    · have e1 : ([n].filter fun i => decide (c ≤ i) && decide (i < c')) = [] := by
        rw [List.filter_eq_nil_iff]
        intro a ha
        rw [List.mem_singleton.mp ha]
        simp
        omega
      have e2 : min (n + 1) c' - c = min n c' - c := by omega
      rw [e1, e2, List.append_nil]
theorem thresh {L : Loans} (hL : PlOk L) (t : Int) : ∃ c, c ≤ L.length ∧ ∀ i, i < L.length → (i < c ↔ (ld L i).1 < t) := by
  have : ∀ n, n ≤ L.length → ∃ c, c ≤ n ∧ ∀ i, i < n → (i < c ↔ (ld L i).1 < t) := fun n => by
    induction n with
    | zero => exact fun _ => ⟨0, Nat.le_refl _, fun i hi => absurd hi (Nat.not_lt_zero _)⟩
    | succ n ih =>
      intro hn
      obtain ⟨c, h1, h2⟩ := ih (by omega)
      by_cases hb : (ld L n).1 < t
      · refine ⟨n + 1, Nat.le_refl _, fun i hi => ⟨fun _ => ?_, fun _ => hi⟩⟩
        by_cases hin : i = n
        · rw [hin]; exact hb
        · exact Int.lt_of_le_of_lt (hL.so i n (by omega) (by omega)) hb
      · refine ⟨c, by omega, fun i hi => ?_⟩
        by_cases hin : i = n
        · subst hin
          exact ⟨fun z => by omega, fun z => absurd z hb⟩
        · exact h2 i (by omega)
  exact this L.length (Nat.le_refl _)
def rowsL (L : Loans) : List (Nat × Int × Int) := (List.range L.length).map fun i => (i, ld L i)
theorem begins {L : Loans} (hL : PlOk L) {t c : Nat} (hc : ∀ i, i < L.length → (i < c ↔ (ld L i).1 < t)) (hcn : c ≤ L.length) : ∃ m, ((rowsL L).filter fun e => decide (e.2.1 = (t : Int))).map Prod.fst = (List.range m).map (fun j => c + j) ∧ c + m ≤ L.length ∧ (∀ j, j < m → (ld L (c + j)).1 = t) ∧ ∀ i, i < L.length → (i < c + m ↔ (ld L i).1 < ((t + 1 : Nat) : Int)) := by
  obtain ⟨c', h1, h2⟩ := thresh hL ((t + 1 : Nat) : Int)
  have hcc : c ≤ c' := by
    by_cases hz : c = 0
    · omega
    · have h3 := (hc (c - 1) (by omega)).mp (by omega)
      have h4 := (h2 (c - 1) (by omega)).mpr (by omega)
      omega
  refine ⟨c' - c, ?_, by omega, fun j hj => ?_, fun i hi => ?_⟩
  · unfold rowsL
    rw [List.filter_map, List.map_map]
    have e1 : ((List.range L.length).filter ((fun e : Nat × Int × Int => decide (e.2.1 = (t : Int))) ∘ fun i => (i, ld L i))) = (List.range L.length).filter fun i => decide (c ≤ i) && decide (i < c') := by
      refine List.filter_congr fun i hi => ?_
      have hi := List.mem_range.mp hi
      show decide ((ld L i).1 = (t : Int)) = _
      have a := hc i hi
      have b := h2 i hi
      by_cases h : (ld L i).1 = (t : Int)
      · have h5 : ¬ i < c := fun z => by have := a.mp z; omega
        have h6 : i < c' := b.mpr (by omega)
        rw [decide_eq_true h, decide_eq_true (Nat.not_lt.mp h5), decide_eq_true h6]
        rfl
      · rw [decide_eq_false h]
        by_cases h5 : c ≤ i
        · by_cases h6 : i < c'
          · exfalso
            have := b.mp h6
            have h7 : ¬ (ld L i).1 < t := fun z => by have := a.mpr z; omega
            omega
          · rw [decide_eq_false h6, Bool.and_false]
        · rw [decide_eq_false h5, Bool.false_and]
    rw [e1, filter_mid, Nat.min_eq_right h1]
    rw [List.map_map]
    rfl
  · have a := hc (c + j) (by omega)
    have b := (h2 (c + j) (by omega)).mp (by omega)
    have h7 : ¬ (ld L (c + j)).1 < t := fun z => by have := a.mpr z; omega
    omega
  · rw [show c + (c' - c) = c' by omega]
    exact h2 i hi
end
end Lp

/-! part LpStory5 -/
set_option Elab.async false
set_option linter.all false
set_option maxRecDepth 100000

namespace Lp
open PySem PySem.Spec PyProof.Rows L2
open Evl (Ex ex_l ex_t ex_rd fresh_back)
section
variable {prog : Program} {w : World} {K : PySem.W.Frag} {mg : Str → Option Value} {base : Heap}
/-- the ghosts: the heap without some cells -/
def cut (S : List Addr) (H : Hp) : Hp := fun b => if b ∈ S then none else H b
theorem cut_ex {S : List Addr} {H : Hp} : Ex (cut S H) H := fun b o h => by
  unfold cut at h
  by_cases hb : b ∈ S
  · rw [if_pos hb] at h; cases h
  · rw [if_neg hb] at h; exact h
theorem cut_in {S : List Addr} {H : Hp} {b : Addr} (h : b ∈ S) : cut S H b = none := if_pos h
theorem cut_out {S : List Addr} {H : Hp} {b : Addr} (h : b ∉ S) : cut S H b = H b := if_neg h
theorem cut_kt {S : List Addr} {H : Hp} (h : ∀ b, b ∈ S → ∀ xs, ¬ Rd H b (.tup xs)) : Kt H (cut S H) := fun b xs r => by
  have hb : b ∉ S := fun z => h b z xs r
  rcases r with r | ⟨o, r⟩
  · exact .inl (by rw [cut_out hb]; exact r)
  · exact .inr ⟨o, by rw [cut_out hb]; exact r⟩
theorem cut_sub {S S' : List Addr} {H : Hp} (h : ∀ b, b ∈ S' → b ∈ S) : Ex (cut S H) (cut S' H) := fun b o hb => by
  have h1 : b ∉ S := fun z => by rw [cut_in z] at hb; cases hb
  rw [cut_out h1] at hb
  rw [cut_out fun z => h1 (h b z)]
  exact hb
theorem cut_le {S : List Addr} {G H : Hp} (e : Ex G H) (h : ∀ b, b ∈ S → G b = none) : Ex G (cut S H) := fun b o hb => by
  rw [cut_out fun z => by rw [h b z] at hb; cases hb]
  exact e b o hb
theorem no_tup {H : Hp} {b : Addr} {o : HO} (h : H b = some o) (hn : notTup o = true) (xs : List V) : ¬ Rd H b (.tup xs) := fun r => by
  rcases r with r | ⟨u, r⟩ <;> rw [h] at r <;> cases r <;> cases hn
theorem slt_no {H : Hp} {a C dx : Addr} {vs : List (Option V)} (h : SlX.Slt H a C dx vs) (xs : List V) : ¬ Rd H a (.tup xs) := by
  rcases h with ⟨h, _⟩ | ⟨h, _⟩
  · exact no_tup h rfl xs
  · exact no_tup h rfl xs
theorem own_no {H : Hp} {a dx : Addr} (h : Own H a dx) (xs : List V) : ¬ Rd H dx (.tup xs) := fun r => by
  rcases r with r | ⟨u, r⟩
  · have := h.2 _ r; cases this
  · have := h.2 _ r; cases this
/-- the pool's own cells -/
theorem PoA.no {G H : Hp} {p : PoS} {a dx li le lt : Addr} {vi : List V} (h : PoA K G p a dx li le lt vi H) (b : Addr) (hb : b ∈ [a, dx, li, le, lt]) : G b = none ∧ (∃ o, H b = some o) ∧ ∀ xs, ¬ Rd H b (.tup xs) := by
  obtain ⟨vs, h1, _⟩ := h.ob.ob
  have ha : ∃ o, H a = some o := by
    rcases h1 with ⟨h1, _⟩ | ⟨h1, _⟩
    · exact ⟨_, h1⟩
    · exact ⟨_, h1⟩
  rcases List.mem_cons.mp hb with e | hb
  · subst e; exact ⟨h.ob.na, ha, slt_no h1⟩
  rcases List.mem_cons.mp hb with e | hb
  · subst e; exact ⟨h.ob.nd, h.ob.hd, own_no h.ob.own⟩
  rcases List.mem_cons.mp hb with e | hb
  · subst e; exact ⟨h.gi, ⟨_, h.hi⟩, no_tup h.hi rfl⟩
  rcases List.mem_cons.mp hb with e | hb
  · subst e; exact ⟨h.ge, ⟨_, h.he⟩, no_tup h.he rfl⟩
  rcases List.mem_cons.mp hb with e | hb
  · subst e; exact ⟨h.gt, ⟨_, h.ht⟩, no_tup h.ht rfl⟩
  cases hb
theorem PoA.cut {G H : Hp} {p : PoS} {a dx li le lt : Addr} {vi : List V} (h : PoA K G p a dx li le lt vi H) {S : List Addr} (hS : ∀ b, b ∈ [a, dx, li, le, lt] → b ∈ S) : PoA K (Lp.cut S H) p a dx li le lt vi H :=
  ⟨⟨cut_in (hS _ (by simp)), cut_in (hS _ (by simp)), cut_ex, h.ob.ob, h.ob.own, h.ob.hd, h.ob.rs⟩, cut_in (hS _ (by simp)), cut_in (hS _ (by simp)), cut_in (hS _ (by simp)), h.ie, h.it, h.et, h.hi, h.ri, h.he, h.ht⟩
theorem StA.no {B G : Hp} {ks : List Nat} {sa dx lg lm ln d : Addr} {xg xm xn : List V} (h : StA K B ks sa dx lg lm ln d xg xm xn G) (b : Addr) (hb : b ∈ [sa, dx, lg, lm, ln, d]) : B b = none ∧ (∃ o, G b = some o) ∧ ∀ xs, ¬ Rd G b (.tup xs) := by
  obtain ⟨vs, h1, _⟩ := h.ob.ob
  have ha : ∃ o, G sa = some o := by
    rcases h1 with ⟨h1, _⟩ | ⟨h1, _⟩
    · exact ⟨_, h1⟩
    · exact ⟨_, h1⟩
  rcases List.mem_cons.mp hb with e | hb
  · subst e; exact ⟨h.ob.na, ha, slt_no h1⟩
  rcases List.mem_cons.mp hb with e | hb
  · subst e; exact ⟨h.ob.nd, h.ob.hd, own_no h.ob.own⟩
  rcases List.mem_cons.mp hb with e | hb
  · subst e; exact ⟨h.bg, ⟨_, h.hg⟩, no_tup h.hg rfl⟩
  rcases List.mem_cons.mp hb with e | hb
  · subst e; exact ⟨h.bm, ⟨_, h.hm⟩, no_tup h.hm rfl⟩
  rcases List.mem_cons.mp hb with e | hb
  · subst e; exact ⟨h.bn, ⟨_, h.hn⟩, no_tup h.hn rfl⟩
  rcases List.mem_cons.mp hb with e | hb
  · subst e; exact ⟨h.bd, ⟨_, h.hd⟩, no_tup h.hd rfl⟩
  cases hb
end
end Lp

/-! part LpStory6 -/
set_option Elab.async false
set_option linter.all false
set_option maxRecDepth 100000

namespace Lp
open PySem PySem.Spec PyProof.Rows L2
open Evl (Ex ex_l ex_t ex_rd fresh_back)
section
variable {prog : Program} {w : World} {K : PySem.W.Frag} {mg : Str → Option Value} {base : Heap}
theorem story_ghost {G Hb H : Hp} {p : PoS} {a pdx li le lt : Addr} {vi : List V} {ks : List Nat} {sa dx lg lm ln d : Addr} {xg xm xn : List V} (po : PoA K G p a pdx li le lt vi H) (hpo : ∀ b, b ∈ [a, pdx, li, le, lt] → ∃ o, Hb b = some o) (st : StA K Hb ks sa dx lg lm ln d xg xm xn H) (eG : Ex G Hb) :
    ∃ B G5, StA K B ks sa dx lg lm ln d xg xm xn G5 ∧ PoH K G5 p a H ∧ Ex G B ∧ Kt H B ∧ ∀ (b : Addr) (o : HO), H b = some o → Hb b = none → b ∉ [sa, dx, lg, lm, ln, d] → B b = some o := by
  have nF : ∀ b, b ∈ [sa, dx, lg, lm, ln, d] → b ∉ [a, pdx, li, le, lt] := fun b hb z => by
    obtain ⟨o, ho⟩ := hpo b z
    rw [(st.no b hb).1] at ho
    cases ho
  have gF : ∀ {b : Addr}, b ∈ [sa, dx, lg, lm, ln, d] → cut [a, pdx, li, le, lt] H b = H b := fun hb => cut_out (nF _ hb)
  have inS : ∀ {b : Addr}, b ∈ [sa, dx, lg, lm, ln, d] → b ∈ [a, pdx, li, le, lt] ++ [sa, dx, lg, lm, ln, d] := fun hb => List.mem_append_right _ hb
  refine ⟨cut ([a, pdx, li, le, lt] ++ [sa, dx, lg, lm, ln, d]) H, cut [a, pdx, li, le, lt] H, ⟨⟨cut_in (inS (by simp)), cut_in (inS (by simp)), cut_sub fun b hb => List.mem_append_left _ hb, ?_, ⟨st.ob.own.1, fun o ho => st.ob.own.2 o (by rwa [gF (by simp)] at ho)⟩, by rw [gF (by simp)]; exact st.ob.hd, st.ob.rs⟩, cut_in (inS (by simp)), cut_in (inS (by simp)), cut_in (inS (by simp)), cut_in (inS (by simp)), st.gm, st.gn, st.mn, by rw [gF (by simp)]; exact st.hg, by rw [gF (by simp)]; exact st.hm, by rw [gF (by simp)]; exact st.hn, by rw [gF (by simp)]; exact st.hd⟩, ⟨pdx, li, le, lt, vi, po.cut fun b hb => hb⟩, ?_, ?_, ?_⟩
  · obtain ⟨vs, h1, h2⟩ := st.ob.ob
    refine ⟨vs, ?_, fun i P hP => ?_⟩
    · rcases h1 with ⟨h1, e⟩ | ⟨h1, h1'⟩
      · exact .inl ⟨by rw [gF (by simp)]; exact h1, e⟩
      · exact .inr ⟨by rw [gF (by simp)]; exact h1, by rw [gF (by simp)]; exact h1'⟩
    · obtain ⟨w, hw, hp⟩ := h2 i P hP
      exact ⟨w, hw, stSs_fre i P hP _ _ _ hp⟩
  · refine cut_le (eG.trans st.ob.ex) fun b hb => ?_
    rcases List.mem_append.mp hb with h | h
    · exact (po.no b h).1
    · exact ex_none eG (st.no b h).1
  · refine cut_kt fun b hb xs => ?_
    rcases List.mem_append.mp hb with h | h
    · exact (po.no b h).2.2 xs
    · exact (st.no b h).2.2 xs
  · intro b o hb hn hs
    rw [cut_out fun z => ?_]
    · exact hb
    · rcases List.mem_append.mp z with h | h
      · obtain ⟨o', ho'⟩ := hpo b h
        rw [hn] at ho'
        cases ho'
      · exact hs h
end
end Lp

/-! part LpStory7 -/
set_option Elab.async false
set_option linter.all false
set_option maxRecDepth 100000

namespace Lp
open PySem PySem.Spec PyProof.Rows L2
open Evl (Ex ex_l ex_t ex_rd fresh_back)
section
variable {prog : Program} {w : World} {K : PySem.W.Frag} {mg : Str → Option Value} {base : Heap}
theorem h_rows {Γ : Gm} {te : TE} {L : Loans} {σ : L2.St} {H : Hp} {D : Ends} {t2 : TS} {i : Nat} (h : EvG te Γ (Is K (Tp.mk L))) (s : Sat Γ σ H) (k : ∀ p H2 ws, Ex H H2 → H p = none → H2 p = some (.lst ws) → AllP ws ((rowsL L).map (Is K)) H2 → t2 D (σ.set i (some (.ref p))) H2) : tSeq (tAsg (tLstEnumT K te) (gName i)) t2 D σ H :=
  h σ H _ s fun v H1 e1 ⟨a, xs, h1, h2, h3⟩ => ⟨a, xs, h1, h2, fun H2 p ts e2 np hp hts => by
    refine k p H2 _ (e1.trans e2) (fresh_back e1 np) hp ?_
    have lx : xs.length = L.length := by
      have := AllP.len h3
      rwa [List.length_map] at this
    have h4 : AllP xs (L.map (Is K)) H2 := AllP.mono h3 e2
    have lt : ts.length = L.length := by rw [Paired.length hts, enK_len, lx]
    have key : ∀ j, j < L.length → ∃ t x, ts[j]? = some t ∧ H2 t = some (.tup [.int (j : Int), x]) ∧ (Is K (ld L j)).p x H2 := fun j hj => by
      obtain ⟨t, ht⟩ : ∃ t, ts[j]? = some t := ⟨_, List.getElem?_eq_getElem (by omega)⟩
      obtain ⟨q, hq, hq2⟩ := LiI.paired_get hts ht
      obtain ⟨x, hx, rfl⟩ := enK_at hq
      obtain ⟨P, hP, hp⟩ := AllP.at h4 hx
      rw [List.getElem?_map, ld_at hj] at hP
      obtain rfl : Is K (ld L j) = P := Option.some.inj hP
      exact ⟨t, x, ht, hq2, hp⟩
    have e3 : ts.map V.ref = (List.range L.length).map fun j => V.ref (ts.getD j 0) := by
      refine List.ext_getElem (by simp [lt]) fun j h1 h2 => ?_
      rw [List.getElem_map, List.getElem_map, List.getElem_range, List.getD_eq_getElem?_getD, List.getElem?_eq_getElem (by simpa using h1)]
      rfl
    rw [e3]
    unfold rowsL
    rw [List.map_map]
    have : ∀ l : List Nat, (∀ j, j ∈ l → j < L.length) → AllP (l.map fun j => V.ref (ts.getD j 0)) (l.map (Is K ∘ fun j => (j, ld L j))) H2 := fun l => by
      induction l with
      | nil => exact fun _ => .nil
      | cons j l ih =>
        intro hl
        obtain ⟨t, x, k1, k2, k3⟩ := key j (hl j List.mem_cons_self)
        refine .cons ?_ (ih fun i hi => hl i (List.mem_cons_of_mem _ hi))
        have e4 : ts.getD j 0 = t := by rw [List.getD_eq_getElem?_getD, k1]; rfl
        show (Is K (j, ld L j)).p (V.ref (ts.getD j 0)) H2
        rw [e4]
        exact ⟨t, _, rfl, .inl (.inl k2), .cons rfl (.cons k3 .nil)⟩
    exact this _ fun j hj => List.mem_range.mp hj⟩
def spStory (K : PySem.W.Frag) : Sp := fun vs H Q _ => ∃ (L : Loans) (G Hb : Hp) (keep : Int) (depth : Option Int) (sa pa dx : Addr) (vL : V), PlOk L ∧ 0 ≤ keep ∧ keep ≤ 100 ∧ (∀ d, depth = some d → 0 ≤ d) ∧ PoH K G ⟨keep, depth, 0, [], [], 0, []⟩ pa Hb ∧ Ob Hb H sa (He.ga K "Story") dx [] ∧ vs = [.ref sa, vL, .ref pa] ∧ (Is K (Tp.mk L)).p vL G ∧
  ∀ H2 ks, Ex G H2 → ks.length = L.length → ThOk L keep ks → (IsSt K ks).p (.ref sa) H2 → Q .non H2
theorem ok_Story_init (T : Tx K mg) : FnR prog w K mg base CX0 4 (He.ma K (He.ga K "Story") "__init__") (spStory K) := by
  obtain ⟨fdO, FO⟩ := T.d_Story_init
  refine fn_any FO sc_Story_init (fun _ _ _ _ _ _ us hl => match us, hl with | [_, _, _], _ => rfl) ?_ fun cdv A outer s H vs Q E hr hsp => ⟨_, PSs.nox (pss_cons (SlX.ps_sl (pv 0) pe_dnewK)
    (pss_cons (ps_asg (pe_tup (pa_cons (pe_lst pa_nil) (pa_cons (pe_lst pa_nil) (pa_cons (pe_lst pa_nil) pa_nil)))) (pg_tupK (K := K) (n := 3) rfl (pgs_cons (pg_sl (pv 0)) (pgs_cons (pg_sl (pv 0)) (pgs_cons (pg_sl (pv 0)) pgs_nil)))))
    (pss_cons (ps_set (i := 3) sc_Story_init.nd rfl (Or.inl rfl) (pe_listEnumT rfl (by rfl) T.f_list (by rfl) T.f_enumerate (pe_callR (E := E0) (ok_tupled T) (hr.mono (by first | decide | exact Nat.le_refl _)) (by rfl) T.g_tupled T.k_tupled pass0 (pa_cons (pv 1) pa_nil))))
    (pss_one (ps_while PassesOwn.never (PW.pt (pw_or (pt_cmpR op_lt (SlX.pe_propSl (E := E0) (pv 2) T.c_Pool T.p_Pool_now.at_ T.p_Pool_now.get T.p_Pool_now.tk T.p_Pool_now.rc (ok_Pool_now T) (hr.mono (by first | decide | exact Nat.le_refl _)) (fun _ _ _ _ x => x)) (pe_callR (E := E0) (ok_last_end T) (hr.mono (by first | decide | exact Nat.le_refl _)) (by rfl) T.g_last_end T.k_last_end pass0 (pa_cons (pv 1) pa_nil)) (nomark _)) (pw_or1 (pt_cmpR op_gt (pe_callB (call_lenOwn (E := E0) T.m_Pool_len.at_ T.m_Pool_len.fn (ok_Pool_len T) (hr.mono (by first | decide | exact Nat.le_refl _)) pass0) (by rfl) T.f_len (by decide +kernel) (pa_cons (pv 2) pa_nil)) pe_int (nomark _))))) (pss_cons (ps_for PassesOwn.never rfl (pi_listK (K := K) (pv 3)) (pg_tupK (K := K) (n := 2) rfl (pgs_cons (pg_name (i := 4) sc_Story_init.nd rfl (Or.inl rfl)) (pgs_cons (pg_name (i := 5) sc_Story_init.nd rfl (Or.inl rfl)) pgs_nil))) (pss_one (ps_if (pt_cmpR op_eq (pe_ix (ix_tupK (K := K)) (pv 5) pe_int (fun _ _ => rfl)) (SlX.pe_propSl (E := E0) (pv 2) T.c_Pool T.p_Pool_now.at_ T.p_Pool_now.get T.p_Pool_now.tk T.p_Pool_now.rc (ok_Pool_now T) (hr.mono (by first | decide | exact Nat.le_refl _)) (fun _ _ _ _ x => x)) (nomark _)) (pss_one (ps_expr (SlX.pe_methSl (E := E0) (pv 2) T.c_Pool T.m_Pool_give (ok_Pool_give T) (hr.mono (by first | decide | exact Nat.le_refl _)) pass0 (pa_cons (pe_dget (hu_of hr) (pe_slK (K := K) (pv 0)) (pv 4) (fun _ _ => rfl)) pa_nil)))) (pss_nil))))
    (pss_cons (ps_expr (SlX.pe_methSl (E := E0) (pv 0) T.c_Story T.m_Story_begin (ok_Story_begin T) (hr.mono (by first | decide | exact Nat.le_refl _)) pass0 (pa_cons (pe_lc (own := [("number", 4), ("loan", 5)]) (g := _) (tt := _) rfl sc_Story_init.nd (pi_listK (K := K) (pv 3)) (blkOk_by (own := [("number", 4), ("loan", 5)]) (N := n_Story_init) (sc := defScope s_Story_init) (by decide +kernel)) (fun _ _ _ _ _ => (pg_tupK (K := K) (n := 2) rfl (pgs_cons (pg_name (i := 4) sc_Story_init.nd rfl (by first | exact Or.inl rfl | exact Or.inr rfl)) (pgs_cons (pg_name (i := 5) sc_Story_init.nd rfl (by first | exact Or.inl rfl | exact Or.inr rfl)) pgs_nil)))) (fun _ _ _ _ _ => pts_one (pt_cmpR op_eq (pe_ix (ix_tupK (K := K)) (pv 5) pe_int (fun _ _ => rfl)) (SlX.pe_propSl (E := E0) (pv 2) T.c_Pool T.p_Pool_now.at_ T.p_Pool_now.get T.p_Pool_now.tk T.p_Pool_now.rc (ok_Pool_now T) (hr.mono (by first | decide | exact Nat.le_refl _)) (fun _ _ _ _ x => x)) (nomark _))) (fun _ _ _ _ _ => (pv 4))) (pa_cons (pv 2) pa_nil))))
    (pss_cons (ps_expr (pe_bm PySem.F.plainAttrs_list PySem.F.slot_list_extend PySem.F.type_list_extend mt_extend (pe_slK (K := K) (pv 0)) (pa_cons (pe_op op_rep (pe_lst (pa_cons (SlX.pe_propSl (E := E0) (pv 2) T.c_Pool T.p_Pool_now.at_ T.p_Pool_now.get T.p_Pool_now.tk T.p_Pool_now.rc (ok_Pool_now T) (hr.mono (by first | decide | exact Nat.le_refl _)) (fun _ _ _ _ x => x)) pa_nil)) (pe_callB (call_lenK (K := K)) (by rfl) T.f_len (by decide +kernel) (pa_cons (SlX.pe_methSl0 (E := E0) (pv 2) T.c_Pool T.m_Pool_wait (ok_Pool_wait T) (hr.mono (by first | decide | exact Nat.le_refl _)) pass0) pa_nil))) pa_nil)))
    (pss_one (ps_expr (pe_bm PySem.F.plainAttrs_list PySem.F.slot_list_append PySem.F.type_list_append mt_append (pe_slK (K := K) (pv 0)) (pa_cons (pe_callB (call_lenOwn (E := E0) T.m_Pool_len.at_ T.m_Pool_len.fn (ok_Pool_len T) (hr.mono (by first | decide | exact Nat.le_refl _)) pass0) (by rfl) T.f_len (by decide +kernel) (pa_cons (pv 2) pa_nil)) pa_nil)))))))))))), ?_⟩
  · rintro vs H Q E ⟨_, _, _, _, _, _, _, _, _, _, _, _, _, _, _, e, _⟩
    rw [e]
    rfl
  obtain ⟨L, G, Hb, keep, depth, sa, pa, dx, vL, hL, hk0, hk1, hdep, po, o, rfl, hvL, hq⟩ := hsp
  obtain ⟨pdx, pli, ple, plt, pvi, poA⟩ := po
  have eG : Ex G Hb := poA.ob.ex
  have hLl := hL.len
  have o0 := o.nones 4
  have s0 : Sat [some (Eq1 (.ref sa)), some (Is K (Tp.mk L)), some (Eq1 (.ref pa)), none, none, none] (start n_Story_init [.ref sa, vL, .ref pa]) H := sat_start (N := n_Story_init) (Ps := [Eq1 (.ref sa), Is K (Tp.mk L), Eq1 (.ref pa)]) (.cons rfl (.cons ((Is K (Tp.mk L)).mono (eG.trans o.ex) hvL) (.cons rfl .nil)))
  have hj : (start n_Story_init [.ref sa, vL, .ref pa])[0]? = some (some (.ref sa)) := rfl
  have h1 : (start n_Story_init [.ref sa, vL, .ref pa])[1]? = some (some vL) := rfl
  have h2 : (start n_Story_init [.ref sa, vL, .ref pa])[2]? = some (some (.ref pa)) := rfl
  have hl : (start n_Story_init [.ref sa, vL, .ref pa]).length = 6 := rfl
  generalize start n_Story_init [.ref sa, vL, .ref pa] = σ at s0 hj h1 h2 hl
  refine h_seq (h_slD hj o0 T.c_Story T.sl_Story_things fun d H1 nd hd1 o1 => ?_)
  have bd : Hb d = none := fresh_back o0.ex nd
  dsimp only
  refine h_seq ⟨Nat.zero_le _, fun ln hln => ⟨Nat.zero_le _, fun lm hlm => ⟨Nat.zero_le _, fun lg hlg => ⟨by show 3 ≤ sizeLine; decide, fun t ht => ?_⟩⟩⟩⟩
  have e2 : Ex H1 (upd H1 ln (.lst [])) := Ex.new hln
  have e3 := e2.trans (Ex.new (o := .lst []) hlm)
  have e4 := e3.trans (Ex.new (o := .lst []) hlg)
  have e5 := e4.trans (Ex.new (o := .tup [.ref ln, .ref lm, .ref lg]) ht)
  have hn5 : (upd (upd (upd (upd H1 ln (.lst [])) lm (.lst [])) lg (.lst [])) t (.tup [.ref ln, .ref lm, .ref lg])) ln = some (.lst []) := ((Ex.new (o := .lst []) hlm).trans ((Ex.new (o := .lst []) hlg).trans (Ex.new ht))) _ _ upd_same
  have hm5 : (upd (upd (upd (upd H1 ln (.lst [])) lm (.lst [])) lg (.lst [])) t (.tup [.ref ln, .ref lm, .ref lg])) lm = some (.lst []) := ((Ex.new (o := .lst []) hlg).trans (Ex.new ht)) _ _ upd_same
  have hg5 : (upd (upd (upd (upd H1 ln (.lst [])) lm (.lst [])) lg (.lst [])) t (.tup [.ref ln, .ref lm, .ref lg])) lg = some (.lst []) := (Ex.new ht) _ _ upd_same
  have bn : Hb ln = none := fresh_back o1.ex hln
  have bm : Hb lm = none := fresh_back (o1.ex.trans e2) hlm
  have bg : Hb lg = none := fresh_back (o1.ex.trans e3) hlg
  have mn : lm ≠ ln := (ne_of_none (o := .lst []) (upd_same (a := ln)) hlm).symm
  have gn : lg ≠ ln := (ne_of_none ((Ex.new (o := .lst []) hlm) ln _ upd_same) hlg).symm
  have gm : lg ≠ lm := (ne_of_none (o := .lst []) upd_same hlg).symm
  have ht5 : (upd (upd (upd (upd H1 ln (.lst [])) lm (.lst [])) lg (.lst [])) t (.tup [.ref ln, .ref lm, .ref lg])) t = some (.tup [.ref ln, .ref lm, .ref lg]) := upd_same
  have hd5 := e5 _ _ hd1
  have o5 := o1.mono e5
  generalize upd (upd (upd (upd H1 ln (.lst [])) lm (.lst [])) lg (.lst [])) t (.tup [.ref ln, .ref lm, .ref lg]) = H5 at e5 hn5 hm5 hg5 ht5 hd5 o5
  refine ⟨t, _, rfl, .inl (.inl ht5), rfl, _, _, rfl, ?_⟩
  refine g_sl hj (P := Eq1 (.ref ln)) rfl o5 rs_eq T.c_Story T.sl_Story_numbers fun H6 es6 o6 => ⟨_, _, rfl, ?_⟩
  refine g_sl hj (P := Eq1 (.ref lm)) rfl o6 rs_eq T.c_Story T.sl_Story_made fun H7 es7 o7 => ⟨_, _, rfl, ?_⟩
  refine g_sl hj (P := Eq1 (.ref lg)) rfl o7 rs_eq T.c_Story T.sl_Story_gone fun H8 es8 o8 => ⟨rfl, ?_⟩
  have es := (es6.trans es7).trans es8
  have st8 : StA K Hb [] sa dx lg lm ln d [] [] [] H8 := ⟨o8, bg, bm, bn, bd, gm, gn, mn, es _ _ hg5 rfl, es _ _ hm5 rfl, es _ _ hn5 rfl, es _ _ hd5 rfl⟩
  have s8 : Sat [none, some (Is K (Tp.mk L)), none, none, none, none] σ H8 := (sat_no (n := 6) hl).know (i := 1) h1 ((Is K (Tp.mk L)).mono (eG.trans o8.ex) hvL)
  dsimp only
  refine h_rows (L := L) (eg_call (Qs := fun P => [P]) (R := fun P => P) (Is K (Tp.mk L)) (ea_cons (eg_var (i := 1) rfl) ea_nil) (tg_loans (by omega))) s8 fun rp H10 rws e10 nrp hrp arp => ?_
  have st10 := st8.mono e10
  have poA10 := (poA.mono (o8.ex)).mono e10
  obtain ⟨B, G5, stB, poB, eGB, ktB, inB⟩ := story_ghost poA10 (fun b hb => (poA.no b hb).2.1) st10 eG
  have hvB : (Is K (Tp.mk L)).p vL B := RepT.rt (K := K) (Tp.mk L) _ _ _ ktB ((Is K (Tp.mk L)).mono (eG.trans (o8.ex.trans e10)) hvL)
  have hrB : B rp = some (.lst rws) := inB rp _ hrp (fresh_back o8.ex nrp) fun z => by
    obtain ⟨o', ho'⟩ := (st8.no rp z).2.1
    rw [nrp] at ho'
    cases ho'
  have arB : AllP rws ((rowsL L).map (Is K)) B := AllP.kt arp (fun P hP => by
    obtain ⟨e, _, rfl⟩ := List.mem_map.mp hP
    exact RepT.rt e) ktB
  have g0 : (σ.set 3 (some (.ref rp)))[0]? = some (some (.ref sa)) := by rw [List.getElem?_set_ne (by decide)]; exact hj
  have g1 : (σ.set 3 (some (.ref rp)))[1]? = some (some vL) := by rw [List.getElem?_set_ne (by decide)]; exact h1
  have g2 : (σ.set 3 (some (.ref rp)))[2]? = some (some (.ref pa)) := by rw [List.getElem?_set_ne (by decide)]; exact h2
  have g3 : (σ.set 3 (some (.ref rp)))[3]? = some (some (.ref rp)) := List.getElem?_set_self (by rw [hl]; decide)
  have gl : (σ.set 3 (some (.ref rp))).length = 6 := by rw [List.length_set, hl]
  generalize σ.set 3 (some (.ref rp)) = σ0 at g0 g1 g2 g3 gl
  obtain ⟨m0, hm0⟩ := maxP_ex (L.map Prod.snd)
  obtain ⟨hme, hmu⟩ := max_ends hL hm0
  have iv0 : PInv L 0 [] ⟨keep, depth, 0, [], [], 0, []⟩ := pinv_zero hk0
  refine ⟨fun m σ' H' => ∃ G' ks p xg xm xn, m = (102 + keep).toNat - p.now ∧ σ'.length = 6 ∧ σ'[0]? = some (some (.ref sa)) ∧ σ'[1]? = some (some vL) ∧ σ'[2]? = some (some (.ref pa)) ∧ σ'[3]? = some (some (.ref rp)) ∧ StP K L B 0 ks p sa pa dx lg lm ln d xg xm xn G' H' ∧ p.keep = keep ∧ (p.now : Int) ≤ 101 + keep ∧ ∀ i, i < L.length → (i < ks.length ↔ (ld L i).1 < p.now),
    ⟨_, G5, [], _, [], [], [], rfl, gl, g0, g1, g2, g3, ⟨stB, poB, iv0, Nat.zero_le _, Nat.le_refl _, Nat.zero_le _, Nat.zero_le _, hdep⟩, rfl, by show (0 : Int) ≤ 101 + keep; omega, fun i hi => ⟨fun z => absurd z (Nat.not_lt_zero _), fun z => by have := (hL.pos i hi).1; have z : (ld L i).1 < ((0 : Nat) : Int) := z; omega⟩⟩, ?_⟩
  rintro m σ' H' ⟨G', ks, p, xg, xm, xn, rfl, yl, y0, y1, y2, y3, sp, hkp, hnow, hiff⟩
  have hB := sp.bd hL
  have sW : Sat [none, some (Is K (Tp.mk L)), some (IsPo K p), none, none, none] σ' H' := ((sat_no (n := 6) yl).know (i := 1) y1 ((Is K (Tp.mk L)).mono (sp.st.ob.ex.trans sp.po.ex) hvB)).know (i := 2) y2 sp.po.po
  have hbt := hB.t
  refine (EvT.to (et_or (et_test (eg_cmpI (K := K) (f := fun i j => decide (i < j)) (i := p.now) (j := m0) (eg_prop p (eg_var (i := 2) (P := IsPo K p) rfl) rfl trivial) (EvG.of (F := Is K) (eg_call L (ea_cons (eg_var (i := 1) rfl) ea_nil) hL) m0 fun x hx => MaxP.uniq hx hm0))) fun _ => et_test (eg_cmpI (K := K) (f := fun i j => decide (j < i)) (i := p.there.length) (j := 0) (eg_lenOwn p p.there.length (eg_var (i := 2) (P := IsPo K p) rfl) rfl trivial rfl (by omega)) eg_int)) rfl : EvT _ _ (decide ((p.now : Int) < m0) || decide ((0 : Int) < p.there.length))) σ' H' _ sW fun H1 e1 => ?_
  have sp1 : StP K L B 0 ks p sa pa dx lg lm ln d xg xm xn G' H1 := ⟨sp.st, sp.po.mono e1, sp.iv, sp.kl, sp.xm, sp.xg, sp.xn, sp.dp⟩
  cases hb : (decide ((p.now : Int) < m0) || decide ((0 : Int) < p.there.length)) with
  | false =>
    show Q .non H1
    obtain ⟨hb1, hb2⟩ := Bool.or_eq_false_iff.mp hb
    have hb1 := of_decide_eq_false hb1
    have hlen : ks.length = L.length := by
      rcases Nat.lt_or_ge ks.length L.length with h | h
      · exfalso
        have h3 : ¬ (ld L ks.length).1 < p.now := fun z => by have := (hiff _ h).mpr z; omega
        have h4 := (hL.pos _ h).2.1
        have h5 := hme _ h
        omega
      · have := sp.kl; omega
    exact hq H1 ks (eGB.trans (sp1.st.ob.ex.trans sp1.po.ex)) hlen (by have := sp.iv.th; rwa [hkp] at this) ((IsSt K ks).mono sp1.po.ex sp1.st.is)
  | true =>
    have hn1 : (p.now : Int) ≤ 100 + keep := by
      rcases Bool.or_eq_true_iff.mp hb with h | h
      · have := of_decide_eq_true h
        omega
      · have h := of_decide_eq_true h
        rcases Int.lt_or_le (100 + p.keep) p.now with h5 | h5
        · rw [sp.iv.over hL sp.kl h5] at h
          exact absurd h (by decide)
        · omega
    refine ⟨fun σ' H' => ∃ G' ks' p' xg xm xn, σ'.length = 6 ∧ σ'[0]? = some (some (.ref sa)) ∧ σ'[1]? = some (some vL) ∧ σ'[2]? = some (some (.ref pa)) ∧ σ'[3]? = some (some (.ref rp)) ∧ StP K L B 0 ks' p' sa pa dx lg lm ln d xg xm xn G' H' ∧ p'.keep = keep ∧ p'.now = p.now + 1 ∧ ∀ i, i < L.length → (i < ks'.length ↔ (ld L i).1 < p'.now), fun σ' H' ⟨G', ks', p', xg, xm, xn, z1, z2, z3, z4, z5, z6, z7, z8, z9⟩ => ⟨(102 + keep).toNat - p'.now, by omega, G', ks', p', xg, xm, xn, rfl, z1, z2, z3, z4, z5, z6, z7, by omega, z9⟩, ?_⟩
    refine h_seq ?_
    unfold tFor
    have lrw : rws.length = L.length := by
      have := AllP.len arB
      rw [List.length_map] at this
      rw [this]
      simp [rowsL]
    refine ⟨_, y3, rp, rfl, ⟨_, .inl (.inl ((sp1.st.ob.ex.trans sp1.po.ex) _ _ hrB))⟩, for_list (xs := rws) (fun r σ' H' => σ'.length = 6 ∧ σ'[0]? = some (some (.ref sa)) ∧ σ'[1]? = some (some vL) ∧ σ'[2]? = some (some (.ref pa)) ∧ σ'[3]? = some (some (.ref rp)) ∧ ∃ p', StP K L B r ks p' sa pa dx lg lm ln d xg xm xn G' H' ∧ p'.now = p.now ∧ p'.keep = keep)
      ⟨yl, y0, y1, y2, y3, p, sp1, rfl, hkp⟩ (fun r σ' H' _ ⟨_, _, _, _, _, p', h, _⟩ => .inl (.inl ((h.st.ob.ex.trans h.po.ex) _ _ hrB))) (fun r x σ2 H2 hx ⟨zl, z0, z1, z2, z3, p2, sp2, hn2, hk2⟩ => ?_) fun σ2 H2 ⟨zl, z0, z1, z2, z3, p2, sp2, hn2, hk2⟩ => ?_⟩
    · have hr : r < L.length := by
        have := (List.getElem?_eq_some_iff.mp hx).1
        omega
      obtain ⟨P, hP, hp⟩ := AllP.at arB hx
      have hPr : (rowsL L)[r]? = some (r, ld L r) := by
        unfold rowsL
        rw [List.getElem?_map, List.getElem?_range hr]
        rfl
      rw [List.getElem?_map, hPr] at hP
      obtain rfl : Is K (r, ld L r) = P := Option.some.inj hP
      obtain ⟨tt, us, rfl, ht1, ht2⟩ := hp
      cases ht2 with
      | cons r1 t1 =>
        cases t1 with
        | cons r2 t2 =>
          cases t2
          rename_i u1 u2
          obtain rfl : u1 = V.int (r : Int) := r1
          have exB := sp2.st.ob.ex.trans sp2.po.ex
          refine ⟨tt, _, rfl, ex_t exB ht1, rfl, _, _, rfl, _, _, rfl, rfl, ?_⟩
          have w0 : ((σ2.set 4 (some (.int (r : Int)))).set 5 (some u2))[0]? = some (some (.ref sa)) := by rw [List.getElem?_set_ne (by decide), List.getElem?_set_ne (by decide)]; exact z0
          have w1 : ((σ2.set 4 (some (.int (r : Int)))).set 5 (some u2))[1]? = some (some vL) := by rw [List.getElem?_set_ne (by decide), List.getElem?_set_ne (by decide)]; exact z1
          have w2 : ((σ2.set 4 (some (.int (r : Int)))).set 5 (some u2))[2]? = some (some (.ref pa)) := by rw [List.getElem?_set_ne (by decide), List.getElem?_set_ne (by decide)]; exact z2
          have w3 : ((σ2.set 4 (some (.int (r : Int)))).set 5 (some u2))[3]? = some (some (.ref rp)) := by rw [List.getElem?_set_ne (by decide), List.getElem?_set_ne (by decide)]; exact z3
          have w4 : ((σ2.set 4 (some (.int (r : Int)))).set 5 (some u2))[4]? = some (some (.int (r : Int))) := by rw [List.getElem?_set_ne (by decide)]; exact List.getElem?_set_self (by rw [zl]; decide)
          have w5 : ((σ2.set 4 (some (.int (r : Int)))).set 5 (some u2))[5]? = some (some u2) := List.getElem?_set_self (by rw [List.length_set, zl]; decide)
          have wl : ((σ2.set 4 (some (.int (r : Int)))).set 5 (some u2)).length = 6 := by rw [List.length_set, List.length_set, zl]
          show tIfS _ _ _ _ ((σ2.set 4 (some (.int (r : Int)))).set 5 (some u2)) H2
          generalize (σ2.set 4 (some (.int (r : Int)))).set 5 (some u2) = σ3 at w0 w1 w2 w3 w4 w5 wl
          have s3 : Sat [some (IsSt K ks), none, some (IsPo K p2), none, some (Is K r), some (Is K (ld L r))] σ3 H2 := ((((sat_no (n := 6) wl).know (i := 0) w0 ((IsSt K ks).mono sp2.po.ex sp2.st.is)).know (i := 2) w2 sp2.po.po).know (i := 4) (P := Is K r) w4 rfl).know (i := 5) w5 ((Is K (ld L r)).mono exB r2)
          refine h_if (et_test (eg_eqI (K := K) (i := (ld L r).2) (j := p2.now) (eg_snd (x := ld L r) (eg_var (i := 5) rfl)) (eg_prop p2 (eg_var (i := 2) (P := IsPo K p2) rfl) rfl trivial))) s3 (fun hb H3 e3 => ?_) fun hb H3 e3 => h_next ⟨wl, w0, w1, w2, w3, p2, ⟨sp2.st, sp2.po.mono e3, sp2.iv.skip (of_decide_eq_false hb), sp2.kl, sp2.xm, sp2.xg, sp2.xn, sp2.dp⟩, hn2, hk2⟩
          have hre := of_decide_eq_true hb
          have hrk : r < ks.length := (hiff r hr).mpr (by have := (hL.pos r hr).2.1; rw [← hn2]; omega)
          have hkr : ks[r]? = some (ks.getD r 0) := by rw [List.getD_eq_getElem?_getD, List.getElem?_eq_getElem hrk]; rfl
          obtain ⟨hkl, iv'⟩ := sp2.iv.give hre hkr
          have po3 := sp2.po.mono e3
          obtain ⟨pdx2, _, _, _, _, poA2⟩ := id po3
          obtain ⟨pvs, ps1, _⟩ := poA2.ob.ob
          have hB2 := sp2.bd hL
          refine ⟨_, w2, pa, pdx2, pvs, rfl, ps1, ea_cons (eg_dgetE (m := thM ks) (g := r) (eg_sl (eg_var (i := 0) (P := IsSt K ks) rfl) T.c_Story T.sl_Story_things rfl) (eg_var (i := 4) rfl) (thM_find hrk)) ea_nil σ3 H3 _ (s3.mono e3) fun ws H4 e4 al => ?_⟩
          cases al with
          | cons q1 q2 =>
            cases q2
            obtain rfl : _ = V.int ((ks.getD r 0 : Nat) : Int) := q1
            exact ⟨G', p2, pa, _, po3.mono e4, rfl, hkl, hB2.i, fun H5 po5 => ⟨wl, w0, w1, w2, w3, _, ⟨sp2.st, po5, iv', sp2.kl, sp2.xm, sp2.xg, sp2.xn, sp2.dp⟩, hn2, hk2⟩⟩
    · rw [lrw] at sp2
      dsimp only
      obtain ⟨vs2, q1, _⟩ := (sp2.st.ob.ob).mono sp2.po.ex
      have exB := sp2.st.ob.ex.trans sp2.po.ex
      have hrows : (Is K (rowsL L)).p (.ref rp) H2 := ⟨rp, rws, rfl, .inl (.inl (exB _ _ hrB)), AllP.mono arB exB⟩
      have s2 : Sat [none, none, some (IsPo K p2), some (Is K (rowsL L)), none, none] σ2 H2 := ((sat_no (n := 6) zl).know (i := 2) z2 sp2.po.po).know (i := 3) z3 hrows
      have hiff2 : ∀ i, i < L.length → (i < ks.length ↔ (ld L i).1 < (p2.now : Int)) := fun i hi => by rw [hn2]; exact hiff i hi
      obtain ⟨m, hm1, hm2, hm3, hm4⟩ := begins hL (t := p2.now) hiff2 sp2.kl
      refine h_seq ⟨_, z0, sa, dx, vs2, rfl, q1, ?_⟩
      show tLc _ _ _ _ _ σ2 H2 _
      refine eg_lcX (xs := rowsL L) (F := Is K) (f := fun e => decide (e.2.1 = (p2.now : Int))) (Rf := fun e => Is K e.1) (ew_list (eg_var (i := 3) (P := Is K (rowsL L)) rfl)) (fun e => RepT.rt e.1) (fun e he => tg_pair (x := e.1) (y := e.2) tg_name tg_name) (fun e he => et_test (eg_eqI (K := K) (i := e.2.1) (j := p2.now) (eg_fst (x := e.2) (eg_var rfl)) (eg_prop p2 (eg_var (i := 2) (P := IsPo K p2) rfl) rfl trivial))) (fun e he _ => eg_var rfl) (by simp [rowsL]; omega) σ2 H2 _ s2 fun l acc H3 e3 nl hl3 al3 => ?_
      have nG : G' l = none := ex_none sp2.po.ex nl
      have nB : B l = none := ex_none exB nl
      have hacc : (Is K ((List.range m).map fun j => ks.length + j)).p (.ref l) (upd B l (.lst acc)) := ⟨l, acc, rfl, .inl (.inl upd_same), by
        have e8 : (((rowsL L).filter fun e => decide (e.2.1 = (p2.now : Int))).map fun e => Is K e.1) = ((List.range m).map fun j => ks.length + j).map (Is K) := by
          rw [← hm1, List.map_map]
          rfl
        rw [e8] at al3
        rw [all_nats al3]
        exact nats_all⟩
      refine ⟨_, z2, L, upd B l (.lst acc), upd G' l (.lst acc), ks, p2, sa, pa, dx, lg, lm, ln, d, xg, xm, xn, .ref l, m, hL, ⟨sp2.st.add nG, PoH_grow sp2.po e3 nl hl3, sp2.iv, sp2.kl, sp2.xm, sp2.xg, sp2.xn, sp2.dp⟩, rfl, hacc, hm2, hm3, fun G5 H5 ks5 p5 xm5 sp5 k1 k2 k3 k4 => ?_⟩
      have st5 := sp5.st.less (Ex.new (o := .lst acc) nB)
      dsimp only
      obtain ⟨vs6, q6, q7⟩ := (st5.ob.ob).mono sp5.po.ex
      obtain ⟨w6, hw6, hp6⟩ := q7 0 _ rfl
      obtain rfl : w6 = .ref lg := hp6
      have hg5 := sp5.po.ex _ _ st5.hg
      have s5 : Sat [none, none, some (IsPo K p5), none, none, none] σ2 H5 := (sat_no (n := 6) zl).know (i := 2) z2 sp5.po.po
      refine h_seq ⟨_, z0, sa, _, dx, _, vs6, 0, _, rfl, q6, T.c_Story, T.sl_Story_gone, hw6, .inl ⟨rfl, xg, .inl (.inl hg5)⟩, ?_⟩
      show SlX.tPropSl _ _ _ _ σ2 H5 _
      refine eg_prop p5 (eg_var (Γ := [none, none, some (IsPo K p5), none, none, none]) (i := 2) (P := IsPo K p5) rfl) rfl trivial σ2 H5 _ s5 fun v6 H6 e6 p6 => ⟨by show 1 ≤ sizeLine; decide, fun l6 hl6 => ?_⟩
      have po6 := (sp5.po.mono e6).new (u := .lst [v6]) hl6
      have ex6 : Ex H5 (upd H6 l6 (.lst [v6])) := e6.trans (Ex.new hl6)
      obtain ⟨pdx7, _, _, _, _, poA7⟩ := id po6
      obtain ⟨vs7, ps7, _⟩ := poA7.ob.ob
      have hB5 := sp5.bd hL
      have hBi := hB5.i
      refine ⟨_, z2, pa, pdx7, vs7, rfl, ps7, _, p5, pa, po6, rfl, hB5, fun H8 b zs po8 hb8 hz8 => ?_⟩
      have hl8 : H8 l6 = some (.lst [v6]) := po8.ex _ _ upd_same
      refine ⟨b, zs, rfl, .inl (.inl (.inl hb8)), l6, (zs.length : Int), [v6], rfl, rfl, hl8, by omega, by omega, ?_, fun q hq8 => ?_⟩
      · show 1 * zs.length ≤ sizeLine
        exact Nat.le_trans (show 1 * zs.length ≤ 1000 by omega) (by decide)
      have eG8 : Ex G5 (upd G5 l6 (.lst [v6])) := Ex.new (ex_none (sp5.po.ex.trans e6) hl6)
      have st8' := st5.mono eG8
      have po9 := po8.mono (Ex.new (o := .lst (List.replicate ((zs.length : Int)).toNat [v6]).flatten) hq8)
      have hg9 := po9.ex _ _ st8'.hg
      have hyl : ((List.replicate ((zs.length : Int)).toNat [v6]).flatten).length = zs.length := by simp
      generalize (List.replicate ((zs.length : Int)).toNat [v6]).flatten = ys at hyl po9 hg9 ⊢
      have hxg := sp5.xg
      have hxn := sp5.xn
      have hi1 := sp5.iv.idl
      have hi2 := sp5.iv.ml
      have hi3 := sp5.kl
      have hpn : p5.now = p.now := k2.trans hn2
      have hpk : p5.keep = keep := k3.trans hk2
      have hxgs : (xg ++ ys).length ≤ 100 * (p.now + 1) := by rw [List.length_append]; omega
      refine ⟨lg, q, xg, ys, rfl, rfl, hg9, upd_same, Nat.le_trans (show xg.length + ys.length ≤ 100000 by omega) (by decide), ?_⟩
      have po10 := po9.put (b := lg) (u := .lst (xg ++ ys)) st8'.hg rfl
      have st10 := st8'.gone (xg ++ ys)
      have iv10 : PInv L 0 ks5 (passP p5) := sp5.iv.pass sp5.kl
      have hnow2 : (passP p5).now = p.now + 1 := by
        show p5.now + 1 = p.now + 1
        rw [hpn]
      have htl := iv10.tl
      have hml := iv10.ml
      dsimp only
      generalize upd (upd H8 q (HO.lst ys)) lg (.lst (xg ++ ys)) = H10 at po10 ⊢
      obtain ⟨vs10, q10, q11⟩ := (st10.ob.ob).mono po10.ex
      obtain ⟨w10, hw10, hp10⟩ := q11 2 _ rfl
      obtain rfl : w10 = .ref ln := hp10
      have hn10 := po10.ex _ _ st10.hn
      have s10 : Sat [none, none, some (IsPo K (passP p5)), none, none, none] σ2 H10 := (sat_no (n := 6) zl).know (i := 2) z2 po10.po
      refine ⟨_, z0, sa, _, dx, _, vs10, 2, _, rfl, q10, T.c_Story, T.sl_Story_numbers, hw10, .inl ⟨rfl, xn, .inl (.inl hn10)⟩, ?_⟩
      refine eg_lenOwn (passP p5) (passP p5).there.length (eg_var (Γ := [none, none, some (IsPo K (passP p5)), none, none, none]) (i := 2) (P := IsPo K (passP p5)) rfl) rfl trivial rfl (by omega) σ2 H10 _ s10 fun v11 H11 e11 p11 => ?_
      have po11 := po10.mono e11
      refine ⟨ln, xn, _, rfl, rfl, e11 _ _ hn10, Nat.lt_of_lt_of_le (show xn.length < 1000000 by omega) (by decide), ?_⟩
      have po12 := po11.put (b := ln) (u := .lst (xn ++ [v11])) st10.hn rfl
      have st12 := st10.nums (xn ++ [v11])
      refine ⟨_, ks5, passP p5, _, _, _, zl, z0, z1, z2, z3, ⟨st12, po12, iv10, sp5.kl, sp5.xm, by rw [hnow2]; exact hxgs, by rw [hnow2, List.length_append]; show xn.length + 1 ≤ _; omega, sp5.dp⟩, hpk, hnow2, fun i hi => ?_⟩
      rw [hnow2, k1, hm4 i hi, hn2]
end
end Lp

/-! part LpThings -/
set_option Elab.async false
set_option linter.all false
set_option maxRecDepth 100000

namespace Lp
open PySem PySem.Spec PyProof.Rows L2
open Evl (Ex ex_l ex_t ex_rd fresh_back)
section
variable {prog : Program} {w : World} {K : PySem.W.Frag} {mg : Str → Option Value} {base : Heap}
theorem ob_new {H : Hp} {x dx C : Addr} (nx : H x = none) (nd : H dx = none) (hne : dx ≠ x) : Ob H (upd (upd H dx (.own x)) x (.ins C dx [])) x C dx [] := by
  have hx : (upd (upd H dx (.own x)) x (.ins C dx [])) x = some (.ins C dx []) := upd_same
  have hdx : (upd (upd H dx (.own x)) x (.ins C dx [])) dx = some (.own x) := by
    rw [upd_ne hne, upd_same]
  refine ⟨nx, nd, ?_, ⟨[], .inl ⟨hx, rfl⟩, fun i P hP => by simp at hP⟩, ⟨hne, fun o ho => ?_⟩, ⟨_, hdx⟩, fun i P hP => by simp at hP⟩
  · exact (Evl.Ex.new nd).trans (Evl.Ex.new (by rw [upd_ne (Ne.symm hne)]; exact nx))
  · rw [hdx] at ho
    cases ho
    rfl
theorem eg_story {Γ : Gm} {E : XK} {L : Loans} {keep : Int} {depth : Option Int} (hL : PlOk L) (h0 : 0 ≤ keep) (h1 : keep ≤ 100) (hd : ∀ d, depth = some d → 0 ≤ d) (g0 : Γ[0]? = some (some (Is K (Tp.mk L)))) (g1 : Γ[1]? = some (some (Is K keep))) (g2 : Γ[2]? = some (some (Is K depth))) : EvG (StX.tMakeR (He.ga K "Story") (spStory K) E (tCons (tVar 0) (tCons (StX.tMakeR (He.ga K "Pool") (spPool K) E (tCons (tVar 1) (tCons (tVar 2) tNil))) tNil))) Γ (Ssm (fun ks => ks.length = L.length ∧ ThOk L keep ks) (IsSt K)) := fun σ H Q s q => by
  obtain ⟨v0, i0, p0⟩ := s.at' 0 _ g0
  obtain ⟨v1, i1, p1⟩ := s.at' 1 _ g1
  obtain ⟨v2, i2, p2⟩ := s.at' 2 _ g2
  obtain rfl : v1 = .int keep := p1
  refine ⟨v0, i0, _, i1, v2, i2, fun pa pdx nx nd hne => ?_⟩
  have o1 := ob_new (C := He.ga K "Pool") nx nd hne
  refine ⟨H, pa, pdx, keep, depth, v2, o1, rfl, (Is K depth).mono o1.ex p2, fun H2 po => ⟨rfl, fun sa sdx nx2 nd2 hne2 => ?_⟩⟩
  exact ⟨L, H, H2, keep, depth, sa, pa, sdx, v0, hL, h0, h1, hd, po, ob_new nx2 nd2 hne2, rfl, p0, fun H3 ks e hl ht hs => ⟨rfl, q _ H3 e ⟨ks, ⟨hl, ht⟩, hs⟩⟩⟩
abbrev HdC (g : Loans × Int × Option Int) : Prop := PlOk g.1 ∧ 0 ≤ g.2.1 ∧ g.2.1 ≤ 100 ∧ ∀ d, g.2.2 = some d → 0 ≤ d
abbrev HdA (K : PySem.W.Frag) (g : Loans × Int × Option Int) : List SP := [Is K (Tp.mk g.1), Is K g.2.1, Is K g.2.2]
theorem ok_things (T : Tx K mg) : FnR prog w K mg base CX0 6 (He.ga K "things") (spP HdC (HdA K) (fun g => Ssm (fun ks : List Nat => ks.length = g.1.length ∧ ThOk g.1 g.2.1 ks) (fun ks => Is K (Tp.mk ks)))) := by
  obtain ⟨fdO, FO⟩ := T.d_things
  refine fn_pure FO sc_things (fun _ _ _ _ _ _ us hl => match us, hl with | [_, _, _], _ => rfl) (fun _ => rfl) fun cdv A outer s H E hr => ⟨_, PSs.nox (pss_one (ps_ret (SlX.pe_methSl0 (E := E0) (StX.pe_makeR (E := E0) T.mk_Story (ok_Story_init T) (hr.mono (by first | decide | exact Nat.le_refl _)) (by rfl) T.g_Story pass0 (pa_cons (pv 0) (pa_cons (StX.pe_makeR (E := E0) T.mk_Pool (ok_Pool_init T) (hr.mono (by first | decide | exact Nat.le_refl _)) (by rfl) T.g_Pool pass0 (pa_cons (pv 1) (pa_cons (pv 2) pa_nil))) pa_nil))) T.c_Story T.m_Story_got (ok_Story_got T) (hr.mono (by first | decide | exact Nat.le_refl _)) pass0))), ?_⟩
  rintro ⟨L, keep, depth⟩ ⟨hL, h0, h1, hd⟩
  refine sx_ret (P := Ssm (fun ks : List Nat => ks.length = L.length ∧ ThOk L keep ks) (fun ks => Is K (Tp.mk ks))) ?_ rfl
  exact eg_methS (pr := fun ks : List Nat => ks.length = L.length ∧ ThOk L keep ks) (Os := fun ks => [AnyP, AnyP, AnyP, DcE (dkN (thM ks))]) (eg_story hL h0 h1 hd rfl rfl rfl) fun ks hk => by
    have h2 : ks.length = L.length := hk.1
    have h3 : L.length ≤ 50 := hL.len
    show ks.length ≤ 50
    omega
/-! the pool's handing -/
def leX (a b : Int × Int) : Prop := a.1 < b.1 ∨ (a.1 = b.1 ∧ a.2 ≤ b.2)
def MaxX (xs : List (Int × Int)) (m : Int × Int) : Prop := m ∈ xs ∧ ∀ y, y ∈ xs → leX y m
theorem maxOf_lex : ∀ (zs : List (Int × Int)) (x : Int × Int), MaxX (x :: zs) (PySem.W.maxOf x zs)
  | [], x => ⟨List.mem_cons_self, fun y hy => by rw [List.mem_singleton.mp hy]; exact .inr ⟨rfl, Int.le_refl _⟩⟩
  | z :: zs, x => by
    have hlt : PySem.W.DatumOrd.lt x z = if x.1 = z.1 then PySem.W.DatumOrd.lt x.2 z.2 else decide (x.1 < z.1) := rfl
    have hl2 : PySem.W.DatumOrd.lt x.2 z.2 = decide (x.2 < z.2) := rfl
    have e : PySem.W.maxOf x (z :: zs) = PySem.W.maxOf (if PySem.W.DatumOrd.lt x z = true then z else x) zs := rfl
    obtain ⟨h1, h2⟩ := maxOf_lex zs (if PySem.W.DatumOrd.lt x z = true then z else x)
    rw [e]
    by_cases hz : PySem.W.DatumOrd.lt x z = true
    · rw [if_pos hz] at h1 h2 ⊢
      refine ⟨List.mem_cons_of_mem _ h1, fun y hy => ?_⟩
      rcases List.mem_cons.mp hy with e | hy
      · have h3 := h2 z List.mem_cons_self
        rw [hlt, hl2] at hz
        subst e
        unfold leX at h3 ⊢
        split at hz
        · have := of_decide_eq_true hz
          omega
        · have := of_decide_eq_true hz
          omega
      · exact h2 y hy
    · rw [if_neg hz] at h1 h2 ⊢
      refine ⟨?_, fun y hy => ?_⟩
      · rcases List.mem_cons.mp h1 with e | h1
        · rw [e]; exact List.mem_cons_self
        · exact List.mem_cons_of_mem _ (List.mem_cons_of_mem _ h1)
      · rcases List.mem_cons.mp hy with e | hy
        · rw [e]; exact h2 x List.mem_cons_self
        · rcases List.mem_cons.mp hy with e | hy
          · subst e
            have h3 := h2 x List.mem_cons_self
            rw [hlt, hl2] at hz
            unfold leX at h3 ⊢
            split at hz
            · have : ¬ x.2 < y.2 := fun z => hz (decide_eq_true z)
              omega
            · have : ¬ x.1 < y.1 := fun z => hz (decide_eq_true z)
              omega
          · exact h2 y (List.mem_cons_of_mem _ hy)
theorem eg_maxP {Γ : Gm} {te : TE} {xs : List (Int × Int)} (h : EvG te Γ (Is K xs)) (hn : xs ≠ []) : EvG (tCB (rMaxD K (Int × Int)) (tCons te tNil)) Γ (Ssm (MaxX xs) (Is K)) := fun σ H Q s q => h σ H _ s fun v H1 e ⟨a, vs, h1, h2, h3⟩ => by
  subst h1
  obtain ⟨x, zs, rfl⟩ : ∃ x zs, xs = x :: zs := by
    cases xs with
    | nil => exact absurd rfl hn
    | cons x zs => exact ⟨x, zs, rfl⟩
  refine ⟨a, vs, x, zs, rfl, h2, dp_all (fun _ _ _ => dp_pair) h3, fun j v hv hx hd => ?_⟩
  exact q _ H1 e ⟨_, maxOf_lex zs x, dp_back hd⟩
def NxR (ks : List Nat) (j : Nat) : Option Nat → Prop
  | none => ∀ i, i < j → ks.getD i 0 ≠ ks.getD j 0
  | some g => g < j ∧ ks.getD g 0 = ks.getD j 0 ∧ ∀ i, g < i → i < j → ks.getD i 0 ≠ ks.getD j 0
theorem ks_at {ks : List Nat} {i : Nat} (h : i < ks.length) : ks[i]? = some (ks.getD i 0) := by
  rw [List.getD_eq_getElem?_getD, List.getElem?_eq_getElem h]
  rfl
theorem ks_of {ks : List Nat} {i k : Nat} (h : ks[i]? = some k) : ks.getD i 0 = k := by
  rw [List.getD_eq_getElem?_getD, h]
  rfl
theorem hand_next {L : Loans} {keep : Int} {ks : List Nat} {lane : List (Option Nat)} (hth : ThOk L keep ks) (hkl : ks.length = L.length) (hl : lane.length = L.length) (h : ∀ j, j < L.length → NxR ks j (lane.getD j none)) : HandOk L (some keep) lane := by
  refine ⟨hl, ?_, fun j hj g hg => ?_⟩
  · rw [somes_fm]
    conv => rw [lane_eq lane]
    rw [List.filterMap_map]
    refine List.Pairwise.filterMap (R := fun a b => a < b ∧ b < L.length) _ (fun a b hab g hg g' hg' e => ?_) ?_
    · have h1 : lane.getD a none = some g := hg
      have h2 : lane.getD b none = some g' := hg'
      have k1 := h a (by omega)
      have k2 := h b hab.2
      rw [h1] at k1
      rw [h2, ← e] at k2
      exact k2.2.2 a k1.1 hab.1 (k1.2.1.symm.trans k2.2.1)
    · have : (List.range lane.length).Pairwise fun a b => a < b := List.pairwise_lt_range
      exact this.imp_of_mem fun {a b} _ hb hab => ⟨hab, by rw [← hl]; exact List.mem_range.mp hb⟩
  · have k := h j hj
    rw [hg] at k
    obtain ⟨k1, k2, k3⟩ := k
    have hjk : j < ks.length := by omega
    have hgk : g < ks.length := by omega
    obtain ⟨a1, a2⟩ := hth g j (ks.getD j 0) k1 (by rw [← k2]; exact ks_at hgk) (ks_at hjk) fun m m1 m2 z => k3 m m1 m2 (ks_of z)
    exact mem_giv.mpr ⟨by omega, can_iff.mpr ⟨by unfold gapF; omega, fun k hk => by
      injection hk with hk
      unfold gapF
      omega⟩⟩
theorem walkP_enumT {a : Addr} {us : List V} {ks : List Nat} {H1 : Hp} (h : SqT K H1 a us) (al : AllP us (ks.map (Is K)) H1) : WalkP (Itf K a) H1 (((List.range ks.length).map fun i => (i, ks.getD i 0)).map (Is K)) := by
  have hl : us.length = ks.length := by rw [al.len, List.length_map]
  have hn : (((List.range ks.length).map fun i => (i, ks.getD i 0)).map (Is K)).length = ks.length := by simp
  refine ⟨fun i H v H' => ∃ T x, v = .ref T ∧ H T = none ∧ H' = upd H T (.tup [.int (i : Nat), x]) ∧ us[i]? = some x, ⟨fun i H hi e => ?_, fun H e => ⟨us, ex_t e h, by rw [hn, hl]; exact Nat.le_refl _⟩, fun i H v H' hi e ⟨t, x, h1, h2, h3, h4⟩ => ⟨t, x, h1, h2, h3, h4 us (ex_t e h)⟩⟩, fun i H v H' hi e ⟨t, x, h1, h2, h3, h4⟩ => ?_⟩
  · rw [hn] at hi
    exact ⟨us, _, ex_t e h, List.getElem?_eq_getElem (by omega)⟩
  · rw [hn] at hi
    subst h1 h3
    obtain ⟨P, hP, hp⟩ := al.at h4
    rw [List.getElem?_map, ks_at hi] at hP
    obtain rfl : Is K (ks.getD i 0) = P := Option.some.inj hP
    refine ⟨Is K (i, ks.getD i 0), ?_, Ex.new h2, t, _, rfl, .inl (.inl upd_same), .cons rfl (.cons ((Is K (ks.getD i 0)).mono (e.trans (Ex.new h2)) hp) .nil)⟩
    rw [List.map_map, List.getElem?_map, List.getElem?_range hi]
    rfl
theorem ok_handing_of (T : Tx K mg) : FnR prog w K mg base CX0 7 (He.ga K "handing_of") (spP HdC (HdA K) (fun g => Ssm (HandOk g.1 (some g.2.1)) (fun lane => Is K (Tp.mk lane)))) := by
  obtain ⟨fdO, FO⟩ := T.d_handing_of
  refine fn_pure FO sc_handing_of (fun _ _ _ _ _ _ us hl => match us, hl with | [_, _, _], _ => rfl) (fun _ => rfl) fun cdv A outer s H E hr => ⟨_, PSs.nox (pss_cons (ps_asg (pe_tup (pa_cons (pe_lst pa_nil) (pa_cons (pe_callR (E := E0) (ok_things T) (hr.mono (by first | decide | exact Nat.le_refl _)) (by rfl) T.g_things T.k_things pass0 (pa_cons (pv 0) (pa_cons (pv 1) (pa_cons (pv 2) pa_nil)))) pa_nil))) (pg_tupK (K := K) (n := 2) rfl (pgs_cons (pg_name (i := 3) sc_handing_of.nd rfl (Or.inl rfl)) (pgs_cons (pg_name (i := 4) sc_handing_of.nd rfl (Or.inr rfl)) pgs_nil))))
    (pss_cons (ps_for PassesOwn.never rfl (pi_enumT (by rfl) T.f_enumerate (pa_cons (pv 4) pa_nil)) (pg_tupK (K := K) (n := 2) rfl (pgs_cons (pg_name (i := 5) sc_handing_of.nd rfl (Or.inl rfl)) (pgs_cons (pg_name (i := 6) sc_handing_of.nd rfl (Or.inr rfl)) pgs_nil))) (pss_cons (ps_setLc (i := 7) (own := [("giver", 8)]) (g := gName 8) (tt := _) rfl sc_handing_of.nd rfl rfl (sw_true rfl rfl rfl (by decide +kernel)) (pi_range1 (by rfl) T.f_range (pa_cons (pv 5) pa_nil)) (blkOk_by (own := [("giver", 8)]) (N := n_handing_of) (sc := defScope s_handing_of) (by decide +kernel)) (fun _ _ _ _ _ => (pg_name (i := 8) sc_handing_of.nd rfl (by first | exact Or.inl rfl | exact Or.inr rfl))) (fun _ _ _ _ _ => pts_one (pt_cmpR op_eq (pe_ix (ix_tupK (K := K)) (pv 4) (pv 8) (fun _ _ => rfl)) (pv 6) (nomark _))) (fun _ _ _ _ _ => (pe_tup (pa_cons (pe_ix (ix_tupK (K := K)) (pe_ix (ix_tupK (K := K)) (pv 0) (pv 8) (fun _ _ => rfl)) pe_int (fun _ _ => rfl)) (pa_cons (pv 8) pa_nil)))))
    (pss_one (ps_expr (pe_bm PySem.F.plainAttrs_list PySem.F.slot_list_append PySem.F.type_list_append mt_append (pv 3) (pa_cons (pe_ifExp (pt_cmpR op_gt (pe_callB (call_lenK (K := K)) (by rfl) T.f_len (by decide +kernel) (pa_cons (pv 7) pa_nil)) pe_int (nomark _)) (pe_ix (ix_tupK (K := K)) (pe_callB (cr_maxD (α := MinTy) rfl (units_le hr)) (by rfl) T.f_max (by decide +kernel) (pa_cons (pv 7) pa_nil)) pe_int (fun _ _ => rfl)) pe_non) pa_nil))))))
    (pss_one (ps_ret (pe_callTy call_tuple_of (by rfl) T.f_tuple (by decide +kernel) (pa_cons (pv 3) pa_nil)))))), ?_⟩
  rintro ⟨L, keep, depth⟩ ⟨hL, h0, h1, hd⟩
  intro D σ H s hn hr
  have hLl := hL.len
  obtain ⟨vL, y0, pL⟩ := s.at' 0 (Is K (Tp.mk L)) rfl
  have yl : σ.length = 9 := s.len
  refine h_seq ⟨Nat.zero_le _, fun lf hlf => ?_⟩
  have e1 : Ex H (upd H lf (.lst [])) := Ex.new hlf
  refine eg_call (L, keep, depth) (ea_cons (eg_var rfl) (ea_cons (eg_var rfl) (ea_cons (eg_var rfl) ea_nil))) ⟨hL, h0, h1, hd⟩ σ _ _ (s.mono e1) fun v4 H2 e2 ⟨ks, ⟨hkl, hth⟩, p4⟩ => ?_
  have hkl : ks.length = L.length := hkl
  refine ⟨by show 2 ≤ sizeLine; decide, fun t ht => ?_⟩
  have e3 := Ex.new (o := .tup [.ref lf, v4]) ht
  refine ⟨t, _, rfl, .inl (.inl upd_same), rfl, _, _, rfl, ?_⟩
  refine ⟨_, _, rfl, rfl, ?_⟩
  have hlf3 : (upd H2 t (.tup [.ref lf, v4])) lf = some (.lst []) := (e2.trans e3) _ _ upd_same
  have p43 := (Is K (Tp.mk ks)).mono e3 p4
  have pL3 := (Is K (Tp.mk L)).mono ((e1.trans e2).trans e3) pL
  have eH := (e1.trans e2).trans e3
  generalize upd H2 t (.tup [.ref lf, v4]) = H3 at hlf3 p43 pL3 eH
  have y3 : ((σ.set 3 (some (.ref lf))).set 4 (some v4))[3]? = some (some (.ref lf)) := by rw [List.getElem?_set_ne (by decide)]; exact List.getElem?_set_self (by rw [yl]; decide)
  have y4 : ((σ.set 3 (some (.ref lf))).set 4 (some v4))[4]? = some (some v4) := List.getElem?_set_self (by rw [List.length_set, yl]; decide)
  have y0' : ((σ.set 3 (some (.ref lf))).set 4 (some v4))[0]? = some (some vL) := by rw [List.getElem?_set_ne (by decide), List.getElem?_set_ne (by decide)]; exact y0
  have yl' : ((σ.set 3 (some (.ref lf))).set 4 (some v4)).length = 9 := by rw [List.length_set, List.length_set, yl]
  generalize (σ.set 3 (some (.ref lf))).set 4 (some v4) = σ1 at y3 y4 y0' yl' ⊢
  have kt : Kt H3 (cut [lf] H3) := cut_kt fun b hb xs => by
    rw [List.mem_singleton.mp hb]
    exact no_tup hlf3 rfl xs
  have eB : Ex H (cut [lf] H3) := cut_le eH fun b hb => by rw [List.mem_singleton.mp hb]; exact hlf
  have pLB := RepT.rt (K := K) (Tp.mk L) _ _ _ kt pL3
  have pkB := RepT.rt (K := K) (Tp.mk ks) _ _ _ kt p43
  have bn : cut [lf] H3 lf = none := cut_in (List.mem_singleton.mpr rfl)
  have eB3 : Ex (cut [lf] H3) H3 := cut_ex
  generalize cut [lf] H3 = B at eB pLB pkB bn eB3
  obtain ⟨a4, us, rfl, hus, aus⟩ := id pkB
  dsimp only
  refine h_seq ?_
  unfold tFor
  refine ⟨_, y4, a4, us, rfl, ex_t eB3 hus, for_base (walkP_enumT hus aus) (fun j σ' H' => σ'.length = 9 ∧ σ'[0]? = some (some vL) ∧ σ'[3]? = some (some (.ref lf)) ∧ σ'[4]? = some (some (.ref a4)) ∧ Ex B H' ∧ ∃ (lane : List (Option Nat)) (ws : List V), lane.length = j ∧ (∀ i, i < j → NxR ks i (lane.getD i none)) ∧ H' lf = some (.lst ws) ∧ AllP ws (lane.map (Is K)) H') ⟨yl', y0', y3, y4, eB3, [], [], rfl, fun i hi => absurd hi (Nat.not_lt_zero _), hlf3, .nil⟩ (fun _ _ _ h => h.2.2.2.2.1) (fun j x σ2 H4 H5 v hx ⟨zl, z0, z3, z4, e4, lane, ws, l1, l2, l3, l4⟩ e5 hv => ?_) fun σ2 H4 ⟨zl, z0, z3, z4, e4, lane, ws, l1, l2, l3, l4⟩ => ?_⟩
  · have hj : j < ks.length := by
      have := (List.getElem?_eq_some_iff.mp hx).1
      simpa using this
    rw [List.getElem?_map, List.getElem?_range hj] at hx
    obtain rfl : (j, ks.getD j 0) = x := Option.some.inj hx
    obtain ⟨tt, us2, rfl, ht1, ht2⟩ := hv
    cases ht2 with
    | cons r1 t1 =>
      cases t1 with
      | cons r2 t2 =>
        cases t2
        rename_i u1 u2
        obtain rfl : u1 = V.int (j : Int) := r1
        obtain rfl : u2 = V.int ((ks.getD j 0 : Nat) : Int) := r2
        refine ⟨tt, _, rfl, ht1, rfl, _, _, rfl, _, _, rfl, rfl, ?_⟩
        have w0 : ((σ2.set 5 (some (.int (j : Int)))).set 6 (some (.int ((ks.getD j 0 : Nat) : Int))))[0]? = some (some vL) := by rw [List.getElem?_set_ne (by decide), List.getElem?_set_ne (by decide)]; exact z0
        have w3 : ((σ2.set 5 (some (.int (j : Int)))).set 6 (some (.int ((ks.getD j 0 : Nat) : Int))))[3]? = some (some (.ref lf)) := by rw [List.getElem?_set_ne (by decide), List.getElem?_set_ne (by decide)]; exact z3
        have w4 : ((σ2.set 5 (some (.int (j : Int)))).set 6 (some (.int ((ks.getD j 0 : Nat) : Int))))[4]? = some (some (.ref a4)) := by rw [List.getElem?_set_ne (by decide), List.getElem?_set_ne (by decide)]; exact z4
        have w5 : ((σ2.set 5 (some (.int (j : Int)))).set 6 (some (.int ((ks.getD j 0 : Nat) : Int))))[5]? = some (some (.int (j : Int))) := by rw [List.getElem?_set_ne (by decide)]; exact List.getElem?_set_self (by rw [zl]; decide)
        have w6 : ((σ2.set 5 (some (.int (j : Int)))).set 6 (some (.int ((ks.getD j 0 : Nat) : Int))))[6]? = some (some (.int ((ks.getD j 0 : Nat) : Int))) := List.getElem?_set_self (by rw [List.length_set, zl]; decide)
        have wl : ((σ2.set 5 (some (.int (j : Int)))).set 6 (some (.int ((ks.getD j 0 : Nat) : Int)))).length = 9 := by rw [List.length_set, List.length_set, zl]
        dsimp only
        generalize (σ2.set 5 (some (.int (j : Int)))).set 6 (some (.int ((ks.getD j 0 : Nat) : Int))) = σ3 at w0 w3 w4 w5 w6 wl ⊢
        have eB5 := e4.trans e5
        have s5 : Sat [some (Is K (Tp.mk L)), none, none, some (Eq1 (.ref lf)), some (Is K (Tp.mk ks)), some (Is K j), some (Is K (ks.getD j 0)), none, none] σ3 H5 := (((((sat_no (n := 9) wl).know (i := 0) w0 ((Is K (Tp.mk L)).mono eB5 pLB)).know (i := 3) (P := Eq1 (.ref lf)) w3 rfl).know (i := 4) w4 ((Is K (Tp.mk ks)).mono eB5 pkB)).know (i := 5) (P := Is K j) w5 rfl).know (i := 6) (P := Is K (ks.getD j 0)) w6 rfl
        refine h_seq ?_
        refine eg_lcI (K := K) (xs := List.range j) (F := Is K) (fun i => decide (((ks.getD i 0 : Nat) : Int) = ((ks.getD j 0 : Nat) : Int))) (fun i => ((ld L i).1, ((i : Nat) : Int))) (ew_rng1 (ea_cons (eg_var rfl) ea_nil) (by omega)) (fun i hi => tg_name) (fun i hi => et_test (eg_eqI (K := K) (i := ((ks.getD i 0 : Nat) : Int)) (j := ((ks.getD j 0 : Nat) : Int)) (EvG.to (eg_ixT (K := K) (xs := ks) (i := i) (x := ks.getD i 0) (eg_var rfl) (eg_var rfl) (ks_at (Nat.lt_trans (List.mem_range.mp hi) hj))) rfl) (eg_var rfl))) (fun i hi _ => eg_tup (K := K) (Ps := [Is K (ld L i).1, Is K ((i : Nat) : Int)]) (ea_cons (eg_fst (x := ld L i) (eg_ixT (eg_var rfl) (eg_var rfl) (ld_at (by have := List.mem_range.mp hi; omega)))) (ea_cons (eg_var rfl) ea_nil))) (by rw [List.length_range]; omega) σ3 H5 _ s5 fun v7 H6 e6 p7 => ?_
        have x0 : (σ3.set 7 (some v7))[0]? = some (some vL) := by rw [List.getElem?_set_ne (by decide)]; exact w0
        have x3 : (σ3.set 7 (some v7))[3]? = some (some (.ref lf)) := by rw [List.getElem?_set_ne (by decide)]; exact w3
        have x4 : (σ3.set 7 (some v7))[4]? = some (some (.ref a4)) := by rw [List.getElem?_set_ne (by decide)]; exact w4
        have xl : (σ3.set 7 (some v7)).length = 9 := by rw [List.length_set, wl]
        dsimp only
        generalize hxs : (((List.range j).filter fun i => decide (((ks.getD i 0 : Nat) : Int) = ((ks.getD j 0 : Nat) : Int))).map fun i => ((ld L i).1, ((i : Nat) : Int))) = xs at p7
        have s6 : Sat [some (Is K (Tp.mk L)), none, none, some (Eq1 (.ref lf)), some (Is K (Tp.mk ks)), some (Is K j), some (Is K (ks.getD j 0)), some (Is K xs), none] (σ3.set 7 (some v7)) H6 := (s5.mono e6).set (i := 7) (P := Is K xs) p7
        have hmx : ∀ i, i < j → ks.getD i 0 = ks.getD j 0 → ((ld L i).1, ((i : Nat) : Int)) ∈ xs := fun i hi he => by
          rw [← hxs]
          exact List.mem_map.mpr ⟨i, List.mem_filter.mpr ⟨List.mem_range.mpr hi, by rw [he]; exact decide_eq_true rfl⟩, rfl⟩
        refine h_app (l := lf) (xs := ws) (i := 3) (Pr := fun v H => (Ssm (NxR ks j) (Is K)).p v H) x3 ((e5.trans e6) _ _ l3) (by have := l4.len; rw [List.length_map] at this; omega) (fun Q q => (eg_if (Γ := [some (Is K (Tp.mk L)), none, none, some (Eq1 (.ref lf)), some (Is K (Tp.mk ks)), some (Is K j), some (Is K (ks.getD j 0)), some (Is K xs), none]) (P := Ssm (NxR ks j) (Is K)) (b := decide ((0 : Int) < ((xs.length : Nat) : Int))) ?_ (fun hb => ?_) fun hb => ?_ : EvG _ _ _) (σ3.set 7 (some v7)) H6 Q s6 fun v H e p => q v H e p) fun v H7 e7 hv => ?_
        · exact et_test (eg_cmpI (K := K) (f := fun i j => decide (j < i)) (i := ((xs.length : Nat) : Int)) (j := 0) (eg_len (K := K) (xs := xs) (eg_var rfl)) eg_int)
        · have hne : xs ≠ [] := fun z => by
            rw [z] at hb
            exact absurd hb (by decide)
          refine EvG.weak (eg_sndS (K := K) (eg_maxP (eg_var rfl) hne)) fun v H h => ?_
          obtain ⟨y, ⟨m, ⟨m1, m2⟩, rfl⟩, hv⟩ := h
          rw [← hxs] at m1
          obtain ⟨g, hg, rfl⟩ := List.mem_map.mp m1
          obtain ⟨g1, g2⟩ := List.mem_filter.mp hg
          have g1 := List.mem_range.mp g1
          have g2 := of_decide_eq_true g2
          have hgk : ks.getD g 0 = ks.getD j 0 := by omega
          refine ⟨some g, ⟨g1, hgk, fun i hi hij he => ?_⟩, hv⟩
          have h5 := m2 _ (hmx i hij he)
          have h6 : (ld L g).1 ≤ (ld L i).1 := hL.so g i hi (show i < L.length by omega)
          unfold leX at h5
          simp only at h5
          omega
        · have hem : xs = [] := by
            cases xs with
            | nil => rfl
            | cons x xs =>
              exact absurd (of_decide_eq_false hb) (by simp only [List.length_cons]; omega)
          refine EvG.weak (eg_non (K := K)) fun v H h => ⟨none, fun i hi he => ?_, h⟩
          have := hmx i hi he
          rw [hem] at this
          cases this
        · obtain ⟨o, ho, hv⟩ := hv
          have l5 := (e5.trans (e6.trans e7)) _ _ l3
          refine ⟨xl, x0, x3, x4, Ex.mut (eB5.trans (e6.trans e7)) bn, lane ++ [o], ws ++ [v], by rw [List.length_append, l1]; rfl, fun i hi => ?_, upd_same, ?_⟩
          · rw [List.getD_eq_getElem?_getD]
            rcases Nat.lt_or_ge i j with h | h
            · rw [List.getElem?_append_left (by omega), ← List.getD_eq_getElem?_getD]
              exact l2 i h
            · have : i = j := by omega
              subst this
              rw [List.getElem?_append_right (by omega), l1, Nat.sub_self]
              exact ho
          · rw [List.map_append]
            refine AllP.kt ((AllP.mono l4 (e5.trans (e6.trans e7))).append (.cons hv .nil)) (fun P hP => ?_) (kt_upd l5 rfl)
            rcases List.mem_append.mp hP with hP | hP
            · obtain ⟨x, _, rfl⟩ := List.mem_map.mp hP
              exact RepT.rt x
            · obtain ⟨x, _, rfl⟩ := List.mem_map.mp hP
              exact RepT.rt x
  · have s9 : Sat [none, none, none, some (LsP K (lane.map (Is K))), none, none, none, none, none] σ2 H4 := (sat_no (n := 9) zl).know (i := 3) z3 ⟨lf, ws, rfl, .inl (.inl l3), l4⟩
    refine eg_tupOf (K := K) (fun xs H Q q => q) (eg_var (Γ := [none, none, none, some (LsP K (lane.map (Is K))), none, none, none, none, none]) (i := 3) rfl) σ2 H4 _ s9 fun v H5 e5 p5 => hr _ v H5 rfl (eB.trans (e4.trans e5)) ⟨lane, hand_next hth hkl (by simpa [hkl] using l1) fun i hi => l2 i (by simpa [hkl] using hi), p5⟩
end
end Lp

/-! part LpBox -/
set_option Elab.async false
set_option linter.all false
set_option maxRecDepth 100000

namespace Lp
open PySem PySem.Spec PyProof.Rows L2
open Evl (Ex ex_l ex_t ex_rd fresh_back)
section
variable {prog : Program} {w : World} {K : PySem.W.Frag} {mg : Str → Option Value} {base : Heap}
/-! the box of draws: its list changes, all else stands -/
abbrev cu (a : Addr) (H : Hp) : Hp := cut [a] H
def Bx (a : Addr) (n : Nat) (H : Hp) : Prop := ∃ i j k : Int, H a = some (.lst [.int i, .int j, .int k]) ∧ 0 ≤ j ∧ j < 2 ^ 62 ∧ 0 ≤ k ∧ k + n ≤ 2 ^ 40
section
variable {a : Addr} {n m p : Nat} {H H' : Hp}
theorem Bx.mono (h : Bx a n H) (e : Ex H H') : Bx a n H' := by
  obtain ⟨i, j, k, h1, h2⟩ := h
  exact ⟨i, j, k, e _ _ h1, h2⟩
theorem Bx.le (h : Bx a n H) (l : m ≤ n) : Bx a m H := by
  obtain ⟨i, j, k, h1, h2, h3, h4, h5⟩ := h
  exact ⟨i, j, k, h1, h2, h3, h4, by omega⟩
theorem cu_ne {b : Addr} (h : b ≠ a) : cu a H b = H b := cut_out fun z => h (List.mem_singleton.mp z)
theorem cu_in : cu a H a = none := cut_in (List.mem_singleton.mpr rfl)
theorem cu_ex : Ex (cu a H) H := cut_ex
theorem cu_some {b : Addr} {o : HO} (h : cu a H b = some o) : b ≠ a ∧ H b = some o := by
  have hb : b ≠ a := fun z => by rw [z, cu_in] at h; cases h
  exact ⟨hb, (cu_ne hb).symm.trans h⟩
theorem ex_cu (e : Ex H H') : Ex (cu a H) (cu a H') := fun b o h => by
  obtain ⟨h1, h2⟩ := cu_some h
  rw [show cu a H' b = H' b from cu_ne h1]
  exact e b o h2
theorem Bx.kt (h : Bx a n H) : Kt H (cu a H) := cut_kt fun b hb xs => by
  obtain ⟨i, j, k, h1, _⟩ := h
  rw [List.mem_singleton.mp hb]
  exact no_tup h1 rfl xs
theorem Bx.ne (h : Bx a n H) {b : Addr} (hb : H b = none) : b ≠ a := fun z => by
  obtain ⟨i, j, k, h1, _⟩ := h
  rw [z, h1] at hb
  cases hb
theorem cu_upd {o : HO} : cu a (upd H a o) = cu a H := by
  funext b
  by_cases hb : b = a
  · rw [hb, cu_in, cu_in]
  · rw [cu_ne hb, cu_ne hb, upd_ne hb]
def EvB (a : Addr) (n m : Nat) (t : TE) (Γ : Gm) (P : SP) : Prop := ∀ (σ : L2.St) (H : Hp) (Q : VK), Sat Γ σ (cu a H) → Bx a n H → (∀ v H', Ex (cu a H) (cu a H') → Bx a m H' → P.p v (cu a H') → Q v H') → t σ H Q
def EvBA (a : Addr) (n m : Nat) (t : TA) (Γ : Gm) (Ps : List SP) : Prop := ∀ (σ : L2.St) (H : Hp) (Q : List V → Hp → Prop), Sat Γ σ (cu a H) → Bx a n H → (∀ vs H', Ex (cu a H) (cu a H') → Bx a m H' → AllP vs Ps (cu a H') → Q vs H') → t σ H Q
def StB (a : Addr) (n m : Nat) (t : TS) (Γ : Gm) (R : SP) : Prop := ∀ (D : Ends) (σ : L2.St) (H : Hp), Sat Γ σ (cu a H) → Bx a n H → (∀ v H2, Ex (cu a H) (cu a H2) → Bx a m H2 → R.p v (cu a H2) → D.rt v H2) → t D σ H
def spBx {γ : Type} (c : Nat) (Cd : γ → Prop) (Ps : γ → List SP) (R : γ → SP) : Sp := fun vs H Q _ => ∃ (g : γ) (a : Addr) (ws : List V) (n : Nat), Cd g ∧ vs = .ref a :: ws ∧ Bx a (n + c) H ∧ AllP ws (Ps g) (cu a H) ∧ ∀ v H', Ex (cu a H) (cu a H') → Bx a n H' → (R g).p v (cu a H') → Q v H'
variable {Γ : Gm} {te t1 t2 : TE} {ta : TA} {P P' R : SP} {Ps : List SP}
theorem lenBx {γ : Type} {c k : Nat} {Cd : γ → Prop} {Ps : γ → List SP} {R : γ → SP} (h : ∀ g, (Ps g).length + 1 = k) : ∀ vs H Q E, spBx c Cd Ps R vs H Q E → vs.length = k := fun vs H Q E ⟨g, a, ws, n, _, e, _, al, _⟩ => by
  rw [e, List.length_cons, al.len]
  exact h g
theorem runBx {γ : Type} {c : Nat} {Cd : γ → Prop} {Ps : γ → List SP} {R : γ → SP} {N : List Str} {vs : List V} {Q : VK} {E : XK} {D : Ends} {t : TS} (hsp : spBx c Cd Ps R vs H Q E) (hD : D.rt = Q) (h : ∀ g a n, Cd g → StB a (n + c) n t (startG N (Eq1 (.ref a) :: Ps g)) (R g)) : t D (L2.start N vs) H := by
  obtain ⟨g, a, ws, n, hc, rfl, b, al, q⟩ := hsp
  exact h g a n hc D _ H (sat_start (.cons rfl al)) b (hD ▸ q)
theorem EvB.weak (h : EvB a n m te Γ P) (e : ∀ v H, P.p v H → P'.p v H) : EvB a n m te Γ P' := fun σ H Q s b q => h σ H Q s b fun v H' x y z => q v H' x y (e v _ z)
theorem EvB.to (h : EvB a n m te Γ P) (e : P = P') : EvB a n m te Γ P' := e ▸ h
theorem eb_of (h : EvG te Γ P) (hr : RT P) : EvB a n n te Γ P := fun σ H Q s b q => h σ H _ (s.mono cu_ex) fun v H1 e p => q v H1 (ex_cu e) (b.mono e) (hr v _ _ (b.mono e).kt p)
theorem eb_var {i : Nat} (hv : Γ[i]? = some (some P)) : EvB a n n (tVar i) Γ P := fun σ H Q s b q => by
  obtain ⟨v, h1, h2⟩ := s.at' i P hv
  exact ⟨v, h1, q v H (Ex.refl _) b h2⟩
theorem eab_nil : EvBA a n n tNil Γ [] := fun σ H Q s b q => q [] H (Ex.refl _) b .nil
theorem eab_cons (h : EvB a n m te Γ P) (h2 : EvBA a m p ta Γ Ps) : EvBA a n p (tCons te ta) Γ (P :: Ps) := fun σ H Q s b q => h σ H _ s b fun v H1 e1 b1 p1 => h2 σ H1 _ (s.mono e1) b1 fun vs H2 e2 b2 p2 => q (v :: vs) H2 (e1.trans e2) b2 (.cons (P.mono e2 p1) p2)
theorem eb_call {γ : Type} {c : Nat} {Cd : γ → Prop} {Qs : γ → List SP} {R : γ → SP} {E : XK} (g : γ) (h : EvBA a n (m + c) ta Γ (Eq1 (.ref a) :: Qs g)) (hc : Cd g) : EvB a n m (fun σ H Q => ta σ H fun vs H1 => spBx c Cd Qs R vs H1 Q E) Γ (R g) := fun σ H Q s b q =>
  h σ H _ s b fun vs H1 e1 b1 p1 => by
    cases p1 with
    | cons r t =>
      obtain rfl : _ = V.ref a := r
      exact ⟨g, a, _, m, hc, rfl, b1, t, fun v H' e b' p => q v H' (e1.trans e) b' p⟩
/-- an int within bounds -/
def Rg (lo hi : Int) : SP := ⟨fun v _ => ∃ i : Int, v = .int i ∧ lo ≤ i ∧ i ≤ hi, fun _ h => h⟩
theorem rg_rt {lo hi : Int} : RT (Rg lo hi) := fun _ _ _ _ h => h
theorem rg_le {lo hi lo' hi' : Int} (h1 : lo' ≤ lo) (h2 : hi ≤ hi') : ∀ v H, (Rg lo hi).p v H → (Rg lo' hi').p v H := fun v H ⟨i, e, a, b⟩ => ⟨i, e, by omega, by omega⟩
/-- one of them -/
def OneP (Ps : List SP) : SP := ⟨fun v H => ∃ P, P ∈ Ps ∧ P.p v H, fun e ⟨P, h1, h2⟩ => ⟨P, h1, P.mono e h2⟩⟩
theorem eb_add {l1 h1 l2 h2 : Int} (x : EvB a n m t1 Γ (Rg l1 h1)) (y : EvB a m p t2 Γ (Rg l2 h2)) : EvB a n p (tOp (rI0 fun i j => .int (i + j)) t1 t2) Γ (Rg (l1 + l2) (h1 + h2)) := fun σ H Q s b q =>
  x σ H _ s b fun v H1 e1 b1 ⟨i, hi, i1, i2⟩ => y σ H1 _ (s.mono e1) b1 fun w H2 e2 b2 ⟨j, hj, j1, j2⟩ => ⟨i, j, hi, hj, q _ H2 (e1.trans e2) b2 ⟨i + j, rfl, by omega, by omega⟩⟩
theorem eb_c {i : Int} : EvB a n n (tC (.int i)) Γ (Rg i i) := eb_of (eg_c.weak fun v H h => ⟨i, h, Int.le_refl _, Int.le_refl _⟩) rg_rt
theorem eb_lst (h : EvBA a n m ta Γ Ps) (hl : Ps.length ≤ 100000 := by exact Nat.le_of_ble_eq_true rfl) : EvB a n m (tLst ta) Γ (LsP K Ps) := fun σ H Q s b q =>
  h σ H _ s b fun vs H1 e1 b1 p1 => ⟨by rw [p1.len]; exact Evl.sz_of hl, fun x hx => q _ _ (e1.trans (ex_cu (Ex.new hx))) (b1.mono (Ex.new hx)) ⟨x, vs, rfl, .inl (.inl (by rw [cu_ne (b1.ne hx)]; exact upd_same)), p1.mono (ex_cu (Ex.new hx))⟩⟩
theorem eb_tup (h : EvBA a n m ta Γ Ps) (hl : Ps.length ≤ 100000 := by exact Nat.le_of_ble_eq_true rfl) : EvB a n m (tTup ta) Γ (TuP K Ps) := fun σ H Q s b q =>
  h σ H _ s b fun vs H1 e1 b1 p1 => ⟨by rw [p1.len]; exact Evl.sz_of hl, fun x hx => q _ _ (e1.trans (ex_cu (Ex.new hx))) (b1.mono (Ex.new hx)) ⟨x, vs, rfl, .inl (.inl (by rw [cu_ne (b1.ne hx)]; exact upd_same)), p1.mono (ex_cu (Ex.new hx))⟩⟩
theorem eb_ixL {hi : Int} (x : EvB a n m t1 Γ (LsP K Ps)) (y : EvB a m p t2 Γ (Rg 0 hi)) (hh : hi < Ps.length) : EvB a n p (tOp (rIxL K) t1 t2) Γ (OneP Ps) := fun σ H Q s b q =>
  x σ H _ s b fun v H1 e1 b1 p1 => y σ H1 _ (s.mono e1) b1 fun w H2 e2 b2 ⟨j, hj, j1, j2⟩ => by
    obtain ⟨l, vs, rfl, h2, h3⟩ := (LsP K Ps).mono e2 p1
    subst hj
    obtain ⟨jn, rfl⟩ := Int.eq_ofNat_of_zero_le j1
    have hjl : jn < Ps.length := by omega
    obtain ⟨z, hz1, hz2⟩ := paired_at h3 (List.getElem?_eq_getElem hjl)
    have h2' : SqL K H2 l vs := by
      rcases h2 with h | h
      · exact .inl (ex_rd cu_ex h)
      · exact .inr h
    exact ⟨l, vs, (jn : Int), z, rfl, rfl, h2', atI_nat' hz1, q z H2 (e1.trans e2) b2 ⟨_, List.getElem_mem hjl, hz2⟩⟩
theorem sb_ret (h : EvB a n m te Γ R) : StB a n m (tRet te) Γ R := fun D σ H s b q => h σ H _ s b q
theorem sb_set {t : TS} {i : Nat} (h : EvB a n m te Γ P) (h2 : StB a m p t (Γ.set i (some P)) R) : StB a n p (tSeq (tAsg te (gName i)) t) Γ R := fun D σ H s b q =>
  h σ H _ s b fun v H1 e1 b1 p1 => h2 D _ H1 ((s.mono e1).set p1) b1 fun v2 H2 e2 b2 p2 => q v2 H2 (e1.trans e2) b2 p2
end
theorem eg_int1 {Γ : Gm} {te : TE} {i : Int} (h : EvG te Γ (Is K i)) : EvG (tCB (fun xs H Q => (∃ i, xs = [.int i] ∧ Q (.int i) H) ∨ ∃ k, xs = [.bl k] ∧ Q (.int (if k then 1 else 0)) H) (tCons te tNil)) Γ (Is K i) := fun σ H Q s q => h σ H _ s fun v H1 e1 p1 => by
  obtain rfl : v = .int i := p1
  exact .inl ⟨i, rfl, q _ H1 e1 rfl⟩
theorem eg_int1B {Γ : Gm} {te : TE} {k : Bool} (h : EvG te Γ (Is K k)) : EvG (tCB (fun xs H Q => (∃ i, xs = [.int i] ∧ Q (.int i) H) ∨ ∃ k, xs = [.bl k] ∧ Q (.int (if k then 1 else 0)) H) (tCons te tNil)) Γ (Is K (if k then (1 : Int) else 0)) := fun σ H Q s q => h σ H _ s fun v H1 e1 p1 => by
  obtain rfl : v = .bl k := p1
  exact .inr ⟨k, rfl, q _ H1 e1 rfl⟩
theorem eg_abs {Γ : Gm} {te : TE} {i : Int} (h : EvG te Γ (Is K i)) : EvG (tCB (fun xs H Q => ∃ i, xs = [.int i] ∧ Q (.int (if i < 0 then -i else i)) H) (tCons te tNil)) Γ (Is K (if i < 0 then -i else i)) := fun σ H Q s q => h σ H _ s fun v H1 e1 p1 => by
  obtain rfl : v = .int i := p1
  exact ⟨i, rfl, q _ H1 e1 rfl⟩
theorem ok__law_take (T : Tx K mg) : FnR prog w K mg base CX0 1 (He.ga K "_law_take") (spBx 1 (fun n : Int => 1 ≤ n ∧ n < 1000000) (fun n => [Is K n]) (fun n => Rg 0 (n - 1))) := by
  obtain ⟨fdO, FO⟩ := T.d__law_take
  refine fn_any FO sc__law_take (fun _ _ _ _ _ _ us hl => match us, hl with | [_, _], _ => rfl) ?_ fun cdv A outer s H vs Q E hr hsp => ⟨_, PSs.nox (pss_cons (ps_if (pt_cmpR op_gt (pe_ix (ix_listK (K := K)) (pv 0) pe_int (fun _ _ => rfl)) pe_int (nomark _)) (pss_cons (ps_set (i := 5) sc__law_take.nd rfl (Or.inl rfl) (pe_op op_mod (pe_callTy call_int1 (by rfl) T.f_int (by decide +kernel) (pa_cons (pe_ix (ix_listK (K := K)) (pv 0) pe_int (fun _ _ => rfl)) pa_nil)) (pv 1)))
    (pss_cons (ps_asg (pe_op op_fdiv (pe_ix (ix_listK (K := K)) (pv 0) pe_int (fun _ _ => rfl)) (pv 1)) (pg_sub (pv 0) pe_int set_list))
    (pss_one (ps_ret (pv 5))))) (pss_nil))
    (pss_cons (ps_asg (pe_op op_add (pe_ix (ix_listK (K := K)) (pv 0) pe_int (fun _ _ => rfl)) pe_int) (pg_sub (pv 0) pe_int set_list))
    (pss_cons (ps_set (i := 2) sc__law_take.nd rfl (Or.inl rfl) (pe_op op_mod (pe_callTy call_int1 (by rfl) T.f_int (by decide +kernel) (pa_cons (pe_op op_mul (pe_op op_add (pe_ix (ix_listK (K := K)) (pv 0) pe_int (fun _ _ => rfl)) (pe_op op_mul pe_int (pe_ix (ix_listK (K := K)) (pv 0) pe_int (fun _ _ => rfl)))) (pe_op op_add pe_int (pe_ix (ix_listK (K := K)) (pv 0) pe_int (fun _ _ => rfl)))) pa_nil)) pe_int))
    (pss_cons (ps_set (i := 3) sc__law_take.nd rfl (Or.inl rfl) (pe_op op_add (pe_op op_mod (pe_callTy call_int1 (by rfl) T.f_int (by decide +kernel) (pa_cons (pv 2) pa_nil)) pe_int) pe_int))
    (pss_cons (ps_set (i := 4) sc__law_take.nd rfl (Or.inl rfl) (pe_op op_mod (pe_callTy call_int1 (by rfl) T.f_int (by decide +kernel) (pa_cons (pe_op op_mul (pe_op op_add (pe_op op_add (pv 2) (pe_ix (ix_listK (K := K)) (pv 0) pe_int (fun _ _ => rfl))) (pe_op op_fdiv (pe_ix (ix_listK (K := K)) (pv 0) pe_int (fun _ _ => rfl)) pe_int)) (pv 3)) pa_nil)) pe_int))
    (pss_one (ps_ret (pe_op op_mod (pe_callTy call_int1 (by rfl) T.f_int (by decide +kernel) (pa_cons (pe_op op_fdiv (pe_op op_mod (pe_callTy call_int1 (by rfl) T.f_int (by decide +kernel) (pa_cons (pe_op op_add (pe_op op_mul (pv 4) pe_int) (pv 2)) pa_nil)) pe_int) pe_int) pa_nil)) (pv 1))))))))), ?_⟩
  · exact lenBx fun _ => rfl
  refine runBx (Cd := fun n : Int => 1 ≤ n ∧ n < 1000000) (Ps := fun n => [Is K n]) (R := fun n => Rg 0 (n - 1)) hsp rfl fun n a f ⟨hn1, hn2⟩ => ?_
  clear hsp
  intro D σ H s b hr
  obtain ⟨i, j, k, hb, j0, j1, k0, k1⟩ := id b
  have yl : σ.length = 6 := s.len
  obtain ⟨v0, y0, p0⟩ := s.at' 0 (Eq1 (.ref a)) rfl
  obtain rfl : v0 = .ref a := p0
  obtain ⟨v1, y1, p1⟩ := s.at' 1 (Is K n) rfl
  obtain rfl : v1 = .int n := p1
  have bxl : ∀ {H' : Hp} {i j k : Int}, H' a = some (.lst [.int i, .int j, .int k]) → (Is K [i, j, k]).p (.ref a) H' := fun h => ⟨a, _, rfl, .inl (.inl h), .cons rfl (.cons rfl (.cons rfl .nil))⟩
  have s0 : Sat [some (Is K [i, j, k]), some (Is K n), none, none, none, none] σ H := ((sat_no (n := 6) yl).know (i := 0) y0 (bxl hb)).know (i := 1) (P := Is K n) y1 rfl
  refine h_seq (h_if (et_test (eg_cmpI (K := K) (f := fun i j => decide (j < i)) (i := i) (j := 0) (eg_ixL (K := K) (xs := [i, j, k]) (i := 0) (x := i) (eg_var rfl) eg_c rfl) eg_int)) s0 (fun hi H1 e1 => ?_) fun hi H1 e1 => h_next ?_)
  · have bx0 : EvG (tOp (rIxL K) (tVar 0) (tC (.int 0))) [some (Is K [i, j, k]), some (Is K n), none, none, none, none] (Is K i) := eg_ixL (K := K) (xs := [i, j, k]) (i := 0) (x := i) (eg_var rfl) eg_c rfl
    refine h_seq (eg_opI (K := K) (f := fun i j => i % j) (i := i) (j := n) (eg_int1 bx0) (eg_var rfl) (by show 0 < n; omega) σ H1 _ (s0.mono e1) fun v5 H2 e2 p5 => ?_)
    have s2 : Sat [some (Is K [i, j, k]), some (Is K n), none, none, none, some (Is K (i % n))] (σ.set 5 (some v5)) H2 := ((s0.mono e1).mono e2).set (i := 5) (P := Is K (i % n)) p5
    have y0' : (σ.set 5 (some v5))[0]? = some (some (.ref a)) := by rw [List.getElem?_set_ne (by decide)]; exact y0
    have y5 : (σ.set 5 (some v5))[5]? = some (some v5) := List.getElem?_set_self (by rw [yl]; decide)
    dsimp only
    refine h_seq (eg_opI (K := K) (C := CDiv) (f := fun i j => i / j) (i := i) (j := n) (eg_ixL (K := K) (xs := [i, j, k]) (i := 0) (x := i) (eg_var rfl) eg_c rfl) (eg_var rfl) ⟨by omega, by omega⟩ (σ.set 5 (some v5)) H2 _ s2 fun v6 H3 e3 p6 => ?_)
    obtain rfl : v6 = .int (i / n) := p6
    have hb3 := (e1.trans (e2.trans e3)) _ _ hb
    refine ⟨_, y0', a, _, 0, 0, rfl, rfl, hb3, rfl, ?_⟩
    refine ⟨_, y5, hr _ _ ?_ ⟨i / n, j, k, upd_same, j0, j1, k0, by omega⟩ ⟨i % n, p5, Int.emod_nonneg _ (by omega), ?_⟩⟩
    · rw [cu_upd]
      exact ex_cu (e1.trans (e2.trans e3))
    · have := Int.emod_lt_of_pos i (show 0 < n by omega)
      omega
  · refine h_seq (eg_opI0 (K := K) (f := fun i j => i + j) (i := k) (j := 1) (eg_ixL (K := K) (xs := [i, j, k]) (i := 2) (x := k) (eg_var rfl) eg_c rfl) eg_c σ H1 _ (s0.mono e1) fun v6 H3 e3 p6 => ?_)
    obtain rfl : v6 = .int (k + 1) := p6
    have hb3 := (e1.trans e3) _ _ hb
    refine ⟨_, y0, a, _, 2, 2, rfl, rfl, hb3, rfl, ?_⟩
    have hb4 : (upd H3 a (.lst [.int i, .int j, .int (k + 1)])) a = some (.lst [.int i, .int j, .int (k + 1)]) := upd_same
    have hx4 : Ex (cu a H) (cu a (upd H3 a (.lst [.int i, .int j, .int (k + 1)]))) := by
      rw [cu_upd]
      exact ex_cu (e1.trans e3)
    show tSeq _ _ D σ (upd H3 a (.lst [.int i, .int j, .int (k + 1)]))
    generalize upd H3 a (.lst [.int i, .int j, .int (k + 1)]) = H4 at hb4 hx4 ⊢
    have s4 : Sat [some (Is K [i, j, k + 1]), some (Is K n), none, none, none, none] σ H4 := ((sat_no (n := 6) yl).know (i := 0) y0 (bxl hb4)).know (i := 1) (P := Is K n) y1 rfl
    refine (sx_set (P := Is K (((j + 48271 * (k + 1)) * (39373 + (k + 1))) % 2147483647)) (eg_opI (K := K) (f := fun i j => i % j) (eg_int1 (eg_opI (K := K) (C := CMul) (f := fun i j => i * j) (eg_opI0 (K := K) (f := fun i j => i + j) (eg_ixL (K := K) (xs := [i, j, k + 1]) (i := 1) (x := j) (eg_var rfl) eg_c rfl) (eg_opI (K := K) (C := CMul) (f := fun i j => i * j) (i := 48271) (j := k + 1) eg_int (eg_ixL (K := K) (xs := [i, j, k + 1]) (i := 2) (x := k + 1) (eg_var rfl) eg_c rfl) (.inl (by decide)))) (eg_opI0 (K := K) (f := fun i j => i + j) (i := 39373) (j := k + 1) eg_int (eg_ixL (K := K) (xs := [i, j, k + 1]) (i := 2) (x := k + 1) (eg_var rfl) eg_c rfl)) (.inr (by omega)))) (j := 2147483647) eg_int (by show (0 : Int) < _; decide)) ?_ : StX _ _ (fun _ => False) (fun P => P = Rg 0 (n - 1))) D σ H4 s4 (fun _ _ _ f => f.elim) fun P v H5 e e5 p5 => ?_
    · generalize hon : ((j + 48271 * (k + 1)) * (39373 + (k + 1))) % 2147483647 = once
      have on0 : 0 ≤ once := hon ▸ Int.emod_nonneg _ (by decide)
      have on1 : once < 2147483647 := hon ▸ Int.emod_lt_of_pos _ (by decide)
      refine sx_set (P := Is K (once % 40009 + 7)) (eg_opI0 (K := K) (f := fun i j => i + j) (eg_opI (K := K) (f := fun i j => i % j) (eg_int1 (eg_var (P := Is K once) rfl)) (j := 40009) eg_int (by show (0 : Int) < _; decide)) (j := 7) eg_int) ?_
      generalize hod : once % 40009 + 7 = odd
      have od0 : 0 ≤ odd := by omega
      have od1 : odd < 50000 := by omega
      refine sx_set (P := Is K (((once + (k + 1) + j / 1000003) * odd) % 2147483629)) (eg_opI (K := K) (f := fun i j => i % j) (eg_int1 (eg_opI (K := K) (C := CMul) (f := fun i j => i * j) (eg_opI0 (K := K) (f := fun i j => i + j) (eg_opI0 (K := K) (f := fun i j => i + j) (eg_var (P := Is K once) rfl) (eg_ixL (K := K) (xs := [i, j, k + 1]) (i := 2) (x := k + 1) (eg_var rfl) eg_c rfl)) (eg_opI (K := K) (C := CDiv) (f := fun i j => i / j) (eg_ixL (K := K) (xs := [i, j, k + 1]) (i := 1) (x := j) (eg_var rfl) eg_c rfl) (j := 1000003) eg_int ⟨by decide, by decide⟩)) (eg_var (P := Is K odd) rfl) (.inr (by omega)))) (j := 2147483629) eg_int (by show (0 : Int) < _; decide)) ?_
      generalize ((once + (k + 1) + j / 1000003) * odd) % 2147483629 = twice
      refine sx_ret (P := Rg 0 (n - 1)) (EvG.weak (eg_opI (K := K) (f := fun i j => i % j) (eg_int1 (eg_opI (K := K) (C := CDiv) (f := fun i j => i / j) (eg_opI (K := K) (f := fun i j => i % j) (eg_int1 (eg_opI0 (K := K) (f := fun i j => i + j) (eg_opI (K := K) (C := CMul) (f := fun i j => i * j) (eg_var (P := Is K twice) rfl) (j := 48271) eg_int (.inr (by decide))) (eg_var (P := Is K once) rfl))) (j := 2147483587) eg_int (by show (0 : Int) < _; decide)) (j := 64) eg_int ⟨by decide, by decide⟩)) (j := n) (eg_var rfl) (by show 0 < n; omega)) fun v H h => ⟨_, h, Int.emod_nonneg _ (by omega), ?_⟩) rfl
      have := Int.emod_lt_of_pos ((twice * 48271 + once) % 2147483587 / 64) (show 0 < n by omega)
      omega
    · subst e
      exact hr v H5 (hx4.trans (ex_cu e5)) ⟨i, j, k + 1, e5 _ _ hb4, j0, j1, by omega, by omega⟩ p5
end
end Lp

/-! part LpDraw -/
set_option Elab.async false
set_option linter.all false
set_option maxRecDepth 100000

namespace Lp
open PySem PySem.Spec PyProof.Rows L2
open Evl (Ex ex_l ex_t ex_rd fresh_back)
section
variable {prog : Program} {w : World} {K : PySem.W.Frag} {mg : Str → Option Value} {base : Heap}
theorem oneP_rg {Ps : List SP} {lo hi : Int} (h : ∀ P, P ∈ Ps → ∀ v H, P.p v H → (Rg lo hi).p v H) : ∀ v H, (OneP Ps).p v H → (Rg lo hi).p v H := fun v H ⟨P, hP, hv⟩ => h P hP v H hv
theorem cs_rg {L : List Int} {lo hi : Int} (h : L.all (fun i => decide (lo ≤ i) && decide (i ≤ hi)) = true) : ∀ P, P ∈ (L.map fun i => Rg i i) → ∀ v H, P.p v H → (Rg lo hi).p v H := fun P hP v H hv => by
  obtain ⟨i, hi, rfl⟩ := List.mem_map.mp hP
  have := List.all_eq_true.mp h i hi
  rw [Bool.and_eq_true, decide_eq_true_iff, decide_eq_true_iff] at this
  exact rg_le this.1 this.2 v H hv
theorem ok__law_of (T : Tx K mg) : FnR prog w K mg base CX0 2 (He.ga K "_law_of") (spBx 1 (fun Ps : List SP => Ps ≠ [] ∧ Ps.length ≤ 1000) (fun Ps => [LsP K Ps]) OneP) := by
  obtain ⟨fdO, FO⟩ := T.d__law_of
  refine fn_any FO sc__law_of (fun _ _ _ _ _ _ us hl => match us, hl with | [_, _], _ => rfl) ?_ fun cdv A outer s H vs Q E hr hsp => ⟨_, PSs.nox (pss_one (ps_ret (pe_ix (ix_listK (K := K)) (pv 1) (pe_callR (E := E0) (ok__law_take T) (hr.mono (by first | decide | exact Nat.le_refl _)) (by rfl) T.g__law_take T.k__law_take pass0 (pa_cons (pv 0) (pa_cons (pe_callB (call_lenK (K := K)) (by rfl) T.f_len (by decide +kernel) (pa_cons (pv 1) pa_nil)) pa_nil))) (fun _ _ => rfl)))), ?_⟩
  · exact lenBx fun _ => rfl
  refine runBx hsp rfl fun Ps a f ⟨h1, h2⟩ => ?_
  have h3 : 0 < Ps.length := List.length_pos_iff.mpr h1
  exact sb_ret (eb_ixL (K := K) (hi := (Ps.length : Int) - 1) (eb_var rfl) (eb_call (Ps.length : Int) (eab_cons (eb_var rfl) (eab_cons (eb_of (eg_lenL (K := K) (eg_var rfl)) rt_eq) eab_nil)) ⟨by omega, by omega⟩) (by omega))
theorem ok__law_keep (T : Tx K mg) : FnR prog w K mg base CX0 3 (He.ga K "_law_keep") (spBx 1 (fun _ : Unit => True) (fun _ => []) (fun _ => Rg 0 40)) := by
  obtain ⟨fdO, FO⟩ := T.d__law_keep
  refine fn_any FO sc__law_keep (fun _ _ _ _ _ _ us hl => match us, hl with | [_], _ => rfl) ?_ fun cdv A outer s H vs Q E hr hsp => ⟨_, PSs.nox (pss_one (ps_ret (pe_callR (E := E0) (ok__law_of T) (hr.mono (by first | decide | exact Nat.le_refl _)) (by rfl) T.g__law_of T.k__law_of pass0 (pa_cons (pv 0) (pa_cons (pe_lst (pa_cons pe_int (pa_cons pe_int (pa_cons pe_int (pa_cons pe_int (pa_cons pe_int (pa_cons pe_int (pa_cons pe_int (pa_cons pe_int (pa_cons pe_int (pa_cons pe_int pa_nil))))))))))) pa_nil))))), ?_⟩
  · exact lenBx fun _ => rfl
  refine runBx hsp rfl fun _ a f _ => ?_
  exact sb_ret (EvB.weak (eb_call (([0, 0, 1, 1, 2, 3, 4, 6, 9, 40] : List Int).map fun i => Rg i i) (eab_cons (eb_var rfl) (eab_cons (eb_lst (eab_cons eb_c (eab_cons eb_c (eab_cons eb_c (eab_cons eb_c (eab_cons eb_c (eab_cons eb_c (eab_cons eb_c (eab_cons eb_c (eab_cons eb_c (eab_cons eb_c eab_nil))))))))))) eab_nil)) ⟨by simp, by simp⟩) (oneP_rg (cs_rg (by decide))))
/-! drawn loans -/
def kOf (H : Hp) (x : V) : Int × Int := match x with
  | .ref t => match H t with
    | some (.tup [.int i, .int j]) => (i, j)
    | _ => (0, 0)
  | _ => (0, 0)
def IsRow (H : Hp) (v : V) (r : Int × Int) : Prop := ∃ t, v = .ref t ∧ H t = some (.tup [.int r.1, .int r.2])
theorem IsRow.k {H : Hp} {v : V} {r : Int × Int} (h : IsRow H v r) : kOf H v = r := by
  obtain ⟨t, rfl, h⟩ := h
  unfold kOf
  simp only [h]
def RowOk (r : Int × Int) : Prop := 0 ≤ r.1 ∧ r.1 < r.2 ∧ r.2 ≤ 21
abbrev LoaP (K : PySem.W.Frag) : SP := Ssm (fun L : Loans => PlOk L ∧ L.length ≤ 10) (fun L => Is K (Tp.mk L))
theorem rows_pl {H : Hp} {ws ys : List V} {rows : List (Int × Int)} (hr : Paired (IsRow H) ws rows) (hok : ∀ r, r ∈ rows → RowOk r) (hl : rows.length ≤ 10) (hp : ys.Perm ws) (hs : SrtO.Srtd (ltP (kOf H)) ys) : PlOk (ys.map (kOf H)) ∧ (ys.map (kOf H)).length ≤ 10 ∧ AllP ys ((ys.map (kOf H)).map (Is K)) H := by
  have row : ∀ y, y ∈ ys → ∃ r, RowOk r ∧ IsRow H y r := fun y hy => by
    have hy := hp.mem_iff.mp hy
    have : ∀ {ws : List V} {rows : List (Int × Int)}, Paired (IsRow H) ws rows → (∀ r, r ∈ rows → RowOk r) → y ∈ ws → ∃ r, RowOk r ∧ IsRow H y r := fun {ws rows} h => by
      induction h with
      | nil => intro _ h; cases h
      | cons r t ih =>
        intro ho hm
        rcases List.mem_cons.mp hm with e | hm
        · exact ⟨_, ho _ List.mem_cons_self, by rw [e]; exact r⟩
        · exact ih (fun r hr => ho r (List.mem_cons_of_mem _ hr)) hm
    exact this hr hok hy
  have hlen : (ys.map (kOf H)).length = rows.length := by
    rw [List.length_map, hp.length_eq]
    exact hr.length
  have atk : ∀ i (h : i < (ys.map (kOf H)).length), ∃ y, ys[i]? = some y ∧ ld (ys.map (kOf H)) i = kOf H y := fun i h => by
    have h' : i < ys.length := by rwa [List.length_map] at h
    refine ⟨ys[i], List.getElem?_eq_getElem h', ?_⟩
    unfold ld
    rw [List.getD_eq_getElem?_getD, List.getElem?_map, List.getElem?_eq_getElem h']
    rfl
  refine ⟨⟨fun i j hij hj => ?_, fun i hi => ?_, by omega⟩, by omega, ?_⟩
  · obtain ⟨y, hy, e1⟩ := atk i (by omega)
    obtain ⟨z, hz, e2⟩ := atk j hj
    obtain ⟨hi', hy'⟩ := List.getElem?_eq_some_iff.mp hy
    obtain ⟨hj', hz'⟩ := List.getElem?_eq_some_iff.mp hz
    have := List.pairwise_iff_getElem.mp hs i j hi' hj' hij
    rw [hy', hz'] at this
    have := SrtO.lexB_no.mp this
    rw [e1, e2]
    omega
  · obtain ⟨y, hy, e1⟩ := atk i hi
    obtain ⟨r, ⟨r1, r2, r3⟩, hr⟩ := row y (List.mem_of_getElem? hy)
    rw [e1, hr.k]
    omega
  · rw [List.map_map]
    have : ∀ zs : List V, (∀ y, y ∈ zs → ∃ r, RowOk r ∧ IsRow H y r) → AllP zs (zs.map (Is K ∘ kOf H)) H := fun zs => by
      induction zs with
      | nil => intro _; exact .nil
      | cons z zs ih =>
        intro h
        refine .cons ?_ (ih fun y hy => h y (List.mem_cons_of_mem _ hy))
        obtain ⟨r, _, hr⟩ := h z List.mem_cons_self
        show (Is K (kOf H z)).p z H
        rw [hr.k]
        obtain ⟨t, rfl, ht⟩ := hr
        exact ⟨t, _, rfl, .inl (.inl ht), .cons rfl (.cons rfl .nil)⟩
    exact this ys row
theorem IsRow.up {H H' : Hp} {v : V} {r : Int × Int} (h : IsRow H v r) (e : ∀ t xs, H t = some (.tup xs) → H' t = some (.tup xs)) : IsRow H' v r := by
  obtain ⟨t, rfl, h⟩ := h
  exact ⟨t, rfl, e _ _ h⟩
theorem rows_all {H : Hp} {ws : List V} {rows : List (Int × Int)} (h : Paired (IsRow H) ws rows) : AllP ws (rows.map (Is K)) H := by
  induction h with
  | nil => exact .nil
  | cons r t ih =>
    obtain ⟨t0, rfl, ht⟩ := r
    exact .cons ⟨t0, _, rfl, .inl (.inl ht), .cons rfl (.cons rfl .nil)⟩ ih
theorem Bx.tup {a : Addr} {n : Nat} {H : Hp} (h : Bx a n H) {t : Addr} {xs : List V} (ht : H t = some (.tup xs)) : t ≠ a := fun z => by
  obtain ⟨i, j, k, h1, _⟩ := h
  rw [z, h1] at ht
  cases ht
theorem Bx.up {a : Addr} {n : Nat} {H H' : Hp} (h : Bx a n H) (e : Ex (cu a H) (cu a H')) : ∀ t xs, H t = some (.tup xs) → H' t = some (.tup xs) := fun t xs ht =>
  (cu_some (e t _ ((cu_ne (h.tup ht)).trans ht))).2
structure LoaI (a lr : Addr) (fu : Nat) (B : Hp) (σ : L2.St) (H : Hp) (w h : Int) (ws : List V) (rows : List (Int × Int)) : Prop where
  len : σ.length = 11
  y0 : σ[0]? = some (some (.ref a))
  y2 : σ[2]? = some (some (.int 14))
  y4 : σ[4]? = some (some (.int w))
  w0 : 0 ≤ w
  w3 : w ≤ 3
  y5 : σ[5]? = some (some (.ref lr))
  y6 : σ[6]? = some (some (.int h))
  h0 : 0 ≤ h
  h1 : h ≤ 14
  bx : Bx a fu H
  ex : Ex B (cu a H)
  hl : H lr = some (.lst ws)
  pr : Paired (IsRow H) ws rows
  ok : ∀ r, r ∈ rows → RowOk r
theorem LoaI.sat {a lr : Addr} {fu : Nat} {B : Hp} {σ : L2.St} {H : Hp} {w h : Int} {ws : List V} {rows : List (Int × Int)} (i : LoaI a lr fu B σ H w h ws rows) (nra : lr ≠ a) : Sat [some (Eq1 (.ref a)), none, some (Is K (14 : Int)), none, some (Rg 0 3), some (Is K rows), some (Rg 0 14), none, none, none, none] σ (cu a H) :=
  (((((sat_no (n := 11) i.len).know (i := 0) (P := Eq1 (.ref a)) i.y0 rfl).know (i := 2) (P := Is K (14 : Int)) i.y2 rfl).know (i := 4) (P := Rg 0 3) i.y4 ⟨w, rfl, i.w0, i.w3⟩).know (i := 5) (P := Is K rows) i.y5 ⟨lr, ws, rfl, .inl (.inl ((cu_ne nra).trans i.hl)), AllP.kt (rows_all i.pr) (fun P hP => by
    obtain ⟨r, _, rfl⟩ := List.mem_map.mp hP
    exact RepT.rt r) i.bx.kt⟩).know (i := 6) (P := Rg 0 14) i.y6 ⟨h, rfl, i.h0, i.h1⟩
abbrev EndP (K : PySem.W.Frag) : SP := Ssm (fun Es : List SP => Es ≠ [] ∧ Es.length ≤ 1000 ∧ ∀ E, E ∈ Es → ∀ v H, E.p v H → (Rg 0 21).p v H) (fun Es => LsP K Es)
theorem eb_ofL {a : Addr} {n m : Nat} {ta : TA} {Γ : Gm} {E : XK} (Ps : List SP) (h : EvBA a n (m + 1) ta Γ [Eq1 (.ref a), LsP K Ps]) (h1 : Ps ≠ []) (h2 : Ps.length ≤ 1000) : EvB a n m (fun σ H Q => ta σ H fun vs H1 => spBx 1 (fun Ps : List SP => Ps ≠ [] ∧ Ps.length ≤ 1000) (fun Ps => [LsP K Ps]) OneP vs H1 Q E) Γ (OneP Ps) := eb_call Ps h ⟨h1, h2⟩
theorem go_b {a : Addr} {n m : Nat} {t : TE} {Γ : Gm} {P : SP} {σ : L2.St} {H : Hp} {Q : VK} (s : Sat Γ σ (cu a H)) (b : Bx a n H) (h : EvB a n m t Γ P) (k : ∀ v H', Ex (cu a H) (cu a H') → Bx a m H' → P.p v (cu a H') → Q v H') : t σ H Q := h σ H Q s b k
theorem go_ba {a : Addr} {n m : Nat} {t : TA} {Γ : Gm} {Ps : List SP} {σ : L2.St} {H : Hp} {Q : List V → Hp → Prop} (s : Sat Γ σ (cu a H)) (b : Bx a n H) (h : EvBA a n m t Γ Ps) (k : ∀ vs H', Ex (cu a H) (cu a H') → Bx a m H' → AllP vs Ps (cu a H') → Q vs H') : t σ H Q := h σ H Q s b k
theorem eb_min2 {a : Addr} {n m p : Nat} {Γ : Gm} {t1 t2 : TE} {l1 h1 l2 h2 l : Int} (x : EvB a n m t1 Γ (Rg l1 h1)) (y : EvB a m p t2 Γ (Rg l2 h2)) (e1 : l ≤ l1) (e2 : l ≤ l2) : EvB a n p (tCB (fun xs H Q => ∃ i j, xs = [.int i, .int j] ∧ Q (.int (if j < i then j else i)) H) (tCons t1 (tCons t2 tNil))) Γ (Rg l h1) := fun σ H Q s b q =>
  x σ H _ s b fun v H1 e1 b1 ⟨i, hi, i1, i2⟩ => y σ H1 _ (s.mono e1) b1 fun w H2 e2 b2 ⟨j, hj, j1, j2⟩ => by
    subst hi hj
    refine ⟨i, j, rfl, q _ H2 (e1.trans e2) b2 ⟨_, rfl, ?_, ?_⟩⟩
    · split <;> omega
    · split <;> omega
theorem et_yes' {Γ : Gm} : EvT tYes Γ true := et_yes
theorem eb_ends {a : Addr} {n : Nat} {rows : List (Int × Int)} (hok : ∀ r, r ∈ rows → RowOk r) (hl : rows.length ≤ 1000) : EvB a n n (tOrT K (tLc (iList K (tVar 5)) (gName 10) tYes (tOp (rIxT K) (tVar 10) (tC (.int 1))) [10]) (tLst (tCons (tVar 6) tNil))) [some (Eq1 (.ref a)), none, some (Is K (14 : Int)), none, some (Rg 0 3), some (Is K rows), some (Rg 0 14), none, none, none, none] (EndP K) := fun σ H Q s b q => by
  show tOrT K (tLc _ _ _ _ _) _ σ H Q
  show tLc _ _ _ _ _ σ H _
  refine eg_lcX (xs := rows) (F := Is K) (f := fun _ => true) (Rf := fun r => Is K r.2) (ew_list (eg_var (i := 5) (P := Is K rows) rfl)) (fun r => RepT.rt r.2) (fun r hr => tg_name) (fun r hr => et_yes) (fun r hr _ => eg_snd (x := r) (eg_var rfl)) (by omega) σ H _ (s.mono cu_ex) fun le acc H6 e6 nle hle hacc => ?_
  have ne := b.ne nle
  rw [List.filter_eq_self.mpr fun _ _ => rfl] at hacc
  refine ⟨!acc.isEmpty, .inl ⟨acc, .inl (.inl hle), rfl⟩, ?_⟩
  cases acc with
  | cons x acc =>
    refine q _ H6 (ex_cu e6) (b.mono e6) ⟨rows.map fun r => Is K r.2, ⟨fun z => ?_, by rw [List.length_map]; exact hl, fun E hE v H hv => ?_⟩, le, _, rfl, .inl (.inl ((cu_ne ne).trans hle)), AllP.kt hacc (fun P hP => ?_) (b.mono e6).kt⟩
    · rw [z] at hacc
      cases hacc
    · obtain ⟨r, hr, rfl⟩ := List.mem_map.mp hE
      obtain ⟨r0, r1, r2⟩ := hok r hr
      exact ⟨r.2, hv, by omega, r2⟩
    · obtain ⟨r, _, rfl⟩ := List.mem_map.mp hP
      exact RepT.rt r.2
  | nil =>
    refine (eb_lst (K := K) (eab_cons (eb_var (i := 6) (P := Rg 0 14) rfl) eab_nil) : EvB a n n _ [some (Eq1 (.ref a)), none, some (Is K (14 : Int)), none, some (Rg 0 3), some (Is K rows), some (Rg 0 14), none, none, none, none] _) σ H6 Q (s.mono (ex_cu e6)) (b.mono e6) fun v H7 e7 b7 p7 => q v H7 ((ex_cu e6).trans e7) b7 ⟨[Rg 0 14], ⟨by simp, by simp, fun E hE v H hv => ?_⟩, p7⟩
    rw [List.mem_singleton.mp hE] at hv
    exact rg_le (by decide) (by decide) v H hv
set_option maxHeartbeats 4000000 in
theorem ok__law_loans (T : Tx K mg) : FnR prog w K mg base CX0 3 (He.ga K "_law_loans") (spBx 100 (fun _ : Unit => True) (fun _ => [Rg 1 10, Is K (14 : Int)]) (fun _ => LoaP K)) := by
  obtain ⟨fdO, FO⟩ := T.d__law_loans
  refine fn_any FO sc__law_loans (fun _ _ _ _ _ _ us hl => match us, hl with | [_, _, _], _ => rfl) ?_ fun cdv A outer s H vs Q E hr hsp => ⟨_, PSs.nox (pss_cons (ps_par3 (i := 4) (j := 5) (l := 6) rfl sc__law_loans.nd rfl rfl rfl (by decide) (by decide) (by decide) rfl rfl rfl (pa_cons (pe_callR (E := E0) (ok__law_take T) (hr.mono (by first | decide | exact Nat.le_refl _)) (by rfl) T.g__law_take T.k__law_take pass0 (pa_cons (pv 0) (pa_cons pe_int pa_nil))) (pa_cons (pe_lst pa_nil) (pa_cons (pe_callR (E := E0) (ok__law_take T) (hr.mono (by first | decide | exact Nat.le_refl _)) (by rfl) T.g__law_take T.k__law_take pass0 (pa_cons (pv 0) (pa_cons pe_int pa_nil))) pa_nil))) (by rfl))
    (pss_cons (ps_for PassesOwn.never rfl (pi_range1 (by rfl) T.f_range (pa_cons (pv 1) pa_nil)) (pg_name (i := 3) sc__law_loans.nd rfl (Or.inl rfl)) (pss_cons (ps_par (i := 8) (j := 9) rfl sc__law_loans.nd rfl rfl (by decide) rfl rfl (pa_cons (pe_op op_add pe_int (pe_callR (E := E0) (ok__law_of T) (hr.mono (by first | decide | exact Nat.le_refl _)) (by rfl) T.g__law_of T.k__law_of pass0 (pa_cons (pv 0) (pa_cons (pe_lst (pa_cons pe_int (pa_cons pe_int (pa_cons pe_int (pa_cons pe_int (pa_cons pe_int (pa_cons pe_int (pa_cons pe_int pa_nil)))))))) pa_nil)))) (pa_cons (pe_orT (pe_lc (own := [("_law_row", 10)]) (g := gName 10) (tt := _) rfl sc__law_loans.nd (pi_listK (K := K) (pv 5)) (blkOk_by (own := [("_law_row", 10)]) (N := n__law_loans) (sc := defScope s__law_loans) (by decide +kernel)) (fun _ _ _ _ _ => (pg_name (i := 10) sc__law_loans.nd rfl (by first | exact Or.inl rfl | exact Or.inr rfl))) (fun _ _ _ _ _ => pts_nil) (fun _ _ _ _ _ => (pe_ix (ix_tupK (K := K)) (pv 10) pe_int (fun _ _ => rfl)))) (pe_one (pe_lst (pa_cons (pv 6) pa_nil)))) pa_nil)) (by rfl))
    (pss_cons (ps_set (i := 7) sc__law_loans.nd rfl (Or.inl rfl) (pe_ix (ix_listK (K := K)) (pe_lst (pa_cons (pe_callR (E := E0) (ok__law_take T) (hr.mono (by first | decide | exact Nat.le_refl _)) (by rfl) T.g__law_take T.k__law_take pass0 (pa_cons (pv 0) (pa_cons (pv 2) pa_nil))) (pa_cons (pv 6) (pa_cons (pe_callR (E := E0) (ok__law_of T) (hr.mono (by first | decide | exact Nat.le_refl _)) (by rfl) T.g__law_of T.k__law_of pass0 (pa_cons (pv 0) (pa_cons (pv 9) pa_nil))) (pa_cons (pe_op op_add (pv 6) (pe_callR (E := E0) (ok__law_take T) (hr.mono (by first | decide | exact Nat.le_refl _)) (by rfl) T.g__law_take T.k__law_take pass0 (pa_cons (pv 0) (pa_cons pe_int pa_nil)))) pa_nil))))) (pv 4) (fun _ _ => rfl)))
    (pss_cons (ps_expr (pe_bm PySem.F.plainAttrs_list PySem.F.slot_list_append PySem.F.type_list_append mt_append (pv 5) (pa_cons (pe_tup (pa_cons (pe_callB (call_min2 rfl) (by rfl) T.f_min (by decide +kernel) (pa_cons (pv 7) (pa_cons (pv 2) pa_nil))) (pa_cons (pe_op op_add (pe_callB (call_min2 rfl) (by rfl) T.f_min (by decide +kernel) (pa_cons (pv 7) (pa_cons (pv 2) pa_nil))) (pv 8)) pa_nil))) pa_nil)))
    (pss_one (ps_set (i := 6) sc__law_loans.nd rfl (Or.inl rfl) (pe_callB (call_min2 rfl) (by rfl) T.f_min (by decide +kernel) (pa_cons (pv 2) (pa_cons (pe_op op_add (pv 6) (pe_ix (ix_listK (K := K)) (pe_lst (pa_cons pe_int (pa_cons (pe_callR (E := E0) (ok__law_of T) (hr.mono (by first | decide | exact Nat.le_refl _)) (by rfl) T.g__law_of T.k__law_of pass0 (pa_cons (pv 0) (pa_cons (pe_lst (pa_cons pe_int (pa_cons pe_int (pa_cons pe_int (pa_cons pe_int (pa_cons pe_int pa_nil)))))) pa_nil))) (pa_cons pe_int (pa_cons (pe_op op_add pe_int (pe_callR (E := E0) (ok__law_take T) (hr.mono (by first | decide | exact Nat.le_refl _)) (by rfl) T.g__law_take T.k__law_take pass0 (pa_cons (pv 0) (pa_cons pe_int pa_nil)))) pa_nil))))) (pv 4) (fun _ _ => rfl))) pa_nil)))))))))
    (pss_one (ps_ret (pe_callTy call_tuple_of (by rfl) T.f_tuple (by decide +kernel) (pa_cons (pe_callB cr_sortedPO (by rfl) T.f_sorted (by decide +kernel) (pa_cons (pv 5) pa_nil)) pa_nil)))))), ?_⟩
  · exact lenBx fun _ => rfl
  refine runBx hsp rfl fun _ a f _ => ?_
  clear hsp
  intro D σ H s b hr
  have yl : σ.length = 11 := s.len
  obtain ⟨v0, y0, p0⟩ := s.at' 0 (Eq1 (.ref a)) rfl
  obtain rfl : v0 = .ref a := p0
  obtain ⟨v1, y1, size, rfl, hs1, hs2⟩ := s.at' 1 (Rg 1 10) rfl
  obtain ⟨v2, y2, p2⟩ := s.at' 2 (Is K (14 : Int)) rfl
  obtain rfl : v2 = .int 14 := p2
  refine h_seq ?_
  have b' : Bx a (f + 99 + 1) H := b
  refine (eb_call (4 : Int) (eab_cons (eb_var rfl) (eab_cons (eb_of (eg_int (K := K)) rt_eq) eab_nil)) (by decide)) σ H _ s b' fun v4 H1 e1 b1 p4 => ?_
  refine ⟨Nat.zero_le _, fun lr hlr => ?_⟩
  have nra := b1.ne hlr
  have e2 := ex_cu (a := a) (Ex.new (o := .lst []) hlr)
  have b1' : Bx a (f + 98 + 1) (upd H1 lr (.lst [])) := b1.mono (Ex.new hlr)
  refine (eb_call (3 : Int) (eab_cons (eb_var rfl) (eab_cons (eb_of (eg_int (K := K)) rt_eq) eab_nil)) (by decide)) σ _ _ ((s.mono e1).mono e2) b1' fun v6 H2 e3 b2 p6 => ?_
  refine ⟨_, _, _, rfl, ?_⟩
  have hlr2 : H2 lr = some (.lst []) := (cu_some (e3 lr _ (by rw [cu_ne nra]; exact upd_same))).2
  have eH := (e1.trans e2).trans e3
  have nB : cu a H lr = none := fresh_back e1 (by rw [cu_ne nra]; exact hlr)
  obtain ⟨w4, rfl, w40, w41⟩ := p4
  obtain ⟨w6, rfl, w60, w61⟩ := p6
  obtain ⟨nn, rfl⟩ := Int.eq_ofNat_of_zero_le (show 0 ≤ size by omega)
  have yl' : (((σ.set 4 (some (.int w4))).set 5 (some (.ref lr))).set 6 (some (.int w6))).length = 11 := by simp [yl]
  have z0 : (((σ.set 4 (some (.int w4))).set 5 (some (.ref lr))).set 6 (some (.int w6)))[0]? = some (some (.ref a)) := by rw [List.getElem?_set_ne (by decide), List.getElem?_set_ne (by decide), List.getElem?_set_ne (by decide)]; exact y0
  have z1 : (((σ.set 4 (some (.int w4))).set 5 (some (.ref lr))).set 6 (some (.int w6)))[1]? = some (some (.int (nn : Int))) := by rw [List.getElem?_set_ne (by decide), List.getElem?_set_ne (by decide), List.getElem?_set_ne (by decide)]; exact y1
  have z2 : (((σ.set 4 (some (.int w4))).set 5 (some (.ref lr))).set 6 (some (.int w6)))[2]? = some (some (.int 14)) := by rw [List.getElem?_set_ne (by decide), List.getElem?_set_ne (by decide), List.getElem?_set_ne (by decide)]; exact y2
  have z4 : (((σ.set 4 (some (.int w4))).set 5 (some (.ref lr))).set 6 (some (.int w6)))[4]? = some (some (.int w4)) := by rw [List.getElem?_set_ne (by decide), List.getElem?_set_ne (by decide)]; exact List.getElem?_set_self (by rw [yl]; decide)
  have z5 : (((σ.set 4 (some (.int w4))).set 5 (some (.ref lr))).set 6 (some (.int w6)))[5]? = some (some (.ref lr)) := by rw [List.getElem?_set_ne (by decide)]; exact List.getElem?_set_self (by simp [yl])
  have z6 : (((σ.set 4 (some (.int w4))).set 5 (some (.ref lr))).set 6 (some (.int w6)))[6]? = some (some (.int w6)) := List.getElem?_set_self (by simp [yl])
  dsimp only
  generalize ((σ.set 4 (some (.int w4))).set 5 (some (.ref lr))).set 6 (some (.int w6)) = σ1 at yl' z0 z1 z2 z4 z5 z6 ⊢
  have i0 : LoaI a lr (f + 98) (cu a H) σ1 H2 w4 w6 [] [] := ⟨yl', z0, z2, z4, w40, w41, z5, z6, w60, by omega, b2, eH, hlr2, .nil, fun r h => by cases h⟩
  refine h_seq (h_forR (K := K) (n := nn) (Γ := [none, some (Is K nn), none, none, none, none, none, none, none, none, none]) (ea_cons (eg_var (i := 1) rfl) ea_nil) (by omega) ((sat_no (n := 11) yl').know (i := 1) (P := Is K nn) z1 rfl) fun H3 e4 => ?_)
  refine ⟨fun t σ' H' => ∃ w h ws rows, LoaI a lr (f + 6 * (10 - t)) (cu a H) σ' H' w h ws rows ∧ rows.length = t, ⟨w4, w6, [], [], ⟨yl', z0, z2, z4, w40, w41, z5, z6, w60, by omega, (b2.mono e4).le (by omega), eH.trans (ex_cu e4), e4 _ _ hlr2, .nil, fun r h => by cases h⟩, rfl⟩, fun t σ2 H4 D' ht ⟨w, h, ws, rows, iv, hrl⟩ hnx hrt => ?_, fun σ2 H4 ⟨w, h, ws, rows, iv, hrl⟩ => ?_⟩
  · show tSeq (tPar _ _ _) _ D' (σ2.set 3 (some (.int (t : Int)))) H4
    have iv : LoaI a lr (f + 6 * (10 - (t + 1)) + 6) (cu a H) (σ2.set 3 (some (.int (t : Int)))) H4 w h ws rows := ⟨by rw [List.length_set]; exact iv.len, by rw [List.getElem?_set_ne (by decide)]; exact iv.y0, by rw [List.getElem?_set_ne (by decide)]; exact iv.y2, by rw [List.getElem?_set_ne (by decide)]; exact iv.y4, iv.w0, iv.w3, by rw [List.getElem?_set_ne (by decide)]; exact iv.y5, by rw [List.getElem?_set_ne (by decide)]; exact iv.y6, iv.h0, iv.h1, iv.bx.le (by omega), iv.ex, iv.hl, iv.pr, iv.ok⟩
    have hnx' : ∀ σ H' w h ws rows, LoaI a lr (f + 6 * (10 - (t + 1))) (cu a H) σ H' w h ws rows → rows.length = t + 1 → Ends.nx D' σ H' := fun σ H w h ws rows i e => hnx σ H ⟨w, h, ws, rows, i, e⟩
    clear hnx
    generalize f + 6 * (10 - (t + 1)) = fu at iv hnx'
    generalize σ2.set 3 (some (.int (t : Int))) = σ3 at iv ⊢
    have s3 := iv.sat (K := K) nra
    have bx3 := iv.bx
    have bx3' : Bx a (fu + 5 + 1) H4 := bx3
    refine h_seq ?_
    show tCons _ _ σ3 H4 _
    refine go_ba (m := fu + 5) (Ps := [Rg 1 7, EndP K]) s3 bx3' ?_ fun vs H7 e7 b7 p78 => ?_
    · refine eab_cons (m := fu + 5) (eb_add (l1 := 1) (h1 := 1) (l2 := 0) (h2 := 6) eb_c ?_) (eab_cons (eb_ends iv.ok (by omega)) eab_nil)
      refine EvB.weak (eb_ofL (K := K) (([0, 0, 1, 1, 2, 3, 6] : List Int).map fun i => Rg i i) ?_ (by simp) (by simp)) (oneP_rg (cs_rg (lo := 0) (hi := 6) (by decide)))
      exact eab_cons (eb_var rfl) (eab_cons (eb_lst (eab_cons eb_c (eab_cons eb_c (eab_cons eb_c (eab_cons eb_c (eab_cons eb_c (eab_cons eb_c (eab_cons eb_c eab_nil)))))))) eab_nil)
    cases p78 with
    | cons p8 p9 =>
      cases p9 with
      | cons p9 p10 =>
        cases p10
        rename_i v8 v9
        obtain ⟨q8, rfl, q80, q81⟩ := p8
        obtain ⟨Es, ⟨es1, es2, es3⟩, p9⟩ := p9
        refine ⟨_, _, rfl, ?_⟩
        have s8 : Sat [some (Eq1 (.ref a)), none, some (Is K (14 : Int)), none, some (Rg 0 3), some (Is K rows), some (Rg 0 14), none, some (Rg 1 7), some (LsP K Es), none] ((σ3.set 8 (some (.int q8))).set 9 (some v9)) (cu a H7) := ((s3.mono e7).set (i := 8) (P := Rg 1 7) ⟨q8, rfl, q80, q81⟩).set (i := 9) p9
        have iv8 : LoaI a lr (fu + 5) (cu a H) ((σ3.set 8 (some (.int q8))).set 9 (some v9)) H7 w h ws rows := ⟨by rw [List.length_set, List.length_set]; exact iv.len, by rw [List.getElem?_set_ne (by decide), List.getElem?_set_ne (by decide)]; exact iv.y0, by rw [List.getElem?_set_ne (by decide), List.getElem?_set_ne (by decide)]; exact iv.y2, by rw [List.getElem?_set_ne (by decide), List.getElem?_set_ne (by decide)]; exact iv.y4, iv.w0, iv.w3, by rw [List.getElem?_set_ne (by decide), List.getElem?_set_ne (by decide)]; exact iv.y5, by rw [List.getElem?_set_ne (by decide), List.getElem?_set_ne (by decide)]; exact iv.y6, iv.h0, iv.h1, b7, iv.ex.trans e7, (cu_some (e7 lr _ ((cu_ne nra).trans iv.hl))).2, Paired.mapP iv.pr fun _ _ z => z.up (iv.bx.up e7), iv.ok⟩
        have y8 : ((σ3.set 8 (some (.int q8))).set 9 (some v9))[8]? = some (some (.int q8)) := by rw [List.getElem?_set_ne (by decide)]; exact List.getElem?_set_self (by rw [iv.len]; decide)
        dsimp only
        generalize (σ3.set 8 (some (.int q8))).set 9 (some v9) = σ4 at s8 iv8 y8 ⊢
        refine h_seq ?_
        have b8 : Bx a (fu + 2 + 3) H7 := b7
        show tOp _ _ _ σ4 H7 _
        refine go_b (P := Rg 0 21) (m := fu + 2) s8 b8 ?_ fun v7 H8 e8 b9 p7 => ?_
        · refine EvB.weak (eb_ixL (K := K) (m := fu + 2) (hi := 3) (Ps := [Rg 0 13, Rg 0 14, OneP Es, Rg (0 + 0) (14 + 2)]) (eb_lst (K := K) (eab_cons (m := fu + 4) ?_ (eab_cons (m := fu + 4) (eb_var rfl) (eab_cons (m := fu + 3) ?_ (eab_cons (m := fu + 2) (eb_add (m := fu + 3) (eb_var rfl) ?_) eab_nil))))) (eb_var rfl) (by show (3 : Int) < ((4 : Nat) : Int); decide)) (oneP_rg ?_)
          · exact eb_call (14 : Int) (eab_cons (eb_var rfl) (eab_cons (eb_var rfl) eab_nil)) (by decide)
          · exact eb_ofL (K := K) Es (eab_cons (eb_var rfl) (eab_cons (eb_var rfl) eab_nil)) es1 es2
          · exact eb_call (3 : Int) (eab_cons (eb_var rfl) (eab_cons (eb_of (eg_int (K := K)) rt_eq) eab_nil)) (by decide)
          · intro P hP v H hv
            rcases List.mem_cons.mp hP with e | hP
            · rw [e] at hv
              exact rg_le (by decide) (by decide) v H hv
            · rcases List.mem_cons.mp hP with e | hP
              · rw [e] at hv
                exact rg_le (by decide) (by decide) v H hv
              · rcases List.mem_cons.mp hP with e | hP
                · rw [e] at hv
                  obtain ⟨E, hE, hv⟩ := hv
                  exact es3 E hE v H hv
                · rw [List.mem_singleton.mp hP] at hv
                  exact rg_le (by decide) (by decide) v H hv
        · obtain ⟨q7, rfl, q70, q71⟩ := p7
          have iv9 : LoaI a lr (fu + 2) (cu a H) (σ4.set 7 (some (.int q7))) H8 w h ws rows := ⟨by rw [List.length_set]; exact iv8.len, by rw [List.getElem?_set_ne (by decide)]; exact iv8.y0, by rw [List.getElem?_set_ne (by decide)]; exact iv8.y2, by rw [List.getElem?_set_ne (by decide)]; exact iv8.y4, iv.w0, iv.w3, by rw [List.getElem?_set_ne (by decide)]; exact iv8.y5, by rw [List.getElem?_set_ne (by decide)]; exact iv8.y6, iv.h0, iv.h1, b9, iv8.ex.trans e8, (cu_some (e8 lr _ ((cu_ne nra).trans iv8.hl))).2, Paired.mapP iv8.pr fun _ _ z => z.up (iv8.bx.up e8), iv.ok⟩
          have y8' : (σ4.set 7 (some (.int q7)))[8]? = some (some (.int q8)) := by rw [List.getElem?_set_ne (by decide)]; exact y8
          have y7' : (σ4.set 7 (some (.int q7)))[7]? = some (some (.int q7)) := List.getElem?_set_self (by rw [iv8.len]; decide)
          show Ends.nx _ (σ4.set 7 (some (.int q7))) H8
          dsimp only
          generalize σ4.set 7 (some (.int q7)) = σ5 at iv9 y8' y7' ⊢
          refine h_seq (h_app (l := lr) (xs := ws) (i := 5) (Pr := fun v H => IsRow H v ((if 14 < q7 then 14 else q7), (if 14 < q7 then 14 else q7) + q8)) iv9.y5 iv9.hl (by have := iv9.pr.length; omega) (fun Q q => ⟨_, y7', _, iv9.y2, q7, 14, rfl, _, y7', _, iv9.y2, q7, 14, rfl, _, y8', _, q8, rfl, rfl, by show 2 ≤ sizeLine; decide, fun tt htt => q _ _ (Ex.new htt) ⟨tt, rfl, upd_same⟩⟩) fun v9 H9 e9 p9 => ?_)
          have hl9 := e9 _ _ iv9.hl
          have hr0 : RowOk ((if 14 < q7 then 14 else q7), (if 14 < q7 then 14 else q7) + q8) := ⟨by simp only; split <;> omega, by simp only; omega, by simp only; split <;> omega⟩
          generalize ((if 14 < q7 then 14 else q7), (if 14 < q7 then 14 else q7) + q8) = r at p9 hr0
          have b10 := iv9.bx.mono e9
          have up9 : ∀ tt xs, H9 tt = some (.tup xs) → (upd H9 lr (.lst (ws ++ [v9]))) tt = some (.tup xs) := fun tt xs htt => by
            rw [upd_ne fun z => by rw [z, hl9] at htt; cases htt]
            exact htt
          have bx10 : Bx a (fu + 2) (upd H9 lr (.lst (ws ++ [v9]))) := by
            obtain ⟨i, j, k, k1, k2⟩ := b10
            exact ⟨i, j, k, by rw [upd_ne (Ne.symm nra)]; exact k1, k2⟩
          have ex10 : Ex (cu a H) (cu a (upd H9 lr (.lst (ws ++ [v9])))) := fun b o ho => by
            have h1 := cu_some ho
            have hbl : b ≠ lr := fun z => by rw [z, nB] at ho; cases ho
            rw [show cu a (upd H9 lr (.lst (ws ++ [v9]))) b = upd H9 lr (.lst (ws ++ [v9])) b from cu_ne h1.1, upd_ne hbl]
            exact e9 _ _ (cu_some (iv9.ex b o ho)).2
          have iv10 : LoaI a lr (fu + 2) (cu a H) σ5 (upd H9 lr (.lst (ws ++ [v9]))) w h (ws ++ [v9]) (rows ++ [r]) := ⟨iv9.len, iv9.y0, iv9.y2, iv9.y4, iv.w0, iv.w3, iv9.y5, iv9.y6, iv.h0, iv.h1, bx10, ex10, upd_same, Paired.app (Paired.mapP iv9.pr fun _ _ z => (z.up fun tt xs h => e9 _ _ h).up up9) (.cons (p9.up up9) .nil), fun r' hr' => by
            rcases List.mem_append.mp hr' with h | h
            · exact iv.ok r' h
            · rw [List.mem_singleton.mp h]; exact hr0⟩
          dsimp only
          generalize upd H9 lr (.lst (ws ++ [v9])) = H10 at iv10 ⊢
          have s10 := iv10.sat (K := K) nra
          have b10' : Bx a (fu + 1 + 1) H10 := iv10.bx
          show tCB _ _ σ5 H10 _
          refine go_b (P := Rg 0 14) (m := fu) s10 b10' ?_ fun v6 H11 e11 b11 p6 => ?_
          · refine eb_min2 (m := fu + 2) (l := 0) (l1 := 14) (h1 := 14) (l2 := 0 + 0) (h2 := 14 + 8) (EvB.weak (eb_var (P := Is K (14 : Int)) rfl) fun v H h => ⟨14, h, by decide, by decide⟩) (eb_add (m := fu + 2) (eb_var (P := Rg 0 14) rfl) (EvB.weak (eb_ixL (K := K) (m := fu) (hi := 3) (Ps := [Rg 0 0, Rg 0 5, Rg 0 0, Rg (1 + 0) (1 + 7)]) (eb_lst (K := K) (eab_cons (m := fu + 2) eb_c (eab_cons (m := fu + 1) (EvB.weak (eb_ofL (K := K) (([0, 0, 0, 2, 5] : List Int).map fun i => Rg i i) ?_ (by simp) (by simp)) (oneP_rg (cs_rg (by decide)))) (eab_cons (m := fu + 1) eb_c (eab_cons (m := fu) (eb_add (m := fu + 1) eb_c ?_) eab_nil))))) (eb_var (P := Rg 0 3) rfl) (by decide)) (oneP_rg ?_))) (by decide) (by decide)
            · exact eab_cons (eb_var rfl) (eab_cons (eb_lst (eab_cons eb_c (eab_cons eb_c (eab_cons eb_c (eab_cons eb_c (eab_cons eb_c eab_nil)))))) eab_nil)
            · exact eb_call (8 : Int) (eab_cons (eb_var rfl) (eab_cons (eb_of (eg_int (K := K)) rt_eq) eab_nil)) (by decide)
            · intro P hP v H hv
              rcases List.mem_cons.mp hP with e | hP
              · rw [e] at hv
                exact rg_le (by decide) (by decide) v H hv
              · rcases List.mem_cons.mp hP with e | hP
                · rw [e] at hv
                  exact rg_le (by decide) (by decide) v H hv
                · rcases List.mem_cons.mp hP with e | hP
                  · rw [e] at hv
                    exact rg_le (by decide) (by decide) v H hv
                  · rw [List.mem_singleton.mp hP] at hv
                    exact rg_le (by decide) (by decide) v H hv
          · obtain ⟨h', rfl, h'0, h'1⟩ := p6
            exact hnx' _ _ w h' (ws ++ [v9]) (rows ++ [r]) ⟨by rw [List.length_set]; exact iv10.len, by rw [List.getElem?_set_ne (by decide)]; exact iv10.y0, by rw [List.getElem?_set_ne (by decide)]; exact iv10.y2, by rw [List.getElem?_set_ne (by decide)]; exact iv10.y4, iv.w0, iv.w3, by rw [List.getElem?_set_ne (by decide)]; exact iv10.y5, List.getElem?_set_self (by rw [iv10.len]; decide), h'0, h'1, b11, iv10.ex.trans e11, (cu_some (e11 lr _ ((cu_ne nra).trans iv10.hl))).2, Paired.mapP iv10.pr fun _ _ z => z.up (iv10.bx.up e11), iv10.ok⟩ (by rw [List.length_append, hrl]; rfl)
  · refine ⟨_, iv.y5, lr, ws, kOf H4, rfl, .inl (.inl iv.hl), fun x hx => ?_, fun ys p hso hst hp => ?_⟩
    · have : ∀ {ws : List V} {rows : List (Int × Int)}, Paired (IsRow H4) ws rows → x ∈ ws → ∃ r, IsRow H4 x r := fun {ws rows} h => by
        induction h with
        | nil => intro h; cases h
        | cons r t ih =>
          intro hm
          rcases List.mem_cons.mp hm with e | hm
          · exact ⟨_, by rw [e]; exact r⟩
          · exact ih hm
      obtain ⟨r, hr⟩ := this iv.pr hx
      rw [hr.k]
      exact hr
    · obtain ⟨hpl, hlen, hall⟩ := rows_pl iv.pr iv.ok (by omega) hst.perm hso
      refine ⟨p, ys, rfl, .inl ⟨.inl (.inl upd_same), fun l hl => ?_⟩⟩
      have e5 := (Ex.new (o := .lst ys) hp).trans (Ex.new (o := .tup ys) hl)
      have b5 := (iv.bx.le (m := f) (by omega)).mono e5
      refine hr _ _ (iv.ex.trans (ex_cu e5)) b5 ⟨ys.map (kOf H4), ⟨hpl, hlen⟩, l, ys, rfl, .inl (.inl ((cu_ne ((iv.bx.mono (Ex.new hp)).ne hl)).trans upd_same)), AllP.kt (hall.mono e5) (fun P hP => ?_) b5.kt⟩
      obtain ⟨r, _, rfl⟩ := List.mem_map.mp hP
      exact RepT.rt r
end
end Lp

/-! part LpDraw2 -/
set_option Elab.async false
set_option linter.all false
set_option maxRecDepth 100000

namespace Lp
open PySem PySem.Spec PyProof.Rows L2
open Evl (Ex ex_l ex_t ex_rd fresh_back)
section
variable {prog : Program} {w : World} {K : PySem.W.Frag} {mg : Str → Option Value} {base : Heap}
theorem ok__law_line (T : Tx K mg) : FnR prog w K mg base CX0 4 (He.ga K "_law_line") (spBx 101 (fun _ : Unit => True) (fun _ => [Is K (10 : Int), Is K (14 : Int)]) (fun _ => LoaP K)) := by
  obtain ⟨fdO, FO⟩ := T.d__law_line
  refine fn_any FO sc__law_line (fun _ _ _ _ _ _ us hl => match us, hl with | [_, _, _], _ => rfl) ?_ fun cdv A outer s H vs Q E hr hsp => ⟨_, PSs.nox (pss_one (ps_ret (pe_callR (E := E0) (ok__law_loans T) (hr.mono (by first | decide | exact Nat.le_refl _)) (by rfl) T.g__law_loans T.k__law_loans pass0 (pa_cons (pv 0) (pa_cons (pe_op op_add pe_int (pe_callR (E := E0) (ok__law_take T) (hr.mono (by first | decide | exact Nat.le_refl _)) (by rfl) T.g__law_take T.k__law_take pass0 (pa_cons (pv 0) (pa_cons (pv 1) pa_nil)))) (pa_cons (pv 2) pa_nil)))))), ?_⟩
  · exact lenBx fun _ => rfl
  refine runBx hsp rfl fun _ a f _ => ?_
  refine sb_ret (eb_call () (eab_cons (eb_var rfl) (eab_cons (m := f + 100) ?_ (eab_cons (eb_var rfl) eab_nil))) trivial)
  refine EvB.weak (eb_add (l1 := 1) (h1 := 1) (l2 := 0) (h2 := 9) eb_c ?_) (rg_le (by decide) (by decide))
  exact eb_call (10 : Int) (eab_cons (eb_var rfl) (eab_cons (eb_var rfl) eab_nil)) (by decide)
theorem cu_updne {a l : Addr} {H : Hp} {o : HO} (h : l ≠ a) : cu a (upd H l o) = upd (cu a H) l o := by
  funext b
  by_cases hb : b = a
  · rw [hb, cu_in, upd_ne (Ne.symm h), cu_in]
  · by_cases hl : b = l
    · rw [hl, cu_ne h, upd_same, upd_same]
    · rw [cu_ne hb, upd_ne hl, upd_ne hl, cu_ne hb]
theorem Bx.updne {a l : Addr} {n : Nat} {H : Hp} {o : HO} (h : Bx a n H) (ne : l ≠ a) : Bx a n (upd H l o) := by
  obtain ⟨i, j, k, k1, k2⟩ := h
  exact ⟨i, j, k, by rw [upd_ne (Ne.symm ne)]; exact k1, k2⟩
/-- a list, its cell as it is -/
def LsD (Ps : List SP) : SP := ⟨fun v H => ∃ l vs, v = .ref l ∧ H l = some (.lst vs) ∧ AllP vs Ps H, fun e ⟨l, vs, h1, h2, h3⟩ => ⟨l, vs, h1, e _ _ h2, h3.mono e⟩⟩
theorem lsd_p {Ps : List SP} : ∀ v H, (LsD Ps).p v H → (LsP K Ps).p v H := fun v H ⟨l, vs, h1, h2, h3⟩ => ⟨l, vs, h1, .inl (.inl h2), h3⟩
/-- a list of as many -/
abbrev SoMany (K : PySem.W.Frag) (N : Nat) (P : SP) : SP := Ssm (fun k : Nat => k ≤ N) (fun k => LsD (List.replicate k P))
theorem eb_lcR {a : Addr} {n p c N i : Nat} {Γ : Gm} {te1 te : TE} {P : SP} (h : EvB a n (p + c * N) te1 Γ (Rg 0 N)) (hr : RT P) (hN : N ≤ 1000) (hb : ∀ x, EvB a (x + c) x te ((wipeG Γ [i]).set i (some (Rg 0 N))) P) :
    EvB a n p (tLc (iRng1 (tCons te1 tNil)) (gName i) tYes te [i]) Γ (SoMany K N P) := fun σ H Q s b q => by
  show te1 σ H _
  refine go_b s b h fun v H1 e1 b1 ⟨z, hv, z0, z1⟩ => ?_
  subst hv
  obtain ⟨k, rfl⟩ := Int.eq_ofNat_of_zero_le z0
  have hk : k ≤ N := by omega
  have w : Walk (Itr 0 k) k (fun _ => True) (YFn fun i => .int (0 + (i : Int))) := walk_range
  refine ⟨(k : Int), rfl, by omega, by omega, fun D hD => ?_⟩
  have nD := b1.ne hD
  have nB : cu a H1 D = none := (cu_ne nD).trans hD
  have hpc : p + c * (k - 0) ≤ p + c * N := Nat.add_le_add_left (Nat.mul_le_mul_left c (by omega)) p
  show ∃ W : Nat → Nat → Hp → Prop, _ ∧ _
  refine lc_it w (fun t H' => Ex (cu a H1) (cu a H') ∧ Bx a (p + c * (k - t)) H' ∧ ∃ acc, H' D = some (.lst acc) ∧ acc.length = t ∧ AllP acc (List.replicate t P) (cu a H')) ⟨ex_cu (Ex.new hD), (b1.le hpc).mono (Ex.new hD), [], upd_same, rfl, .nil⟩ (fun _ _ _ _ => trivial) (fun t x Ha Hb ht ⟨g1, g2, acc, g3, g4, g5⟩ y => ?_) fun H' ⟨g1, g2, acc, g3, g4, g5⟩ => ?_
  · obtain ⟨y1, y2⟩ := y
    subst y1
    have hx : x = .int (t : Int) := by rw [y2]; show V.int (0 + (t : Int)) = _; rw [Int.zero_add]
    subst hx
    have wi : wipe ((wipe σ [i]).set i (some (V.int (t : Int)))) [i] = wipe σ [i] := (wipe_in List.mem_cons_self).trans wipe_idem
    refine ⟨wi, ?_⟩
    show te _ Hb _
    have e2 : p + c * (k - t) = p + c * (k - (t + 1)) + c := by
      rw [show k - t = (k - (t + 1)) + 1 by omega, Nat.mul_add, Nat.mul_one, Nat.add_assoc]
    rw [e2] at g2
    refine go_b (((s.mono (e1.trans g1)).wipe [i]).set (i := i) (P := Rg 0 N) (v := .int (t : Int)) ⟨_, rfl, by omega, by omega⟩) g2 (hb _) fun y H4 e4 b4 p4 => ?_
    have h4 := (cu_some (e4 D _ ((cu_ne nD).trans g3))).2
    refine ⟨acc, h4, Nat.lt_of_lt_of_le (show acc.length < 2000 by omega) (by decide), ?_, b4.updne nD, acc ++ [y], upd_same, by rw [List.length_append, g4]; rfl, ?_⟩
    · rw [cu_updne nD]
      exact Ex.mut (g1.trans e4) nB
    · rw [cu_updne nD, List.replicate_succ']
      refine AllP.kt ((g5.mono e4).append (.cons p4 .nil)) (fun P' hP => ?_) (kt_upd ((cu_ne nD).trans h4) rfl)
      rcases List.mem_append.mp hP with hP | hP
      · rw [List.eq_of_mem_replicate hP]; exact hr
      · rw [List.mem_singleton.mp hP]; exact hr
  · exact q _ H' (e1.trans g1) (g2.le (Nat.le_add_right _ _)) ⟨k, hk, D, acc, rfl, (cu_ne nD).trans g3, g5⟩
theorem EvB.lo {a : Addr} {n m m' : Nat} {Γ : Gm} {te : TE} {P : SP} (h : EvB a n m te Γ P) (l : m' ≤ m) : EvB a n m' te Γ P := fun σ H Q s b q => h σ H Q s b fun v H' e b' p => q v H' e (b'.le l) p
abbrev OptP (K : PySem.W.Frag) : SP := Ssm (fun _ : Option Int => True) (Is K)
abbrev FarP (K : PySem.W.Frag) : SP := Ssm (fun g : Option Int × List Int => g.2.length ≤ 1000) (fun g => Is K (g.1, Tp.mk g.2))
theorem all_rg {lo hi : Int} {H : Hp} : ∀ {k : Nat} {vs : List V}, AllP vs (List.replicate k (Rg lo hi)) H → ∃ ns : List Int, vs = ns.map V.int ∧ ns.length = k
  | 0, vs, h => by cases h; exact ⟨[], rfl, rfl⟩
  | k + 1, vs, h => by
    rw [List.replicate_succ] at h
    cases h with
    | cons r t =>
      obtain ⟨i, rfl, _⟩ := r
      obtain ⟨ns, rfl, hl⟩ := all_rg t
      exact ⟨i :: ns, rfl, by rw [List.length_cons, hl]⟩
abbrev IntsP (K : PySem.W.Frag) : SP := Ssm (fun ns : List Int => ns.length ≤ 1000) (fun ns => Is K (Tp.mk ns))
theorem eb_sset {a : Addr} {n N i : Nat} {lo hi : Int} {w : World} {Γ : Gm} (hv : Γ[i]? = some (some (SoMany K N (Rg lo hi)))) (hN : N < 60) : EvB a n n (tCB (fun xs H Q => ∃ p ys, xs = [V.ref p] ∧ ((SqL K H p ys ∧ ∀ l, H l = none → Q (.ref l) (upd H l (.tup ys))) ∨ (SqT K H p ys ∧ Q (.ref p) H))) (tCons (tCB (rSortedSet w) (tCons (tCB (rSetOfL K w) (tCons (tVar i) tNil)) tNil)) tNil)) Γ (IntsP K) := fun σ H Q s b q => by
  obtain ⟨v, h1, k, hk, l, vs, rfl, h2, h3⟩ := s.at' i _ hv
  obtain ⟨ns, rfl, hl⟩ := all_rg h3
  have h2' : SqL K H l (ns.map V.int) := by
    exact .inl (.inl (cu_some h2).2)
  refine ⟨_, h1, l, ns, rfl, h2', by omega, fun p c hp hc => ⟨p, _, c, rfl, upd_same, by omega, fun ns' p2 hpw hm hl2 hp2 => ⟨p2, _, rfl, .inl ⟨.inl (.inl upd_same), fun l3 hl3 => ?_⟩⟩⟩⟩
  have e3 := ((Ex.new (o := SetO w p (fun j => decide (j ∈ ns)) c) hp).trans (Ex.new (o := .lst (ns'.map V.int)) hp2)).trans (Ex.new (o := .tup (ns'.map V.int)) hl3)
  have b3 := b.mono e3
  refine q _ _ (ex_cu e3) b3 ⟨ns', by show ns'.length ≤ 1000; omega, l3, _, rfl, .inl (.inl ((cu_ne ?_).trans upd_same)), ints_all⟩
  exact (b.mono ((Ex.new (o := SetO w p (fun j => decide (j ∈ ns)) c) hp).trans (Ex.new (o := .lst (ns'.map V.int)) hp2))).ne hl3
theorem ok__law_far (T : Tx K mg) : FnR prog w K mg base CX0 3 (He.ga K "_law_far") (spBx 20 (fun _ : Unit => True) (fun _ => []) (fun _ => FarP K)) := by
  obtain ⟨fdO, FO⟩ := T.d__law_far
  refine fn_any FO sc__law_far (fun _ _ _ _ _ _ us hl => match us, hl with | [_], _ => rfl) ?_ fun cdv A outer s H vs Q E hr hsp => ⟨_, PSs.nox (pss_cons (ps_set (i := 1) sc__law_far.nd rfl (Or.inl rfl) (pe_callR (E := E0) (ok__law_of T) (hr.mono (by first | decide | exact Nat.le_refl _)) (by rfl) T.g__law_of T.k__law_of pass0 (pa_cons (pv 0) (pa_cons (pe_lst (pa_cons pe_non (pa_cons pe_non (pa_cons pe_int (pa_cons pe_int (pa_cons pe_int (pa_cons pe_int (pa_cons pe_int pa_nil)))))))) pa_nil))))
    (pss_cons (ps_setLc (i := 2) (own := [("_law_turn", 3)]) (g := gName 3) (tt := _) rfl sc__law_far.nd rfl rfl (sw_true rfl rfl rfl (by decide +kernel)) (pi_range1 (by rfl) T.f_range (pa_cons (pe_callR (E := E0) (ok__law_of T) (hr.mono (by first | decide | exact Nat.le_refl _)) (by rfl) T.g__law_of T.k__law_of pass0 (pa_cons (pv 0) (pa_cons (pe_lst (pa_cons pe_int (pa_cons pe_int (pa_cons pe_int (pa_cons pe_int (pa_cons pe_int pa_nil)))))) pa_nil))) pa_nil)) (blkOk_by (own := [("_law_turn", 3)]) (N := n__law_far) (sc := defScope s__law_far) (by decide +kernel)) (fun _ _ _ _ _ => (pg_name (i := 3) sc__law_far.nd rfl (by first | exact Or.inl rfl | exact Or.inr rfl))) (fun _ _ _ _ _ => pts_nil) (fun _ _ _ _ _ => (pe_callR (E := E0) (ok__law_take T) (hr.mono (by first | decide | exact Nat.le_refl _)) (by rfl) T.g__law_take T.k__law_take pass0 (pa_cons (pv 0) (pa_cons pe_int pa_nil)))))
    (pss_one (ps_ret (pe_tup (pa_cons (pv 1) (pa_cons (pe_callTy call_tuple_of (by rfl) T.f_tuple (by decide +kernel) (pa_cons (pe_callB (cr_sortedSet rfl) (by rfl) T.f_sorted (by decide +kernel) (pa_cons (pe_callTy (call_setL rfl) (by rfl) T.f_set (by decide +kernel) (pa_cons (pv 2) pa_nil)) pa_nil)) pa_nil)) pa_nil))))))), ?_⟩
  · exact lenBx fun _ => rfl
  refine runBx hsp rfl fun _ a f _ => ?_
  refine sb_set (m := f + 19) (P := OptP K) (EvB.weak (eb_ofL (K := K) [Is K (none : Option Int), Is K (none : Option Int), Rg 1 1, Rg 2 2, Rg 3 3, Rg 4 4, Rg 6 6] (eab_cons (eb_var rfl) (eab_cons (eb_lst (eab_cons (eb_of (eg_non (K := K)) rt_eq) (eab_cons (eb_of (eg_non (K := K)) rt_eq) (eab_cons eb_c (eab_cons eb_c (eab_cons eb_c (eab_cons eb_c (eab_cons eb_c eab_nil)))))))) eab_nil)) (by simp) (by simp)) ?_) ?_
  · rintro v H ⟨P, hP, hv⟩
    have go : ∀ {lo hi : Int}, (Rg lo hi).p v H → (OptP K).p v H := fun ⟨i, e, _⟩ => ⟨some i, trivial, e⟩
    rcases List.mem_cons.mp hP with e | hP
    · rw [e] at hv; exact ⟨none, trivial, hv⟩
    rcases List.mem_cons.mp hP with e | hP
    · rw [e] at hv; exact ⟨none, trivial, hv⟩
    rcases List.mem_cons.mp hP with e | hP
    · rw [e] at hv; exact go hv
    rcases List.mem_cons.mp hP with e | hP
    · rw [e] at hv; exact go hv
    rcases List.mem_cons.mp hP with e | hP
    · rw [e] at hv; exact go hv
    rcases List.mem_cons.mp hP with e | hP
    · rw [e] at hv; exact go hv
    rw [List.mem_singleton.mp hP] at hv; exact go hv
  refine sb_set (m := f + 14) (P := SoMany K 4 (Rg 0 23)) (EvB.weak (eb_lcR (K := K) (c := 1) (N := 4) (p := f + 14) (EvB.weak (eb_ofL (K := K) (([0, 0, 1, 2, 4] : List Int).map fun i => Rg i i) ?_ (by simp) (by simp)) (oneP_rg (cs_rg (by decide)))) rg_rt (by decide) fun x => ?_) fun _ _ h => h) ?_
  · exact eab_cons (eb_var rfl) (eab_cons (eb_lst (eab_cons eb_c (eab_cons eb_c (eab_cons eb_c (eab_cons eb_c (eab_cons eb_c eab_nil)))))) eab_nil)
  · exact eb_call (24 : Int) (eab_cons (eb_var rfl) (eab_cons (eb_of (eg_int (K := K)) rt_eq) eab_nil)) (by decide)
  · refine sb_ret (EvB.weak (P := TuP K [OptP K, IntsP K]) (EvB.lo (m := f + 14) (eb_tup (K := K) (eab_cons (eb_var rfl) (eab_cons (eb_sset (K := K) (i := 2) (N := 4) rfl (by decide)) eab_nil))) (by omega)) ?_)
    rintro v H ⟨t, vs, rfl, h1, h2⟩
    cases h2 with
    | cons r1 t1 =>
      cases t1 with
      | cons r2 t2 =>
        cases t2
        obtain ⟨o, _, ho⟩ := r1
        obtain ⟨ns, hn, hs⟩ := r2
        exact ⟨(o, ns), hn, t, _, rfl, h1, .cons ho (.cons hs .nil)⟩
end
end Lp

/-! part LpDraw3 -/
set_option Elab.async false
set_option linter.all false
set_option maxRecDepth 100000

namespace Lp
open PySem PySem.Spec PyProof.Rows L2
open Evl (Ex ex_l ex_t ex_rd fresh_back)
section
variable {prog : Program} {w : World} {K : PySem.W.Frag} {mg : Str → Option Value} {base : Heap}
def vO : Option Nat → V
  | none => .non
  | some n => .int (n : Int)
theorem is_opt {o : Option Nat} {v : V} {H : Hp} (h : (Is K o).p v H) : v = vO o := by
  cases o with
  | none => exact h
  | some n => exact h
theorem opt_is {o : Option Nat} {H : Hp} : (Is K o).p (vO o) H := by
  cases o with
  | none => rfl
  | some n => rfl
theorem all_opt {vs : List V} {H : Hp} : ∀ {os : List (Option Nat)}, AllP vs (os.map (Is K)) H → vs = os.map vO
  | [], h => by cases h; rfl
  | o :: os, h => by
    cases h with
    | cons r t => rw [is_opt r, all_opt t]; rfl
theorem opt_all {H : Hp} : ∀ {os : List (Option Nat)}, AllP (os.map vO) (os.map (Is K)) H
  | [] => .nil
  | o :: os => .cons opt_is opt_all
theorem eg_ninO {Γ : Gm} {tx ty : TE} {g : Nat} {zs : List (Option Nat)} (ha : EvG tx Γ (Is K g)) (hb : EvG ty Γ (Is K zs)) : EvG (tOp (rIn K true) tx ty) Γ (Is K (!decide (some g ∈ zs))) := fun σ H Q s q =>
  ha.two hb s fun v u H2 e p1 p2 => by
    obtain rfl : v = .int (g : Int) := p1
    obtain ⟨b, us, rfl, h4, h5⟩ := p2
    have e2 := all_opt h5
    subst e2
    refine ⟨b, _, rfl, .inl h4, rfl, ?_, q _ H2 e ?_⟩
    · rw [List.all_map]
      exact List.all_eq_true.mpr fun o _ => by cases o <;> rfl
    · have : inV (.int (g : Int)) (zs.map vO) = decide (some g ∈ zs) := by
        unfold inV
        rw [List.any_map]
        have e3 : ((fun y => eqV y (V.int (g : Int))) ∘ vO) = fun o => decide (o = some g) := by
          funext o
          cases o with
          | none => rfl
          | some n =>
            show ((n : Int) == (g : Int)) = _
            rw [Bool.beq_eq_decide_eq]
            exact decide_eq_decide.mpr ⟨fun h => by rw [Int.ofNat_inj.mp h], fun h => by injection h with h; rw [h]⟩
        rw [e3]
        cases h : decide (some g ∈ zs) with
        | true => exact List.any_eq_true.mpr ⟨some g, of_decide_eq_true h, decide_eq_true rfl⟩
        | false =>
          cases h2 : zs.any fun o => decide (o = some g) with
          | false => rfl
          | true =>
            obtain ⟨n, hn, e⟩ := List.any_eq_true.mp h2
            have := of_decide_eq_true e
            subst this
            exact absurd hn (of_decide_eq_false h)
      show (Is K _).p (V.bl (!inV (.int (g : Int)) (zs.map vO))) H2
      rw [this]
      rfl
theorem eb_lstD {a : Addr} {n m : Nat} {Γ : Gm} {ta : TA} {Ps : List SP} (h : EvBA a n m ta Γ Ps) (hl : Ps.length ≤ 100000 := by exact Nat.le_of_ble_eq_true rfl) : EvB a n m (tLst ta) Γ (LsD Ps) := fun σ H Q s b q =>
  h σ H _ s b fun vs H1 e1 b1 p1 => ⟨by rw [p1.len]; exact Evl.sz_of hl, fun x hx => q _ _ (e1.trans (ex_cu (Ex.new hx))) (b1.mono (Ex.new hx)) ⟨x, vs, rfl, (cu_ne (b1.ne hx)).trans upd_same, p1.mono (ex_cu (Ex.new hx))⟩⟩
theorem eb_cat {a : Addr} {n m p : Nat} {Γ : Gm} {t1 t2 : TE} {Ps Qs : List SP} (x : EvB a n m t1 Γ (LsD Ps)) (y : EvB a m p t2 Γ (LsD Qs)) (hl : Ps.length + Qs.length ≤ 100000) : EvB a n p (tOp rCat t1 t2) Γ (LsD (Ps ++ Qs)) := fun σ H Q s b q =>
  x σ H _ s b fun v H1 e1 b1 p1 => y σ H1 _ (s.mono e1) b1 fun w H2 e2 b2 ⟨l2, vs2, h4, h5, h6⟩ => by
    obtain ⟨l1, vs1, h1, h2, h3⟩ := (LsD Ps).mono e2 p1
    subst h1 h4
    refine ⟨l1, l2, vs1, vs2, rfl, rfl, (cu_some h2).2, (cu_some h5).2, by rw [h3.len, h6.len]; exact Evl.sz_of hl, fun l hl => q _ _ ((e1.trans e2).trans (ex_cu (Ex.new hl))) (b2.mono (Ex.new hl)) ⟨l, _, rfl, (cu_ne (b2.ne hl)).trans upd_same, (h3.append h6).mono (ex_cu (Ex.new hl))⟩⟩
structure DrOk (L : Loans) (keep : Int) (lane : List (Option Nat)) : Prop where
  nd : (somes lane).Nodup
  giv : ∀ j, j < lane.length → ∀ g, lane.getD j none = some g → g ∈ givF L (some keep) j
theorem mem_somes {lane : List (Option Nat)} {g : Nat} : g ∈ somes lane ↔ some g ∈ lane := by
  rw [somes_fm, List.mem_filterMap]
  constructor
  · rintro ⟨o, h, e⟩
    have e : o = some g := e
    rw [← e]; exact h
  · intro h
    exact ⟨_, h, rfl⟩
theorem getD_app {lane : List (Option Nat)} {o : Option Nat} {i : Nat} (h : i < lane.length + 1) : (lane ++ [o]).getD i none = if i = lane.length then o else lane.getD i none := by
  rw [List.getD_eq_getElem?_getD]
  split
  · next e =>
    rw [e, List.getElem?_append_right (Nat.le_refl _), Nat.sub_self]
    rfl
  · next e =>
    rw [List.getElem?_append_left (by omega), ← List.getD_eq_getElem?_getD]
theorem DrOk.snoc {L : Loans} {keep : Int} {lane : List (Option Nat)} (h : DrOk L keep lane) {o : Option Nat} (ho : ∀ g, o = some g → g ∈ givF L (some keep) lane.length ∧ some g ∉ lane) : DrOk L keep (lane ++ [o]) := by
  refine ⟨?_, fun j hj g hg => ?_⟩
  · rw [somes_fm, List.filterMap_append, ← somes_fm]
    cases o with
    | none => simpa using h.nd
    | some g =>
      refine List.nodup_append.mpr ⟨h.nd, by simp, fun x hx y hy z => ?_⟩
      have hy : y = g := by simpa using hy
      rw [hy] at z
      rw [z] at hx
      exact (ho g rfl).2 (mem_somes.mp hx)
  · rw [List.length_append] at hj
    have hj : j < lane.length + 1 := hj
    rw [getD_app hj] at hg
    split at hg
    · next e => rw [e]; exact (ho g hg).1
    · next e => exact h.giv j (by omega) g hg
abbrev DrP (K : PySem.W.Frag) (g : Loans × Int) : SP := Ssm (HandOk g.1 (some g.2)) (fun lane => Is K (Tp.mk lane))
set_option maxHeartbeats 4000000 in
theorem ok__law_drawn (T : Tx K mg) : FnR prog w K mg base CX0 3 (He.ga K "_law_drawn") (spBx 10 (fun g : Loans × Int => PlOk g.1 ∧ g.1.length ≤ 10) (fun g => [Is K (Tp.mk g.1), Is K g.2]) (DrP K)) := by
  obtain ⟨fdO, FO⟩ := T.d__law_drawn
  refine fn_any FO sc__law_drawn (fun _ _ _ _ _ _ us hl => match us, hl with | [_, _, _], _ => rfl) ?_ fun cdv A outer s H vs Q E hr hsp => ⟨_, PSs.nox (pss_cons (ps_set (i := 3) sc__law_drawn.nd rfl (Or.inr rfl) (pe_lst pa_nil))
    (pss_cons (ps_for PassesOwn.never rfl (pi_range1 (by rfl) T.f_range (pa_cons (pe_callB (call_lenK (K := K)) (by rfl) T.f_len (by decide +kernel) (pa_cons (pv 1) pa_nil)) pa_nil)) (pg_name (i := 4) sc__law_drawn.nd rfl (Or.inl rfl)) (pss_cons (ps_setLc (i := 5) (own := [("_law_i", 6)]) (g := gName 6) (tt := _) rfl sc__law_drawn.nd rfl rfl (sw_true rfl rfl rfl (by decide +kernel)) (pi_listK (K := K) (pe_callR (E := E0) (ok__law_givers T) (hr.mono (by first | decide | exact Nat.le_refl _)) (by rfl) T.g__law_givers T.k__law_givers pass0 (pa_cons (pv 1) (pa_cons (pv 2) (pa_cons (pv 4) pa_nil))))) (blkOk_by (own := [("_law_i", 6)]) (N := n__law_drawn) (sc := defScope s__law_drawn) (by decide +kernel)) (fun _ _ _ _ _ => (pg_name (i := 6) sc__law_drawn.nd rfl (by first | exact Or.inl rfl | exact Or.inr rfl))) (fun _ _ _ _ _ => pts_one (pt_cmpR (op_notInK (K := K)) (pv 6) (pv 3) (by rfl))) (fun _ _ _ _ _ => (pv 6)))
    (pss_one (ps_expr (pe_bm PySem.F.plainAttrs_list PySem.F.slot_list_append PySem.F.type_list_append mt_append (pv 3) (pa_cons (pe_callR (E := E0) (ok__law_of T) (hr.mono (by first | decide | exact Nat.le_refl _)) (by rfl) T.g__law_of T.k__law_of pass0 (pa_cons (pv 0) (pa_cons (pe_op op_cat (pe_op op_cat (pv 5) (pv 5)) (pe_lst (pa_cons pe_non pa_nil))) pa_nil))) pa_nil))))))
    (pss_one (ps_ret (pe_callTy call_tuple_of (by rfl) T.f_tuple (by decide +kernel) (pa_cons (pv 3) pa_nil)))))), ?_⟩
  · exact lenBx fun _ => rfl
  refine runBx hsp rfl fun g a f hc => ?_
  clear hsp
  obtain ⟨L, keep⟩ := g
  obtain ⟨hL, hl10⟩ := hc
  have hl10 : L.length ≤ 10 := hl10
  intro D σ H s b hr
  have yl : σ.length = 7 := s.len
  obtain ⟨v0, y0, p0⟩ := s.at' 0 (Eq1 (.ref a)) rfl
  obtain rfl : v0 = .ref a := p0
  obtain ⟨v1, y1, pL⟩ := s.at' 1 (Is K (Tp.mk L)) rfl
  obtain ⟨v2, y2, p2⟩ := s.at' 2 (Is K keep) rfl
  obtain rfl : v2 = .int keep := p2
  refine h_seq ⟨Nat.zero_le _, fun lf hlf => ?_⟩
  have nra := b.ne hlf
  have e1 := ex_cu (a := a) (Ex.new (o := .lst []) hlf)
  have nB : cu a H lf = none := (cu_ne nra).trans hlf
  have b1 := b.mono (Ex.new (o := .lst []) hlf)
  have z0 : (σ.set 3 (some (.ref lf)))[0]? = some (some (.ref a)) := by rw [List.getElem?_set_ne (by decide)]; exact y0
  have z1 : (σ.set 3 (some (.ref lf)))[1]? = some (some v1) := by rw [List.getElem?_set_ne (by decide)]; exact y1
  have z2 : (σ.set 3 (some (.ref lf)))[2]? = some (some (.int keep)) := by rw [List.getElem?_set_ne (by decide)]; exact y2
  have z3 : (σ.set 3 (some (.ref lf)))[3]? = some (some (.ref lf)) := List.getElem?_set_self (by rw [yl]; decide)
  have zl : (σ.set 3 (some (.ref lf))).length = 7 := by rw [List.length_set, yl]
  show Ends.nx _ (σ.set 3 (some (.ref lf))) (upd H lf (.lst []))
  dsimp only
  have hlf1 : (upd H lf (.lst [])) lf = some (.lst []) := upd_same
  generalize σ.set 3 (some (.ref lf)) = σ1 at z0 z1 z2 z3 zl ⊢
  generalize upd H lf (HO.lst []) = H1 at e1 b1 hlf1 ⊢
  have pL1 : (Is K (Tp.mk L)).p v1 H1 := (Is K (Tp.mk L)).mono (e1.trans cu_ex) pL
  refine h_seq (h_forR (K := K) (n := L.length) (Γ := [none, some (Is K (Tp.mk L)), none, none, none, none, none]) (ea_cons (eg_lenTp (K := K) (xs := L) (eg_var (i := 1) rfl)) ea_nil) (by omega) ((sat_no (n := 7) zl).know (i := 1) z1 pL1) fun H3 e3 => ?_)
  refine ⟨fun j σ' H' => σ'.length = 7 ∧ σ'[0]? = some (some (.ref a)) ∧ σ'[1]? = some (some v1) ∧ σ'[2]? = some (some (.int keep)) ∧ σ'[3]? = some (some (.ref lf)) ∧ Ex (cu a H) (cu a H') ∧ Bx a (f + (10 - j)) H' ∧ ∃ lane : List (Option Nat), lane.length = j ∧ DrOk L keep lane ∧ H' lf = some (.lst (lane.map vO)), ⟨zl, z0, z1, z2, z3, e1.trans (ex_cu e3), b1.mono e3, [], rfl, ⟨List.nodup_nil, fun j hj => absurd hj (Nat.not_lt_zero _)⟩, e3 _ _ hlf1⟩, fun j σ2 H4 D' hj ⟨zl, z0, z1, z2, z3, e4, b4, lane, l1, l2, l3⟩ hnx hrt => ?_, fun σ2 H4 ⟨zl, z0, z1, z2, z3, e4, b4, lane, l1, l2, l3⟩ => ?_⟩
  · have hnx' : ∀ σ' H', σ'.length = 7 → σ'[0]? = some (some (.ref a)) → σ'[1]? = some (some v1) → σ'[2]? = some (some (.int keep)) → σ'[3]? = some (some (.ref lf)) → Ex (cu a H) (cu a H') → Bx a (f + (10 - (j + 1))) H' → (∀ lane' : List (Option Nat), lane'.length = j + 1 → DrOk L keep lane' → H' lf = some (.lst (lane'.map vO)) → Ends.nx D' σ' H') := fun σ' H' q1 q2 q3 q4 q5 q6 q7 lane' q8 q9 q10 => hnx σ' H' ⟨q1, q2, q3, q4, q5, q6, q7, lane', q8, q9, q10⟩
    clear hnx
    have b4' : Bx a (f + (10 - (j + 1)) + 1) H4 := b4.le (by omega)
    generalize f + (10 - (j + 1)) = fu at b4' hnx'
    show tSeq (tAsg (tLc _ _ _ _ _) _) _ D' (σ2.set 4 (some (.int (j : Int)))) H4
    have w0 : (σ2.set 4 (some (.int (j : Int))))[0]? = some (some (.ref a)) := by rw [List.getElem?_set_ne (by decide)]; exact z0
    have w1 : (σ2.set 4 (some (.int (j : Int))))[1]? = some (some v1) := by rw [List.getElem?_set_ne (by decide)]; exact z1
    have w2 : (σ2.set 4 (some (.int (j : Int))))[2]? = some (some (.int keep)) := by rw [List.getElem?_set_ne (by decide)]; exact z2
    have w3 : (σ2.set 4 (some (.int (j : Int))))[3]? = some (some (.ref lf)) := by rw [List.getElem?_set_ne (by decide)]; exact z3
    have w4 : (σ2.set 4 (some (.int (j : Int))))[4]? = some (some (.int (j : Int))) := List.getElem?_set_self (by rw [zl]; decide)
    have wl : (σ2.set 4 (some (.int (j : Int)))).length = 7 := by rw [List.length_set, zl]
    generalize σ2.set 4 (some (.int (j : Int))) = σ3 at w0 w1 w2 w3 w4 wl ⊢
    have s5 : Sat [some (Eq1 (.ref a)), some (Is K (Tp.mk L)), some (Is K keep), some (Is K lane), some (Is K j), none, none] σ3 H4 := (((((sat_no (n := 7) wl).know (i := 0) (P := Eq1 (.ref a)) w0 rfl).know (i := 1) w1 ((Is K (Tp.mk L)).mono (e4.trans cu_ex) pL)).know (i := 2) (P := Is K keep) w2 rfl).know (i := 3) (P := Is K lane) w3 ⟨lf, _, rfl, .inl (.inl l3), opt_all⟩).know (i := 4) (P := Is K j) w4 rfl
    refine h_seq ?_
    show tLc _ _ _ _ _ σ3 H4 _
    have hgl : (givF L (some keep) j).length ≤ 10 := Nat.le_trans (List.length_filter_le _ _) (by rw [List.length_range]; exact hl10)
    refine eg_lcX (xs := givF L (some keep) j) (F := Is K) (f := fun g => !decide (some g ∈ lane)) (Rf := fun g => Is K g) (ew_list (eg_call (L, keep, j) (ea_cons (eg_var (i := 1) rfl) (ea_cons (eg_var (i := 2) rfl) (ea_cons (eg_var (i := 4) rfl) ea_nil))) ⟨by show L.length ≤ 1000; omega, hj⟩)) (fun g => RepT.rt g) (fun g hg => tg_name) (fun g hg => et_test (eg_ninO (K := K) (eg_var rfl) (eg_var rfl))) (fun g hg _ => eg_var rfl) (by omega) σ3 H4 _ s5 fun fl acc H5 e5 nfl hfl hacc => ?_
    have hfr : ∀ g, g ∈ (givF L (some keep) j).filter (fun g => !decide (some g ∈ lane)) → g ∈ givF L (some keep) j ∧ some g ∉ lane := fun g hg => by
      obtain ⟨h1, h2⟩ := List.mem_filter.mp hg
      exact ⟨h1, by simpa using h2⟩
    have hfl10 : ((givF L (some keep) j).filter (fun g => !decide (some g ∈ lane))).length ≤ 10 := Nat.le_trans (List.length_filter_le _ _) hgl
    generalize (givF L (some keep) j).filter (fun g => !decide (some g ∈ lane)) = fr at hacc hfr hfl10
    show Ends.nx _ (σ3.set 5 (some (.ref fl))) H5
    dsimp only
    have x0 : (σ3.set 5 (some (.ref fl)))[0]? = some (some (.ref a)) := by rw [List.getElem?_set_ne (by decide)]; exact w0
    have x1 : (σ3.set 5 (some (.ref fl)))[1]? = some (some v1) := by rw [List.getElem?_set_ne (by decide)]; exact w1
    have x2 : (σ3.set 5 (some (.ref fl)))[2]? = some (some (.int keep)) := by rw [List.getElem?_set_ne (by decide)]; exact w2
    have x3 : (σ3.set 5 (some (.ref fl)))[3]? = some (some (.ref lf)) := by rw [List.getElem?_set_ne (by decide)]; exact w3
    have x5 : (σ3.set 5 (some (.ref fl)))[5]? = some (some (.ref fl)) := List.getElem?_set_self (by rw [wl]; decide)
    have xl : (σ3.set 5 (some (.ref fl))).length = 7 := by rw [List.length_set, wl]
    generalize σ3.set 5 (some (.ref fl)) = σ4 at x0 x1 x2 x3 x5 xl ⊢
    have b5 := b4'.mono e5
    have s6 : Sat [some (Eq1 (.ref a)), none, none, none, none, some (LsD (fr.map (Is K))), none] σ4 (cu a H5) := ((sat_no (n := 7) xl).know (i := 0) (P := Eq1 (.ref a)) x0 rfl).know (i := 5) (P := LsD (fr.map (Is K))) x5 ⟨fl, acc, rfl, (cu_ne (b4.ne nfl)).trans hfl, AllP.kt hacc (fun P hP => by
      obtain ⟨r, _, rfl⟩ := List.mem_map.mp hP
      exact RepT.rt r) b5.kt⟩
    have hlf5 := e5 _ _ l3
    refine ⟨_, x3, .inl ⟨rfl, _, .inl (.inl hlf5)⟩, ?_⟩
    show tCons _ tNil σ4 H5 _
    refine go_ba (m := fu) (Ps := [OneP ((fr.map (Is K) ++ fr.map (Is K)) ++ [Is K (none : Option Int)])]) s6 b5 ?_ fun vs H6 e6 b6 p6 => ?_
    · refine eab_cons (eb_ofL (K := K) _ (eab_cons (eb_var rfl) (eab_cons (EvB.weak (P := LsD ((fr.map (Is K) ++ fr.map (Is K)) ++ [Is K (none : Option Int)])) (eb_cat (eb_cat (eb_var rfl) (eb_var rfl) ?_) (eb_lstD (eab_cons (eb_of (eg_non (K := K)) rt_eq) eab_nil)) ?_) lsd_p) eab_nil)) ?_ ?_) eab_nil
      · rw [List.length_map]; omega
      · rw [List.length_append, List.length_map]; show _ + 1 ≤ _; omega
      · simp
      · rw [List.length_append, List.length_append, List.length_map]; show _ + 1 ≤ _; omega
    · cases p6 with
      | cons p6 t =>
        cases t
        rename_i v
        obtain ⟨P, hP, hv⟩ := p6
        obtain ⟨o, ho, rfl⟩ : ∃ o : Option Nat, (∀ g, o = some g → g ∈ fr) ∧ v = vO o := by
          have pick : P ∈ fr.map (Is K) → ∃ o : Option Nat, (∀ g, o = some g → g ∈ fr) ∧ v = vO o := fun h => by
            obtain ⟨g, hg, rfl⟩ := List.mem_map.mp h
            exact ⟨some g, fun g' e => by injection e with e; rw [← e]; exact hg, hv⟩
          rcases List.mem_append.mp hP with h | h
          · rcases List.mem_append.mp h with h | h
            · exact pick h
            · exact pick h
          · rw [List.mem_singleton.mp h] at hv
            exact ⟨none, (fun g e => by cases e), hv⟩
        have hlf6 := (cu_some (e6 lf _ ((cu_ne nra).trans hlf5))).2
        refine ⟨lf, _, _, rfl, rfl, hlf6, Nat.lt_of_lt_of_le (show (lane.map vO).length < 2000 by rw [List.length_map]; omega) (by decide), ?_⟩
        refine hnx' _ _ xl x0 x1 x2 x3 ?_ (b6.updne nra) (lane ++ [o]) (by rw [List.length_append, l1]; rfl) (l2.snoc fun g hg => by rw [l1]; exact hfr g (ho g hg)) ?_
        · rw [cu_updne nra]
          exact Ex.mut ((e4.trans (ex_cu e5)).trans e6) nB
        · rw [upd_same, List.map_append]
          rfl
  · have s9 : Sat [none, none, none, some (LsP K (lane.map (Is K))), none, none, none] σ2 H4 := (sat_no (n := 7) zl).know (i := 3) z3 ⟨lf, _, rfl, .inl (.inl l3), opt_all⟩
    refine eg_tupOf (K := K) (fun xs H Q q => q) (eg_var (Γ := [none, none, none, some (LsP K (lane.map (Is K))), none, none, none]) (i := 3) rfl) σ2 H4 _ s9 fun v H5 e5 p5 => hr _ _ (e4.trans (ex_cu e5)) ((b4.mono e5).le (by omega)) ⟨lane, ⟨l1, l2.nd, fun j hj g hg => l2.giv j (by rw [l1]; exact hj) g hg⟩, RepT.rt (K := K) (Tp.mk lane) _ _ _ (b4.mono e5).kt p5⟩
end
end Lp

/-! part LpSame -/
set_option Elab.async false
set_option linter.all false
set_option maxRecDepth 100000

namespace Lp
open PySem PySem.Spec PyProof.Rows L2
open Evl (Ex ex_l ex_t ex_rd fresh_back)
section
variable {prog : Program} {w : World} {K : PySem.W.Frag} {mg : Str → Option Value} {base : Heap}
section
variable {Γ : Gm} {te t1 t2 : TE} {tr : TA} {Ps Qs : List SP}
theorem eg_lstD (h : EvA tr Γ Ps) (hl : Ps.length ≤ 100000 := by exact Nat.le_of_ble_eq_true rfl) : EvG (tLst tr) Γ (LsD Ps) := fun σ H Q s q =>
  h σ H _ s fun vs H2 e p => ⟨by rw [p.len]; exact Evl.sz_of hl, fun x hx => q _ _ (e.trans (Ex.new hx)) ⟨x, vs, rfl, upd_same, p.mono (Ex.new hx)⟩⟩
theorem eg_catD (x : EvG t1 Γ (LsD Ps)) (y : EvG t2 Γ (LsD Qs)) (hl : Ps.length + Qs.length ≤ 100000) : EvG (tOp rCat t1 t2) Γ (LsD (Ps ++ Qs)) := fun σ H Q s q =>
  x σ H _ s fun v H1 e1 p1 => y σ H1 _ (s.mono e1) fun w H2 e2 ⟨l2, vs2, h4, h5, h6⟩ => by
    obtain ⟨l1, vs1, h1, h2, h3⟩ := (LsD Ps).mono e2 p1
    subst h1 h4
    exact ⟨l1, l2, vs1, vs2, rfl, rfl, h2, h5, by rw [h3.len, h6.len]; exact Evl.sz_of hl, fun l hl => q _ _ ((e1.trans e2).trans (Ex.new hl)) ⟨l, _, rfl, upd_same, (h3.append h6).mono (Ex.new hl)⟩⟩
theorem eg_lcD {γ : Type} {xs : List γ} {F : γ → SP} {Γ1 : γ → Gm} {f : γ → Bool} {Rf : γ → SP} {wi : TI} {g : TG} {tt : TT} {vs : List Nat} (hw : EvW wi Γ (xs.map F)) (hr : ∀ x, RT (Rf x))
    (hg : ∀ x, x ∈ xs → TgG g (wipeG Γ vs) (F x) (Γ1 x) vs) (ht : ∀ x, x ∈ xs → EvT tt (Γ1 x) (f x)) (he : ∀ x, x ∈ xs → f x = true → EvG te (Γ1 x) (Rf x)) (hl : xs.length ≤ 100000) : EvG (tLc wi g tt te vs) Γ (LsD ((xs.filter f).map Rf)) := fun σ H Q s q =>
  eg_lcX hw hr hg ht he hl σ H Q s fun D acc H2 e nD hD hacc => q _ H2 e ⟨D, acc, rfl, hD, hacc⟩
theorem eg_callS {γ δ : Type} {p : γ → Prop} {F : γ → SP} {C : δ → Prop} {Qs : δ → List SP} {R : δ → SP} {E : XK} (f : γ → δ) (h : EvG te Γ (Ssm p F)) (hq : ∀ x, Qs (f x) = [F x]) (hc : ∀ x, p x → C (f x)) : EvG (fun σ H Q => tCons te tNil σ H fun vs H1 => spP C Qs R vs H1 Q E) Γ (Ssm p fun x => R (f x)) := fun σ H Q s q =>
  h σ H _ s fun v H1 e1 ⟨x, hx, hv⟩ => ⟨f x, hc x hx, by rw [hq]; exact .cons hv .nil, fun v2 H2 e2 r => q v2 H2 (e1.trans e2) ⟨x, hx, r⟩⟩
theorem sx_asg2 {P1 P2 : SP} {i j : Nat} {t : TS} {N : Gm → Prop} {R : SP → Prop} (h : EvG te Γ (TuP K [P1, P2])) (h2 : StX t ((Γ.set i (some P1)).set j (some P2)) N R) : StX (tSeq (tAsg te (gTup K 2 (gCons (gName i) (gCons (gName j) gNil)))) t) Γ N R := fun D σ H s hn hr =>
  h_seq (h_asg2 h s fun v1 v2 H1 e1 p1 p2 => ⟨v2, [], rfl, rfl, h2 D _ H1 (((s.mono e1).set p1).set p2) (fun Γ3 σ3 H3 n3 e3 s3 => hn Γ3 σ3 H3 n3 (e1.trans e3) s3) fun P v H3 r e3 hp => hr P v H3 r (e1.trans e3) hp⟩)
theorem eg_eqDI {ta tb : TE} {i j : Int} (ha : EvG ta Γ (Is K i)) (hb : EvG tb Γ (Is K j)) : EvG (tOp (rEqD K) ta tb) Γ (Is K (decide (i = j))) := fun σ H Q s q =>
  ha.two hb s fun v u H2 e p1 p2 => by
    refine ⟨_, _, dp_int p1, dp_int p2, rfl, rfl, q _ H2 e ?_⟩
    have e2 : PyData.eqv (PySem.W.Datum.toD i) (PySem.W.Datum.toD j) = decide (i = j) := PySem.W.Datum.eqv (α := Int) i j
    rw [e2]
    rfl
theorem ty_lsd (v : V) (H : Hp) (h : (LsD Ps).p v H) : TyX K H v (.type "list") := by
  obtain ⟨l, vs, rfl, h2, _⟩ := h
  exact .base (.lst h2)
end
theorem kit_yes1 {a b c : String} (h1 : kitB a b = some true) : PySem.W.kitAny K (.type a) [.type b, .type c] = some true :=
  kitAny_cons (kit_ty h1) (fun z => nomatch z) fun _ => rfl
theorem same_int (T : Tx K mg) : FnR prog w K mg base CX0 1 (He.ga K "_law_same") (spP (fun _ : Int × Int => True) (fun g => [Is K g.1, Is K g.2]) (fun g => Is K (decide (g.1 = g.2)))) := by
  have ok__law_same : Tx K mg → FnR prog w K mg base CX0 0 (He.ga K "_law_same") spNo := fun _ => fn_no
  obtain ⟨fdO, FO⟩ := T.d__law_same
  refine fn_pure FO sc__law_same (fun _ _ _ _ _ _ us hl => match us, hl with | [_, _], _ => rfl) (fun _ => rfl) fun cdv A outer s H E hr => ⟨_, PSs.nox (pss_cons (ps_if (pt_val (pe_callB (call_isiTK (K := K)) (by rfl) T.f_isinstance (by decide +kernel) (pa_cons (pv 1) (pa_cons (pe_tup (pa_cons (pe_bltn (v := .ty "list") rfl T.f_list (by decide +kernel) rfl) (pa_cons (pe_bltn (v := .ty "tuple") rfl T.f_tuple (by decide +kernel) rfl) pa_nil))) pa_nil)))) (pss_cons (ps_if (PW.pt (pw_or (pt_cmpR op_ne (pe_callB (call_isiK' (K := K)) (by rfl) T.f_isinstance (by decide +kernel) (pa_cons (pv 0) (pa_cons (pe_bltn (v := .ty "list") rfl T.f_list (by decide +kernel) rfl) pa_nil))) (pe_callB (call_isiK' (K := K)) (by rfl) T.f_isinstance (by decide +kernel) (pa_cons (pv 1) (pa_cons (pe_bltn (v := .ty "list") rfl T.f_list (by decide +kernel) rfl) pa_nil))) (nomark _)) (pw_or1 (pt_cmpR op_ne (pe_callB (call_isiK' (K := K)) (by rfl) T.f_isinstance (by decide +kernel) (pa_cons (pv 0) (pa_cons (pe_bltn (v := .ty "tuple") rfl T.f_tuple (by decide +kernel) rfl) pa_nil))) (pe_callB (call_isiK' (K := K)) (by rfl) T.f_isinstance (by decide +kernel) (pa_cons (pv 1) (pa_cons (pe_bltn (v := .ty "tuple") rfl T.f_tuple (by decide +kernel) rfl) pa_nil))) (nomark _))))) (pss_one (ps_ret pe_bl)) (pss_nil))
    (pss_one (ps_ret (pe_and (pe_cmpR op_eq (pe_callB (call_lenK (K := K)) (by rfl) T.f_len (by decide +kernel) (pa_cons (pv 0) pa_nil)) (pe_callB (call_lenK (K := K)) (by rfl) T.f_len (by decide +kernel) (pa_cons (pv 1) pa_nil)) (nomark _)) (pe_one (pe_callB (cr_all rfl) (by rfl) T.f_all (by decide +kernel) (pa_cons (pe_lc (own := [("_law_mine", 2), ("_law_its", 3)]) (g := _) (tt := _) rfl sc__law_same.nd (pi_zip (by rfl) T.f_zip (pa_cons (pv 0) (pa_cons (pv 1) pa_nil))) (blkOk_by (own := [("_law_mine", 2), ("_law_its", 3)]) (N := n__law_same) (sc := defScope s__law_same) (by decide +kernel)) (fun _ _ _ _ _ => (pg_tupK (K := K) (n := 2) rfl (pgs_cons (pg_name (i := 2) sc__law_same.nd rfl (by first | exact Or.inl rfl | exact Or.inr rfl)) (pgs_cons (pg_name (i := 3) sc__law_same.nd rfl (by first | exact Or.inl rfl | exact Or.inr rfl)) pgs_nil)))) (fun _ _ _ _ _ => pts_nil) (fun _ _ _ _ _ => (pe_callR (E := E0) (ok__law_same T) (hr.mono (by first | decide | exact Nat.le_refl _)) (by rfl) T.g__law_same T.k__law_same pass0 (pa_cons (pv 2) (pa_cons (pv 3) pa_nil))))) pa_nil))))))) (pss_nil))
    (pss_cons (ps_if (PW.pt (pw_or (pt_cmp (pc_isN (pv 1))) (pw_or1 (pt_val (pe_callB (call_isiTK (K := K)) (by rfl) T.f_isinstance (by decide +kernel) (pa_cons (pv 1) (pa_cons (pe_tup (pa_cons (pe_bltn (v := .ty "bool") rfl T.f_bool (by decide +kernel) rfl) (pa_cons (pe_bltn (v := .ty "str") rfl T.f_str (by decide +kernel) rfl) pa_nil))) pa_nil))))))) (pss_one (ps_ret (pe_and (pe_cmpR (op_eqD hr.units) (pv 0) (pv 1) (nomark _)) (pe_and (pe_cmpR op_eq (pe_callB (call_isiK' (K := K)) (by rfl) T.f_isinstance (by decide +kernel) (pa_cons (pv 0) (pa_cons (pe_bltn (v := .ty "bool") rfl T.f_bool (by decide +kernel) rfl) pa_nil))) (pe_callB (call_isiK' (K := K)) (by rfl) T.f_isinstance (by decide +kernel) (pa_cons (pv 1) (pa_cons (pe_bltn (v := .ty "bool") rfl T.f_bool (by decide +kernel) rfl) pa_nil))) (nomark _)) (pe_one (pe_cmpR op_eq (pe_cmp (pc_isN (pv 0))) (pe_cmp (pc_isN (pv 1))) (nomark _))))))) (pss_nil))
    (pss_one (ps_ret (pe_and (pe_callB (call_isiK' (K := K)) (by rfl) T.f_isinstance (by decide +kernel) (pa_cons (pv 0) (pa_cons (pe_bltn (v := .ty "int") rfl T.f_int (by decide +kernel) rfl) pa_nil))) (pe_and (pe_not (pe_callB (call_isiK' (K := K)) (by rfl) T.f_isinstance (by decide +kernel) (pa_cons (pv 0) (pa_cons (pe_bltn (v := .ty "bool") rfl T.f_bool (by decide +kernel) rfl) pa_nil)))) (pe_one (pe_cmpR (op_eqD hr.units) (pv 0) (pv 1) (nomark _))))))))), ?_⟩
  rintro ⟨i, j⟩ _
  refine sx_ifRet (b := false) (et_B (eg_isiT (K := K) (T := "list") (U := "tuple") (eg_var (i := 1) (P := Is K j) rfl) ty_int (kit_no (by decide +kernel) (by decide +kernel)))) (fun z => nomatch z) fun _ => ?_
  refine sx_ifRet (b := false) (EvT.to (et_or (et_B (eg_isN (K := K) (o := (some j : Option Int)) (eg_var (i := 1) (P := Is K j) rfl))) fun _ => et_B (eg_isiT (K := K) (T := "bool") (U := "str") (eg_var (i := 1) (P := Is K j) rfl) ty_int (kit_no (by decide +kernel) (by decide +kernel)))) rfl) (fun z => nomatch z) fun _ => ?_
  exact sx_ret (P := Is K (decide (i = j))) (EvG.to (eg_and (eg_isi (b := true) (eg_var rfl) ty_int (kit_ty (by decide +kernel))) fun _ => eg_and (eg_not (eg_isi (b := false) (eg_var rfl) ty_int (kit_ty (by decide +kernel)))) fun _ => eg_eqDI (K := K) (eg_var rfl) (eg_var rfl)) (by rfl)) rfl
theorem eg_neBB {Γ : Gm} {ta tb : TE} {i j : Bool} (ha : EvG ta Γ (Is K i)) (hb : EvG tb Γ (Is K j)) : EvG (tOp rNe ta tb) Γ (Is K (!decide (i = j))) := fun σ H Q s q =>
  ha.two hb s fun v w H2 e p1 p2 => by
    obtain rfl : v = .bl i := p1
    obtain rfl : w = .bl j := p2
    cases i <;> cases j <;> exact ⟨rfl, q _ H2 e rfl⟩
theorem ew_zipI {Γ : Gm} {t1 t2 : TE} {ns : List Int} (h1 : EvG t1 Γ (Is K ns)) (h2 : EvG t2 Γ (Is K ns)) : EvW (iZip K (tCons t1 (tCons t2 tNil))) Γ (ns.map fun n => Is K (n, n)) := fun σ H R s q =>
  (ea_cons h1 (ea_cons h2 ea_nil)) σ H _ s fun vs H1 e p => by
    cases p with
    | cons r1 t1 =>
      cases t1 with
      | cons r2 t2 =>
        cases t2
        obtain ⟨a, xs, rfl, hx, ax⟩ := r1
        obtain ⟨b, ys, rfl, hy, ay⟩ := r2
        obtain rfl := all_ints ax
        obtain rfl := all_ints ay
        have hl : (ns.map fun n => Is K (n, n)).length = min (ns.map V.int).length (ns.map V.int).length := by simp
        refine ⟨a, b, _, _, rfl, hx, hy, q _ H1 e ⟨YPair (fun i => (ns.map V.int)[i]?) (fun i => (ns.map V.int)[i]?), (walk_zip hl).mono (fun H' e' => ⟨ex_l e' hx, ex_l e' hy⟩) fun _ _ _ _ _ _ y => y, fun i H v H' hi e1 ⟨T, x, y, h3, h4, h5, h6, h7⟩ => ?_⟩⟩
        subst h3 h5
        have hi : i < ns.length := by simpa using hi
        simp only [List.getElem?_map, List.getElem?_eq_getElem hi] at h6 h7
        obtain rfl : V.int ns[i] = x := Option.some.inj h6
        obtain rfl : V.int ns[i] = y := Option.some.inj h7
        refine ⟨Is K (ns[i], ns[i]), ?_, Ex.new h4, T, _, rfl, .inl (.inl upd_same), .cons rfl (.cons rfl .nil)⟩
        rw [List.getElem?_map, List.getElem?_eq_getElem hi]
        rfl
theorem same_list (T : Tx K mg) : FnR prog w K mg base CX0 2 (He.ga K "_law_same") (spP (fun ns : List Int => ns.length ≤ 1000) (fun ns => [LsD (ns.map (Is K)), LsD (ns.map (Is K))]) (fun _ => Is K true)) := by
  have ok__law_same : Tx K mg → FnR prog w K mg base CX0 1 (He.ga K "_law_same") _ := same_int
  obtain ⟨fdO, FO⟩ := T.d__law_same
  refine fn_pure FO sc__law_same (fun _ _ _ _ _ _ us hl => match us, hl with | [_, _], _ => rfl) (fun _ => rfl) fun cdv A outer s H E hr => ⟨_, PSs.nox (pss_cons (ps_if (pt_val (pe_callB (call_isiTK (K := K)) (by rfl) T.f_isinstance (by decide +kernel) (pa_cons (pv 1) (pa_cons (pe_tup (pa_cons (pe_bltn (v := .ty "list") rfl T.f_list (by decide +kernel) rfl) (pa_cons (pe_bltn (v := .ty "tuple") rfl T.f_tuple (by decide +kernel) rfl) pa_nil))) pa_nil)))) (pss_cons (ps_if (PW.pt (pw_or (pt_cmpR op_ne (pe_callB (call_isiK' (K := K)) (by rfl) T.f_isinstance (by decide +kernel) (pa_cons (pv 0) (pa_cons (pe_bltn (v := .ty "list") rfl T.f_list (by decide +kernel) rfl) pa_nil))) (pe_callB (call_isiK' (K := K)) (by rfl) T.f_isinstance (by decide +kernel) (pa_cons (pv 1) (pa_cons (pe_bltn (v := .ty "list") rfl T.f_list (by decide +kernel) rfl) pa_nil))) (nomark _)) (pw_or1 (pt_cmpR op_ne (pe_callB (call_isiK' (K := K)) (by rfl) T.f_isinstance (by decide +kernel) (pa_cons (pv 0) (pa_cons (pe_bltn (v := .ty "tuple") rfl T.f_tuple (by decide +kernel) rfl) pa_nil))) (pe_callB (call_isiK' (K := K)) (by rfl) T.f_isinstance (by decide +kernel) (pa_cons (pv 1) (pa_cons (pe_bltn (v := .ty "tuple") rfl T.f_tuple (by decide +kernel) rfl) pa_nil))) (nomark _))))) (pss_one (ps_ret pe_bl)) (pss_nil))
    (pss_one (ps_ret (pe_and (pe_cmpR op_eq (pe_callB (call_lenK (K := K)) (by rfl) T.f_len (by decide +kernel) (pa_cons (pv 0) pa_nil)) (pe_callB (call_lenK (K := K)) (by rfl) T.f_len (by decide +kernel) (pa_cons (pv 1) pa_nil)) (nomark _)) (pe_one (pe_callB (cr_all rfl) (by rfl) T.f_all (by decide +kernel) (pa_cons (pe_lc (own := [("_law_mine", 2), ("_law_its", 3)]) (g := _) (tt := _) rfl sc__law_same.nd (pi_zip (by rfl) T.f_zip (pa_cons (pv 0) (pa_cons (pv 1) pa_nil))) (blkOk_by (own := [("_law_mine", 2), ("_law_its", 3)]) (N := n__law_same) (sc := defScope s__law_same) (by decide +kernel)) (fun _ _ _ _ _ => (pg_tupK (K := K) (n := 2) rfl (pgs_cons (pg_name (i := 2) sc__law_same.nd rfl (by first | exact Or.inl rfl | exact Or.inr rfl)) (pgs_cons (pg_name (i := 3) sc__law_same.nd rfl (by first | exact Or.inl rfl | exact Or.inr rfl)) pgs_nil)))) (fun _ _ _ _ _ => pts_nil) (fun _ _ _ _ _ => (pe_callR (E := E0) (ok__law_same T) (hr.mono (by first | decide | exact Nat.le_refl _)) (by rfl) T.g__law_same T.k__law_same pass0 (pa_cons (pv 2) (pa_cons (pv 3) pa_nil))))) pa_nil))))))) (pss_nil))
    (pss_cons (ps_if (PW.pt (pw_or (pt_cmp (pc_isN (pv 1))) (pw_or1 (pt_val (pe_callB (call_isiTK (K := K)) (by rfl) T.f_isinstance (by decide +kernel) (pa_cons (pv 1) (pa_cons (pe_tup (pa_cons (pe_bltn (v := .ty "bool") rfl T.f_bool (by decide +kernel) rfl) (pa_cons (pe_bltn (v := .ty "str") rfl T.f_str (by decide +kernel) rfl) pa_nil))) pa_nil))))))) (pss_one (ps_ret (pe_and (pe_cmpR (op_eqD hr.units) (pv 0) (pv 1) (nomark _)) (pe_and (pe_cmpR op_eq (pe_callB (call_isiK' (K := K)) (by rfl) T.f_isinstance (by decide +kernel) (pa_cons (pv 0) (pa_cons (pe_bltn (v := .ty "bool") rfl T.f_bool (by decide +kernel) rfl) pa_nil))) (pe_callB (call_isiK' (K := K)) (by rfl) T.f_isinstance (by decide +kernel) (pa_cons (pv 1) (pa_cons (pe_bltn (v := .ty "bool") rfl T.f_bool (by decide +kernel) rfl) pa_nil))) (nomark _)) (pe_one (pe_cmpR op_eq (pe_cmp (pc_isN (pv 0))) (pe_cmp (pc_isN (pv 1))) (nomark _))))))) (pss_nil))
    (pss_one (ps_ret (pe_and (pe_callB (call_isiK' (K := K)) (by rfl) T.f_isinstance (by decide +kernel) (pa_cons (pv 0) (pa_cons (pe_bltn (v := .ty "int") rfl T.f_int (by decide +kernel) rfl) pa_nil))) (pe_and (pe_not (pe_callB (call_isiK' (K := K)) (by rfl) T.f_isinstance (by decide +kernel) (pa_cons (pv 0) (pa_cons (pe_bltn (v := .ty "bool") rfl T.f_bool (by decide +kernel) rfl) pa_nil)))) (pe_one (pe_cmpR (op_eqD hr.units) (pv 0) (pv 1) (nomark _))))))))), ?_⟩
  intro ns hn
  have isl : ∀ {i : Nat} {U : String} {b : Bool}, (startG n__law_same [LsD (ns.map (Is K)), LsD (ns.map (Is K))])[i]? = some (some (LsD (ns.map (Is K)))) → kitB "list" U = some b → EvG (tCB (rIsi K) (tCons (tVar i) (tCons (tC (.ty U)) tNil))) (startG n__law_same [LsD (ns.map (Is K)), LsD (ns.map (Is K))]) (Is K b) := fun h hk => eg_isi (eg_var h) ty_lsd (kit_ty hk)
  refine sx_ifRet (b := true) (et_B (eg_isiT (K := K) (T := "list") (U := "tuple") (eg_var (i := 1) (P := LsD (ns.map (Is K))) rfl) ty_lsd (kit_yes1 (by decide +kernel)))) (fun _ => ?_) fun z => nomatch z
  refine sx_ifRet (b := false) (EvT.to (et_or (et_test (eg_neBB (K := K) (i := true) (j := true) (isl (i := 0) rfl (by decide +kernel)) (isl (i := 1) rfl (by decide +kernel)))) fun _ => et_test (eg_neBB (K := K) (i := false) (j := false) (isl (i := 0) rfl (by decide +kernel)) (isl (i := 1) rfl (by decide +kernel)))) rfl) (fun z => nomatch z) fun _ => ?_
  have vr : ∀ {i : Nat}, (startG n__law_same [LsD (ns.map (Is K)), LsD (ns.map (Is K))])[i]? = some (some (LsD (ns.map (Is K)))) → EvG (tVar i) (startG n__law_same [LsD (ns.map (Is K)), LsD (ns.map (Is K))]) (Is K ns) := fun h => (eg_var h).weak lsd_p
  refine sx_ret (P := Is K true) (EvG.to (eg_and (eg_eqI (K := K) (eg_len (K := K) (vr (i := 0) rfl)) (eg_len (K := K) (vr (i := 1) rfl))) fun _ => eg_all (K := K) (eg_lcM (K := K) (xs := ns) (fun _ => true) (ew_zipI (vr (i := 0) rfl) (vr (i := 1) rfl)) (fun n hn => tg_pair (x := n) (y := n) tg_name tg_name) (fun n hn => EvG.to (eg_call (n, n) (ea_cons (eg_var rfl) (ea_cons (eg_var rfl) ea_nil)) trivial) (by show Is K (decide (n = n)) = _; rw [decide_eq_true rfl])) (by omega))) ?_) rfl
  rw [decide_eq_true rfl]
  congr 1
  simp
end
end Lp

/-! part LpHand -/
set_option Elab.async false
set_option linter.all false
set_option maxRecDepth 100000

namespace Lp
open PySem PySem.Spec PyProof.Rows L2
open Evl (Ex ex_l ex_t ex_rd fresh_back)
section
variable {prog : Program} {w : World} {K : PySem.W.Frag} {mg : Str → Option Value} {base : Heap}
theorem cert {x : LkD} {dues : Int × Int} (hd : DuOk' dues) {M0 : Mt} {u v : Nat → Int} {c : Int} (hM : MOk (netF x dues) x.L.length M0) (hf : Feas (netF x dues) x.L.length u v) (h1 : dual (netF x dues) x.L.length u v = c) (h2 : tot (netF x dues) x.L.length M0 = c) {m : Int} (h : LeastFee x dues m) : m = c := by
  obtain ⟨M, a1, a2, rfl⟩ := h
  have hE : NetOk (netF x dues) := net_ok hd.1 hd.2.2.1
  refine Int.le_antisymm ?_ ?_
  · rw [← h2]; exact a2.least hE hM
  · rw [← h1]; exact weak hE a1 hf
def x0 : LkD := ⟨[(0, 1), (0, 4), (5, 7), (6, 8)], some 4, some 2, []⟩
def gD (l : List Int) (i : Nat) : Int := l.getD i 0
theorem gD_nn {l : List Int} (h : ∀ x, x ∈ l → 0 ≤ x) (i : Nat) : 0 ≤ gD l i := by
  unfold gD
  rw [List.getD_eq_getElem?_getD]
  cases e : l[i]? with
  | none => exact Int.le_refl _
  | some x => exact h x (List.mem_of_getElem? e)
def vF (d : Int × Int) : Int := if d = (2, 5) then 14 else if d = (3, 5) then 15 else if d = (1, 1) then 3 else 6
theorem vF_uniq (d : Int × Int) (hd : d ∈ ([(2, 5), (3, 5), (1, 1), (4, 2)] : List (Int × Int))) : ∀ m, LeastFee x0 d m → m = vF d := by
  intro m h
  rcases List.mem_cons.mp hd with e | hd
  · subst e
    exact cert (M0 := [(0, 2), (1, 3)]) (u := gD [5, 5, 2, 4]) (v := gD [0, 2, 0, 0]) ⟨by decide, by decide, by decide, by decide⟩ ⟨by decide, by decide, by decide⟩ ⟨by decide, gD_nn (by decide), by decide⟩ (by decide) (by decide) h
  rcases List.mem_cons.mp hd with e | hd
  · subst e
    exact cert (M0 := [(1, 2)]) (u := gD [5, 5, 2, 5]) (v := gD [0, 2, 0, 0]) ⟨by decide, by decide, by decide, by decide⟩ ⟨by decide, by decide, by decide⟩ ⟨by decide, gD_nn (by decide), by decide⟩ (by decide) (by decide) h
  rcases List.mem_cons.mp hd with e | hd
  · subst e
    exact cert (M0 := [(1, 2)]) (u := gD [1, 1, 0, 1]) (v := gD [0, 0, 0, 0]) ⟨by decide, by decide, by decide, by decide⟩ ⟨by decide, by decide, by decide⟩ ⟨by decide, gD_nn (by decide), by decide⟩ (by decide) (by decide) h
  · rw [List.mem_singleton.mp hd] at h ⊢
    exact cert (M0 := [(1, 2)]) (u := gD [2, 2, 0, 2]) (v := gD [0, 0, 0, 0]) ⟨by decide, by decide, by decide, by decide⟩ ⟨by decide, by decide, by decide⟩ ⟨by decide, gD_nn (by decide), by decide⟩ (by decide) (by decide) h
theorem eg_pr {Γ : Gm} {i j : Int} : EvG (tTup (tCons (tC (.int i)) (tCons (tC (.int j)) tNil))) Γ (Is K (i, j)) := eg_tup (K := K) (Ps := [Is K i, Is K j]) (ea_cons eg_int (ea_cons eg_int ea_nil))
theorem ok__law_by_hand_right (T : Tx K mg) : FnR prog w K mg base CX0 10 (He.ga K "_law_by_hand_right") (spP (fun _ : Unit => True) (fun _ => []) (fun _ => Is K true)) := by
  have ok__law_same := same_list (prog := prog) (w := w) (K := K) (mg := mg) (base := base)
  obtain ⟨fdO, FO⟩ := T.d__law_by_hand_right
  refine fn_pure FO sc__law_by_hand_right (fun _ _ _ _ _ _ us hl => match us, hl with | [], _ => rfl) (fun _ => rfl) fun cdv A outer s H E hr => ⟨_, PSs.nox (pss_cons (ps_asg (pe_tup (pa_cons (pe_tup (pa_cons (pe_tup (pa_cons pe_int (pa_cons pe_int pa_nil))) (pa_cons (pe_tup (pa_cons pe_int (pa_cons pe_int pa_nil))) (pa_cons (pe_tup (pa_cons pe_int (pa_cons pe_int pa_nil))) (pa_cons (pe_tup (pa_cons pe_int (pa_cons pe_int pa_nil))) pa_nil))))) (pa_cons (pe_tup (pa_cons pe_int (pa_cons (pe_tup pa_nil) pa_nil))) pa_nil))) (pg_tupK (K := K) (n := 2) rfl (pgs_cons (pg_name (i := 1) sc__law_by_hand_right.nd rfl (Or.inr rfl)) (pgs_cons (pg_name (i := 2) sc__law_by_hand_right.nd rfl (Or.inr rfl)) pgs_nil))))
    (pss_cons (ps_setLc (i := 0) (own := [("_law_own", 3)]) (g := gName 3) (tt := _) rfl sc__law_by_hand_right.nd rfl rfl (sw_true rfl rfl rfl (by decide +kernel)) (pi_tupK (K := K) (pe_tup (pa_cons (pe_tup (pa_cons pe_int (pa_cons pe_int pa_nil))) (pa_cons (pe_tup (pa_cons pe_int (pa_cons pe_int pa_nil))) (pa_cons (pe_tup (pa_cons pe_int (pa_cons pe_int pa_nil))) (pa_cons (pe_tup (pa_cons pe_int (pa_cons pe_int pa_nil))) pa_nil)))))) (blkOk_by (own := [("_law_own", 3)]) (N := n__law_by_hand_right) (sc := defScope s__law_by_hand_right) (by decide +kernel)) (fun _ _ _ _ _ => (pg_name (i := 3) sc__law_by_hand_right.nd rfl (by first | exact Or.inl rfl | exact Or.inr rfl))) (fun _ _ _ _ _ => pts_nil) (fun _ _ _ _ _ => (pe_callR (E := E0) (ok_least_fee T) (hr.mono (by first | decide | exact Nat.le_refl _)) (by rfl) T.g_least_fee T.k_least_fee pass0 (pa_cons (pv 1) (pa_cons pe_int (pa_cons (pv 2) (pa_cons (pv 3) pa_nil)))))))
    (pss_cons (ps_set (i := 0) sc__law_by_hand_right.nd rfl (Or.inl rfl) (pe_op op_cat (pv 0) (pe_lc (own := [("_law_own", 3)]) (g := gName 3) (tt := _) rfl sc__law_by_hand_right.nd (pi_tupK (K := K) (pe_tup (pa_cons (pe_tup (pa_cons pe_int (pa_cons pe_int pa_nil))) (pa_cons (pe_tup (pa_cons pe_int (pa_cons pe_int pa_nil))) pa_nil)))) (blkOk_by (own := [("_law_own", 3)]) (N := n__law_by_hand_right) (sc := defScope s__law_by_hand_right) (by decide +kernel)) (fun _ _ _ _ _ => (pg_name (i := 3) sc__law_by_hand_right.nd rfl (by first | exact Or.inl rfl | exact Or.inr rfl))) (fun _ _ _ _ _ => pts_nil) (fun _ _ _ _ _ => (pe_callR (E := E0) (ok__law_told T) (hr.mono (by first | decide | exact Nat.le_refl _)) (by rfl) T.g__law_told T.k__law_told pass0 (pa_cons (pe_callR (E := E0) (ok_rates T) (hr.mono (by first | decide | exact Nat.le_refl _)) (by rfl) T.g_rates T.k_rates pass0 (pa_cons (pv 1) (pa_cons pe_int (pa_cons (pv 2) (pa_cons (pv 3) pa_nil))))) pa_nil))))))
    (pss_one (ps_ret (pe_callR (E := E0) (ok__law_same T) (hr.mono (by first | decide | exact Nat.le_refl _)) (by rfl) T.g__law_same T.k__law_same pass0 (pa_cons (pv 0) (pa_cons (pe_lst (pa_cons pe_int (pa_cons pe_int (pa_cons pe_int (pa_cons pe_int (pa_cons pe_int (pa_cons pe_int pa_nil))))))) pa_nil)))))))), ?_⟩
  intro _ _
  refine sx_asg2 (P1 := Is K (Tp.mk x0.L)) (P2 := Is K (x0.shut, Tp.mk x0.anew)) (eg_tup (K := K) (ea_cons (eg_tup (K := K) (ea_cons eg_pr (ea_cons eg_pr (ea_cons eg_pr (ea_cons eg_pr ea_nil))))) (ea_cons (eg_tup (K := K) (ea_cons (eg_int (K := K) (i := 2)) (ea_cons (eg_tup (K := K) ea_nil) ea_nil))) ea_nil))) ?_
  have hx0 : LkOk x0 := ⟨by decide, by decide⟩
  have hdu : ∀ d, d ∈ ([(2, 5), (3, 5), (1, 1), (4, 2)] : List (Int × Int)) → DuOk' d := by decide
  refine sx_set (P := LsD (((([(2, 5), (3, 5), (1, 1), (4, 2)] : List (Int × Int))).filter fun _ => true).map fun d => Is K (vF d))) (eg_lcD (xs := ([(2, 5), (3, 5), (1, 1), (4, 2)] : List (Int × Int))) (F := Is K) (f := fun _ => true) (Rf := fun d => Is K (vF d)) (ew_tup (eg_tup (K := K) (ea_cons eg_pr (ea_cons eg_pr (ea_cons eg_pr (ea_cons eg_pr ea_nil)))))) (fun d => RepT.rt (vF d)) (fun d hd => tg_name) (fun d hd => et_yes) (fun d hd _ => EvG.of (F := Is K) (eg_call (x0, d) (ea_cons (eg_var (i := 1) rfl) (ea_cons (eg_int (K := K) (i := 4)) (ea_cons (eg_var (i := 2) rfl) (ea_cons (eg_var (i := 3) rfl) ea_nil)))) ⟨hx0, hdu d hd⟩) (vF d) (vF_uniq d hd)) (by decide)) ?_
  have hsub : ∀ d, d ∈ ([(2, 5), (3, 5)] : List (Int × Int)) → d ∈ ([(2, 5), (3, 5), (1, 1), (4, 2)] : List (Int × Int)) := by decide
  refine sx_set (P := LsD ((((([(2, 5), (3, 5), (1, 1), (4, 2)] : List (Int × Int))).filter fun _ => true).map fun d => Is K (vF d)) ++ (((([(2, 5), (3, 5)] : List (Int × Int))).filter fun _ => true).map fun d => Is K (vF d)))) (eg_catD (eg_var rfl) (eg_lcD (xs := ([(2, 5), (3, 5)] : List (Int × Int))) (F := Is K) (f := fun _ => true) (Rf := fun d => Is K (vF d)) (ew_tup (eg_tup (K := K) (ea_cons eg_pr (ea_cons eg_pr ea_nil)))) (fun d => RepT.rt (vF d)) (fun d hd => tg_name) (fun d hd => et_yes) (fun d hd _ => EvG.weak (eg_callS (fun R : List (Int × Int) => R) (eg_call (x0, d) (ea_cons (eg_var (i := 1) rfl) (ea_cons (eg_int (K := K) (i := 4)) (ea_cons (eg_var (i := 2) rfl) (ea_cons (eg_var (i := 3) rfl) ea_nil)))) ⟨hx0, hdu d (hsub d hd)⟩) (fun _ => rfl) ?_) fun v H ⟨R, hR, hv⟩ => vF_uniq d (hsub d hd) _ hR.2 ▸ hv) (by decide)) (by simp)) ?_
  · intro R hR
    have h1 := hR.1.len
    have h2 : R.length = 4 := h1
    show R.length ≤ 1000
    omega
  · refine sx_ret (P := Is K true) (eg_call ([14, 15, 3, 6, 14, 15] : List Int) (ea_cons (EvG.to (eg_var rfl) (by rfl)) (ea_cons (eg_lstD (ea_cons eg_int (ea_cons eg_int (ea_cons eg_int (ea_cons eg_int (ea_cons eg_int (ea_cons eg_int ea_nil))))))) ea_nil)) (by decide)) rfl
end
end Lp

/-! part LpFeesR -/
set_option Elab.async false
set_option linter.all false
set_option maxRecDepth 100000

namespace Lp
open PySem PySem.Spec PyProof.Rows L2
open Evl (Ex ex_l ex_t ex_rd fresh_back)
section
variable {prog : Program} {w : World} {K : PySem.W.Frag} {mg : Str → Option Value} {base : Heap}
section
variable {Γ : Gm} {t1 t2 te : TE}
theorem sx_parS {γ δ : Type} {p : γ → Prop} {q : δ → Prop} {F : γ → SP} {G : δ → SP} {i j : Nat} {t : TS} {N : Gm → Prop} {R : SP → Prop} (h1 : EvG t1 Γ (Ssm p F)) (h2 : EvG t2 Γ (Ssm q G)) (k : ∀ x y, p x → q y → StX t ((Γ.set i (some (F x))).set j (some (G y))) N R) : StX (tSeq (tPar i j (tCons t1 (tCons t2 tNil))) t) Γ N R := fun D σ H s hn hr =>
  h1 σ H _ s fun v H1 e1 ⟨x, hx, hv⟩ => h2 σ H1 _ (s.mono e1) fun w H2 e2 ⟨y, hy, hw⟩ => ⟨v, w, rfl, k x y hx hy D _ H2 (((s.mono (e1.trans e2)).set ((F x).mono e2 hv)).set hw) (fun Γ3 σ3 H3 n3 e3 s3 => hn Γ3 σ3 H3 n3 ((e1.trans e2).trans e3) s3) fun P v H3 r e3 hp => hr P v H3 r ((e1.trans e2).trans e3) hp⟩
theorem eg_opS {f : Int → Int → Int} {i : Int} {p : Int → Prop} (h1 : EvG t1 Γ (Is K i)) (h2 : EvG t2 Γ (Ssm p (Is K))) : EvG (tOp (rI0 fun i j => .int (f i j)) t1 t2) Γ (Ssm (fun z : Int => ∃ m, p m ∧ z = f i m) (Is K)) := fun σ H Q s q =>
  h1.two h2 s fun v w H2 e p1 ⟨m, hm, hw⟩ => ⟨i, m, p1, hw, q _ H2 e ⟨_, ⟨m, hm, rfl⟩, rfl⟩⟩
theorem eg_cmpS {f : Int → Int → Bool} {i : Int} {b : Bool} {p : Int → Prop} (h1 : EvG t1 Γ (Is K i)) (h2 : EvG t2 Γ (Ssm p (Is K))) (hb : ∀ m, p m → f i m = b) : EvG (tOp (rI0 fun i j => .bl (f i j)) t1 t2) Γ (Is K b) := fun σ H Q s q =>
  h1.two h2 s fun v w H2 e p1 ⟨m, hm, hw⟩ => ⟨i, m, p1, hw, q _ H2 e (by show V.bl (f i m) = V.bl b; rw [hb m hm])⟩
end
theorem LeastFee.toM {x : LkD} {dues : Int × Int} {m : Int} (hd : DuOk' dues) (h : LeastFee x dues m) : LeastM x dues m := by
  obtain ⟨M, h1, h2, h3⟩ := h
  exact ⟨M, h1, h3, fun M' hM' => h3 ▸ h2.least (net_ok hd.1 hd.2.2.1) hM'⟩
structure FrC (g : LkD × (Int × Int) × (Int × Int)) : Prop where
  pl : PlOk g.1.L
  an : g.1.anew.length ≤ 1000
  d1 : 1 ≤ g.2.1.1 ∧ g.2.1.1 ≤ 100
  d2 : 1 ≤ g.2.1.2 ∧ g.2.1.2 ≤ 100
  t1 : 1 ≤ g.2.2.1 ∧ g.2.2.1 ≤ 100
  t2 : 1 ≤ g.2.2.2 ∧ g.2.2.2 ≤ 100
theorem FrC.lk {g : LkD × (Int × Int) × (Int × Int)} (h : FrC g) : LkOk g.1 := ⟨by have := h.pl.len; omega, h.an⟩
theorem du_ok {i j : Int} (h1 : 1 ≤ i ∧ i ≤ 1000) (h2 : 1 ≤ j ∧ j ≤ 1000) : DuOk' (i, j) := ⟨by show 0 ≤ i; omega, by show i ≤ 1000000; omega, by show 0 ≤ j; omega, by show j ≤ 1000000; omega⟩
theorem ok__law_fees_right (T : Tx K mg) : FnR prog w K mg base CX0 10 (He.ga K "_law_fees_right") (spP FrC (fun g => [Is K (Tp.mk g.1.L), Is K g.1.keep, Is K (g.1.shut, Tp.mk g.1.anew), Is K g.2.1, Is K g.2.2]) (fun _ => Is K true)) := by
  obtain ⟨fdO, FO⟩ := T.d__law_fees_right
  refine fn_pure FO sc__law_fees_right (fun _ _ _ _ _ _ us hl => match us, hl with | [_, _, _, _, _], _ => rfl) (fun _ => rfl) fun cdv A outer s H E hr => ⟨_, PSs.nox (pss_cons (ps_par (i := 6) (j := 7) rfl sc__law_fees_right.nd rfl rfl (by decide) rfl rfl (pa_cons (pe_callR (E := E0) (ok_fewest_lifeless T) (hr.mono (by first | decide | exact Nat.le_refl _)) (by rfl) T.g_fewest_lifeless T.k_fewest_lifeless pass0 (pa_cons (pv 0) (pa_cons (pv 1) (pa_cons (pv 2) pa_nil)))) (pa_cons (pe_callR (E := E0) (ok_least_fee T) (hr.mono (by first | decide | exact Nat.le_refl _)) (by rfl) T.g_least_fee T.k_least_fee pass0 (pa_cons (pv 0) (pa_cons (pv 1) (pa_cons (pv 2) (pa_cons (pv 3) pa_nil))))) pa_nil)) (by rfl))
    (pss_cons (ps_if (pt_cmpR op_ne (pe_callR (E := E0) (ok_least_fee T) (hr.mono (by first | decide | exact Nat.le_refl _)) (by rfl) T.g_least_fee T.k_least_fee pass0 (pa_cons (pv 0) (pa_cons (pv 1) (pa_cons (pv 2) (pa_cons (pe_tup (pa_cons pe_int (pa_cons pe_int pa_nil))) pa_nil))))) (pv 6) (nomark _)) (pss_one (ps_ret pe_bl)) (pss_nil))
    (pss_cons (ps_if (pt_cmpR op_ne (pe_callR (E := E0) (ok_least_fee T) (hr.mono (by first | decide | exact Nat.le_refl _)) (by rfl) T.g_least_fee T.k_least_fee pass0 (pa_cons (pv 0) (pa_cons (pv 1) (pa_cons (pv 2) (pa_cons (pe_tup (pa_cons (pe_op op_add (pe_ix (ix_tupK (K := K)) (pv 3) pe_int (fun _ _ => rfl)) (pe_ix (ix_tupK (K := K)) (pv 4) pe_int (fun _ _ => rfl))) (pa_cons (pe_ix (ix_tupK (K := K)) (pv 3) pe_int (fun _ _ => rfl)) pa_nil))) pa_nil))))) (pe_op op_mul (pe_ix (ix_tupK (K := K)) (pv 3) pe_int (fun _ _ => rfl)) (pv 6)) (nomark _)) (pss_one (ps_ret pe_bl)) (pss_nil))
    (pss_cons (ps_if (pt_cmpR op_ne (pe_callR (E := E0) (ok_least_fee T) (hr.mono (by first | decide | exact Nat.le_refl _)) (by rfl) T.g_least_fee T.k_least_fee pass0 (pa_cons (pv 0) (pa_cons (pv 1) (pa_cons (pv 2) (pa_cons (pe_tup (pa_cons (pe_op op_mul pe_int (pe_ix (ix_tupK (K := K)) (pv 3) pe_int (fun _ _ => rfl))) (pa_cons (pe_op op_mul pe_int (pe_ix (ix_tupK (K := K)) (pv 3) pe_int (fun _ _ => rfl))) pa_nil))) pa_nil))))) (pe_op op_mul pe_int (pv 7)) (nomark _)) (pss_one (ps_ret pe_bl)) (pss_nil))
    (pss_cons (ps_set (i := 5) sc__law_fees_right.nd rfl (Or.inl rfl) (pe_callR (E := E0) (ok_least_fee T) (hr.mono (by first | decide | exact Nat.le_refl _)) (by rfl) T.g_least_fee T.k_least_fee pass0 (pa_cons (pv 0) (pa_cons (pv 1) (pa_cons (pv 2) (pa_cons (pe_tup (pa_cons (pe_op op_add (pe_ix (ix_tupK (K := K)) (pv 3) pe_int (fun _ _ => rfl)) (pe_ix (ix_tupK (K := K)) (pv 4) pe_int (fun _ _ => rfl))) (pa_cons (pe_op op_add (pe_ix (ix_tupK (K := K)) (pv 3) pe_int (fun _ _ => rfl)) (pe_ix (ix_tupK (K := K)) (pv 4) pe_int (fun _ _ => rfl))) pa_nil))) pa_nil))))))
    (pss_one (ps_ret (pe_cmpR op_ge (pv 5) (pe_op op_add (pv 7) (pe_callR (E := E0) (ok_least_fee T) (hr.mono (by first | decide | exact Nat.le_refl _)) (by rfl) T.g_least_fee T.k_least_fee pass0 (pa_cons (pv 0) (pa_cons (pv 1) (pa_cons (pv 2) (pa_cons (pv 4) pa_nil)))))) (nomark _))))))))), ?_⟩
  rintro ⟨x, ⟨d1, d2⟩, ⟨t1, t2⟩⟩ hc
  have hlk : LkOk x := hc.lk
  have pos : ∀ i, i < x.L.length → (ld x.L i).1 < (ld x.L i).2 := fun i hi => (hc.pl.pos i hi).2.1
  have so := hc.pl.so
  have hd1 : 1 ≤ d1 ∧ d1 ≤ 100 := hc.d1
  have hd2 : 1 ≤ d2 ∧ d2 ≤ 100 := hc.d2
  have ht1 : 1 ≤ t1 ∧ t1 ≤ 100 := hc.t1
  have ht2 : 1 ≤ t2 ∧ t2 ≤ 100 := hc.t2
  have dud : DuOk' (d1, d2) := du_ok (by omega) (by omega)
  have dut : DuOk' (t1, t2) := du_ok (by omega) (by omega)
  have du1 : DuOk' (1, 1) := du_ok (by omega) (by omega)
  have dub : DuOk' (d2 + t1, d2) := du_ok (by omega) (by omega)
  have du2 : DuOk' (2 * d1, 2 * d2) := du_ok (by omega) (by omega)
  have dus : DuOk' (d1 + t1, d2 + t2) := du_ok (by omega) (by omega)
  refine sx_parS (eg_call x (ea_cons (eg_var rfl) (ea_cons (eg_var rfl) (ea_cons (eg_var rfl) ea_nil))) hlk) (eg_call (x, (d1, d2)) (ea_cons (eg_var rfl) (ea_cons (eg_var rfl) (ea_cons (eg_var rfl) (ea_cons (eg_var rfl) ea_nil)))) ⟨hlk, dud⟩) fun few goal hf hg => ?_
  obtain ⟨F, hF, hfew⟩ := hf
  have hg : LeastM x (d1, d2) goal := LeastFee.toM dud hg
  refine sx_ifRet (b := false) (EvT.to (et_test (eg_neI (K := K) (i := few) (j := few) (EvG.of (F := Is K) (eg_call (x, (1, 1)) (ea_cons (eg_var rfl) (ea_cons (eg_var rfl) (ea_cons (eg_var rfl) (ea_cons eg_pr ea_nil)))) ⟨hlk, du1⟩) few fun m hm => ?_) (eg_var rfl))) ?_) (fun z => nomatch z) fun _ => ?_
  · have := least_few (x := x) (d := 1) (N := 1) (by decide) (by decide) pos so hF (LeastFee.toM du1 hm)
    omega
  · rw [decide_eq_true rfl]; rfl
  refine sx_ifRet (b := false) (EvT.to (et_test (eg_neI (K := K) (i := d2 * few) (j := d2 * few) (EvG.of (F := Is K) (eg_call (x, (d2 + t1, d2)) (ea_cons (eg_var rfl) (ea_cons (eg_var rfl) (ea_cons (eg_var rfl) (ea_cons (eg_tup (K := K) (Ps := [Is K (d2 + t1), Is K d2]) (ea_cons (eg_opI0 (K := K) (f := fun i j => i + j) (eg_snd (x := (d1, d2)) (eg_var rfl)) (eg_fst (x := (t1, t2)) (eg_var rfl))) (ea_cons (eg_snd (x := (d1, d2)) (eg_var rfl)) ea_nil))) ea_nil)))) ⟨hlk, dub⟩) (d2 * few) fun m hm => ?_) (eg_opI (K := K) (C := CMul) (f := fun i j => i * j) (eg_snd (x := (d1, d2)) (eg_var rfl)) (eg_var rfl) (.inl (by show _ < d2 ∧ d2 < _; omega))))) ?_) (fun z => nomatch z) fun _ => ?_
  · have := least_few (x := x) (d := d2 + t1) (N := d2) (by omega) (by omega) pos so hF (LeastFee.toM dub hm)
    rw [this, hfew]
  · rw [decide_eq_true rfl]; rfl
  refine sx_ifRet (b := false) (EvT.to (et_test (eg_neI (K := K) (i := 2 * goal) (j := 2 * goal) (EvG.of (F := Is K) (eg_call (x, (2 * d1, 2 * d2)) (ea_cons (eg_var rfl) (ea_cons (eg_var rfl) (ea_cons (eg_var rfl) (ea_cons (eg_tup (K := K) (Ps := [Is K (2 * d1), Is K (2 * d2)]) (ea_cons (eg_opI (K := K) (C := CMul) (f := fun i j => i * j) (i := 2) eg_int (eg_fst (x := (d1, d2)) (eg_var rfl)) (.inl (by decide))) (ea_cons (eg_opI (K := K) (C := CMul) (f := fun i j => i * j) (i := 2) eg_int (eg_snd (x := (d1, d2)) (eg_var rfl)) (.inl (by decide))) ea_nil))) ea_nil)))) ⟨hlk, du2⟩) (2 * goal) fun m hm => ?_) (eg_opI (K := K) (C := CMul) (f := fun i j => i * j) (i := 2) eg_int (eg_var rfl) (.inl (by decide))))) ?_) (fun z => nomatch z) fun _ => ?_
  · exact least_two hg (LeastFee.toM du2 hm)
  · rw [decide_eq_true rfl]; rfl
  refine sx_setS (eg_call (x, (d1 + t1, d2 + t2)) (ea_cons (eg_var rfl) (ea_cons (eg_var rfl) (ea_cons (eg_var rfl) (ea_cons (eg_tup (K := K) (Ps := [Is K (d1 + t1), Is K (d2 + t2)]) (ea_cons (eg_opI0 (K := K) (f := fun i j => i + j) (eg_fst (x := (d1, d2)) (eg_var rfl)) (eg_fst (x := (t1, t2)) (eg_var rfl))) (ea_cons (eg_opI0 (K := K) (f := fun i j => i + j) (eg_snd (x := (d1, d2)) (eg_var rfl)) (eg_snd (x := (t1, t2)) (eg_var rfl))) ea_nil))) ea_nil)))) ⟨hlk, dus⟩) fun both hb => ?_
  have hb : LeastM x (d1 + t1, d2 + t2) both := LeastFee.toM dus hb
  refine sx_ret (P := Is K true) (eg_cmpS (K := K) (f := fun i j => decide (j ≤ i)) (i := both) (eg_var rfl) (eg_opS (K := K) (f := fun i j => i + j) (i := goal) (eg_var rfl) (eg_call (x, (t1, t2)) (ea_cons (eg_var rfl) (ea_cons (eg_var rfl) (ea_cons (eg_var rfl) (ea_cons (eg_var rfl) ea_nil)))) ⟨hlk, dut⟩)) ?_) rfl
  rintro z ⟨m, hm, rfl⟩
  exact decide_eq_true (least_sum hg (LeastFee.toM dut hm) hb)
end
end Lp

/-! part LpRight0 -/
set_option Elab.async false
set_option linter.all false
set_option maxRecDepth 100000

namespace Lp
open PySem PySem.Spec PyProof.Rows L2
open Evl (Ex ex_l ex_t ex_rd fresh_back)
section
variable {prog : Program} {w : World} {K : PySem.W.Frag} {mg : Str → Option Value} {base : Heap}
theorem eg_call0 {γ : Type} {C : γ → Prop} {Qs : γ → List SP} {R : γ → SP} {E : XK} {Γ : Gm} (g : γ) (hc : C g) (hq : Qs g = []) : EvG (fun σ H Q => spP C Qs R [] H Q E) Γ (R g) := fun σ H Q s q => ⟨g, hc, by rw [hq]; exact .nil, fun v H2 e r => q v H2 e r⟩
/-! statements of a lap -/
def StC (a : Addr) (n m : Nat) (t : TS) (Γ : Gm) : Prop := ∀ (D : Ends) (σ : L2.St) (H : Hp), Sat Γ σ (cu a H) → Bx a n H → (∀ σ2 H2, σ2.length = 17 → σ2[0]? = some (some (.ref a)) → Ex (cu a H) (cu a H2) → Bx a m H2 → D.nx σ2 H2) → t D σ H
section
variable {a : Addr} {n m p : Nat} {Γ : Gm} {te t1 t2 : TE} {t : TS} {P P1 P2 P3 : SP}
theorem sc_set {i : Nat} (h : EvB a n m te Γ P) (h2 : StC a m p t (Γ.set i (some P))) : StC a n p (tSeq (tAsg te (gName i)) t) Γ := fun D σ H s b q =>
  h σ H _ s b fun v H1 e1 b1 p1 => h2 D _ H1 ((s.mono e1).set p1) b1 fun σ2 H2 l2 z2 e2 b2 => q σ2 H2 l2 z2 (e1.trans e2) b2
theorem sc_open {γ : Type} {p' : γ → Prop} {F : γ → SP} (i : Nat) (hv : Γ[i]? = some (some (Ssm p' F))) (h : ∀ x, p' x → StC a n m t (Γ.set i (some (F x)))) : StC a n m t Γ := fun D σ H s b q => by
  obtain ⟨v, h1, x, hx, h2⟩ := s.at' i _ hv
  exact h x hx D σ H (s.know h1 h2) b q
theorem sc_le {n' : Nat} (l : n' ≤ n) (h : StC a n' m t Γ) : StC a n m t Γ := fun D σ H s b q => h D σ H s (b.le l) q
theorem sc_of (h : StX t Γ (fun Γ2 => Γ2.length = 17 ∧ Γ2[0]? = some (some (Eq1 (.ref a)))) (fun _ => False)) : StC a n n t Γ := fun D σ H s b q =>
  h D σ H (s.mono cu_ex) (fun Γ2 σ2 H2 ⟨n1, n2⟩ e s2 => q σ2 H2 (s2.len.trans n1) (s2.eq1 n2) (ex_cu e) (b.mono e)) fun P v H2 f e p => f.elim
theorem sqt_cu {H : Hp} {l : Addr} {vs : List V} (h : SqT K (cu a H) l vs) : SqT K H l vs := by
  rcases h with h | h
  · exact .inl (ex_rd cu_ex h)
  · exact .inr h
theorem sc_asg2 {i j : Nat} (h : EvB a n m te Γ (TuP K [P1, P2])) (h2 : StC a m p t ((Γ.set i (some P1)).set j (some P2))) : StC a n p (tSeq (tAsg te (gTup K 2 (gCons (gName i) (gCons (gName j) gNil)))) t) Γ := fun D σ H s b q =>
  h σ H _ s b fun v H1 e1 b1 ⟨l, vs, k1, k2, k3⟩ => by
    cases k3 with
    | cons r1 u1 =>
      cases u1 with
      | cons r2 u2 =>
        cases u2
        exact ⟨l, _, k1, sqt_cu k2, rfl, _, _, rfl, _, _, rfl, rfl, h2 D _ H1 (((s.mono e1).set r1).set r2) b1 fun σ2 H2 l2 z2 e2 b2 => q σ2 H2 l2 z2 (e1.trans e2) b2⟩
theorem sc_asg3 {i j k : Nat} (h : EvB a n m te Γ (TuP K [P1, P2, P3])) (h2 : StC a m p t (((Γ.set i (some P1)).set j (some P2)).set k (some P3))) : StC a n p (tSeq (tAsg te (gTup K 3 (gCons (gName i) (gCons (gName j) (gCons (gName k) gNil))))) t) Γ := fun D σ H s b q =>
  h σ H _ s b fun v H1 e1 b1 ⟨l, vs, k1, k2, k3⟩ => by
    cases k3 with
    | cons r1 u1 =>
      cases u1 with
      | cons r2 u2 =>
        cases u2 with
        | cons r3 u3 =>
          cases u3
          exact ⟨l, _, k1, sqt_cu k2, rfl, _, _, rfl, _, _, rfl, _, _, rfl, rfl, h2 D _ H1 ((((s.mono e1).set r1).set r2).set r3) b1 fun σ2 H2 l2 z2 e2 b2 => q σ2 H2 l2 z2 (e1.trans e2) b2⟩
theorem eb_lcD {γ : Type} {xs : List γ} {F : γ → SP} {Γ1 : γ → Gm} {f : γ → Bool} {Rf : γ → SP} {wi : TI} {g : TG} {tt : TT} {vs : List Nat} (hw : EvW wi Γ (xs.map F)) (hr : ∀ x, RT (Rf x))
    (hg : ∀ x, x ∈ xs → TgG g (wipeG Γ vs) (F x) (Γ1 x) vs) (ht : ∀ x, x ∈ xs → EvT tt (Γ1 x) (f x)) (he : ∀ x, x ∈ xs → f x = true → EvG te (Γ1 x) (Rf x)) (hl : xs.length ≤ 100000) : EvB a n n (tLc wi g tt te vs) Γ (LsD ((xs.filter f).map Rf)) := fun σ H Q s b q =>
  eg_lcX hw hr hg ht he hl σ H Q (s.mono cu_ex) fun D acc H2 e nD hD hacc => q _ H2 (ex_cu e) (b.mono e) ⟨D, acc, rfl, (cu_ne (b.ne nD)).trans hD, AllP.kt hacc (fun P hP => by
    obtain ⟨x, _, rfl⟩ := List.mem_map.mp hP
    exact hr x) (b.mono e).kt⟩
theorem eb_catS {k0 N : Nat} {P : SP} (x : EvB a n m t1 Γ (LsD (List.replicate k0 P))) (y : EvB a m p t2 Γ (SoMany K N P)) (hl : k0 + N ≤ 1000) : EvB a n p (tOp rCat t1 t2) Γ (Ssm (fun k : Nat => k0 ≤ k ∧ k ≤ k0 + N) (fun k => LsD (List.replicate k P))) := fun σ H Q s b q =>
  x σ H _ s b fun v H1 e1 b1 p1 => y σ H1 _ (s.mono e1) b1 fun w H2 e2 b2 ⟨k, hk, l2, vs2, h4, h5, h6⟩ => by
    obtain ⟨l1, vs1, h1, h2, h3⟩ := (LsD (List.replicate k0 P)).mono e2 p1
    subst h1 h4
    refine ⟨l1, l2, vs1, vs2, rfl, rfl, (cu_some h2).2, (cu_some h5).2, ?_, fun l hl => q _ _ ((e1.trans e2).trans (ex_cu (Ex.new hl))) (b2.mono (Ex.new hl)) ⟨k0 + k, ⟨by omega, by omega⟩, l, _, rfl, (cu_ne (b2.ne hl)).trans upd_same, ?_⟩⟩
    · rw [h3.len, h6.len, List.length_replicate, List.length_replicate]
      exact Evl.sz_of (by omega)
    · have h7 := (h3.append h6).mono (ex_cu (a := a) (Ex.new (o := .lst (vs1 ++ vs2)) hl))
      rw [List.replicate_append_replicate] at h7
      exact h7
end
theorem rt_ssm {γ : Type} {p : γ → Prop} {F : γ → SP} (h : ∀ x, RT (F x)) : RT (Ssm p F) := fun v H H' e ⟨x, hx, hv⟩ => ⟨x, hx, h x v H H' e hv⟩
abbrev LaneP (K : PySem.W.Frag) (L : Loans) (keep : Int) : SP := Ssm (HandOk L (some keep)) (fun lane => Is K (Tp.mk lane))
theorem all_lanes {L : Loans} {keep : Int} {H : Hp} : ∀ {k : Nat} {vs : List V}, AllP vs (List.replicate k (LaneP K L keep)) H → ∃ lanes : List (List (Option Nat)), AllP vs (lanes.map fun l => Is K (Tp.mk l)) H ∧ lanes.length = k ∧ ∀ l, l ∈ lanes → HandOk L (some keep) l
  | 0, vs, h => by cases h; exact ⟨[], .nil, rfl, fun l hl => by cases hl⟩
  | k + 1, vs, h => by
    rw [List.replicate_succ] at h
    cases h with
    | cons r t =>
      obtain ⟨l, hl, hv⟩ := r
      obtain ⟨ls, h1, h2, h3⟩ := all_lanes t
      exact ⟨l :: ls, .cons hv h1, by rw [List.length_cons, h2], fun x hx => by
        rcases List.mem_cons.mp hx with e | hx
        · rw [e]; exact hl
        · exact h3 x hx⟩
abbrev LanesP (K : PySem.W.Frag) (L : Loans) (keep : Int) : SP := Ssm (fun lanes : List (List (Option Nat)) => 0 < lanes.length ∧ lanes.length ≤ 100 ∧ ∀ l, l ∈ lanes → HandOk L (some keep) l) (fun lanes => LsP K (lanes.map fun l => Is K (Tp.mk l)))
abbrev DuP (K : PySem.W.Frag) (hi : Int) : SP := Ssm (fun d : Int × Int => (1 ≤ d.1 ∧ d.1 ≤ hi) ∧ (1 ≤ d.2 ∧ d.2 ≤ hi)) (Is K)
theorem du_of {hi : Int} : ∀ v H, (TuP K [Rg 1 hi, Rg 1 hi]).p v H → (DuP K hi).p v H := fun v H ⟨l, vs, k1, k2, k3⟩ => by
  cases k3 with
  | cons r1 u1 =>
    cases u1 with
    | cons r2 u2 =>
      cases u2
      obtain ⟨i, rfl, i1, i2⟩ := r1
      obtain ⟨j, rfl, j1, j2⟩ := r2
      exact ⟨(i, j), ⟨⟨i1, i2⟩, j1, j2⟩, l, _, k1, k2, .cons rfl (.cons rfl .nil)⟩
theorem eg_callX {γ : Type} {C : γ → Prop} {Qs : γ → List SP} {R : γ → SP} {tr : TA} {E : XK} {Γ : Gm} {Ps : List SP} {P : SP} (h : EvA tr Γ Ps) (hg : ∀ vs H, AllP vs Ps H → ∃ g, C g ∧ AllP vs (Qs g) H ∧ ∀ v H', (R g).p v H' → P.p v H') : EvG (fun σ H Q => tr σ H fun vs H1 => spP C Qs R vs H1 Q E) Γ P := fun σ H Q s q =>
  h σ H _ s fun vs H1 e1 p1 => by
    obtain ⟨g, hc, ha, hp⟩ := hg vs H1 p1
    exact ⟨g, hc, ha, fun v H2 e2 r => q v H2 (e1.trans e2) (hp v H2 r)⟩
theorem eg_cmpS1 {Γ : Gm} {t1 t2 : TE} {f : Int → Int → Bool} {j : Int} {b : Bool} {p : Int → Prop} (h1 : EvG t1 Γ (Ssm p (Is K))) (h2 : EvG t2 Γ (Is K j)) (hb : ∀ m, p m → f m j = b) : EvG (tOp (rI0 fun i j => .bl (f i j)) t1 t2) Γ (Is K b) := fun σ H Q s q =>
  h1.two h2 s fun v w H2 e ⟨m, hm, hv⟩ p2 => ⟨m, j, hv, p2, q _ H2 e (by show V.bl (f m j) = V.bl b; rw [hb m hm])⟩
theorem eg_rev {Γ : Gm} {te : TE} {p : List Int → Prop} {ms : List Int} (h : EvG te Γ (Ssm p (Is K))) (hb : ∀ ns, p ns → ns.reverse = ms) : EvG (tRevL K te) Γ (Is K ms) := fun σ H Q s q =>
  h σ H _ s fun v H1 e1 ⟨ns, hn, a, xs, h1, h2, h3⟩ => by
    obtain rfl := all_ints h3
    exact ⟨a, _, h1, h2, fun l hl => q _ _ (e1.trans (Ex.new hl)) ⟨l, _, rfl, .inl (.inl upd_same), by
      rw [← List.map_reverse, hb ns hn]
      exact ints_all⟩⟩
theorem goal_le {x : LkD} {d : Int × Int} {goal : Int} {l : List (Option Nat)} (hd : DuOk' d) (hg : LeastFee x d goal) (hl : HandOk x.L x.keep l) : goal ≤ paidF x.L x.shut x.anew d l := by
  obtain ⟨M, h1, h2, rfl⟩ := hg
  rw [lane_paid hl]
  exact h2.least (net_ok hd.1 hd.2.2.1) (lane_mok hl)
theorem all_fees {γ : Type} {p : γ → Int → Prop} {H : Hp} : ∀ {ks : List γ} {vs : List V}, AllP vs (ks.map fun k => Ssm (p k) (Is K)) H → ∃ ms : List Int, vs = ms.map V.int ∧ Paired (fun m k => p k m) ms ks
  | [], vs, h => by cases h; exact ⟨[], rfl, .nil⟩
  | k :: ks, vs, h => by
    cases h with
    | cons r t =>
      obtain ⟨m, hm, hv⟩ := r
      obtain ⟨ms, h1, h2⟩ := all_fees t
      obtain rfl : _ = V.int m := hv
      exact ⟨m :: ms, by rw [h1]; rfl, .cons hm h2⟩
theorem fees_desc {L : Loans} {shut : Option Int} {anew : List Int} {d : Int × Int} (hd : DuOk' d) : ∀ {ks ms : List Int}, Paired (fun m k => LeastFee ⟨L, some k, shut, anew⟩ d m) ms ks → ks.Pairwise (· ≤ ·) → ms.Pairwise (fun a b => b ≤ a)
  | [], _, h, _ => by cases h; exact .nil
  | k :: ks, _, h, hk => by
    cases h with
    | cons r t =>
      obtain ⟨k1, k2⟩ := List.pairwise_cons.mp hk
      refine List.pairwise_cons.mpr ⟨?_, fees_desc hd t k2⟩
      have : ∀ {ms ks : List Int}, Paired (fun m k => LeastFee ⟨L, some k, shut, anew⟩ d m) ms ks → (∀ k', k' ∈ ks → k ≤ k') → ∀ m', m' ∈ ms → m' ≤ _ := fun {ms ks} h => by
        induction h with
        | nil => intro _ m' h; cases h
        | cons r2 t2 ih =>
          intro hks m' hm'
          rcases List.mem_cons.mp hm' with e | hm'
          · rw [e]
            exact least_keep (x := ⟨L, none, shut, anew⟩) (hks _ List.mem_cons_self) (LeastFee.toM hd r) (LeastFee.toM hd r2)
          · exact ih (fun k' hk' => hks k' (List.mem_cons_of_mem _ hk')) m' hm'
      exact this t k1
theorem sort_rev {ms ns : List Int} (hm : ms.Pairwise (fun a b => b ≤ a)) (h : SortOf ms ns) : ns.reverse = ms := by
  have h1 : ns = ms.reverse := perm_sorted (h.1.trans (List.reverse_perm ms).symm) h.2 (List.pairwise_reverse.mpr hm)
  rw [h1, List.reverse_reverse]
end
end Lp

/-! part LpRight -/
set_option Elab.async false
set_option linter.all false
set_option maxRecDepth 100000

namespace Lp
open PySem PySem.Spec PyProof.Rows L2
open Evl (Ex ex_l ex_t ex_rd fresh_back)
section
variable {prog : Program} {w : World} {K : PySem.W.Frag} {mg : Str → Option Value} {base : Heap}
set_option maxHeartbeats 4000000 in
theorem ok__law_right (T : Tx K mg) : FnR prog w K mg base CX0 11 (He.ga K "_law_right") (spBx 1000 (fun _ : Unit => True) (fun _ => []) (fun _ => Is K true)) := by
  obtain ⟨fdO, FO⟩ := T.d__law_right
  refine fn_any FO sc__law_right (fun _ _ _ _ _ _ us hl => match us, hl with | [_], _ => rfl) ?_ fun cdv A outer s H vs Q E hr hsp => ⟨_, PSs.nox (pss_cons (ps_if (pt_not (pt_val (pe_callR0 (E := E0) (ok__law_by_hand_right T) (hr.mono (by first | decide | exact Nat.le_refl _)) (by rfl) T.g__law_by_hand_right T.k__law_by_hand_right pass0))) (pss_one (ps_ret pe_bl)) (pss_nil))
    (pss_cons (ps_for PassesOwn.never rfl (pi_range1 (by rfl) T.f_range (pa_cons pe_int pa_nil)) (pg_name (i := 1) sc__law_right.nd rfl (Or.inl rfl)) (pss_cons (ps_asg (pe_tup (pa_cons (pe_callR (E := E0) (ok__law_line T) (hr.mono (by first | decide | exact Nat.le_refl _)) (by rfl) T.g__law_line T.k__law_line pass0 (pa_cons (pv 0) (pa_cons pe_int (pa_cons pe_int pa_nil)))) (pa_cons (pe_callR (E := E0) (ok__law_keep T) (hr.mono (by first | decide | exact Nat.le_refl _)) (by rfl) T.g__law_keep T.k__law_keep pass0 (pa_cons (pv 0) pa_nil)) (pa_cons (pe_callR (E := E0) (ok__law_far T) (hr.mono (by first | decide | exact Nat.le_refl _)) (by rfl) T.g__law_far T.k__law_far pass0 (pa_cons (pv 0) pa_nil)) pa_nil)))) (pg_tupK (K := K) (n := 3) rfl (pgs_cons (pg_name (i := 9) sc__law_right.nd rfl (Or.inr rfl)) (pgs_cons (pg_name (i := 10) sc__law_right.nd rfl (Or.inr rfl)) (pgs_cons (pg_name (i := 11) sc__law_right.nd rfl (Or.inr rfl)) pgs_nil)))))
    (pss_cons (ps_set (i := 2) sc__law_right.nd rfl (Or.inr rfl) (pe_tup (pa_cons (pe_op op_add pe_int (pe_callR (E := E0) (ok__law_of T) (hr.mono (by first | decide | exact Nat.le_refl _)) (by rfl) T.g__law_of T.k__law_of pass0 (pa_cons (pv 0) (pa_cons (pe_lst (pa_cons pe_int (pa_cons pe_int (pa_cons pe_int (pa_cons pe_int (pa_cons pe_int pa_nil)))))) pa_nil)))) (pa_cons (pe_op op_add pe_int (pe_callR (E := E0) (ok__law_of T) (hr.mono (by first | decide | exact Nat.le_refl _)) (by rfl) T.g__law_of T.k__law_of pass0 (pa_cons (pv 0) (pa_cons (pe_lst (pa_cons pe_int (pa_cons pe_int (pa_cons pe_int (pa_cons pe_int (pa_cons pe_int pa_nil)))))) pa_nil)))) pa_nil))))
    (pss_cons (ps_set (i := 3) sc__law_right.nd rfl (Or.inl rfl) (pe_tup (pa_cons (pe_op op_add pe_int (pe_callR (E := E0) (ok__law_take T) (hr.mono (by first | decide | exact Nat.le_refl _)) (by rfl) T.g__law_take T.k__law_take pass0 (pa_cons (pv 0) (pa_cons pe_int pa_nil)))) (pa_cons (pe_op op_add pe_int (pe_callR (E := E0) (ok__law_take T) (hr.mono (by first | decide | exact Nat.le_refl _)) (by rfl) T.g__law_take T.k__law_take pass0 (pa_cons (pv 0) (pa_cons pe_int pa_nil)))) pa_nil))))
    (pss_cons (ps_asg (pe_tup (pa_cons (pe_callR (E := E0) (ok_least_fee T) (hr.mono (by first | decide | exact Nat.le_refl _)) (by rfl) T.g_least_fee T.k_least_fee pass0 (pa_cons (pv 9) (pa_cons (pv 10) (pa_cons (pv 11) (pa_cons (pv 2) pa_nil))))) (pa_cons (pe_callR (E := E0) (ok_rates T) (hr.mono (by first | decide | exact Nat.le_refl _)) (by rfl) T.g_rates T.k_rates pass0 (pa_cons (pv 9) (pa_cons (pv 10) (pa_cons (pv 11) (pa_cons (pv 2) pa_nil))))) pa_nil))) (pg_tupK (K := K) (n := 2) rfl (pgs_cons (pg_name (i := 12) sc__law_right.nd rfl (Or.inr rfl)) (pgs_cons (pg_name (i := 13) sc__law_right.nd rfl (Or.inl rfl)) pgs_nil))))
    (pss_cons (ps_setLc (i := 4) (own := [("_law_deep", 14)]) (g := gName 14) (tt := _) rfl sc__law_right.nd rfl rfl (sw_true rfl rfl rfl (by decide +kernel)) (pi_tupK (K := K) (pe_tup (pa_cons pe_int (pa_cons pe_int (pa_cons pe_non pa_nil))))) (blkOk_by (own := [("_law_deep", 14)]) (N := n__law_right) (sc := defScope s__law_right) (by decide +kernel)) (fun _ _ _ _ _ => (pg_name (i := 14) sc__law_right.nd rfl (by first | exact Or.inl rfl | exact Or.inr rfl))) (fun _ _ _ _ _ => pts_nil) (fun _ _ _ _ _ => (pe_callR (E := E0) (ok_handing_of T) (hr.mono (by first | decide | exact Nat.le_refl _)) (by rfl) T.g_handing_of T.k_handing_of pass0 (pa_cons (pv 9) (pa_cons (pv 10) (pa_cons (pv 14) pa_nil))))))
    (pss_cons (ps_set (i := 4) sc__law_right.nd rfl (Or.inl rfl) (pe_op op_cat (pv 4) (pe_lc (own := [("_law_again", 16)]) (g := gName 16) (tt := _) rfl sc__law_right.nd (pi_range1 (by rfl) T.f_range (pa_cons pe_int pa_nil)) (blkOk_by (own := [("_law_again", 16)]) (N := n__law_right) (sc := defScope s__law_right) (by decide +kernel)) (fun _ _ _ _ _ => (pg_name (i := 16) sc__law_right.nd rfl (by first | exact Or.inl rfl | exact Or.inr rfl))) (fun _ _ _ _ _ => pts_nil) (fun _ _ _ _ _ => (pe_callR (E := E0) (ok__law_drawn T) (hr.mono (by first | decide | exact Nat.le_refl _)) (by rfl) T.g__law_drawn T.k__law_drawn pass0 (pa_cons (pv 0) (pa_cons (pv 9) (pa_cons (pv 10) pa_nil))))))))
    (pss_cons (ps_setLc (i := 5) (own := [("_law_own", 15)]) (g := gName 15) (tt := _) rfl sc__law_right.nd rfl rfl (sw_true rfl rfl rfl (by decide +kernel)) (pi_listK (K := K) (pv 4)) (blkOk_by (own := [("_law_own", 15)]) (N := n__law_right) (sc := defScope s__law_right) (by decide +kernel)) (fun _ _ _ _ _ => (pg_name (i := 15) sc__law_right.nd rfl (by first | exact Or.inl rfl | exact Or.inr rfl))) (fun _ _ _ _ _ => pts_nil) (fun _ _ _ _ _ => (pe_callR (E := E0) (ok__law_paid T) (hr.mono (by first | decide | exact Nat.le_refl _)) (by rfl) T.g__law_paid T.k__law_paid pass0 (pa_cons (pv 9) (pa_cons (pv 11) (pa_cons (pv 2) (pa_cons (pv 15) pa_nil)))))))
    (pss_cons (ps_if (PW.pt (pw_or (pt_not (pt_val (pe_callR (E := E0) (ok__law_are_rates T) (hr.mono (by first | decide | exact Nat.le_refl _)) (by rfl) T.g__law_are_rates T.k__law_are_rates pass0 (pa_cons (pv 9) (pa_cons (pv 10) (pa_cons (pv 11) (pa_cons (pv 2) (pa_cons (pv 13) pa_nil)))))))) (pw_or (pt_cmpR op_ne (pe_callR (E := E0) (ok__law_told T) (hr.mono (by first | decide | exact Nat.le_refl _)) (by rfl) T.g__law_told T.k__law_told pass0 (pa_cons (pv 13) pa_nil)) (pv 12) (nomark _)) (pw_or1 (pt_cmpR op_lt (pe_callB (cr_min rfl) (by rfl) T.f_min (by decide +kernel) (pa_cons (pv 5) pa_nil)) (pv 12) (nomark _)))))) (pss_one (ps_ret pe_bl)) (pss_nil))
    (pss_cons (ps_if (pt_cmpR op_ne (pe_callR (E := E0) (ok__law_paid T) (hr.mono (by first | decide | exact Nat.le_refl _)) (by rfl) T.g__law_paid T.k__law_paid pass0 (pa_cons (pv 9) (pa_cons (pv 11) (pa_cons (pv 2) (pa_cons (pe_callR (E := E0) (ok_cheapest T) (hr.mono (by first | decide | exact Nat.le_refl _)) (by rfl) T.g_cheapest T.k_cheapest pass0 (pa_cons (pv 9) (pa_cons (pv 10) (pa_cons (pv 11) (pa_cons (pv 2) pa_nil))))) pa_nil))))) (pv 12) (nomark _)) (pss_one (ps_ret pe_bl)) (pss_nil))
    (pss_cons (ps_setLc (i := 6) (own := [("_law_own", 15)]) (g := gName 15) (tt := _) rfl sc__law_right.nd rfl rfl (sw_true rfl rfl rfl (by decide +kernel)) (pi_listK (K := K) (pv 4)) (blkOk_by (own := [("_law_own", 15)]) (N := n__law_right) (sc := defScope s__law_right) (by decide +kernel)) (fun _ _ _ _ _ => (pg_name (i := 15) sc__law_right.nd rfl (by first | exact Or.inl rfl | exact Or.inr rfl))) (fun _ _ _ _ _ => pts_nil) (fun _ _ _ _ _ => (pe_callR (E := E0) (ok_fee T) (hr.mono (by first | decide | exact Nat.le_refl _)) (by rfl) T.g_fee T.k_fee pass0 (pa_cons (pv 9) (pa_cons (pv 11) (pa_cons (pv 2) (pa_cons (pv 15) pa_nil)))))))
    (pss_cons (ps_setLc (i := 7) (own := [("_law_own", 15)]) (g := gName 15) (tt := _) rfl sc__law_right.nd rfl rfl (sw_true rfl rfl rfl (by decide +kernel)) (pi_listK (K := K) (pv 4)) (blkOk_by (own := [("_law_own", 15)]) (N := n__law_right) (sc := defScope s__law_right) (by decide +kernel)) (fun _ _ _ _ _ => (pg_name (i := 15) sc__law_right.nd rfl (by first | exact Or.inl rfl | exact Or.inr rfl))) (fun _ _ _ _ _ => pts_nil) (fun _ _ _ _ _ => (pe_callR (E := E0) (ok_is_cheapest T) (hr.mono (by first | decide | exact Nat.le_refl _)) (by rfl) T.g_is_cheapest T.k_is_cheapest pass0 (pa_cons (pv 9) (pa_cons (pv 10) (pa_cons (pv 11) (pa_cons (pv 2) (pa_cons (pv 15) pa_nil))))))))
    (pss_cons (ps_if (PW.pt (pw_or (pt_cmpR (op_neD hr.units) (pv 6) (pv 5) (nomark _)) (pw_or (pt_cmpR (op_neD hr.units) (pv 7) (pe_lc (own := [("_law_own", 15)]) (g := gName 15) (tt := _) rfl sc__law_right.nd (pi_listK (K := K) (pv 5)) (blkOk_by (own := [("_law_own", 15)]) (N := n__law_right) (sc := defScope s__law_right) (by decide +kernel)) (fun _ _ _ _ _ => (pg_name (i := 15) sc__law_right.nd rfl (by first | exact Or.inl rfl | exact Or.inr rfl))) (fun _ _ _ _ _ => pts_nil) (fun _ _ _ _ _ => (pe_cmpR op_eq (pv 15) (pv 12) (nomark _)))) (nomark _)) (pw_or1 (pt_not (pt_val (pe_callR (E := E0) (ok_is_rates T) (hr.mono (by first | decide | exact Nat.le_refl _)) (by rfl) T.g_is_rates T.k_is_rates pass0 (pa_cons (pv 9) (pa_cons (pv 10) (pa_cons (pv 11) (pa_cons (pv 2) (pa_cons (pv 13) pa_nil)))))))))))) (pss_one (ps_ret pe_bl)) (pss_nil))
    (pss_cons (ps_if (pt_not (pt_val (pe_callR (E := E0) (ok__law_fees_right T) (hr.mono (by first | decide | exact Nat.le_refl _)) (by rfl) T.g__law_fees_right T.k__law_fees_right pass0 (pa_cons (pv 9) (pa_cons (pv 10) (pa_cons (pv 11) (pa_cons (pv 2) (pa_cons (pv 3) pa_nil)))))))) (pss_one (ps_ret pe_bl)) (pss_nil))
    (pss_cons (ps_setLc (i := 8) (own := [("_law_own", 15)]) (g := gName 15) (tt := _) rfl sc__law_right.nd rfl rfl (sw_true rfl rfl rfl (by decide +kernel)) (pi_tupK (K := K) (pe_tup (pa_cons pe_int (pa_cons pe_int (pa_cons pe_int (pa_cons pe_int (pa_cons pe_int pa_nil))))))) (blkOk_by (own := [("_law_own", 15)]) (N := n__law_right) (sc := defScope s__law_right) (by decide +kernel)) (fun _ _ _ _ _ => (pg_name (i := 15) sc__law_right.nd rfl (by first | exact Or.inl rfl | exact Or.inr rfl))) (fun _ _ _ _ _ => pts_nil) (fun _ _ _ _ _ => (pe_callR (E := E0) (ok_least_fee T) (hr.mono (by first | decide | exact Nat.le_refl _)) (by rfl) T.g_least_fee T.k_least_fee pass0 (pa_cons (pv 9) (pa_cons (pv 15) (pa_cons (pv 11) (pa_cons (pv 2) pa_nil)))))))
    (pss_one (ps_if (pt_cmpR (op_neD hr.units) (pv 8) (pe_revL (pe_callB cr_sortedI (by rfl) T.f_sorted (by decide +kernel) (pa_cons (pv 8) pa_nil))) (nomark _)) (pss_one (ps_ret pe_bl)) (pss_nil))))))))))))))))))
    (pss_one (ps_ret pe_bl)))), ?_⟩
  · exact lenBx fun _ => rfl
  refine runBx hsp rfl fun _ a f _ => ?_
  clear hsp
  intro D σ H s b hr
  have yl : σ.length = 17 := s.len
  obtain ⟨v0, y0, p0⟩ := s.at' 0 (Eq1 (.ref a)) rfl
  obtain rfl : v0 = .ref a := p0
  refine h_seq (h_if (b := false) (Γ := List.replicate 17 none) (EvT.to (et_not (a := true) (et_B (eg_call0 () trivial rfl))) rfl) (sat_no (n := 17) yl) (fun z => nomatch z) fun _ H1 e1 => h_next ?_)
  dsimp only
  refine h_seq (h_forR (K := K) (n := 3) (Γ := List.replicate 17 none) (ea_cons (eg_int (K := K) (i := 3)) ea_nil) (by omega) (sat_no (n := 17) yl) fun H2 e2 => ?_)
  refine ⟨fun t σ' H' => σ'.length = 17 ∧ σ'[0]? = some (some (.ref a)) ∧ Ex (cu a H) (cu a H') ∧ Bx a (f + 300 * (3 - t)) H', ⟨yl, y0, ex_cu (e1.trans e2), (b.le (by omega)).mono (e1.trans e2)⟩, fun t σ2 H3 D' ht ⟨zl, z0, z1, z2⟩ hnx hrt => ?_, fun σ2 H3 ⟨zl, z0, z1, z2⟩ => ?_⟩
  · have zf : f + 300 * (3 - t) = f + 300 * (3 - (t + 1)) + 300 := by omega
    rw [zf] at z2
    have hnx' : ∀ σ H', σ.length = 17 → σ[0]? = some (some (.ref a)) → Ex (cu a H) (cu a H') → Bx a (f + 300 * (3 - (t + 1))) H' → Ends.nx D' σ H' := fun σ H' q1 q2 q3 q4 => hnx σ H' ⟨q1, q2, q3, q4⟩
    clear hnx
    generalize f + 300 * (3 - (t + 1)) = fu at z2 hnx'
    show tSeq (tAsg _ (gTup _ _ _)) _ D' (σ2.set 1 (some (.int (t : Int)))) H3
    have w0 : (σ2.set 1 (some (.int (t : Int))))[0]? = some (some (.ref a)) := by rw [List.getElem?_set_ne (by decide)]; exact z0
    have wl : (σ2.set 1 (some (.int (t : Int)))).length = 17 := by rw [List.length_set, zl]
    generalize σ2.set 1 (some (.int (t : Int))) = σ3 at w0 wl ⊢
    refine (?_ : StC a (fu + 300) fu _ [some (Eq1 (.ref a)), none, none, none, none, none, none, none, none, none, none, none, none, none, none, none, none]) D' σ3 H3 ((sat_no (n := 17) wl).know (i := 0) (P := Eq1 (.ref a)) w0 rfl) z2 fun σ4 H4 q1 q2 q3 q4 => hnx' σ4 H4 q1 q2 (z1.trans q3) q4
    clear hnx' zf
    refine sc_asg3 (m := fu + 178) (P1 := LoaP K) (P2 := Ssm (fun i : Int => 0 ≤ i ∧ i ≤ 40) (Is K)) (P3 := FarP K) (eb_tup (K := K) (eab_cons (m := fu + 199) ?_ (eab_cons (m := fu + 198) ?_ (eab_cons (m := fu + 178) ?_ eab_nil)))) ?_
    · exact eb_call () (eab_cons (eb_var rfl) (eab_cons (eb_of (eg_int (K := K)) rt_eq) (eab_cons (eb_of (eg_int (K := K)) rt_eq) eab_nil))) trivial
    · exact EvB.weak (eb_call () (eab_cons (eb_var rfl) eab_nil) trivial) fun v H ⟨i, e, i1, i2⟩ => ⟨i, ⟨i1, i2⟩, e⟩
    · exact eb_call () (eab_cons (eb_var rfl) eab_nil) trivial
    refine sc_open 9 rfl fun L hL => sc_open 10 rfl fun keep hk => sc_open 11 rfl fun far hfar => ?_
    obtain ⟨shut, anew⟩ := far
    refine sc_set (m := fu + 176) (P := DuP K 20) (EvB.weak (eb_tup (K := K) (Ps := [Rg 1 20, Rg 1 20]) (eab_cons (m := fu + 177) (EvB.weak (eb_add (l1 := 1) (h1 := 1) (l2 := 0) (h2 := 19) eb_c ?_) (rg_le (by decide) (by decide))) (eab_cons (m := fu + 176) (EvB.weak (eb_add (l1 := 1) (h1 := 1) (l2 := 0) (h2 := 19) eb_c ?_) (rg_le (by decide) (by decide))) eab_nil))) du_of) ?_
    · refine EvB.weak (eb_ofL (K := K) (([0, 1, 2, 4, 19] : List Int).map fun i => Rg i i) ?_ (by simp) (by simp)) (oneP_rg (cs_rg (by decide)))
      exact eab_cons (eb_var rfl) (eab_cons (eb_lst (eab_cons eb_c (eab_cons eb_c (eab_cons eb_c (eab_cons eb_c (eab_cons eb_c eab_nil)))))) eab_nil)
    · refine EvB.weak (eb_ofL (K := K) (([0, 1, 3, 6, 19] : List Int).map fun i => Rg i i) ?_ (by simp) (by simp)) (oneP_rg (cs_rg (by decide)))
      exact eab_cons (eb_var rfl) (eab_cons (eb_lst (eab_cons eb_c (eab_cons eb_c (eab_cons eb_c (eab_cons eb_c (eab_cons eb_c eab_nil)))))) eab_nil)
    refine sc_set (m := fu + 174) (P := DuP K 9) (EvB.weak (eb_tup (K := K) (Ps := [Rg 1 9, Rg 1 9]) (eab_cons (m := fu + 175) (EvB.weak (eb_add (l1 := 1) (h1 := 1) (l2 := 0) (h2 := 8) eb_c ?_) (rg_le (by decide) (by decide))) (eab_cons (m := fu + 174) (EvB.weak (eb_add (l1 := 1) (h1 := 1) (l2 := 0) (h2 := 8) eb_c ?_) (rg_le (by decide) (by decide))) eab_nil))) du_of) ?_
    · exact eb_call (9 : Int) (eab_cons (eb_var rfl) (eab_cons (eb_of (eg_int (K := K)) rt_eq) eab_nil)) (by decide)
    · exact eb_call (9 : Int) (eab_cons (eb_var rfl) (eab_cons (eb_of (eg_int (K := K)) rt_eq) eab_nil)) (by decide)
    refine sc_open 2 rfl fun d hd => sc_open 3 rfl fun its hi => ?_
    obtain ⟨hpl, hl10⟩ := hL
    obtain ⟨hk0, hk1⟩ := hk
    have hanew : anew.length ≤ 1000 := hfar
    have hlk : LkOk ⟨L, some keep, shut, anew⟩ := ⟨by show L.length ≤ 1000; omega, hanew⟩
    have hlo : LoOk L := by show L.length ≤ 1000; omega
    have dud : DuOk' d := by
      obtain ⟨d1, d2⟩ := d
      obtain ⟨⟨h1, h2⟩, h3, h4⟩ := hd
      exact du_ok ⟨h1, by show d1 ≤ 1000; simp only at h2; omega⟩ ⟨h3, by show d2 ≤ 1000; simp only at h4; omega⟩
    refine sc_asg2 (m := fu + 174) (P1 := Ssm (LeastFee ⟨L, some keep, shut, anew⟩ d) (Is K)) (P2 := Ssm (RaR ⟨L, some keep, shut, anew⟩ d) (fun R => Is K (Tp.mk R))) (eb_of (eg_tup (K := K) (ea_cons ?_ (ea_cons ?_ ea_nil))) (rt_tu fun P hP => ?_)) ?_
    · exact eg_call ((⟨L, some keep, shut, anew⟩ : LkD), d) (ea_cons (eg_var (i := 9) rfl) (ea_cons (eg_var (i := 10) rfl) (ea_cons (eg_var (i := 11) rfl) (ea_cons (eg_var (i := 2) rfl) ea_nil)))) ⟨hlk, dud⟩
    · exact eg_call ((⟨L, some keep, shut, anew⟩ : LkD), d) (ea_cons (eg_var (i := 9) rfl) (ea_cons (eg_var (i := 10) rfl) (ea_cons (eg_var (i := 11) rfl) (ea_cons (eg_var (i := 2) rfl) ea_nil)))) ⟨hlk, dud⟩
    · rcases List.mem_cons.mp hP with e | hP
      · rw [e]
        exact rt_ssm fun x => RepT.rt (K := K) x
      · rw [List.mem_singleton.mp hP]
        exact rt_ssm fun R => RepT.rt (K := K) (Tp.mk R)
    refine sc_open 12 rfl fun goal hg => sc_open 13 rfl fun R hR => ?_
    change StC a (fu + 174) fu _ [some (Eq1 (.ref a)), none, some (Is K d), some (Is K its), none, none, none, none, none, some (Is K (Tp.mk L)), some (Is K keep), some (Is K (shut, Tp.mk anew)), some (Is K goal), some (Is K (Tp.mk R)), none, none, none]
    refine sc_set (m := fu + 174) (P := LsD ((([some 0, some 1, none] : List (Option Int)).filter fun _ => true).map fun _ => LaneP K L keep)) ?_ ?_
    · refine eb_lcD (xs := ([some 0, some 1, none] : List (Option Int))) (F := Is K) (f := fun _ => true) (Rf := fun _ => LaneP K L keep) (Γ1 := fun dp => [some (Eq1 (.ref a)), none, some (Is K d), some (Is K its), none, none, none, none, none, some (Is K (Tp.mk L)), some (Is K keep), some (Is K (shut, Tp.mk anew)), some (Is K goal), some (Is K (Tp.mk R)), some (Is K dp), none, none]) ?_ ?_ ?_ ?_ ?_ ?_
      · exact ew_tup (eg_tup (K := K) (Ps := ([some 0, some 1, none] : List (Option Int)).map (Is K)) (ea_cons (eg_int (K := K) (i := 0)) (ea_cons (eg_int (K := K) (i := 1)) (ea_cons (eg_non (K := K) (α := Int)) ea_nil))))
      · exact fun _ => rt_ssm fun l => RepT.rt (K := K) (Tp.mk l)
      · exact fun dp hdp => tg_name
      · exact fun _ _ => et_yes
      · intro dp hdp _
        refine eg_call (L, keep, dp) (ea_cons (eg_var (i := 9) rfl) (ea_cons (eg_var (i := 10) rfl) (ea_cons (eg_var (i := 14) rfl) ea_nil))) ⟨hpl, hk0, by show keep ≤ 100; omega, fun z hz => ?_⟩
        have hz : dp = some z := hz
        subst hz
        rcases List.mem_cons.mp hdp with e | hdp
        · injection e with e
          omega
        rcases List.mem_cons.mp hdp with e | hdp
        · injection e with e
          omega
        · exact nomatch List.mem_singleton.mp hdp
      · decide
    refine sc_le (n' := fu + 114 + 10 * 6) (by omega) ?_
    change StC a (fu + 114 + 10 * 6) fu _ [some (Eq1 (.ref a)), none, some (Is K d), some (Is K its), some (LsD (List.replicate 3 (LaneP K L keep))), none, none, none, none, some (Is K (Tp.mk L)), some (Is K keep), some (Is K (shut, Tp.mk anew)), some (Is K goal), some (Is K (Tp.mk R)), none, none, none]
    refine sc_set (m := fu + 114) (P := LanesP K L keep) (EvB.weak (P := Ssm (fun k : Nat => 3 ≤ k ∧ k ≤ 3 + 6) (fun k => LsD (List.replicate k (LaneP K L keep)))) ?_ ?_) ?_
    · refine eb_catS (K := K) (m := fu + 114 + 10 * 6) (N := 6) ?_ ?_ (by decide)
      · exact eb_var rfl
      · refine eb_lcR (K := K) (c := 10) (N := 6) (p := fu + 114) ?_ ?_ (by decide) fun z => ?_
        · exact EvB.weak (eb_c (i := 6)) (rg_le (by decide) (by decide))
        · exact rt_ssm fun l => RepT.rt (K := K) (Tp.mk l)
        · change EvB a (z + 10) z _ [some (Eq1 (.ref a)), none, some (Is K d), some (Is K its), some (LsD (List.replicate 3 (LaneP K L keep))), none, none, none, none, some (Is K (Tp.mk L)), some (Is K keep), some (Is K (shut, Tp.mk anew)), some (Is K goal), some (Is K (Tp.mk R)), none, none, some (Rg 0 6)] _
          exact eb_call (L, keep) (eab_cons (eb_var (i := 0) rfl) (eab_cons (eb_var (i := 9) rfl) (eab_cons (eb_var (i := 10) rfl) eab_nil))) ⟨hpl, hl10⟩
    · rintro v H ⟨k, ⟨k1, k2⟩, l, vs, rfl, h1, h2⟩
      obtain ⟨lanes, g1, g2, g3⟩ := all_lanes h2
      exact ⟨lanes, ⟨by omega, by omega, g3⟩, l, vs, rfl, .inl (.inl h1), g1⟩
    refine sc_open 4 rfl fun lanes hlanes => ?_
    obtain ⟨hn0, hn1, hok⟩ := hlanes
    refine sc_le (n' := fu) (by omega) (sc_of ?_)
    change StX _ [some (Eq1 (.ref a)), none, some (Is K d), some (Is K its), some (LsP K (lanes.map fun l => Is K (Tp.mk l))), none, none, none, none, some (Is K (Tp.mk L)), some (Is K keep), some (Is K (shut, Tp.mk anew)), some (Is K goal), some (Is K (Tp.mk R)), none, none, none] _ _
    have hdu : 0 ≤ d.1 ∧ d.1 ≤ 1000000 ∧ 0 ≤ d.2 ∧ d.2 ≤ 1000000 := dud
    have hRl : R.length ≤ 1000 := by
      have h1 : R.length = L.length := hR.1.len
      omega
    refine sx_set (P := (Is K (lanes.map fun l => paidF L shut anew d l))) ?_ ?_
    · refine eg_lcM (K := K) (xs := lanes) (F := fun l => Is K (Tp.mk l)) (Γ1 := fun l => [some (Eq1 (.ref a)), none, some (Is K d), some (Is K its), some (LsP K (lanes.map fun l => Is K (Tp.mk l))), none, none, none, none, some (Is K (Tp.mk L)), some (Is K keep), some (Is K (shut, Tp.mk anew)), some (Is K goal), some (Is K (Tp.mk R)), none, some (Is K (Tp.mk l)), none]) (fun l => paidF L shut anew d l) ?_ ?_ ?_ (by omega)
      · exact ew_list (eg_var rfl)
      · exact fun l hl => tg_name
      · exact fun l hl => eg_call (L, (shut, anew), d, l) (ea_cons (eg_var (i := 9) rfl) (ea_cons (eg_var (i := 11) rfl) (ea_cons (eg_var (i := 2) rfl) (ea_cons (eg_var (i := 15) rfl) ea_nil)))) ⟨hlo, hanew, hdu, (hok l hl).lane⟩
    change StX _ [some (Eq1 (.ref a)), none, some (Is K d), some (Is K its), some (LsP K (lanes.map fun l => Is K (Tp.mk l))), some (Is K (lanes.map fun l => paidF L shut anew d l)), none, none, none, some (Is K (Tp.mk L)), some (Is K keep), some (Is K (shut, Tp.mk anew)), some (Is K goal), some (Is K (Tp.mk R)), none, none, none] _ _
    refine sx_ifRet (b := false) (EvT.to (et_or (et_not (a := true) (et_B (K := K) ?_)) fun _ => et_or (et_test (eg_neI (K := K) (i := goal) (j := goal) ?_ (eg_var rfl))) fun _ => et_test (K := K) (b := false) ?_) ?_) (fun z => nomatch z) fun _ => ?_
    · exact eg_call (L, keep, (shut, anew), d, R) (ea_cons (eg_var (i := 9) rfl) (ea_cons (eg_var (i := 10) rfl) (ea_cons (eg_var (i := 11) rfl) (ea_cons (eg_var (i := 2) rfl) (ea_cons (eg_var (i := 13) rfl) ea_nil))))) ⟨hlo, hanew, hdu, hR.1⟩
    · exact EvG.to (eg_call R (ea_cons (eg_var (i := 13) rfl) ea_nil) hRl) (congrArg (Is K) (LeastFee.uniq dud hR.2 hg))
    · refine eg_cmpS1 (K := K) (f := fun i j => decide (i < j)) (j := goal) (eg_min (K := K) (xs := lanes.map fun l => paidF L shut anew d l) (eg_var rfl) (fun z => ?_)) (eg_var rfl) fun m hm => ?_
      · have := congrArg List.length z
        rw [List.length_map] at this
        simp only [List.length_nil] at this
        omega
      · obtain ⟨l, hl, rfl⟩ := List.mem_map.mp hm.1
        have := goal_le dud hg (hok l hl)
        exact decide_eq_false (by simp only at this; omega)
    · rw [decide_eq_true rfl]; rfl
    refine sx_ifRet (b := false) (EvT.to (et_test (K := K) (eg_neI (K := K) (i := goal) (j := goal) ?_ (eg_var rfl))) ?_) (fun z => nomatch z) fun _ => ?_
    · refine eg_callX (Ps := [Is K (Tp.mk L), Is K (shut, Tp.mk anew), Is K d, Ssm (ChR ⟨L, some keep, shut, anew⟩ d) (fun lane => Is K (Tp.mk lane))]) (ea_cons (eg_var rfl) (ea_cons (eg_var rfl) (ea_cons (eg_var rfl) (ea_cons ?_ ea_nil)))) fun vs H hv => ?_
      · exact eg_call ((⟨L, some keep, shut, anew⟩ : LkD), d) (ea_cons (eg_var (i := 9) rfl) (ea_cons (eg_var (i := 10) rfl) (ea_cons (eg_var (i := 11) rfl) (ea_cons (eg_var (i := 2) rfl) ea_nil)))) ⟨hlk, dud⟩
      · cases hv with
        | cons r1 u1 =>
          cases u1 with
          | cons r2 u2 =>
            cases u2 with
            | cons r3 u3 =>
              cases u3 with
              | cons r4 u4 =>
                cases u4
                obtain ⟨lane, hch, hv⟩ := r4
                refine ⟨(L, (shut, anew), d, lane), ⟨hlo, hanew, hdu, hch.1.lane⟩, .cons r1 (.cons r2 (.cons r3 (.cons hv .nil))), fun v H' h => ?_⟩
                have e : paidF L shut anew d lane = goal := LeastFee.uniq dud hch.2 hg
                exact e ▸ h
    · rw [decide_eq_true rfl]; rfl
    refine sx_set (P := (Is K (lanes.map fun l => paidF L shut anew d l))) ?_ ?_
    · refine eg_lcM (K := K) (xs := lanes) (F := fun l => Is K (Tp.mk l)) (Γ1 := fun l => [some (Eq1 (.ref a)), none, some (Is K d), some (Is K its), some (LsP K (lanes.map fun l => Is K (Tp.mk l))), some (Is K (lanes.map fun l => paidF L shut anew d l)), none, none, none, some (Is K (Tp.mk L)), some (Is K keep), some (Is K (shut, Tp.mk anew)), some (Is K goal), some (Is K (Tp.mk R)), none, some (Is K (Tp.mk l)), none]) (fun l => paidF L shut anew d l) ?_ ?_ ?_ (by omega)
      · exact ew_list (eg_var rfl)
      · exact fun l hl => tg_name
      · exact fun l hl => eg_call (L, (shut, anew), d, l) (ea_cons (eg_var (i := 9) rfl) (ea_cons (eg_var (i := 11) rfl) (ea_cons (eg_var (i := 2) rfl) (ea_cons (eg_var (i := 15) rfl) ea_nil)))) ⟨hlo, hanew, hdu, (hok l hl).lane⟩
    change StX _ [some (Eq1 (.ref a)), none, some (Is K d), some (Is K its), some (LsP K (lanes.map fun l => Is K (Tp.mk l))), some (Is K (lanes.map fun l => paidF L shut anew d l)), some (Is K (lanes.map fun l => paidF L shut anew d l)), none, none, some (Is K (Tp.mk L)), some (Is K keep), some (Is K (shut, Tp.mk anew)), some (Is K goal), some (Is K (Tp.mk R)), none, none, none] _ _
    refine sx_set (P := (Is K (lanes.map fun l => decide (paidF L shut anew d l = goal)))) ?_ ?_
    · refine eg_lcM (K := K) (xs := lanes) (F := fun l => Is K (Tp.mk l)) (Γ1 := fun l => [some (Eq1 (.ref a)), none, some (Is K d), some (Is K its), some (LsP K (lanes.map fun l => Is K (Tp.mk l))), some (Is K (lanes.map fun l => paidF L shut anew d l)), some (Is K (lanes.map fun l => paidF L shut anew d l)), none, none, some (Is K (Tp.mk L)), some (Is K keep), some (Is K (shut, Tp.mk anew)), some (Is K goal), some (Is K (Tp.mk R)), none, some (Is K (Tp.mk l)), none]) (fun l => decide (paidF L shut anew d l = goal)) ?_ ?_ ?_ (by omega)
      · exact ew_list (eg_var rfl)
      · exact fun l hl => tg_name
      · exact fun l hl => eg_call (((⟨L, some keep, shut, anew⟩ : LkD), d), keep, l, goal) (ea_cons (eg_var (i := 9) rfl) (ea_cons (eg_var (i := 10) rfl) (ea_cons (eg_var (i := 11) rfl) (ea_cons (eg_var (i := 2) rfl) (ea_cons (eg_var (i := 15) rfl) ea_nil))))) ⟨⟨hlk, dud⟩, rfl, hok l hl, hg⟩
    change StX _ [some (Eq1 (.ref a)), none, some (Is K d), some (Is K its), some (LsP K (lanes.map fun l => Is K (Tp.mk l))), some (Is K (lanes.map fun l => paidF L shut anew d l)), some (Is K (lanes.map fun l => paidF L shut anew d l)), some (Is K (lanes.map fun l => decide (paidF L shut anew d l = goal))), none, some (Is K (Tp.mk L)), some (Is K keep), some (Is K (shut, Tp.mk anew)), some (Is K goal), some (Is K (Tp.mk R)), none, none, none] _ _
    refine sx_ifRet (b := false) (EvT.to (et_or (et_test (eg_neLI (K := K) (xs := lanes.map fun l => paidF L shut anew d l) (ys := lanes.map fun l => paidF L shut anew d l) (eg_var rfl) (eg_var rfl))) fun _ => et_or (et_test (eg_neLB (K := K) (xs := lanes.map fun l => decide (paidF L shut anew d l = goal)) (ys := (lanes.map fun l => paidF L shut anew d l).map fun z => decide (z = goal)) (eg_var rfl) ?_)) fun _ => et_not (a := true) (et_B (K := K) ?_)) ?_) (fun z => nomatch z) fun _ => ?_
    · refine eg_lcM (K := K) (xs := lanes.map fun l => paidF L shut anew d l) (F := Is K) (Γ1 := fun z => [some (Eq1 (.ref a)), none, some (Is K d), some (Is K its), some (LsP K (lanes.map fun l => Is K (Tp.mk l))), some (Is K (lanes.map fun l => paidF L shut anew d l)), some (Is K (lanes.map fun l => paidF L shut anew d l)), some (Is K (lanes.map fun l => decide (paidF L shut anew d l = goal))), none, some (Is K (Tp.mk L)), some (Is K keep), some (Is K (shut, Tp.mk anew)), some (Is K goal), some (Is K (Tp.mk R)), none, some (Is K z), none]) (fun z => decide (z = goal)) ?_ ?_ ?_ (by rw [List.length_map]; omega)
      · exact ew_list (eg_var rfl)
      · exact fun z hz => tg_name
      · exact fun z hz => eg_eqI (K := K) (i := z) (j := goal) (eg_var rfl) (eg_var rfl)
    · exact eg_call (((⟨L, some keep, shut, anew⟩ : LkD), d), R) (ea_cons (eg_var (i := 9) rfl) (ea_cons (eg_var (i := 10) rfl) (ea_cons (eg_var (i := 11) rfl) (ea_cons (eg_var (i := 2) rfl) (ea_cons (eg_var (i := 13) rfl) ea_nil))))) ⟨⟨hlk, dud⟩, hR⟩
    · rw [List.map_map, decide_eq_true rfl]
      have e : (lanes.map fun l => decide (paidF L shut anew d l = goal)) = lanes.map ((fun z => decide (z = goal)) ∘ fun l => paidF L shut anew d l) := rfl
      rw [decide_eq_true e]
      rfl
    refine sx_ifRet (b := false) (EvT.to (et_not (a := true) (et_B (K := K) ?_)) rfl) (fun z => nomatch z) fun _ => ?_
    · exact eg_call ((⟨L, some keep, shut, anew⟩ : LkD), d, its) (ea_cons (eg_var (i := 9) rfl) (ea_cons (eg_var (i := 10) rfl) (ea_cons (eg_var (i := 11) rfl) (ea_cons (eg_var (i := 2) rfl) (ea_cons (eg_var (i := 3) rfl) ea_nil))))) ⟨hpl, hanew, ⟨hd.1.1, Int.le_trans hd.1.2 (by decide)⟩, ⟨hd.2.1, Int.le_trans hd.2.2 (by decide)⟩, ⟨hi.1.1, Int.le_trans hi.1.2 (by decide)⟩, ⟨hi.2.1, Int.le_trans hi.2.2 (by decide)⟩⟩
    refine sx_setS (p := fun ms : List Int => ms.Pairwise (fun a b => b ≤ a)) (F := Is K) ?_ fun ms hms => ?_
    · refine EvG.weak (eg_lc (K := K) (xs := ([0, 1, 2, 4, 40] : List Int)) (F := Is K) (f := fun _ => true) (Rf := fun k => Ssm (LeastFee ⟨L, some k, shut, anew⟩ d) (Is K)) (Γ1 := fun k => [some (Eq1 (.ref a)), none, some (Is K d), some (Is K its), some (LsP K (lanes.map fun l => Is K (Tp.mk l))), some (Is K (lanes.map fun l => paidF L shut anew d l)), some (Is K (lanes.map fun l => paidF L shut anew d l)), some (Is K (lanes.map fun l => decide (paidF L shut anew d l = goal))), none, some (Is K (Tp.mk L)), some (Is K keep), some (Is K (shut, Tp.mk anew)), some (Is K goal), some (Is K (Tp.mk R)), none, some (Is K k), none]) ?_ ?_ ?_ ?_ ?_ (by decide)) fun v H hv => ?_
      · exact ew_tup (eg_tup (K := K) (Ps := ([0, 1, 2, 4, 40] : List Int).map (Is K)) (ea_cons eg_int (ea_cons eg_int (ea_cons eg_int (ea_cons eg_int (ea_cons eg_int ea_nil))))))
      · exact fun k => rt_ssm fun m => RepT.rt (K := K) m
      · exact fun k hk => tg_name
      · exact fun _ _ => et_yes
      · exact fun k hk _ => eg_call ((⟨L, some k, shut, anew⟩ : LkD), d) (ea_cons (eg_var (i := 9) rfl) (ea_cons (eg_var (i := 15) rfl) (ea_cons (eg_var (i := 11) rfl) (ea_cons (eg_var (i := 2) rfl) ea_nil)))) ⟨⟨by show L.length ≤ 1000; omega, hanew⟩, dud⟩
      · obtain ⟨l, vs, h1, h2, h3⟩ := hv
        obtain ⟨ms, rfl, h5⟩ := all_fees (ks := ([0, 1, 2, 4, 40] : List Int)) h3
        exact ⟨ms, fees_desc dud h5 (by decide), l, _, h1, h2, ints_all⟩
    change StX _ [some (Eq1 (.ref a)), none, some (Is K d), some (Is K its), some (LsP K (lanes.map fun l => Is K (Tp.mk l))), some (Is K (lanes.map fun l => paidF L shut anew d l)), some (Is K (lanes.map fun l => paidF L shut anew d l)), some (Is K (lanes.map fun l => decide (paidF L shut anew d l = goal))), some (Is K ms), some (Is K (Tp.mk L)), some (Is K keep), some (Is K (shut, Tp.mk anew)), some (Is K goal), some (Is K (Tp.mk R)), none, none, none] _ _
    refine sx_if (b := false) (EvT.to (et_test (K := K) (eg_neLI (K := K) (xs := ms) (ys := ms) (eg_var rfl) (eg_rev (K := K) (eg_sorted (K := K) (eg_var rfl)) fun ns hns => sort_rev hms hns))) ?_) (fun z => nomatch z) fun _ => sx_next ⟨rfl, rfl⟩
    rw [decide_eq_true rfl]; rfl
  · refine eg_bl (K := K) (b := true) σ2 H3 _ (sat_no (n := 17) zl) fun v H4 e4 p4 => hr v H4 (z1.trans (ex_cu e4)) ((z2.le (by omega)).mono e4) p4
end
end Lp

/-! part LpLaw -/
set_option Elab.async false
set_option linter.all false
set_option maxRecDepth 100000

namespace Lp
open PySem PySem.Spec PyProof.Rows L2
open Evl (Ex ex_l ex_t ex_rd fresh_back)
section
variable {prog : Program} {w : World} {K : PySem.W.Frag} {mg : Str → Option Value} {base : Heap}
theorem b01 (b : Bool) : -(2 ^ 64) < (if b = true then (1 : Int) else 0) ∧ (if b = true then (1 : Int) else 0) < 2 ^ 64 := by cases b <;> decide
def spBoxN (K : PySem.W.Frag) : Sp := fun vs H Q _ => ∃ (ns : List Int) (k : Nat) (v : V), vs = [v, .int (k : Int)] ∧ (Is K ns).p v H ∧ k < ns.length ∧ k < 100 ∧ ∀ a H2, Ex H H2 → H a = none → (∃ i j : Int, H2 a = some (.lst [.int i, .int j, .int 0]) ∧ 0 ≤ j ∧ j < 2 ^ 62) → Q (.ref a) H2
theorem ok__law_box (T : Tx K mg) : FnR prog w K mg base CX0 1 (He.ga K "_law_box") (spBoxN K) := by
  obtain ⟨fdO, FO⟩ := T.d__law_box
  refine fn_any FO sc__law_box (fun _ _ _ _ _ _ us hl => match us, hl with | [_, _], _ => rfl) ?_ fun cdv A outer s H vs Q E hr hsp => ⟨_, PSs.nox (pss_cons (ps_set (i := 2) sc__law_box.nd rfl (Or.inl rfl) (pe_ifExp (pt_cmpR op_lt (pv 1) (pe_callB (call_lenK (K := K)) (by rfl) T.f_len (by decide +kernel) (pa_cons (pv 0) pa_nil)) (nomark _)) (pe_ix (ix_listK (K := K)) (pv 0) (pv 1) (fun _ _ => rfl)) pe_int))
    (pss_one (ps_ret (pe_lst (pa_cons (pe_op op_mul (pe_callB call_abs (by rfl) T.f_abs (by decide +kernel) (pa_cons (pv 2) pa_nil)) (pe_callTy call_int1 (by rfl) T.f_int (by decide +kernel) (pa_cons (pe_cmpR op_ge (pe_callB call_abs (by rfl) T.f_abs (by decide +kernel) (pa_cons (pv 2) pa_nil)) (pe_op op_pow pe_int pe_int) (nomark _)) pa_nil))) (pa_cons (pe_op op_add (pe_op op_add (pe_op op_mod (pe_callTy call_int1 (by rfl) T.f_int (by decide +kernel) (pa_cons (pv 2) pa_nil)) pe_int) (pe_op op_mul pe_int (pv 1))) pe_int) (pa_cons pe_int pa_nil))))))), ?_⟩
  · rintro vs H Q E ⟨_, _, _, e, _⟩
    rw [e]
    rfl
  obtain ⟨ns, k, v, rfl, hv, hk, hk2, hq⟩ := hsp
  have s0 : Sat [some (Is K ns), some (Is K k), none] (start n__law_box [v, .int (k : Int)]) H := sat_start (N := n__law_box) (Ps := [Is K ns, Is K k]) (.cons hv (.cons rfl .nil))
  have hb : decide ((k : Int) < (ns.length : Int)) = true := decide_eq_true (by omega)
  obtain ⟨c, hc⟩ : ∃ c, ns[k]? = some c := ⟨_, List.getElem?_eq_getElem hk⟩
  refine h_seq ((eg_if (Γ := [some (Is K ns), some (Is K k), none]) (b := true) (P := Is K c) (EvT.to (et_test (eg_cmpI (K := K) (f := fun i j => decide (i < j)) (i := (k : Int)) (j := (ns.length : Int)) (eg_var (P := Is K k) rfl) (eg_len (K := K) (xs := ns) (eg_var rfl)))) hb) (fun _ => eg_ixL (K := K) (xs := ns) (eg_var rfl) (eg_var rfl) hc) (fun z => nomatch z) : EvG _ _ _) _ H _ s0 fun v2 H1 e1 p1 => ?_)
  have s1 : Sat [some (Is K ns), some (Is K k), some (Is K c)] ((start n__law_box [v, .int (k : Int)]).set 2 (some v2)) H1 := (s0.mono e1).set (i := 2) (P := Is K c) p1
  show Ends.nx _ ((start n__law_box [v, .int (k : Int)]).set 2 (some v2)) H1
  dsimp only
  generalize (start n__law_box [v, .int (k : Int)]).set 2 (some v2) = σ1 at s1 ⊢
  have pw : EvG (tOp (rI CPow fun i j => .int (i ^ j.toNat)) (tC (.int 10)) (tC (.int 18))) [some (Is K ns), some (Is K k), some (Is K c)] (Is K ((10 : Int) ^ (18 : Int).toNat)) := eg_opI (K := K) (C := CPow) (f := fun i j => i ^ j.toNat) (i := 10) (j := 18) eg_int eg_int ⟨by decide, by decide, by decide⟩
  refine eg_opI (K := K) (C := CMul) (f := fun i j => i * j) (eg_abs (K := K) (eg_var (P := Is K c) rfl)) (eg_int1B (K := K) (eg_cmpI (K := K) (f := fun i j => decide (j ≤ i)) (eg_abs (K := K) (eg_var (P := Is K c) rfl)) pw)) (.inr (b01 _)) σ1 H1 _ s1 fun w0 H2 e2 q2 => ?_
  refine eg_opI0 (K := K) (f := fun i j => i + j) (i := c % 2305843009213693951 + 39373 * (k : Int)) (j := 227) (eg_opI0 (K := K) (f := fun i j => i + j) (eg_opI (K := K) (f := fun i j => i % j) (eg_int1 (K := K) (eg_var (P := Is K c) rfl)) (j := 2305843009213693951) eg_int (by show (0 : Int) < _; decide)) (eg_opI (K := K) (C := CMul) (f := fun i j => i * j) (i := 39373) eg_int (eg_var (P := Is K k) rfl) (.inl (by decide)))) eg_int σ1 H2 _ (s1.mono e2) fun w1 H3 e3 q3 => ?_
  refine ⟨by show 3 ≤ sizeLine; decide, fun a ha => ?_⟩
  obtain rfl : w0 = _ := q2
  obtain rfl : w1 = _ := q3
  have c0 : 0 ≤ c % 2305843009213693951 := Int.emod_nonneg _ (by decide)
  have c1 : c % 2305843009213693951 < 2305843009213693951 := Int.emod_lt_of_pos _ (by decide)
  exact hq a _ ((e1.trans (e2.trans e3)).trans (Ex.new ha)) (fresh_back (e1.trans (e2.trans e3)) ha) ⟨_, _, upd_same, by omega, by omega⟩
theorem cut_ints (ns : List Int) (lo hi : Option Int) : ∃ cs : List Int, cutV (ns.map V.int) lo hi = cs.map V.int ∧ cs.length = min (HT.sIx ns.length ns.length hi - HT.sIx ns.length 0 lo) (ns.length - HT.sIx ns.length 0 lo) := by
  refine ⟨(ns.drop (HT.sIx ns.length 0 lo)).take (HT.sIx ns.length ns.length hi - HT.sIx ns.length 0 lo), ?_, by rw [List.length_take, List.length_drop]⟩
  unfold cutV
  rw [List.length_map, List.map_take, List.map_drop]
theorem h_cells0 {ns : List Int} {σ : L2.St} {H : Hp} {D : Ends} {a0 : Addr} (y0 : σ[0]? = some (some (.ref a0))) (y1 : σ[1]? = some (some (.int 3))) (hs0 : SqL K H a0 (ns.map V.int))
    (k : ∀ lc H1 (cs : List Int), Ex H H1 → H lc = none → H1 lc = some (.lst (cs.map V.int)) → 0 < cs.length → cs.length ≤ 3 → (3 < ns.length → cs.length = 3) → D.nx (σ.set 2 (some (.ref lc))) H1) :
    tAsg (tOrT K (tCB (fun xs H Q => ∃ p ys, xs = [V.ref p] ∧ (SqL K H p ys ∨ SqT K H p ys) ∧ ∀ l, H l = none → Q (.ref l) (upd H l (.lst ys))) (tCons (tSl (rSlL K) (tVar 0) tNoPart (tPart (tVar 1))) tNil)) (tLst (tCons (tC (.int 0)) tNil))) (gName 2) D σ H := by
  obtain ⟨cs, hc, hl⟩ := cut_ints ns none (some 3)
  have hl3 : cs.length = min 3 ns.length := by
    rw [hl]
    show min (min 3 ns.length - 0) (ns.length - 0) = _
    omega
  refine ⟨_, y0, _, y1, 3, rfl, a0, _, rfl, hs0, fun p hp => ⟨p, _, rfl, .inl (.inl (.inl upd_same)), fun l hl => ⟨_, .inl ⟨_, .inl (.inl upd_same), rfl⟩, ?_⟩⟩⟩
  rw [hc] at hl ⊢
  have e1 := (Ex.new (o := .lst (cs.map V.int)) hp).trans (Ex.new (o := .lst (cs.map V.int)) hl)
  cases cs with
  | cons c cs =>
    show D.nx (σ.set 2 (some (.ref l))) _
    exact k l _ (c :: cs) e1 (fresh_back (Ex.new (o := .lst ((c :: cs).map V.int)) hp) hl) upd_same (by simp) (by omega) fun h => by omega
  | nil =>
    refine ⟨by show 1 ≤ sizeLine; decide, fun l2 hl2 => ?_⟩
    show D.nx (σ.set 2 (some (.ref l2))) _
    have h0 : ns.length = 0 := by
      have : (0 : Nat) = min 3 ns.length := hl3
      omega
    exact k l2 _ [0] (e1.trans (Ex.new hl2)) (fresh_back e1 hl2) upd_same (by simp) (by simp) fun h => by omega
theorem walkP_enumL {a : Addr} {xs : List Int} {H1 : Hp} (h : SqL K H1 a (xs.map V.int)) : WalkP (Ite K a) H1 (((List.range xs.length).map fun i => (i, xs.getD i 0)).map (Is K)) := by
  have hn : (((List.range xs.length).map fun i => (i, xs.getD i 0)).map (Is K)).length = xs.length := by simp
  refine ⟨fun i H v H' => ∃ T x, v = .ref T ∧ H T = none ∧ H' = upd H T (.tup [.int (i : Nat), x]) ∧ (xs.map V.int)[i]? = some x, ⟨fun i H hi e => ?_, fun H e => ⟨xs.map V.int, ex_l e h, by rw [hn, List.length_map]; exact Nat.le_refl _⟩, fun i H v H' hi e ⟨t, x, h1, h2, h3, h4⟩ => ⟨t, x, h1, h2, h3, h4 _ (ex_l e h)⟩⟩, fun i H v H' hi e ⟨t, x, h1, h2, h3, h4⟩ => ?_⟩
  · rw [hn] at hi
    exact ⟨xs.map V.int, _, ex_l e h, List.getElem?_eq_getElem (by rw [List.length_map]; exact hi)⟩
  · rw [hn] at hi
    subst h1 h3
    rw [List.getElem?_map, List.getElem?_eq_getElem hi] at h4
    obtain rfl : V.int xs[i] = x := Option.some.inj h4
    have hg : xs.getD i 0 = xs[i] := by rw [List.getD_eq_getElem?_getD, List.getElem?_eq_getElem hi]; rfl
    refine ⟨Is K (i, xs.getD i 0), ?_, Ex.new h2, t, _, rfl, .inl (.inl upd_same), .cons rfl (.cons (by rw [hg]; rfl) .nil)⟩
    rw [List.map_map, List.getElem?_map, List.getElem?_range hi]
    rfl
theorem ok__law_cells (T : Tx K mg) : FnR prog w K mg base CX0 1 (He.ga K "_law_cells") (spP (fun ns : List Int => ns.length ≤ 63) (fun ns => [Is K ns, Is K (3 : Int)]) (fun _ => Ssm (fun cs : List Int => 0 < cs.length ∧ cs.length ≤ 3) (Is K))) := by
  obtain ⟨fdO, FO⟩ := T.d__law_cells
  refine fn_pure FO sc__law_cells (fun _ _ _ _ _ _ us hl => match us, hl with | [_, _], _ => rfl) (fun _ => rfl) fun cdv A outer s H E hr => ⟨_, PSs.nox (pss_cons (ps_set (i := 2) sc__law_cells.nd rfl (Or.inl rfl) (pe_orT (pe_callTy call_list_of (by rfl) T.f_list (by decide +kernel) (pa_cons (pe_slice sl_list (pv 0) po_none (po_some (pv 1))) pa_nil)) (pe_one (pe_lst (pa_cons pe_int pa_nil)))))
    (pss_cons (ps_for PassesOwn.never rfl (pi_enum (by rfl) T.f_enumerate (pa_cons (pe_slice sl_list (pv 0) (po_some (pv 1)) (po_some pe_int)) pa_nil)) (pg_tupK (K := K) (n := 2) rfl (pgs_cons (pg_name (i := 3) sc__law_cells.nd rfl (Or.inl rfl)) (pgs_cons (pg_name (i := 4) sc__law_cells.nd rfl (Or.inl rfl)) pgs_nil))) (pss_cons (ps_set (i := 5) sc__law_cells.nd rfl (Or.inl rfl) (pe_op op_mod (pe_callTy call_int1 (by rfl) T.f_int (by decide +kernel) (pa_cons (pv 3) pa_nil)) (pv 1)))
    (pss_one (ps_asg (pe_op op_add (pe_ix (ix_listK (K := K)) (pv 2) (pv 5) (fun _ _ => rfl)) (pe_op op_mul (pv 4) (pe_op op_add (pv 3) pe_int))) (pg_sub (pv 2) (pv 5) set_list)))))
    (pss_one (ps_ret (pv 2))))), ?_⟩
  intro ns hn
  intro D σ H s hn' hr
  obtain ⟨v0, y0, a0, vs0, rfl, hs0, al0⟩ := s.at' 0 (Is K ns) rfl
  obtain rfl := all_ints al0
  obtain ⟨v1, y1, p1⟩ := s.at' 1 (Is K (3 : Int)) rfl
  obtain rfl : v1 = .int 3 := p1
  have yl : σ.length = 6 := s.len
  refine h_seq (h_cells0 (K := K) y0 y1 hs0 fun lc H1 cs0 e1 nlc hlc0 c0 c1 c2 => ?_)
  have z0 : (σ.set 2 (some (.ref lc)))[0]? = some (some (.ref a0)) := by rw [List.getElem?_set_ne (by decide)]; exact y0
  have z1 : (σ.set 2 (some (.ref lc)))[1]? = some (some (.int 3)) := by rw [List.getElem?_set_ne (by decide)]; exact y1
  have z2 : (σ.set 2 (some (.ref lc)))[2]? = some (some (.ref lc)) := List.getElem?_set_self (by rw [yl]; decide)
  have zl : (σ.set 2 (some (.ref lc))).length = 6 := by rw [List.length_set, yl]
  dsimp only
  generalize σ.set 2 (some (.ref lc)) = σ1 at z0 z1 z2 zl ⊢
  obtain ⟨xs2, hc2, hl2⟩ := cut_ints ns (some 3) (some 63)
  have hx2 : 0 < xs2.length → 3 < ns.length := fun h => by
    rw [hl2] at h
    have : 0 < min (min 63 ns.length - min 3 ns.length) (ns.length - min 3 ns.length) := h
    omega
  have hx3 : xs2.length ≤ 63 := by
    have : xs2.length = min (min 63 ns.length - min 3 ns.length) (ns.length - min 3 ns.length) := hl2
    omega
  refine h_seq ?_
  unfold tFor
  refine ⟨_, z0, _, z1, 3, rfl, 63, rfl, a0, _, rfl, ex_l e1 hs0, fun p hp => ?_⟩
  rw [hc2]
  have npl : p ≠ lc := fun z => by rw [z, hlc0] at hp; cases hp
  have e2 := Ex.new (o := .lst (xs2.map V.int)) hp
  have hlc2 := e2 _ _ hlc0
  have hp2 : (upd H1 p (.lst (xs2.map V.int))) p = some (.lst (xs2.map V.int)) := upd_same
  refine ⟨p, _, rfl, .inl (.inl hp2), ?_⟩
  generalize upd H1 p (HO.lst (xs2.map V.int)) = H2 at e2 hlc2 hp2 ⊢
  have eB : Ex H (cut [lc] H2) := cut_le (e1.trans e2) fun b hb => by rw [List.mem_singleton.mp hb]; exact nlc
  have bn : cut [lc] H2 lc = none := cut_in (List.mem_singleton.mpr rfl)
  have bp : cut [lc] H2 p = some (.lst (xs2.map V.int)) := (cut_out fun z => npl (List.mem_singleton.mp z)).trans hp2
  have eB2 : Ex (cut [lc] H2) H2 := cut_ex
  generalize cut [lc] H2 = B at eB bn bp eB2
  refine for_base (walkP_enumL (K := K) (.inl (.inl bp))) (fun i σ' H' => σ'.length = 6 ∧ σ'[1]? = some (some (.int 3)) ∧ σ'[2]? = some (some (.ref lc)) ∧ Ex B H' ∧ ∃ cs : List Int, H' lc = some (.lst (cs.map V.int)) ∧ 0 < cs.length ∧ cs.length ≤ 3 ∧ (3 < ns.length → cs.length = 3)) ⟨zl, z1, z2, eB2, cs0, hlc2, c0, c1, c2⟩ (fun _ _ _ h => h.2.2.2.1) (fun i x σ2 H4 H5 v hx ⟨wl, w1, w2, e4, cs, d1, d2, d3, d4⟩ e5 hv => ?_) fun σ2 H4 ⟨wl, w1, w2, e4, cs, d1, d2, d3, d4⟩ => ?_
  · have hi : i < xs2.length := by
      have := (List.getElem?_eq_some_iff.mp hx).1
      simpa using this
    rw [List.getElem?_map, List.getElem?_range hi] at hx
    obtain rfl : (i, xs2.getD i 0) = x := Option.some.inj hx
    obtain ⟨tt, us2, rfl, ht1, ht2⟩ := hv
    cases ht2 with
    | cons r1 t1 =>
      cases t1 with
      | cons r2 t2 =>
        cases t2
        rename_i u1 u2
        obtain rfl : u1 = V.int (i : Int) := r1
        obtain rfl : u2 = V.int (xs2.getD i 0) := r2
        refine ⟨tt, _, rfl, ht1, rfl, _, _, rfl, _, _, rfl, rfl, ?_⟩
        have hcs : cs.length = 3 := d4 (hx2 (by omega))
        have hlc5 := e5 _ _ d1
        have x1 : ((σ2.set 3 (some (.int (i : Int)))).set 4 (some (.int (xs2.getD i 0))))[1]? = some (some (.int 3)) := by rw [List.getElem?_set_ne (by decide), List.getElem?_set_ne (by decide)]; exact w1
        have x2 : ((σ2.set 3 (some (.int (i : Int)))).set 4 (some (.int (xs2.getD i 0))))[2]? = some (some (.ref lc)) := by rw [List.getElem?_set_ne (by decide), List.getElem?_set_ne (by decide)]; exact w2
        have x3 : ((σ2.set 3 (some (.int (i : Int)))).set 4 (some (.int (xs2.getD i 0))))[3]? = some (some (.int (i : Int))) := by rw [List.getElem?_set_ne (by decide)]; exact List.getElem?_set_self (by rw [wl]; decide)
        have x4 : ((σ2.set 3 (some (.int (i : Int)))).set 4 (some (.int (xs2.getD i 0))))[4]? = some (some (.int (xs2.getD i 0))) := List.getElem?_set_self (by rw [List.length_set, wl]; decide)
        have xl : ((σ2.set 3 (some (.int (i : Int)))).set 4 (some (.int (xs2.getD i 0)))).length = 6 := by rw [List.length_set, List.length_set, wl]
        show tSeq (tAsg _ _) _ _ ((σ2.set 3 (some (.int (i : Int)))).set 4 (some (.int (xs2.getD i 0)))) H5
        generalize (σ2.set 3 (some (.int (i : Int)))).set 4 (some (.int (xs2.getD i 0))) = σ3 at x1 x2 x3 x4 xl ⊢
        have s5 : Sat [none, some (Is K (3 : Int)), some (Is K cs), some (Is K i), some (Is K (xs2.getD i 0)), none] σ3 H5 := ((((sat_no (n := 6) xl).know (i := 1) (P := Is K (3 : Int)) x1 rfl).know (i := 2) (P := Is K cs) x2 ⟨lc, _, rfl, .inl (.inl hlc5), ints_all⟩).know (i := 3) (P := Is K i) x3 rfl).know (i := 4) (P := Is K (xs2.getD i 0)) x4 rfl
        refine h_seq (eg_opI (K := K) (f := fun i j => i % j) (i := (i : Int)) (j := 3) (eg_int1 (K := K) (eg_var (P := Is K i) rfl)) (eg_var rfl) (by show (0 : Int) < 3; decide) σ3 H5 _ s5 fun v5 H6 e6 p6 => ?_)
        have hm : (i : Int) % 3 = ((i % 3 : Nat) : Int) := by omega
        rw [hm] at p6
        have hm3 : i % 3 < cs.length := by omega
        obtain rfl : v5 = .int ((i % 3 : Nat) : Int) := p6
        have s6 : Sat [none, some (Is K (3 : Int)), some (Is K cs), some (Is K i), some (Is K (xs2.getD i 0)), some (Is K (i % 3 : Nat))] (σ3.set 5 (some (.int ((i % 3 : Nat) : Int)))) H6 := (s5.mono e6).set (i := 5) (P := Is K (i % 3 : Nat)) rfl
        show Ends.nx _ (σ3.set 5 (some (.int ((i % 3 : Nat) : Int)))) H6
        dsimp only
        have u1 : (σ3.set 5 (some (.int ((i % 3 : Nat) : Int))))[1]? = some (some (.int 3)) := by rw [List.getElem?_set_ne (by decide)]; exact x1
        have u2 : (σ3.set 5 (some (.int ((i % 3 : Nat) : Int))))[2]? = some (some (.ref lc)) := by rw [List.getElem?_set_ne (by decide)]; exact x2
        have u5 : (σ3.set 5 (some (.int ((i % 3 : Nat) : Int))))[5]? = some (some (.int ((i % 3 : Nat) : Int))) := List.getElem?_set_self (by rw [xl]; decide)
        have ul : (σ3.set 5 (some (.int ((i % 3 : Nat) : Int)))).length = 6 := by rw [List.length_set, xl]
        generalize σ3.set 5 (some (.int ((i % 3 : Nat) : Int))) = σ4 at s6 u1 u2 u5 ul ⊢
        refine eg_opI0 (K := K) (f := fun i j => i + j) (i := cs[i % 3]) (j := xs2.getD i 0 * ((i : Int) + 2)) (eg_ixL (K := K) (xs := cs) (i := i % 3) (x := cs[i % 3]) (eg_var rfl) (eg_var rfl) (List.getElem?_eq_getElem hm3)) (eg_opI (K := K) (C := CMul) (f := fun i j => i * j) (eg_var rfl) (eg_opI0 (K := K) (f := fun i j => i + j) (i := (i : Int)) (j := 2) (eg_var (P := Is K i) rfl) eg_int) (.inr ⟨by omega, by omega⟩)) σ4 H6 _ s6 fun v6 H7 e7 p7 => ?_
        obtain rfl : v6 = .int (cs[i % 3] + xs2.getD i 0 * ((i : Int) + 2)) := p7
        have hlc7 := (e6.trans e7) _ _ hlc5
        refine ⟨_, u2, _, u5, lc, _, ((i % 3 : Nat) : Int), i % 3, rfl, rfl, hlc7, ?_, ?_⟩
        · exact Evl.ixN_nat (by rw [List.length_map]; exact hm3)
        · refine ⟨ul, u1, u2, Ex.mut ((e4.trans e5).trans (e6.trans e7)) bn, cs.set (i % 3) (cs[i % 3] + xs2.getD i 0 * ((i : Int) + 2)), ?_, by rw [List.length_set]; exact d2, by rw [List.length_set]; exact d3, fun h => by rw [List.length_set]; exact d4 h⟩
          rw [upd_same, List.map_set]
  · exact ⟨_, w2, hr _ _ H4 rfl (eB.trans e4) ⟨cs, ⟨d2, d3⟩, lc, _, rfl, .inl (.inl d1), ints_all⟩⟩
theorem all_true {H : Hp} : ∀ {k : Nat} {vs : List V}, AllP vs (List.replicate k (Is K true)) H → vs = (List.replicate k true).map V.bl
  | 0, vs, h => by cases h; rfl
  | k + 1, vs, h => by
    rw [List.replicate_succ] at h ⊢
    cases h with
    | cons r t =>
      obtain rfl : _ = V.bl true := r
      rw [all_true t]
      rfl
theorem eb_all {a : Addr} {n m N : Nat} {Γ : Gm} {te : TE} (h : EvB a n m te Γ (SoMany K N (Is K true))) : EvB a n m (tCB (rAll K) (tCons te tNil)) Γ (Is K true) := fun σ H Q s b q =>
  h σ H _ s b fun v H1 e1 b1 ⟨k, hk, l, vs, h1, h2, h3⟩ => by
    subst h1
    rw [all_true h3] at h2
    refine ⟨l, List.replicate k true, rfl, .inl (.inl (cu_some h2).2), q _ H1 e1 b1 ?_⟩
    have : (List.replicate k true).all id = true := List.all_eq_true.mpr fun x hx => List.eq_of_mem_replicate hx
    show V.bl _ = V.bl true
    rw [this]
theorem fn_pureOk {x qual : Str} {st : Stmt} {f : Addr} {fd : FuncData} {N ps : List Str} {k : Nat} {γ : Type} {C : γ → Prop} {As : γ → List SP} {R : γ → SP} (F : FunD K x qual (defArgs st) (defBody st) (defScope st) [] [] f fd) (S : FnScope N ps (defScope st))
    (hl : ∀ g, (As g).length = ps.length)
    (h : ∀ (cdv : Value) (A : Around) (outer : List Env) (s : Shared) (H : Hp) (E : XK), Room k (A.deeper (envOfC qual (defScope st) s.heap.objs.size f cdv)) →
      ∃ t, PSs (cxOf CX0 prog w K mg base N qual (defScope st) f cdv A outer s H E) (defBody st) t ∧ ∀ g, C g → StX t (startG N (As g)) (fun _ => (Eq1 .non) = R g) (fun P => P = R g)) : FnOk prog w K mg base CX0 (k + 1) f fd ps (spP C As R) :=
  F.ok S (spP_len hl) fun cdv A outer s H vs Q E hr sp => by
    obtain ⟨t, ht, hg⟩ := h cdv A outer s H E hr
    obtain ⟨g, hc, ha, hq⟩ := sp
    refine ⟨t, ht, hg g hc _ _ H (sat_start ha) (fun Γ2 σ2 H2 n e _ => hq _ H2 e ?_) fun P v H2 e e2 p => hq v H2 e2 (e ▸ p)⟩
    rw [← n]
    rfl
theorem ok_law (T : Tx K mg) {fdO : FuncData} (FO : FunD K "law" "law" (defArgs s_law) (defBody s_law) (defScope s_law) [] [] (He.ga K "law") fdO) : FnOk prog w K mg base CX0 12 (He.ga K "law") fdO ["_law_script"] (spP (fun ns : List Int => ns.length ≤ 63) (fun ns => [Is K ns]) (fun _ => Is K true)) := by
  refine fn_pureOk FO sc_law (fun _ => rfl) fun cdv A outer s H E hr => ⟨_, PSs.nox (pss_cons (ps_set (i := 1) sc_law.nd rfl (Or.inl rfl) (pe_callR (E := E0) (ok__law_cells T) (hr.mono (by first | decide | exact Nat.le_refl _)) (by rfl) T.g__law_cells T.k__law_cells pass0 (pa_cons (pv 0) (pa_cons pe_int pa_nil))))
    (pss_cons (ps_for PassesOwn.never rfl (pi_range1 (by rfl) T.f_range (pa_cons (pe_callB (call_lenK (K := K)) (by rfl) T.f_len (by decide +kernel) (pa_cons (pv 1) pa_nil)) pa_nil)) (pg_name (i := 2) sc_law.nd rfl (Or.inl rfl)) (pss_cons (ps_set (i := 3) sc_law.nd rfl (Or.inr rfl) (pe_callR (E := E0) (ok__law_box T) (hr.mono (by first | decide | exact Nat.le_refl _)) (by rfl) T.g__law_box T.k__law_box pass0 (pa_cons (pv 1) (pa_cons (pv 2) pa_nil))))
    (pss_one (ps_if (pt_not (pt_val (pe_callB (cr_all rfl) (by rfl) T.f_all (by decide +kernel) (pa_cons (pe_lc (own := [("_law_lap", 4)]) (g := gName 4) (tt := _) rfl sc_law.nd (pi_range1 (by rfl) T.f_range (pa_cons pe_int pa_nil)) (blkOk_by (own := [("_law_lap", 4)]) (N := n_law) (sc := defScope s_law) (by decide +kernel)) (fun _ _ _ _ _ => (pg_name (i := 4) sc_law.nd rfl (by first | exact Or.inl rfl | exact Or.inr rfl))) (fun _ _ _ _ _ => pts_nil) (fun _ _ _ _ _ => (pe_callR (E := E0) (ok__law_right T) (hr.mono (by first | decide | exact Nat.le_refl _)) (by rfl) T.g__law_right T.k__law_right pass0 (pa_cons (pv 3) pa_nil)))) pa_nil)))) (pss_one (ps_ret pe_bl)) (pss_nil)))))
    (pss_one (ps_ret pe_bl)))), ?_⟩
  intro ns hn
  refine sx_setS (p := fun cs : List Int => 0 < cs.length ∧ cs.length ≤ 3) (F := Is K) (eg_call ns (ea_cons (eg_var rfl) (ea_cons eg_int ea_nil)) hn) fun cs hcs => ?_
  obtain ⟨hc0, hc3⟩ := hcs
  intro D σ H s hn' hr
  obtain ⟨v1, y1, p1⟩ := s.at' 1 (Is K cs) rfl
  have yl : σ.length = 5 := s.len
  refine h_seq (h_forR (K := K) (n := cs.length) (Γ := [none, some (Is K cs), none, none, none]) (ea_cons (eg_len (K := K) (xs := cs) (eg_var rfl)) ea_nil) (by omega) ((sat_no (n := 5) yl).know (i := 1) y1 p1) fun H1 e1 => ?_)
  refine ⟨fun i σ' H' => σ'.length = 5 ∧ σ'[1]? = some (some v1) ∧ Ex H H', ⟨yl, y1, e1⟩, fun i σ2 H3 D' hi ⟨wl, w1, e3⟩ hnx hrt => ?_, fun σ2 H3 ⟨wl, w1, e3⟩ => ?_⟩
  · have hnx' : ∀ σ H', σ.length = 5 → σ[1]? = some (some v1) → Ex H H' → Ends.nx D' σ H' := fun σ H' q1 q2 q3 => hnx σ H' ⟨q1, q2, q3⟩
    show tSeq (tAsg _ _) _ D' (σ2.set 2 (some (.int (i : Int)))) H3
    have z1 : (σ2.set 2 (some (.int (i : Int))))[1]? = some (some v1) := by rw [List.getElem?_set_ne (by decide)]; exact w1
    have z2 : (σ2.set 2 (some (.int (i : Int))))[2]? = some (some (.int (i : Int))) := List.getElem?_set_self (by rw [wl]; decide)
    have zl : (σ2.set 2 (some (.int (i : Int)))).length = 5 := by rw [List.length_set, wl]
    generalize σ2.set 2 (some (.int (i : Int))) = σ3 at z1 z2 zl ⊢
    refine h_seq ⟨_, z1, _, z2, cs, i, v1, rfl, (Is K cs).mono e3 p1, hi, by omega, fun a H4 e4 na ⟨i0, j0, hb, j1, j2⟩ => ?_⟩
    show Ends.nx _ (σ3.set 3 (some (.ref a))) H4
    dsimp only
    have u1 : (σ3.set 3 (some (.ref a)))[1]? = some (some v1) := by rw [List.getElem?_set_ne (by decide)]; exact z1
    have u3 : (σ3.set 3 (some (.ref a)))[3]? = some (some (.ref a)) := List.getElem?_set_self (by rw [zl]; decide)
    have ul : (σ3.set 3 (some (.ref a))).length = 5 := by rw [List.length_set, zl]
    generalize σ3.set 3 (some (.ref a)) = σ4 at u1 u3 ul ⊢
    have bx : Bx a (0 + 1000 * 1) H4 := ⟨i0, j0, 0, hb, j1, j2, by decide, by decide⟩
    have s4 : Sat [none, none, none, some (Eq1 (.ref a)), none] σ4 (cu a H4) := (sat_no (n := 5) ul).know (i := 3) (P := Eq1 (.ref a)) u3 rfl
    have eC : Ex H (cu a H4) := cut_le (e3.trans e4) fun b hb => by rw [List.mem_singleton.mp hb]; exact fresh_back e3 na
    show tCB _ _ σ4 H4 _
    refine go_b s4 bx (P := Is K true) (m := 0) ?_ fun v H5 e5 b5 p5 => ⟨true, p5, ?_⟩
    · refine eb_all (K := K) (N := 1) (eb_lcR (K := K) (c := 1000) (N := 1) (p := 0) ?_ ?_ (by decide) fun z => ?_)
      · exact EvB.weak (eb_c (i := 1)) (rg_le (by decide) (by decide))
      · exact RepT.rt (K := K) true
      · exact eb_call () (eab_cons (eb_var (i := 3) rfl) eab_nil) trivial
    · exact hnx' σ4 H5 ul u1 ((eC.trans e5).trans cu_ex)
  · refine eg_bl (K := K) (b := true) σ2 H3 _ (sat_no (n := 5) wl) fun v H4 e4 p4 => hr _ v H4 rfl (e3.trans e4) p4
end
end Lp

/-! part LpEnd -/
set_option Elab.async false
set_option linter.all false
set_option maxRecDepth 100000

namespace Lp
open PySem PySem.Spec PyProof.Rows L2
open Evl (Ex ex_l ex_t ex_rd fresh_back)
section
variable {prog : Program} {w : World} {K : PySem.W.Frag} {mg : Str → Option Value} {base : Heap}
theorem law_facts {h : Heap} {f : Addr} (X : K.In h) (G : h.Ns mainGlobals mg) (hfa : mg ("law" : Str) = some (.ref f)) (c : SaysL K) :
    ∃ fd : FuncData, (∀ (s : Shared) (v : Value), BindsTo s fd ⟨[v], []⟩ [("_law_script", v)]) ∧ ∀ base : Heap, K.In base → base.Ns mainGlobals mg → FnOk prog w K mg base CX0 12 f fd ["_law_script"] (spP (fun ns : List Int => ns.length ≤ 63) (fun ns => [Is K ns]) (fun _ => Is K true)) := by
  have T : Tx K mg := tx_of X G c
  obtain ⟨fd, F⟩ := T.d_law
  have e := hfa.symm.trans T.g_law
  cases e
  have b := FunD.bindsA (ps := ["_law_script"]) F fun _ _ _ _ _ _ us hl => match us, hl with | [_], _ => rfl
  exact ⟨fd, fun s v => b s [v] rfl, fun base _ _ => ok_law T F⟩
end
end Lp
open PySem PySem.W PySem.Calls PyProof.Rows
set_option maxHeartbeats 0
theorem PySem.Challenge.cw_lentpile_k76_whole_fees_and_rates_holds : PySem.Challenge.rw_lentpile_k76_whole_fees_and_rates.Holds := by
  w_on; o_law
  refine HandSHeadRun.head_any (r := OpenLaw.row PySem.Challenge.rw_lentpile_k76_whole_fees_and_rates) (q := view (OpenLaw.row PySem.Challenge.rw_lentpile_k76_whole_fees_and_rates).prog [49]) (H := Lp.hkL) (ob := Lp.obT) (M := 20000) (loose := Lp.nms) (d := HandSHeadRun.topDef (OpenLaw.row PySem.Challenge.rw_lentpile_k76_whole_fees_and_rates).prog 49) (kwd := []) Lp.obT_eq
    (by kernel_rfl) (fun s => by kernel_rfl) Lp.run (by kernel_rfl) (by kernel_rfl) (by kernel_rfl) (by rfl) (by first | assumption | decide +kernel) (by decide +kernel) ⟨rfl, rfl, rfl, rfl, rfl, by decide +kernel⟩ ?hw ?hc
  case hw => w_witness2
  case hc =>
    refine L2.walk_ofE (l := PySem.Challenge.rw_lentpile_k76_whole_fees_and_rates) (n := 63) (k := 12) (x := "_law_script") (CX := L2.CX0) rfl (by decide) (by kernel_rfl) ⟨rfl, by decide, by decide⟩ ?F (fun _ _ _ _ z => z)
    intro w mg fa h Y G hmg0
    obtain ⟨K, KX, c⟩ := Y
    have hmg : mg ("law" : PySem.Str) = some (.ref fa) := by
      have e : (HandSHeadRun.topDef (OpenLaw.row PySem.Challenge.rw_lentpile_k76_whole_fees_and_rates).prog 49).name = ("law" : PySem.Str) := by kernel_rfl
      rw [← e]
      exact hmg0
    obtain ⟨fd, hb, hF⟩ := Lp.law_facts (prog := (PySem.Challenge.rw_lentpile_k76_whole_fees_and_rates).prog) (w := w) KX G hmg c
    exact ⟨K, fd, _, KX, hb, fun H a ns hl _ hS => ⟨ns, hl, .cons ⟨a, _, rfl, hS, Lp.ints_all⟩ .nil, fun v H2 _ r => r⟩, hF⟩
