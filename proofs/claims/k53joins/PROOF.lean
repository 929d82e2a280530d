import PyProof.Rows.All
import Wide.All
import OpenK.AllK
import Wide.FinOn
import HandS.ForMost
import HandS.IsInst
import HandS.Wide
import HandS.Zip
import HandS.Walk
import HandS.TupAny
import HandS.SortInts
import HandS.Style
import HandS.Conv
import HandS.DictComp
import HandS.Star
import PyProof.Draws
import PyProof.EnumMake
import PyProof.AutoSeq1
import PyProof.Rows.SortShellAny
import PySem.Challenge.RW_longshares_k53_joins_refused
import HandS.ExcInit
import HandS.ExcOwn
import HandS.WordsExc
import HandS.ExcField
import HandS.ExcIs
import HandS.Property
import HandS.Defaults
import HandS.TryOnly
import HandS.WordsDict
import HandS.RaiseMore
import KE.KDictList
import HandS.SetTxt0
import HandS.Set
import HandS.Strs
import HandS.SetKeys
import HandS.TupSets
import KE.KLam
import HandS.Comp
import HandS.Lambda
import HandS.Nested
import KE.KExcIs
import HandS.Exc
import HandS.CallLocal
import KE.KNestM
import HandS.EndTab
import PySem.Challenge.RW_longshares_k53_joins_refused
set_option Elab.async false
set_option maxRecDepth 100000
set_option maxHeartbeats 4000000
/-! Rules of our own over the hand layer. -/
namespace Own
open PySem L2 RZ
theorem if_t {c : Bool} {A B : Prop} (hc : c = true) (h : A) : if c = true then A else B := by
  rw [if_pos hc]; exact h
theorem if_f {c : Bool} {A B : Prop} (hc : c = false) (h : B) : if c = true then A else B := by
  rw [hc, if_neg Bool.false_ne_true]; exact h
section
variable {X : Cx}
theorem pgi {x : Str} {n : Int} {pos : Pos} (h : ∃ t, X.mg x = some (.int n t)) (hg : Gl X x := by rfl) (hd : (x == ("__debug__" : Str)) = false := by decide) : PE X (.Name x pos) (tC (.int n)) := by
  obtain ⟨t, e⟩ := h
  exact pe_glob hg e ⟨t, rfl⟩ hd
theorem pgs {x z : Str} {pos : Pos} (h : ∃ t, X.mg x = some (.str z t)) (hg : Gl X x := by rfl) (hd : (x == ("__debug__" : Str)) = false := by decide) : PE X (.Name x pos) (tC (.str z)) := by
  obtain ⟨t, e⟩ := h
  exact pe_glob hg e ⟨t, rfl⟩ hd
/-- another reading of the same -/
theorem PE.re {e : Expr} {t t' : TE} (h : PE X e t) (k : ∀ σ H Q, t' σ H Q → t σ H Q) : PE X e t' := ⟨fun pins s σ H Q I q => h.run pins s σ H Q I (k σ H Q q)⟩
/-- isinstance(a, a built-in type) -/
def tIsB (K : PySem.W.Frag) (T : String) (ta : TE) : TE := fun σ H Q => ta σ H fun x H1 => ∃ (t : Value) (b : Bool), TyX K H1 x t ∧ PySem.W.kitOne K t (.type T) = some b ∧ Q (.bl b) H1
theorem pe_isB {a : Expr} {ta : TE} {x : Str} {T : String} {p p2 pos : Pos} (ha : PE X a ta) (hm0 : X.mg "isinstance" = none) (hm : X.mg x = none) (hv : bootBuiltins x = some (.type T))
    (hg0 : Gl X "isinstance" := by rfl) (hg : Gl X x := by rfl) (hn : x ≠ "__name__" := by decide) (hd : (x == ("__debug__" : Str)) = false := by decide)
    (he : starEach [a, .Name x p2] X.env = (false, eval a X.env) :: starEach [.Name x p2] X.env := by rfl) (he2 : starEach [.Name x p2] X.env = (false, eval (.Name x p2) X.env) :: starEach [] X.env := by rfl)
    (hpl : (backTo pos (starEach [.Name x p2] X.env)).any (·.1) = false := by rfl) :
    PE X (.Call (.Name "isinstance" p) [a, .Name x p2] [] pos) (tIsB X.K T ta) := by
  refine PE.re (pe_callB (X := X) (pos := pos) (p := p) call_isi hg0 hm0 (by decide +kernel) (pa_cons ha (pa_cons (pe_bltn (v := .ty T) (pos := p2) hg hm hv rfl hn hd) pa_nil he2) he) (by decide) (by decide) he hpl) fun σ H Q h => ?_
  refine (show ta σ H _ from ?_)
  refine (show (fun x H1 => ∃ (t : Value) (b : Bool), TyX X.K H1 x t ∧ PySem.W.kitOne X.K t (.type T) = some b ∧ Q (.bl b) H1) = (fun x H1 => rIsi X.K [x, .ty T] H1 Q) from ?_) ▸ h
  funext x H1
  apply propext
  constructor
  · rintro ⟨t, b, h1, h2, h3⟩
    exact ⟨x, .ty T, t, .type T, b, rfl, .ty T, h1, h2, h3⟩
  · rintro ⟨x', c, t, u, b, e, k, h1, h2, h3⟩
    cases e
    cases k
    exact ⟨t, b, h1, h2, h3⟩
end
/-- a def of the module, as callers use it -/
structure DefOk (P : Program) (w : World) (K : PySem.W.Frag) (mg : Str → Option Value) (base : Heap) (CX : CXT) (k : Nat) (x : Str) (ps : List Str) (sp : Sp) : Prop where
  ex : ∃ (f : Addr) (fd : FuncData), mg x = some (.ref f) ∧ PySem.W.keepIn K (.ref f) = true ∧ Binds K fd ps [] ∧ FnOk P w K mg base CX k f fd ps sp
def tD (sp : Sp) (E : XK) (t : TA) : TE := fun σ H Q => t σ H fun vs H1 => sp vs H1 Q E
section
variable {X : Cx}
theorem pe_d {CX : CXT} {k : Nat} {x : Str} {ps : List Str} {sp : Sp} {E : XK} {p pos : Pos} {e : Expr} {es : List Expr} {t : TA} (D : DefOk X.prog X.w X.K X.mg X.base CX k x ps sp) (hr : Room k X.A) (hx : Passes CX X E) (ha : PA X (e :: es) t) (hg : Gl X x := by rfl)
    (hdb : (x == ("__debug__" : Str)) = false := by decide) (he : starEach (e :: es) X.env = (false, eval e X.env) :: starEach es X.env := by rfl) (hpl : (backTo pos (starEach es X.env)).any (·.1) = false := by rfl) :
    PE X (.Call (.Name x p) (e :: es) [] pos) (tD sp E t) := by
  obtain ⟨f, fd, hm, hk, hb, F⟩ := D.ex
  refine PE.re (pe_call (pos := pos) (p := p) F hr hg hm hk hb .nil hx ha hdb he hpl) fun σ H Q h => ?_
  show t σ H fun vs H1 => sp (vs ++ []) H1 Q E
  have e : (fun (vs : List V) (H1 : Hp) => sp (vs ++ []) H1 Q E) = fun vs H1 => sp vs H1 Q E := by
    funext vs H1
    rw [List.append_nil]
  rw [e]
  exact h
end
/-! ### comprehensions, folded -/
section
variable {J : It} {n : Nat} {G : Hp → Prop} {Y : Nat → Hp → V → Hp → Prop}
/-- a comprehension without tests: the i-th item is ys[i], all that was tracked stays -/
theorem lc_ys (w : Walk J n G Y) {g : TG} {te : TE} {vs : List Nat} {σ : St} {H1 : Hp} {D : Addr} {Qd : Hp → Prop} (ys : List V) (hy : ys.length = n) (hn : n ≤ sizeLine) (hD : H1 D = none) (hG : ∀ H, Same H1 H → G H)
    (each : ∀ i x H H' (R : VK), i < n → Same H1 H → Y i H x H' → (∀ H3 y, ys[i]? = some y → Same H' H3 → R y H3) → g x (wipe σ vs) H' fun σ2 H2 => wipe σ2 vs = wipe σ vs ∧ te σ2 H2 R)
    (yk : ∀ i H x H', Y i H x H' → Same H H') (hd : ∀ H, Same H1 H → H D = some (.lst ys) → Qd H) :
    ∃ W : Nat → Nat → Hp → Prop, (∃ m, W 0 m (upd H1 D (.lst []))) ∧ ∀ i m H, W i m H →
      (J.stop i H ∧ Qd H) ∨ (J.go i H ∧ ∃ Nx : Hp → Prop, (∀ H', Nx H' → ∃ m', m' < m ∧ W (i + 1) m' H') ∧ ∀ x H', J.yld i H x H' → g x (wipe σ vs) H' fun σ2 H2 => wipe σ2 vs = wipe σ vs ∧ tYes σ2 H2 fun b H3 =>
        if b = true then te σ2 H3 fun y H4 => ∃ acc, H4 D = some (.lst acc) ∧ acc.length < sizeLine ∧ Nx (upd H4 D (.lst (acc ++ [y]))) else Nx H3) := by
  refine lc_it w (fun i H => Same H1 H ∧ H D = some (.lst (ys.take i))) ⟨fun b o e => by rw [upd_ne (ne_of_none e hD)]; exact e, upd_same⟩ (fun i H _ h => hG H h.1) (fun i x H H' hi ⟨s, hl⟩ y => ?_) fun H ⟨s, hl⟩ => hd H s (by rw [hl, ← hy, List.take_length])
  refine cast ?_ (each i x H H' (fun y H4 => ∃ acc, H4 D = some (.lst acc) ∧ acc.length < sizeLine ∧ (Same H1 (upd H4 D (.lst (acc ++ [y]))) ∧ (upd H4 D (.lst (acc ++ [y]))) D = some (.lst (ys.take (i + 1))))) hi s y fun H3 z hz s3 => ?_)
  · have e : (fun (σ2 : St) (H2 : Hp) => wipe σ2 vs = wipe σ vs ∧ te σ2 H2 fun y H4 => ∃ acc, H4 D = some (.lst acc) ∧ acc.length < sizeLine ∧ (Same H1 (upd H4 D (.lst (acc ++ [y]))) ∧ (upd H4 D (.lst (acc ++ [y]))) D = some (.lst (ys.take (i + 1))))) =
        fun σ2 H2 => wipe σ2 vs = wipe σ vs ∧ tYes σ2 H2 fun b H3 => if b = true then te σ2 H3 fun y H4 => ∃ acc, H4 D = some (.lst acc) ∧ acc.length < sizeLine ∧ (Same H1 (upd H4 D (.lst (acc ++ [y]))) ∧ (upd H4 D (.lst (acc ++ [y]))) D = some (.lst (ys.take (i + 1)))) else (Same H1 H3 ∧ H3 D = some (.lst (ys.take (i + 1)))) := by
      funext σ2 H2
      show (wipe σ2 vs = wipe σ vs ∧ te σ2 H2 fun y H4 => ∃ acc, H4 D = some (.lst acc) ∧ acc.length < sizeLine ∧ (Same H1 (upd H4 D (.lst (acc ++ [y]))) ∧ (upd H4 D (.lst (acc ++ [y]))) D = some (.lst (ys.take (i + 1))))) =
        (wipe σ2 vs = wipe σ vs ∧ if true = true then te σ2 H2 fun y H4 => ∃ acc, H4 D = some (.lst acc) ∧ acc.length < sizeLine ∧ (Same H1 (upd H4 D (.lst (acc ++ [y]))) ∧ (upd H4 D (.lst (acc ++ [y]))) D = some (.lst (ys.take (i + 1)))) else (Same H1 H2 ∧ H2 D = some (.lst (ys.take (i + 1)))))
      rw [if_pos rfl]
    rw [e]
  · have hl3 : H3 D = some (.lst (ys.take i)) := s3 _ _ (yk i H x H' y _ _ hl)
    have s13 : Same H1 H3 := fun b o e => s3 _ _ (yk i H x H' y _ _ (s b o e))
    refine ⟨_, hl3, ?_, fun b o e => by rw [upd_ne (ne_of_none e hD)]; exact s13 b o e, ?_⟩
    · rw [List.length_take]
      have : min i ys.length < n := by omega
      omega
    · rw [upd_same]
      have q : ys.take (i + 1) = ys.take i ++ [z] := by
        rw [List.take_add_one, hz]; rfl
      rw [q]
end
theorem same_up {H : Hp} {T : Addr} {o : HO} (h : H T = none) : Same H (upd H T o) := fun b u e => by rw [upd_ne (ne_of_none e h)]; exact e
theorem yk_at {xs : List V} : ∀ i H x H', YAt xs i H x H' → Same H H' := fun _ _ _ _ h => by rw [h.1]; exact Same.refl _
theorem yk_pair {xs ys : Nat → Option V} : ∀ i H x H', YPair xs ys i H x H' → Same H H' := fun _ _ _ _ ⟨T, _, _, _, h, e, _⟩ => by rw [e]; exact same_up h
theorem yk_fn {f : Nat → V} : ∀ i H x H', YFn f i H x H' → Same H H' := fun _ _ _ _ h => by rw [h.1]; exact Same.refl _
theorem walk_zipT {K : PySem.W.Frag} {a b : Addr} {xs ys : List V} {n : Nat} (hn : n = min xs.length ys.length) : Walk (ItzT K a b) n (fun H => SqT K H a xs ∧ SqT K H b ys) (YPair (fun i => xs[i]?) (fun i => ys[i]?)) where
  goes := fun i H hi h => ⟨xs, ys, _, _, h.1, h.2, List.getElem?_eq_getElem (by omega), List.getElem?_eq_getElem (by omega)⟩
  stops := fun H h => ⟨xs, ys, h.1, h.2, by omega⟩
  yields := fun i H v H' _ h ⟨T, x, y, e, t, e2, h1, h2⟩ => ⟨T, x, y, e, t, e2, h1 xs h.1, h2 ys h.2⟩
theorem Same.sqt {K : PySem.W.Frag} {H H' : Hp} {a : Addr} {xs : List V} (e : Same H H') (h : SqT K H a xs) : SqT K H' a xs := by
  rcases h with (h | ⟨o, h⟩) | h
  · exact .inl (.inl (e _ _ h))
  · exact .inl (.inr ⟨o, e _ _ h⟩)
  · exact .inr h
end Own
namespace Own
open PySem L2 RZ PySem.Spec PyProof.Rows
open AutoSeq1 (wpAny_loadPart')
/-! ### sorted of texts, any number of them -/
def rSortedStrs (K : PySem.W.Frag) : List V → Hp → VK → Prop := fun vs H Q => ∃ (a : Addr) (xs : List Str), vs = [V.ref a] ∧ SqL K H a (xs.map V.str) ∧
  ∀ (ys : List Str) (p : Addr), ys.Perm xs → sortedS ys = true → H p = none → Q (.ref p) (upd H p (.lst (ys.map V.str)))
theorem cr_sortedStrs {X : Cx} : CallR X (.builtin "sorted") (rSortedStrs X.K) := by
  intro pins s σ H vs us Q I r h
  obtain ⟨a, xs, rfl, hs, q⟩ := h
  obtain ⟨its, rv, hl, hz⟩ := I.list hs
  rw [Vals.ref1 r]
  refine sorted_strsAny hl.isList rv.strs (by rw [← rv.length]; exact hz) fun out ys h1 h2 h3 => ?_
  obtain ⟨ep, he'⟩ := PyProof.Rows.sortedAll_at s.heap its out
  have hlen : (ys.map V.str).length ≤ sizeLine := by
    rw [List.length_map, h2.length_eq]
    rw [List.length_map] at hz
    exact hz
  exact ⟨.ref _, upd H (s.heap.objs.size + 1) (.lst (ys.map V.str)), I.laid (t' := s.toks) (fun _ _ => PyProof.Rows.sortedAll_old) (Nat.le_succ _) ⟨hlen, out.toList, ep, vals_of_strs h1, he'⟩, rfl, q ys _ h2 h3 (I.hok.fresh (Nat.le_succ _))⟩
/-! ### xs.extend(a tuple) -/
theorem extend_tup (l : Addr) (items : Array Value) (n : Nat) (b : Addr) (items2 : Array Value) (n2 : Nat) (dct : Option Addr) (sl : Array (Option Value)) (hs0 : ¬(!items.isEmpty && Builtin.List.listTooLong (items.size + items2.size)) = true) (hs1 : items.size ≤ sizeLine) (hs2 : items.size + items2.size ≤ sizeLine + 1) :
    Meets (Builtin.«list.extend» ⟨[.ref l, .ref b], []⟩) (fun _ R s => s.heap.get? l = some { cls := .type "list", dict := none, data := .seq items n, slots := #[] } ∧ s.heap.get? b = some { cls := .type "tuple", dict := dct, data := .seq items2 n2, slots := sl } ∧ R (.ok (.ret Value.none)) { s with heap := s.heap.update l (Obj.mapSeq fun x => x ++ items2), toks := s.toks }) :=
  .of_wp fun prog w A R s h => by
    obtain ⟨hp, g, d, tk, os⟩ := s; obtain ⟨hl, hb, h⟩ := h; have f1 := AutoSeq1.idx_int; have f2 := AutoSeq1.sub_tuple_tuple; have f3 := AutoSeq1.sub_list_list; have f4 := AutoSeq1.sub_tuple_list; have f5 := AutoSeq1.sub_list_tuple;
    have hz' : (items ++ items2).size ≤ sizeLine + 1 := by rw [Array.size_append]; exact hs2
    wp_walk using (wpAny_updateSeq hl rfl (hz := hs1) (_hz' := hz')), wpAny_loadPart' hl, wpAny_loadPart' hb; exact ⟨_, rfl, h⟩
def rExtendT (K : PySem.W.Frag) : V → List V → Hp → VK → Prop := fun x vs H Q => ∃ l b xs zs, x = .ref l ∧ vs = [.ref b] ∧ H l = some (.lst xs) ∧ SqT K H b zs ∧ xs.length + zs.length ≤ sizeLine ∧ Q .non (upd H l (.lst (xs ++ zs)))
theorem mt_extendT {X : Cx} : MtM X "list.extend" (rExtendT X.K) := by
  intro pins s σ H x vs v us Q I rx rv h
  obtain ⟨l, b, xs, zs, rfl, rfl, hH, hB, hz, q⟩ := h
  cases rx
  obtain ⟨u, rfl, ru⟩ := rv.one
  cases ru
  obtain ⟨z, its, n, r, hl, e⟩ := I.lstM hH
  obtain ⟨its2, r2, ⟨⟨c2, d2, dt2, sl2⟩, e2, hc2, n2, hd2⟩, z2⟩ := I.tuple hB
  have hl2 := r2.length
  simp only at hc2 hd2
  subst hc2 hd2
  have hsz : its.toArray.size + its2.toArray.size ≤ sizeLine := by rw [List.size_toArray, List.size_toArray]; omega
  have hlong : ¬ (!its.toArray.isEmpty && Builtin.List.listTooLong (its.toArray.size + its2.toArray.size)) = true := by
    rw [notLongL hsz, Bool.and_false]
    exact Bool.false_ne_true
  refine call_meets F.slot_list_extend ⟨_, e, rfl⟩ F.entry_list_extend (F.args_list_extend_2 _ _)
    (extend_tup l its.toArray n b its2.toArray n2 d2 sl2 hlong (by rw [List.size_toArray]; omega) (by omega)) ⟨e, e2, ?_⟩
  refine ⟨.non, _, I.lset (its' := its ++ its2) hH e (by simp) (r.append r2) ?_, rfl, q⟩
  rw [List.length_append]
  omega
/-! ### enumerate over a tuple -/
theorem draws_tuple {prog : Program} {w : World} {A : Around} (hh : A.handled = none) (it l : Addr) (hne : l ≠ it) (items : Array Value) :
    Draws prog w A it [it, l] items.size (fun i v => items[i]? = some v) (fun i h => h.IsTupleIter it l i ∧ h.IsTuple l items) where
  live := fun _ _ st => let ⟨o, ho, _⟩ := st.1; ⟨o, ho⟩
  frame := fun _ _ _ st hk => ⟨st.1.at fun o e => hk it (by simp) o e, let ⟨o, e, r⟩ := st.2; ⟨o, hk l (by simp) o e, r⟩⟩
  item := fun i s Q E hi st hQ => by
    refine nextOf_tuple_item st.1 st.2 (x := items[i]) (by simp [hi]) fun h' hit' hs' => ?_
    exact hQ _ h' s.toks (by simp [hi]) ⟨hit', let ⟨o, e, r⟩ := st.2; ⟨o, (hs'.2 l hne).trans e, r⟩⟩ hs'
  done := fun s Q E st hE => nextOf_tuple_end hh st.1 st.2 (by simp) hE
theorem meets_enumerate_newT (l : Addr) (items : Array Value) (n : Nat) (dct : Option Addr) (sl : Array (Option Value)) :
    Meets (Builtin.«enumerate.__new__» ⟨[.type "enumerate", .ref l], []⟩) (fun _ R s => s.heap.get? l = some { cls := .type "tuple", dict := dct, data := .seq items n, slots := sl } ∧
      R (.ok (.ret (.ref (s.heap.push { cls := .type "tuple_iterator", data := .fields #[.ref l, .int 0 0] }).objs.size)))
        { s with heap := (s.heap.push { cls := .type "tuple_iterator", data := .fields #[.ref l, .int 0 0] }).push { cls := .type "enumerate", data := .fields #[.none, .bool false, .ref s.heap.objs.size, rawInt 0, .none, .none] } }) :=
  .of_wp fun prog w A R s h => by
    obtain ⟨hp, g, d, tk, os⟩ := s; obtain ⟨hl, h⟩ := h
    have hsub := sub_enumerate
    have hL : Heap.IsTuple (Shared.heap ⟨hp, g, d, tk, os⟩) l items := ⟨_, hl, rfl, n, rfl⟩
    wp_walk using wpAny_loadPart' hl
    refine wpAny_stack_any fun st => wpAny_pure ?_
    split
    · rename_i c _ _ _ _ _
      cases (c == Value.type "enumerate")
      · wp_walk using wpAny_loadPart' hl, wpAny_pyIter_tuple hL
        exact ⟨_, rfl, h⟩
      · wp_walk using wpAny_loadPart' hl, wpAny_pyIter_tuple hL
        exact ⟨_, rfl, h⟩
    · wp_walk using wpAny_loadPart' hl, wpAny_pyIter_tuple hL
      exact ⟨_, rfl, h⟩
section
variable {prog : Program} {w : World} {A : Around} {E : Value → Shared → Prop} {s : Shared}
theorem call_enumerate_tuple {l : Addr} {items : Array Value} {Q : Value → Shared → Prop} (hL : s.heap.IsTuple l items)
    (h : ∀ h', IsEnum h' (s.heap.objs.size + 1) s.heap.objs.size 0 .none → h'.IsTupleIter s.heap.objs.size l 0 → h'.objs.size = s.heap.objs.size + 2 →
      (∀ b o, s.heap.get? b = some o → h'.get? b = some o) → Q (.ref (s.heap.objs.size + 1)) { s with heap := h' }) :
    wpAny (model prog w) A (call (.type "enumerate") [.ref l]) Q E s := by
  obtain ⟨⟨c, dct, dt, sl⟩, hl, hc, n, hd⟩ := hL
  replace hc : c = .type "tuple" := hc
  replace hd : dt = .seq items n := hd
  subst hc hd
  refine callType_new F.called_enumerate (by decide) (F.typeCall_enumerate_1 _) (F.newCall_enumerate_1 _) (fun obj => F.args_object_init_2 obj _) F.entry_enumerate_new
    (meets_enumerate_newT l items n dct sl) ⟨hl, ?_⟩
  have hz : (s.heap.push { cls := .type "tuple_iterator", data := .fields #[.ref l, .int 0 0] }).objs.size = s.heap.objs.size + 1 := Heap.size_push ..
  show _ ∧ _
  rw [hz]
  have he : IsEnum ((s.heap.push { cls := .type "tuple_iterator", data := .fields #[.ref l, .int 0 0] }).push
      { cls := .type "enumerate", data := .fields #[.none, .bool false, .ref s.heap.objs.size, rawInt 0, .none, .none] }) (s.heap.objs.size + 1) s.heap.objs.size 0 .none := by
    have := Heap.get?_push_size (s.heap.push { cls := .type "tuple_iterator", data := .fields #[.ref l, .int 0 0] })
      (o := { cls := .type "enumerate", data := .fields #[.none, .bool false, .ref s.heap.objs.size, rawInt 0, .none, .none] }) rfl
    rw [hz] at this; exact this
  refine ⟨⟨_, he, rfl⟩, h _ he ⟨_, Heap.get?_push_of_some _ (Heap.get?_push_size _ rfl), rfl, rfl⟩ (by rw [Heap.size_push, hz]) fun b o x => Heap.get?_push_of_some _ (Heap.get?_push_of_some _ x)⟩
end
def IteT (K : PySem.W.Frag) (a : Addr) : It :=
  ⟨fun i H => ∃ (xs : List V) (x : V), SqT K H a xs ∧ xs[i]? = some x, fun i H v H' => ∃ T x, v = .ref T ∧ H T = none ∧ H' = upd H T (.tup [.int (i : Nat), x]) ∧ ∀ xs, SqT K H a xs → xs[i]? = some x, fun i H => ∃ xs : List V, SqT K H a xs ∧ xs.length ≤ i⟩
theorem turn_enumT {P : Program} {w : World} {K : PySem.W.Frag} {elts : List Expr} {kk : Nat} {tpos : Pos} (a e it : Addr) (hai : a ≠ it) (hae : a ≠ e) :
    Turn P w K (.Tuple elts kk tpos) (IteT K a) [e, it] e (fun i h => (∃ old, IsEnum h e it ((i : Nat) : Int) old) ∧ h.IsTupleIter it a i ∧ e ≠ it) where
  mem := by simp
  obj := fun i h st b hb => by
    obtain ⟨⟨old, he⟩, ⟨o, ho, hc, hd⟩, _⟩ := st
    have e' : b = e ∨ b = it := by simpa using hb
    rcases e' with z | z
    · rw [z]; exact ⟨_, he, fun v q => nomatch q⟩
    · rw [z]; exact ⟨o, ho, fun v q => by rw [hd] at q; cases q⟩
  keep := fun i h h' st k => let ⟨⟨old, he⟩, hi, hne⟩ := st; ⟨⟨old, k e (by simp) _ he⟩, hi.at fun o q => k it (by simp) o q, hne⟩
  item := by
    intro X hP hw hK hc i pins s σ H E I hf st hg
    subst hP hw hK
    obtain ⟨⟨old, he⟩, hit, hne⟩ := st
    obtain ⟨xs, x, hq, hx⟩ := hg
    obtain ⟨its, rv, p, hz⟩ := I.tuple hq
    obtain ⟨u, hu, ru⟩ := rv.get hx
    have hil0 : i < its.toArray.size := by
      have z := (List.getElem?_eq_some_iff.mp hx).1
      have z2 := rv.length
      simp; omega
    have hel : e < s.heap.objs.size := Heap.lt_size he
    have hil : it < s.heap.objs.size := by obtain ⟨_, q, _⟩ := hit; exact Heap.lt_size q
    have D := draws_tuple (prog := X.prog) (w := X.w) (A := X.A.in1) (I.ok.hd hc) it a hai its.toArray
    refine wpAny_pyNext_enum_itemD D he ⟨hit, p⟩ hil0 hne (by simp; exact ⟨hne, Ne.symm hae⟩) fun u2 h' tk hP' ho st' hT hsz hk => ?_
    have eu : u2 = u := by
      have z : its.toArray[i]? = some u := by simpa using hu
      have hP2 : its.toArray[i]? = some u2 := hP'
      rw [z] at hP2
      exact (Option.some.inj hP2).symm
    subst eu
    refine ⟨_, rfl, wpAny_letOwnedTupleGo_enum (s := { s with heap := h', toks := tk + 1 }) ho fun h'' he' sb => ?_⟩
    have hT2 : h''.get? s.heap.objs.size = some { cls := .type "tuple", data := .seq #[.int i tk, u2] } := (sb.2 _ (Nat.ne_of_gt hel)).trans hT
    have new : ObjOk X.prog X.w (upd H s.heap.objs.size (.tup [.int (i : Nat), x])) h'' s.heap.objs.size (.tup [.int (i : Nat), x]) :=
      ⟨by show 2 ≤ sizeLine; decide, [.int i tk, u2], .cons ⟨_, rfl⟩ (.cons ru .nil), ⟨_, hT2, rfl, _, rfl⟩⟩
    have I1 : Inv X pins σ (upd H s.heap.objs.size (.tup [.int (i : Nat), x])) { s with heap := h'', toks := tk + 1 } :=
      I.turnedNew (ch := [e, it]) (fun b ob hb q => (sb.2 b (fun z => hb (by simp [z]))).trans (hk b ob (fun z => hb (by simp [z])) (fun z => hb (by simp [z])) q)) hf (Nat.le_refl _) new
    refine ⟨.ref s.heap.objs.size, _, I1, rfl, ⟨_, x, rfl, I.hok.fresh (Nat.le_refl _), rfl, fun ys hy => by rw [I.tuple_inj hy hq]; exact hx⟩, ⟨⟨u2, ?_⟩, st'.1.at fun o q => (sb.2 it (Ne.symm hne)).trans q, hne⟩, fun b hb => ?_⟩
    · have e1 : ((i + 1 : Nat) : Int) = (i : Int) + 1 := by omega
      rw [e1]; exact he'
    · have hb' : b < s.heap.objs.size := by
        have e' : b = e ∨ b = it := by simpa using hb
        rcases e' with z | z
        · rw [z]; exact hel
        · rw [z]; exact hil
      rw [upd_ne (Nat.ne_of_lt hb')]
      exact (hf b hb).1
  done := by
    intro X hP hw hK hc i pins s σ H E I hf st hg
    subst hP hw hK
    obtain ⟨⟨old, he⟩, hit, hne⟩ := st
    obtain ⟨xs, hq, hx⟩ := hg
    obtain ⟨its, rv, p, hz⟩ := I.tuple hq
    obtain ⟨f0, f1, f2, f3, f4, f5⟩ := hf it (by simp)
    have hl := rv.length
    have hT : s.TypeIs (.ref e) "enumerate" := ⟨_, he, rfl⟩
    unfold pyNext
    refine wpAny_bind (wpAny_attempt (wpAny_callSpecial?_slot (name := Str.ofString "__next__") hT F.slot_enumerate_next
      (wpAny_call_entry F.slot_enumerate_next hT F.entry_enumerate_next ?_ (F.args_enumerate_next_1 _))))
    show wpAny _ _ (field (.ref e) 2 >>= _) _ _ _
    refine wpAny_bind (wpAny_field he rfl (x := .ref it) rfl ?_)
    refine wpAny_bind (nextOf_tuple_end (I.ok.hd hc) hit p (by simp; omega) fun h' x he' hx' => ?_)
    obtain ⟨o, ho, hc⟩ := hx'
    refine wpAny_bind (wpAny_isInstance (T := "StopIteration") (b := true) ⟨o, ho, hc⟩ isSubtype_stop ?_)
    exact wpAny_pure ⟨rfl, I.turned (t' := s.toks) (fun b o hb q => he' b o hb q) f0 f1 f3 f4 f5⟩
  self := fun A i s Q E st h => let ⟨⟨_, he⟩, _⟩ := st; wpAny_pyIter_enum he h
def iEnumT (K : PySem.W.Frag) (ta : TA) : TI := fun σ H R => ta σ H fun vs H1 => ∃ a xs, vs = [.ref a] ∧ SqT K H1 a xs ∧ R (IteT K a) H1
theorem pi_enumT {X : Cx} {e : Expr} {ta : TA} {p pos tpos : Pos} {elts : List Expr} {kk : Nat} (hg : Gl X "enumerate") (hm : X.mg "enumerate" = none) (ha : PA X [e] ta) (hs : starEach [e] X.env = [(false, eval e X.env)] := by rfl) :
    PI X (.Tuple elts kk tpos) (.Call (.Name "enumerate" p) [e] [] pos) (iEnumT X.K ta) := by
  refine ⟨fun pins s σ H R I h => ?_⟩
  refine Call_ (ld_blt I hg hm boot_enumerate (PyProof.Rows.callWith_type1 (thn (ha.run pos pins s σ H _ I h) fun us s1 ⟨vs, H1, I1, r1, q1⟩ => ?_) hs rfl))
  obtain ⟨a, xs, ex, hq, q⟩ := q1
  subst ex
  cases r1 with
  | cons r rr =>
    cases rr
    cases r
    obtain ⟨its, rv, p', hz⟩ := I1.tuple hq
    refine call_enumerate_tuple p' fun h' he hit hsz hk => wpAny_pyIter_enum he ?_
    have I2 : Inv X pins σ H1 { s1 with heap := h' } := I1.kept (t' := s1.toks) hk
    have hal : a < s1.heap.objs.size := p'.lt
    refine ⟨s1.heap.objs.size + 1, [s1.heap.objs.size + 1, s1.heap.objs.size], _, _, H1, rfl, I2, turn_enumT a (s1.heap.objs.size + 1) s1.heap.objs.size (Nat.ne_of_lt hal) (Nat.ne_of_lt (Nat.lt_succ_of_lt hal)), ⟨⟨.none, he⟩, hit, Nat.succ_ne_self _⟩, fun b hb => ?_, q⟩
    have e' : b = s1.heap.objs.size + 1 ∨ b = s1.heap.objs.size := by simpa using hb
    have hle : s1.heap.objs.size ≤ b := by
      rcases e' with z | z
      · rw [z]; exact Nat.le_add_right _ _
      · rw [z]; exact Nat.le_refl _
    exact I1.fpOk hle (I1.hok.fresh hle)
theorem walk_enumT {K : PySem.W.Frag} {a : Addr} {xs : List V} : Walk (IteT K a) xs.length (fun H => SqT K H a xs) (YPair (fun i => some (.int (i : Nat))) (fun i => xs[i]?)) where
  goes := fun i H hi h => ⟨xs, _, h, List.getElem?_eq_getElem hi⟩
  stops := fun H h => ⟨xs, h, Nat.le_refl _⟩
  yields := fun i H v H' _ h ⟨T, x, e, t, e2, h1⟩ => ⟨T, _, x, e, t, e2, rfl, h1 xs h⟩

/-! ### the same rules with the written part as a letter of its own (within comprehensions) -/
section
variable {X : Cx}
def rTupOf (K : PySem.W.Frag) : List V → Hp → VK → Prop := fun xs H Q => ∃ p ys, xs = [.ref p] ∧ ((SqL K H p ys ∧ ∀ l, H l = none → Q (.ref l) (upd H l (.tup ys))) ∨ (SqT K H p ys ∧ Q (.ref p) H))
def rLstOf (K : PySem.W.Frag) : List V → Hp → VK → Prop := fun xs H Q => ∃ p ys, xs = [.ref p] ∧ (SqL K H p ys ∨ SqT K H p ys) ∧ ∀ l, H l = none → Q (.ref l) (upd H l (.lst ys))
def rLen (K : PySem.W.Frag) : List V → Hp → VK → Prop := fun xs H Q => ∃ x n, xs = [x] ∧ LenV K x H n ∧ Q (.int (Nat.cast n)) H
theorem tuple_ofK (K : PySem.W.Frag) (hK : X.K = K := by rfl) : CallR X (.type "tuple") (rTupOf K) := by subst hK; exact call_tuple_of
theorem list_ofK (K : PySem.W.Frag) (hK : X.K = K := by rfl) : CallR X (.type "list") (rLstOf K) := by subst hK; exact call_list_of
theorem lenK (K : PySem.W.Frag) (hK : X.K = K := by rfl) : CallR X (.builtin "len") (rLen K) := by subst hK; exact call_len
theorem allK (K : PySem.W.Frag) (hc : X.calm = true := by rfl) (hK : X.K = K := by rfl) : CallR X (.builtin "all") (rAll K) := by subst hK; exact cr_all hc
theorem sumK (K : PySem.W.Frag) (hc : X.calm = true := by rfl) (hK : X.K = K := by rfl) : CallR X (.builtin "sum") (rSum K) := by subst hK; exact cr_sum hc
theorem sortedIK (K : PySem.W.Frag) (hK : X.K = K := by rfl) : CallR X (.builtin "sorted") (rSortedI K) := by subst hK; exact cr_sortedI
theorem sortedSK (K : PySem.W.Frag) (hK : X.K = K := by rfl) : CallR X (.builtin "sorted") (rSortedStrs K) := by subst hK; exact cr_sortedStrs
theorem ix_tupK (K : PySem.W.Frag) (hK : X.K = K := by rfl) : IxR X (rIxT K) := by subst hK; exact ix_tup
theorem ix_listK (K : PySem.W.Frag) (hK : X.K = K := by rfl) : IxR X (rIxL K) := by subst hK; exact ix_list
theorem in_seqK (K : PySem.W.Frag) (hK : X.K = K := by rfl) : OpR X (compareOp .In) (rIn K false) := by subst hK; exact op_in_seq
theorem notIn_seqK (K : PySem.W.Frag) (hK : X.K = K := by rfl) : OpR X (compareOp .NotIn) (rIn K true) := by subst hK; exact op_notIn_seq
theorem eqDK (K : PySem.W.Frag) (hu : X.A.units + 64 < cLine) (hK : X.K = K := by rfl) : OpR X (compareOp .Eq) (rEqD K) := by subst hK; exact op_eqD hu
theorem neDK (K : PySem.W.Frag) (hu : X.A.units + 64 < cLine) (hK : X.K = K := by rfl) : OpR X (compareOp .NotEq) (rNeD K) := by subst hK; exact op_neD hu
theorem fldK (K : PySem.W.Frag) {e : Expr} {ta : TE} {f : Str} {pos : Pos} (he : PE X e ta) (hb : attributeBase e f X.env (eval e X.env) = eval e X.env := by rfl) (hK : X.K = K := by rfl) : PE X (.Attribute e f pos) (tFld K ta f) := by subst hK; exact pe_fld he hb
theorem isBK (K : PySem.W.Frag) {a : Expr} {ta : TE} {x : Str} {T : String} {p p2 pos : Pos} (ha : PE X a ta) (hm0 : X.mg "isinstance" = none) (hm : X.mg x = none) (hv : bootBuiltins x = some (.type T))
    (hg0 : Gl X "isinstance" := by rfl) (hg : Gl X x := by rfl) (hn : x ≠ "__name__" := by decide) (hd : (x == ("__debug__" : Str)) = false := by decide)
    (he : starEach [a, .Name x p2] X.env = (false, eval a X.env) :: starEach [.Name x p2] X.env := by rfl) (he2 : starEach [.Name x p2] X.env = (false, eval (.Name x p2) X.env) :: starEach [] X.env := by rfl)
    (hpl : (backTo pos (starEach [.Name x p2] X.env)).any (·.1) = false := by rfl) (hK : X.K = K := by rfl) :
    PE X (.Call (.Name "isinstance" p) [a, .Name x p2] [] pos) (tIsB K T ta) := by subst hK; exact pe_isB ha hm0 hm hv hg0 hg hn hd he he2 hpl
theorem pi_listK (K : PySem.W.Frag) {tg l : Expr} {tl : TE} (hl : PE X l tl) (hK : X.K = K := by rfl) : PI X tg l (iList K tl) := by subst hK; exact pi_list hl
theorem pi_tupK (K : PySem.W.Frag) {tg l : Expr} {tl : TE} (hl : PE X l tl) (hK : X.K = K := by rfl) : PI X tg l (iTup K tl) := by subst hK; exact pi_tup hl
theorem pg_tupK (K : PySem.W.Frag) {pos : Pos} {es : List Expr} {k : Nat} {t : TGs} {n : Nat} (h : PGs X es t) (hc : X.calm = true := by rfl)
    (hn : (assignEach es X.env).length = n := by rfl) (hst : (assignEach es X.env).findIdx? (·.1) = none := by rfl) (hK : X.K = K := by rfl) : PG X (.Tuple es k pos) (gTup K n t) := by subst hK; exact pg_tup hc h hn hst
end
end Own
namespace K53
open PySem L2 RZ Own
def top (i : Nat) : Stmt := PySem.Challenge.pw_longshares_k53_joins_refused.main.body.getD i (.Pass ⟨0, 0, 0, 0⟩)
def letters : Str := "abcdefghijklmnopqrstuvwxyz"
def signs : Str := "abcdefghijklmnopqrstuvwxyz0123456789?!@="
/-- what the top has left: built-in names that are free, constants -/
structure Txt (K : PySem.W.Frag) (mg : Str → Option Value) : Prop where
  n_isinstance : mg "isinstance" = none
  n_int : mg "int" = none
  n_bool : mg "bool" = none
  n_str : mg "str" = none
  n_tuple : mg "tuple" = none
  n_dict : mg "dict" = none
  n_list : mg "list" = none
  n_set : mg "set" = none
  n_len : mg "len" = none
  n_all : mg "all" = none
  n_zip : mg "zip" = none
  n_range : mg "range" = none
  n_enumerate : mg "enumerate" = none
  n_sorted : mg "sorted" = none
  n_abs : mg "abs" = none
  c_LETTERS : ∃ t, mg "LETTERS" = some (.str letters t)
  c_SIGNS : ∃ t, mg "SIGNS" = some (.str signs t)
  c_MOST_LETTERS : ∃ t, mg "MOST_LETTERS" = some (.int 8 t)
  c_MOST_SIGNS : ∃ t, mg "MOST_SIGNS" = some (.int 24 t)
  c_MOST_STATES_graphs : ∃ t, mg "MOST_STATES_graphs" = some (.int 300 t)
  c_MOST_STEPS_graphs : ∃ t, mg "MOST_STEPS_graphs" = some (.int 1200 t)
  c_MOST_TIME : ∃ t, mg "MOST_TIME" = some (.int 1000 t)
  c_MOST_PAY : ∃ t, mg "MOST_PAY" = some (.int 999999999999 t)
  c_MOST_MEASURES_graphs : ∃ t, mg "MOST_MEASURES_graphs" = some (.int 4 t)
  c_MOST_EVENTS : ∃ t, mg "MOST_EVENTS" = some (.int 200 t)
  c_MOST_MEASURES_joins : ∃ t, mg "MOST_MEASURES_joins" = some (.int 4 t)
  c_MOST_STATES_joins : ∃ t, mg "MOST_STATES_joins" = some (.int 300 t)
  c_MOST_STEPS_joins : ∃ t, mg "MOST_STEPS_joins" = some (.int 1200 t)
abbrev s_is_integer : Stmt := top 16
abbrev s_is_within : Stmt := top 17
abbrev s_is_name : Stmt := top 18
abbrev s_is_event : Stmt := top 19
abbrev s_is_lot : Stmt := top 20
abbrev s_is_lot_of : Stmt := top 34
abbrev s_is_starts : Stmt := top 35
abbrev s_is_measures : Stmt := top 36
abbrev s_is_pay : Stmt := top 37
abbrev s_is_step : Stmt := top 38
theorem sc_is_integer : FnScope ["value"] ["value"] (defScope s_is_integer) := ⟨rfl, rfl, rfl, by decide +kernel, rfl, by decide +kernel, by decide +kernel⟩
theorem sc_is_within : FnScope ["value", "least", "most"] ["value", "least", "most"] (defScope s_is_within) := ⟨rfl, rfl, rfl, by decide +kernel, rfl, by decide +kernel, by decide +kernel⟩
theorem sc_is_name : FnScope ["value", "letter"] ["value"] (defScope s_is_name) := ⟨rfl, rfl, rfl, by decide +kernel, rfl, by decide +kernel, by decide +kernel⟩
theorem sc_is_event : FnScope ["value", "sign"] ["value"] (defScope s_is_event) := ⟨rfl, rfl, rfl, by decide +kernel, rfl, by decide +kernel, by decide +kernel⟩
theorem sc_is_lot : FnScope ["value", "step", "later"] ["value"] (defScope s_is_lot) := ⟨rfl, rfl, rfl, by decide +kernel, rfl, by decide +kernel, by decide +kernel⟩
theorem sc_is_lot_of : FnScope ["many", "value"] ["many", "value"] (defScope s_is_lot_of) := ⟨rfl, rfl, rfl, by decide +kernel, rfl, by decide +kernel, by decide +kernel⟩
theorem sc_is_starts : FnScope ["count", "value"] ["count", "value"] (defScope s_is_starts) := ⟨rfl, rfl, rfl, by decide +kernel, rfl, by decide +kernel, by decide +kernel⟩
theorem sc_is_measures : FnScope ["value", "name", "later"] ["value"] (defScope s_is_measures) := ⟨rfl, rfl, rfl, by decide +kernel, rfl, by decide +kernel, by decide +kernel⟩
theorem sc_is_pay : FnScope ["value"] ["value"] (defScope s_is_pay) := ⟨rfl, rfl, rfl, by decide +kernel, rfl, by decide +kernel, by decide +kernel⟩
theorem sc_is_step : FnScope ["count", "many", "value", "pay"] ["count", "many", "value"] (defScope s_is_step) := ⟨rfl, rfl, rfl, by decide +kernel, rfl, by decide +kernel, by decide +kernel⟩
section
variable {P : Program} {w : World} {K : PySem.W.Frag} {mg : Str → Option Value} {base : Heap}
def spIsInteger : Sp := fun vs H Q _ => ∃ i, vs = [.int i] ∧ Q (.bl true) H
theorem ok_is_integer {f : Addr} {fd : FuncData} (F : Fun K "is_integer" "is_integer" s_is_integer f fd) (T : Txt K mg) : FnOk P w K mg base CX0 1 f fd ["value"] spIsInteger := by
  refine F.ok sc_is_integer (fun vs H Q E h => ?_) (fun cdv A outer s H vs Q E hr h => ?_)
  · obtain ⟨i, rfl, _⟩ := h; rfl
  · obtain ⟨i, rfl, k⟩ := h
    refine ⟨_, (pss_one (ps_ret (pe_and (isBK K (T := "int") (pv 0) T.n_isinstance T.n_int (by decide +kernel)) (pe_one (pe_not (isBK K (T := "bool") (pv 0) T.n_isinstance T.n_bool (by decide +kernel))))))), ?_⟩
    refine ⟨_, rfl, _, true, .base (.int i), kit_ty (by decide +kernel), _, rfl, if_t rfl ?_⟩
    exact ⟨_, rfl, _, false, .base (.int i), kit_ty (by decide +kernel), _, rfl, k⟩
def spIsWithin : Sp := fun vs H Q _ => ∃ i lo hi, vs = [.int i, .int lo, .int hi] ∧ Q (.bl (decide (lo ≤ i ∧ i ≤ hi))) H
theorem ok_is_within {f : Addr} {fd : FuncData} (F : Fun K "is_within" "is_within" s_is_within f fd) (T : Txt K mg) (D_is_integer : DefOk P w K mg base CX0 1 "is_integer" ["value"] spIsInteger) : FnOk P w K mg base CX0 2 f fd ["value", "least", "most"] spIsWithin := by
  refine F.ok sc_is_within (fun vs H Q E h => ?_) (fun cdv A outer s H vs Q E hr h => ?_)
  · obtain ⟨i, lo, hi, rfl, _⟩ := h; rfl
  · obtain ⟨i, lo, hi, rfl, k⟩ := h
    refine ⟨_, (pss_one (ps_ret (pe_and (pe_d D_is_integer (hr.mono (by decide)) pass0 (pa_cons (pv 0) pa_nil)) (pe_one (pe_chain op_le op_le (pv 1) (pv 0) (pv 2)))))), ?_⟩
    refine ⟨_, rfl, i, rfl, true, rfl, if_t rfl ?_⟩
    refine ⟨_, rfl, _, rfl, _, _, rfl, rfl, _, rfl, ?_⟩
    by_cases h1 : lo ≤ i
    · refine if_t (decide_eq_true h1) ⟨_, rfl, _, _, rfl, rfl, ?_⟩
      have e : decide (lo ≤ i ∧ i ≤ hi) = decide (i ≤ hi) := by simp [h1]
      rw [e] at k
      exact k
    · refine if_f (decide_eq_false h1) ?_
      have e : decide (lo ≤ i ∧ i ≤ hi) = false := by simp [h1]
      rw [e] at k
      exact k
/-- a name that may stand -/
def NameOk (z : Str) : Prop := 1 ≤ z.length ∧ z.length ≤ 8 ∧ ∀ c ∈ z.cps.toList, c ∈ letters.cps.toList
def spIsName : Sp := fun vs H Q _ => ∃ z, vs = [.str z] ∧ NameOk z ∧ ∀ H', Same H H' → Q (.bl true) H'
theorem small_len {n : Nat} (h : n ≤ 1000) : n ≤ sizeLine := Nat.le_of_lt (small1000 h)
theorem map_all_true (n : Nat) : ((List.replicate n true).all id) = true := by
  induction n with
  | zero => rfl
  | succ n ih => rw [List.replicate_succ, List.all_cons, ih]; rfl
theorem rep_map (n : Nat) : (List.replicate n (V.bl true)) = (List.replicate n true).map V.bl := by rw [List.map_replicate]
theorem rep_get {n i : Nat} (h : i < n) : (List.replicate n (V.bl true))[i]? = some (.bl true) := by rw [List.getElem?_replicate, if_pos h]
theorem ok_is_name {f : Addr} {fd : FuncData} (F : Fun K "is_name" "is_name" s_is_name f fd) (T : Txt K mg) : FnOk P w K mg base CX0 1 f fd ["value"] spIsName := by
  refine F.ok sc_is_name (fun vs H Q E h => ?_) (fun cdv A outer s H vs Q E hr h => ?_)
  · obtain ⟨i, rfl, _⟩ := h; rfl
  · obtain ⟨z, rfl, ⟨h1, h2, h3⟩, k⟩ := h
    refine ⟨_, (pss_cons (ps_if (PW.pt (pw_or (pt_not (pt_val (isBK K (T := "str") (pv 0) T.n_isinstance T.n_str (by decide +kernel)))) (pw_or1 (pt_not (pt_chain op_le op_le pe_int (pe_callB (lenK K) (by rfl) T.n_len (by decide +kernel) (pa_cons (pv 0) pa_nil)) (pgi T.c_MOST_LETTERS)))))) (pss_one (ps_ret pe_bl)) pss_nil)
  (pss_one (ps_ret (pe_callB (allK K) (by rfl) T.n_all (by decide +kernel) (pa_cons (pe_lc (own := [("letter", 1)]) (g := gName 1) (tt := tYes) (by rfl) sc_is_name.nd (pi_str (pv 0)) (blkOk_by (N := ["value", "letter"]) (sc := (defScope s_is_name)) (by decide +kernel)) (fun _ _ _ _ _ => (pg_name (i := 1) sc_is_name.nd rfl (Or.inl rfl))) (fun _ _ _ _ _ => pts_nil) (fun _ _ _ _ _ => (pe_cmpR op_in_sign (pv 1) (pgs T.c_LETTERS) (by rfl)))) pa_nil))))), ?_⟩
    refine ⟨_, rfl, _, true, .base (.str z), kit_ty (by decide +kernel), true, rfl, if_f rfl ?_⟩
    refine ⟨_, rfl, _, _, rfl, ⟨small_len (by omega), rfl⟩, _, _, rfl, rfl, _, rfl, if_t (decide_eq_true (by omega)) ⟨_, _, rfl, rfl, true, by simp; omega, if_f rfl ?_⟩⟩
    refine ⟨_, rfl, z, rfl, fun D hD => ?_⟩
    refine lc_ys walk_str (List.replicate z.cps.size (.bl true)) (by simp) (small_len (by have : z.length = z.cps.size := rfl; omega)) hD (fun _ _ => trivial) (fun i x H0 H' R hi s0 ⟨e, c, hc, hx⟩ kk => ?_) (fun i H x H' h => by rw [h.1]; exact Same.refl _) fun H' s1 hl => ?_
    · subst hx
      refine ⟨rfl, _, rfl, c, letters, rfl, rfl, ?_⟩
      have : decide (c ∈ letters.cps.toList) = true := decide_eq_true (h3 c (by rw [Array.getElem?_eq_some_iff] at hc; obtain ⟨q, rfl⟩ := hc; simp))
      rw [this]
      exact kk _ _ (rep_get hi) (Same.refl _)
    · refine ⟨D, List.replicate z.cps.size true, rfl, SqL.of (by rw [hl, rep_map]), ?_⟩
      rw [map_all_true]
      exact k _ s1
end
end K53
namespace K53
open PySem L2 RZ Own
theorem qb {Q : VK} {H : Hp} {b : Bool} (e : b = true) (h : Q (.bl true) H) : Q (.bl b) H := by rw [e]; exact h
theorem sqt_ty {K : PySem.W.Frag} {H : Hp} {a : Addr} {xs : List V} (h : SqT K H a xs) : TyX K H (.ref a) (.type "tuple") := by
  rcases h with (h | ⟨o, h⟩) | ⟨o, its, n, e, c, _⟩
  · exact .base (.tup h)
  · exact .fTuple h
  · exact .kTuple e c
theorem sqt_len {K : PySem.W.Frag} {H : Hp} {a : Addr} {xs : List V} (h : SqT K H a xs) : LenV K (.ref a) H xs.length := .inr ⟨xs, h, rfl⟩
/-- t[1:] -/
theorem sl_rest {K : PySem.W.Frag} {H : Hp} {a : Addr} {xs : List V} {Q : VK} (h : SqT K H a xs) (k : ∀ b H', Same H H' → SqT K H' b (xs.drop 1) → Q (.ref b) H') : rSlA K (.ref a) (some 1) none H Q := by
  have e1 : ∀ n : Nat, HT.sIx n 0 (some 1) = min 1 n := fun n => by
    rfl
  have e2 : ∀ n : Nat, HT.sIx n n none = n := fun n => rfl
  refine ⟨a, xs, rfl, h, fun hw => ?_, fun hw p hp => ?_⟩
  · rw [e1] at hw
    have z : xs = [] := List.length_eq_zero_iff.mp (by omega)
    subst z
    exact k a H (Same.refl H) h
  · refine k p _ (same_up hp) (SqT.of ?_)
    rw [upd_same]
    unfold cutV
    rw [e1, e2] at *
    have hl : 1 ≤ xs.length := by omega
    have : min 1 xs.length = 1 := by omega
    rw [this, List.take_of_length_le (by rw [List.length_drop]; omega)]
def rRest (K : PySem.W.Frag) : V → Option Int → Option Int → Hp → VK → Prop := fun x lo hi H Q => lo = some 1 ∧ hi = none ∧ ∃ a xs, x = .ref a ∧ SqT K H a xs ∧ ∀ b H', Same H H' → SqT K H' b (xs.drop 1) → Q (.ref b) H'
theorem sl_rest1 {X : Cx} : SlR X (rRest X.K) := by
  intro pins s σ H x v vl vu lo hi sl Q I rx hs pl pu h
  obtain ⟨rfl, rfl, a, xs, rfl, h1, h2⟩ := h
  exact sl_tupA pins s σ H _ v vl vu _ _ sl Q I rx hs pl pu (sl_rest h1 h2)
section
variable {P : Program} {w : World} {K : PySem.W.Frag} {mg : Str → Option Value} {base : Heap}
/-- an event word that may stand -/
def WordOk (z : Str) : Prop := 1 ≤ z.length ∧ z.length ≤ 24 ∧ ∀ c ∈ z.cps.toList, c ∈ signs.cps.toList
def spIsEvent : Sp := fun vs H Q _ => ∃ z, vs = [.str z] ∧ WordOk z ∧ ∀ H', Same H H' → Q (.bl true) H'
theorem ok_is_event {f : Addr} {fd : FuncData} (F : Fun K "is_event" "is_event" s_is_event f fd) (T : Txt K mg) : FnOk P w K mg base CX0 1 f fd ["value"] spIsEvent := by
  refine F.ok sc_is_event (fun vs H Q E h => ?_) (fun cdv A outer s H vs Q E hr h => ?_)
  · obtain ⟨i, rfl, _⟩ := h; rfl
  · obtain ⟨z, rfl, ⟨h1, h2, h3⟩, k⟩ := h
    refine ⟨_, (pss_cons (ps_if (PW.pt (pw_or (pt_not (pt_val (isBK K (T := "str") (pv 0) T.n_isinstance T.n_str (by decide +kernel)))) (pw_or1 (pt_not (pt_chain op_le op_le pe_int (pe_callB (lenK K) (by rfl) T.n_len (by decide +kernel) (pa_cons (pv 0) pa_nil)) (pgi T.c_MOST_SIGNS)))))) (pss_one (ps_ret pe_bl)) pss_nil)
  (pss_one (ps_ret (pe_callB (allK K) (by rfl) T.n_all (by decide +kernel) (pa_cons (pe_lc (own := [("sign", 1)]) (g := gName 1) (tt := tYes) (by rfl) sc_is_event.nd (pi_str (pv 0)) (blkOk_by (N := ["value", "sign"]) (sc := (defScope s_is_event)) (by decide +kernel)) (fun _ _ _ _ _ => (pg_name (i := 1) sc_is_event.nd rfl (Or.inl rfl))) (fun _ _ _ _ _ => pts_nil) (fun _ _ _ _ _ => (pe_cmpR op_in_sign (pv 1) (pgs T.c_SIGNS) (by rfl)))) pa_nil))))), ?_⟩
    refine ⟨_, rfl, _, true, .base (.str z), kit_ty (by decide +kernel), true, rfl, if_f rfl ?_⟩
    refine ⟨_, rfl, _, _, rfl, ⟨small_len (by omega), rfl⟩, _, _, rfl, rfl, _, rfl, if_t (decide_eq_true (by omega)) ⟨_, _, rfl, rfl, true, by simp; omega, if_f rfl ?_⟩⟩
    refine ⟨_, rfl, z, rfl, fun D hD => ?_⟩
    refine lc_ys walk_str (List.replicate z.cps.size (.bl true)) (by simp) (small_len (by have : z.length = z.cps.size := rfl; omega)) hD (fun _ _ => trivial) (fun i x H0 H' R hi s0 ⟨e, c, hc, hx⟩ kk => ?_) (fun i H x H' h => by rw [h.1]; exact Same.refl _) fun H' s1 hl => ?_
    · subst hx
      refine ⟨rfl, _, rfl, c, signs, rfl, rfl, ?_⟩
      exact qb (Q := R) (b := decide (c ∈ signs.cps.toList)) (decide_eq_true (h3 c (by rw [Array.getElem?_eq_some_iff] at hc; obtain ⟨q, rfl⟩ := hc; simp))) (kk _ _ (rep_get hi) (Same.refl _))
    · refine ⟨D, List.replicate z.cps.size true, rfl, SqL.of (by rw [hl, rep_map]), ?_⟩
      rw [map_all_true]
      exact k _ s1
/-- ascending -/
def Asc (ns : List Int) : Prop := ns.Pairwise (· < ·)
theorem asc_next {ns : List Int} (h : Asc ns) {i : Nat} {a b : Int} (ha : ns[i]? = some a) (hb : ns[i + 1]? = some b) : a < b := by
  rw [List.getElem?_eq_some_iff] at ha hb
  obtain ⟨h1, rfl⟩ := ha
  obtain ⟨h2, rfl⟩ := hb
  exact List.pairwise_iff_getElem.mp h i (i + 1) h1 h2 (Nat.lt_succ_self i)
theorem get_map {ns : List Int} {i : Nat} {x : V} (h : (ns.map V.int)[i]? = some x) : ∃ n, ns[i]? = some n ∧ x = .int n := by
  rw [List.getElem?_map] at h
  cases e : ns[i]? with
  | none => rw [e] at h; cases h
  | some n => rw [e] at h; exact ⟨n, rfl, (Option.some.inj h).symm⟩
def LotOk (ns : List Int) : Prop := Asc ns ∧ (∀ n ∈ ns, 0 ≤ n) ∧ ns.length ≤ sizeLine
def spIsLot (K : PySem.W.Frag) : Sp := fun vs H Q _ => ∃ a ns, vs = [.ref a] ∧ SqT K H a (ns.map V.int) ∧ LotOk ns ∧ ∀ H', Same H H' → Q (.bl true) H'
theorem ok_is_lot {f : Addr} {fd : FuncData} (F : Fun K "is_lot" "is_lot" s_is_lot f fd) (T : Txt K mg) (D_is_integer : DefOk P w K mg base CX0 1 "is_integer" ["value"] spIsInteger) : FnOk P w K mg base CX0 2 f fd ["value"] (spIsLot K) := by
  refine F.ok sc_is_lot (fun vs H Q E h => ?_) (fun cdv A outer s H vs Q E hr h => ?_)
  · obtain ⟨i, _, rfl, _⟩ := h; rfl
  · obtain ⟨a, ns, rfl, hS, ⟨h1, h2, h3⟩, k⟩ := h
    refine ⟨_, (pss_cons (ps_if (PW.pt (pw_or (pt_not (pt_val (isBK K (T := "tuple") (pv 0) T.n_isinstance T.n_tuple (by decide +kernel)))) (pw_or1 (pt_not (pt_val (pe_callB (allK K) (by rfl) T.n_all (by decide +kernel) (pa_cons (pe_lc (own := [("step", 1)]) (g := gName 1) (tt := tYes) (by rfl) sc_is_lot.nd ((pi_tupK K) (pv 0)) (blkOk_by (N := ["value", "step", "later"]) (sc := (defScope s_is_lot)) (by decide +kernel)) (fun _ _ _ _ _ => (pg_name (i := 1) sc_is_lot.nd rfl (Or.inl rfl))) (fun _ _ _ _ _ => pts_nil) (fun _ _ _ _ _ => (pe_and (pe_d D_is_integer (hr.mono (by decide)) pass0 (pa_cons (pv 1) pa_nil)) (pe_one (pe_cmpR op_ge (pv 1) pe_int (nomark _)))))) pa_nil))))))) (pss_one (ps_ret pe_bl)) pss_nil)
  (pss_one (ps_ret (pe_callB (allK K) (by rfl) T.n_all (by decide +kernel) (pa_cons (pe_lc (own := [("step", 1), ("later", 2)]) (g := gTup K 2 (gCons (gName 1) (gCons (gName 2) gNil))) (tt := tYes) (by rfl) sc_is_lot.nd (pi_zipA (by rfl) T.n_zip (pa_cons (pv 0) (pa_cons (pe_slice sl_rest1 (pv 0) (po_some pe_int) po_none) pa_nil))) (blkOk_by (N := ["value", "step", "later"]) (sc := (defScope s_is_lot)) (by decide +kernel)) (fun _ _ _ _ _ => (pg_tupK K (pgs_cons (pg_name (i := 1) sc_is_lot.nd rfl (Or.inl rfl)) (pgs_cons (pg_name (i := 2) sc_is_lot.nd rfl (Or.inl rfl)) pgs_nil)))) (fun _ _ _ _ _ => pts_nil) (fun _ _ _ _ _ => (pe_cmpR op_lt (pv 1) (pv 2) (nomark _)))) pa_nil))))), ?_⟩
    refine ⟨_, rfl, _, true, sqt_ty hS, kit_ty (by decide +kernel), true, rfl, if_f rfl ?_⟩
    refine ⟨_, rfl, a, rfl, ⟨_, hS⟩, fun D hD => ?_⟩
    refine lc_ys walk_tup (List.replicate ns.length (.bl true)) (by simp) (by rw [List.length_map]; exact h3) hD (fun H' s' => Same.sqt s' hS) (fun i x H0 H' R hi s0 ⟨e, hx⟩ kk => ?_) (fun i H x H' h => by rw [h.1]; exact Same.refl _) fun H' s1 hl => ?_
    · obtain ⟨n, hn, rfl⟩ := get_map hx
      refine ⟨rfl, _, rfl, n, rfl, true, rfl, if_t rfl ⟨_, rfl, _, _, rfl, rfl, ?_⟩⟩
      exact qb (Q := R) (b := decide ((0 : Int) ≤ n)) (decide_eq_true (h2 n (List.mem_of_getElem? hn))) (kk _ _ (rep_get (by rw [List.length_map] at hi; exact hi)) (Same.refl _))
    · refine ⟨D, List.replicate ns.length true, rfl, SqL.of (by rw [hl, rep_map]), ?_⟩
      rw [map_all_true]
      refine ⟨true, rfl, if_f rfl ?_⟩
      refine ⟨_, rfl, _, rfl, 1, rfl, rfl, rfl, a, _, rfl, Same.sqt s1 hS, fun b H2 s2 hb => ?_⟩
      refine ⟨a, b, _, _, rfl, .inr ⟨Same.sqt (s1.trans s2) hS, hb, fun D2 hD2 => ?_⟩⟩
      refine lc_ys (walk_zipT (n := ns.length - 1) (by simp)) (List.replicate (ns.length - 1) (.bl true)) (by simp) (by omega) hD2 (fun H' s' => ⟨Same.sqt ((s1.trans s2).trans s') hS, Same.sqt s' hb⟩) (fun i x H0 H' R hi s0 ⟨T', x1, x2, e, e0, e2, e3, e4⟩ kk => ?_) yk_pair fun H3 s3 hl3 => ?_
      · subst e e2
        obtain ⟨n1, q1, rfl⟩ := get_map e3
        rw [← List.map_drop] at e4
        obtain ⟨n2, q2, rfl⟩ := get_map e4
        rw [List.getElem?_drop] at q2
        refine ⟨T', _, rfl, SqT.of upd_same, rfl, _, _, rfl, _, _, rfl, rfl, rfl, _, rfl, _, rfl, _, _, rfl, rfl, ?_⟩
        exact qb (Q := R) (b := decide (n1 < n2)) (decide_eq_true (asc_next h1 q1 (by rw [Nat.add_comm]; exact q2))) (kk _ _ (rep_get hi) (Same.refl _))
      · refine ⟨D2, List.replicate (ns.length - 1) true, rfl, SqL.of (by rw [hl3, rep_map]), ?_⟩
        rw [map_all_true]
        exact k _ ((s1.trans s2).trans s3)
/-- a lot of so many steps -/
def LotOf (m : Int) (ns : List Int) : Prop := LotOk ns ∧ ∀ n ∈ ns, n < m
def spIsLotOf (K : PySem.W.Frag) : Sp := fun vs H Q _ => ∃ m a ns, vs = [.int m, .ref a] ∧ SqT K H a (ns.map V.int) ∧ LotOf m ns ∧ ∀ H', Same H H' → Q (.bl true) H'
theorem at_last {ns : List Int} (h : ns ≠ []) : atI (ns.map V.int) (-1) = some (.int (ns.getLast h)) := by
  have e : ns.map V.int = (ns.dropLast.map V.int) ++ [V.int (ns.getLast h)] := by
    rw [← List.map_singleton (f := V.int), ← List.map_append, List.dropLast_concat_getLast]
  rw [e]
  exact atI_last _ _
theorem ok_is_lot_of {f : Addr} {fd : FuncData} (F : Fun K "is_lot_of" "is_lot_of" s_is_lot_of f fd) (T : Txt K mg) (D_is_lot : DefOk P w K mg base CX0 2 "is_lot" ["value"] (spIsLot K)) : FnOk P w K mg base CX0 3 f fd ["many", "value"] (spIsLotOf K) := by
  refine F.ok sc_is_lot_of (fun vs H Q E h => ?_) (fun cdv A outer s H vs Q E hr h => ?_)
  · obtain ⟨i, _, _, rfl, _⟩ := h; rfl
  · obtain ⟨m, a, ns, rfl, hS, ⟨h1, h2⟩, k⟩ := h
    refine ⟨_, (pss_one (ps_ret (pe_and (pe_d D_is_lot (hr.mono (by decide)) pass0 (pa_cons (pv 1) pa_nil)) (pe_one (pe_or (pe_cmpR op_eq (pe_callB (lenK K) (by rfl) T.n_len (by decide +kernel) (pa_cons (pv 1) pa_nil)) pe_int (nomark _)) (pe_one (pe_cmpR op_lt (pe_ix (ix_tupK K) (pv 1) (pe_un un_neg pe_int) (fun _ _ => rfl)) (pv 0) (nomark _)))))))), ?_⟩
    refine ⟨_, rfl, a, ns, rfl, hS, h1, fun H1 s1 => ⟨true, rfl, if_t rfl ?_⟩⟩
    have hS1 := Same.sqt s1 hS
    refine ⟨_, rfl, _, _, rfl, sqt_len hS1, rfl, _, rfl, ?_⟩
    by_cases hn : ns = []
    · subst hn
      exact if_t rfl (k H1 s1)
    · refine if_f ?_ ?_
      · have : ns.length ≠ 0 := fun z => hn (List.length_eq_zero_iff.mp z)
        apply decide_eq_false
        intro z
        injection z with z
        rw [List.length_map] at z
        omega
      · refine ⟨_, rfl, 1, rfl, a, _, -1, _, rfl, rfl, hS1, at_last hn, _, rfl, _, _, rfl, rfl, ?_⟩
        exact qb (Q := Q) (b := decide (ns.getLast hn < m)) (decide_eq_true (h2 _ (List.getLast_mem hn))) (k H1 s1)
def spIsStarts (K : PySem.W.Frag) : Sp := fun vs H Q _ => ∃ m a ns, vs = [.int m, .ref a] ∧ SqT K H a (ns.map V.int) ∧ LotOf m ns ∧ ns ≠ [] ∧ ∀ H', Same H H' → Q (.bl true) H'
theorem ok_is_starts {f : Addr} {fd : FuncData} (F : Fun K "is_starts" "is_starts" s_is_starts f fd) (T : Txt K mg) (D_is_lot : DefOk P w K mg base CX0 2 "is_lot" ["value"] (spIsLot K)) : FnOk P w K mg base CX0 3 f fd ["count", "value"] (spIsStarts K) := by
  refine F.ok sc_is_starts (fun vs H Q E h => ?_) (fun cdv A outer s H vs Q E hr h => ?_)
  · obtain ⟨i, _, _, rfl, _⟩ := h; rfl
  · obtain ⟨m, a, ns, rfl, hS, ⟨h1, h2⟩, hn, k⟩ := h
    refine ⟨_, (pss_one (ps_ret (pe_and (pe_d D_is_lot (hr.mono (by decide)) pass0 (pa_cons (pv 1) pa_nil)) (pe_and (pe_cmpR op_gt (pe_callB (lenK K) (by rfl) T.n_len (by decide +kernel) (pa_cons (pv 1) pa_nil)) pe_int (nomark _)) (pe_one (pe_cmpR op_lt (pe_ix (ix_tupK K) (pv 1) (pe_un un_neg pe_int) (fun _ _ => rfl)) (pv 0) (nomark _))))))), ?_⟩
    refine ⟨_, rfl, a, ns, rfl, hS, h1, fun H1 s1 => ⟨true, rfl, if_t rfl ?_⟩⟩
    have hS1 := Same.sqt s1 hS
    have hl : ns.length ≠ 0 := fun z => hn (List.length_eq_zero_iff.mp z)
    refine ⟨_, rfl, _, _, rfl, sqt_len hS1, _, _, rfl, rfl, _, rfl, if_t (decide_eq_true (by rw [List.length_map]; omega)) ?_⟩
    refine ⟨_, rfl, 1, rfl, a, _, -1, _, rfl, rfl, hS1, at_last hn, _, rfl, _, _, rfl, rfl, ?_⟩
    exact qb (Q := Q) (b := decide (ns.getLast hn < m)) (decide_eq_true (h2 _ (List.getLast_mem hn))) (k H1 s1)
def spIsPay : Sp := fun vs H Q _ => ∃ i, vs = [.int i] ∧ -999999999999 ≤ i ∧ i ≤ 999999999999 ∧ Q (.bl true) H
theorem ok_is_pay {f : Addr} {fd : FuncData} (F : Fun K "is_pay" "is_pay" s_is_pay f fd) (T : Txt K mg) (D_is_within : DefOk P w K mg base CX0 2 "is_within" ["value", "least", "most"] spIsWithin) : FnOk P w K mg base CX0 3 f fd ["value"] spIsPay := by
  refine F.ok sc_is_pay (fun vs H Q E h => ?_) (fun cdv A outer s H vs Q E hr h => ?_)
  · obtain ⟨i, rfl, _⟩ := h; rfl
  · obtain ⟨i, rfl, h1, h2, k⟩ := h
    refine ⟨_, (pss_one (ps_ret (pe_d D_is_within (hr.mono (by decide)) pass0 (pa_cons (pv 0) (pa_cons (pe_un un_neg (pgi T.c_MOST_PAY)) (pa_cons (pgi T.c_MOST_PAY) pa_nil)))))), ?_⟩
    refine ⟨_, rfl, _, rfl, i, _, _, rfl, ?_⟩
    rw [decide_eq_true (show (-999999999999 : Int) ≤ i ∧ i ≤ 999999999999 from ⟨h1, h2⟩)]
    exact k
end
end K53
namespace K53
open PySem L2 RZ Own
abbrev s_is_events : Stmt := top 39
abbrev s_need_parts : Stmt := top 40
theorem sc_is_events : FnScope ["many", "value", "word"] ["many", "value"] (defScope s_is_events) := ⟨rfl, rfl, rfl, by decide +kernel, rfl, by decide +kernel, by decide +kernel⟩
theorem sc_need_parts : FnScope ["count", "starts", "measures", "steps", "at", "step"] ["count", "starts", "measures", "steps"] (defScope s_need_parts) := ⟨rfl, rfl, rfl, by decide +kernel, rfl, by decide +kernel, by decide +kernel⟩
theorem paired_at {α β : Type} {R : α → β → Prop} : ∀ {xs : List α} {ys : List β} {i : Nat} {x : α}, Paired R xs ys → xs[i]? = some x → ∃ y, ys[i]? = some y ∧ R x y
  | _, _, _, _, .nil, e => by simp at e
  | _, _, 0, _, .cons r _, e => by simp at e; subst e; exact ⟨_, rfl, r⟩
  | _, _, i + 1, x, .cons _ t, e => by
    obtain ⟨y, h1, h2⟩ := paired_at (i := i) (x := x) t (by simpa using e)
    exact ⟨y, by simpa using h1, h2⟩
theorem paired_mem {α β : Type} {R : α → β → Prop} {xs : List α} {ys : List β} (h : Paired R xs ys) {x : α} (hx : x ∈ xs) : ∃ y ∈ ys, R x y := by
  obtain ⟨i, hi⟩ := List.mem_iff_getElem?.mp hx
  obtain ⟨y, h1, h2⟩ := paired_at h hi
  exact ⟨y, List.mem_of_getElem? h1, h2⟩
/-- behind a lock -/
theorem same_unlock {H H' : Hp} {d : Addr} {u : HO} {od : Obj} (hd : H d = some u) (s : Same (upd H d (.frz od u)) H') : Same H (upd H' d u) := fun b o e => by
  by_cases hb : b = d
  · subst hb
    rw [hd] at e
    cases e
    exact upd_same
  · rw [upd_ne hb]
    exact s b o (by rw [upd_ne hb]; exact e)
theorem sqt_lock {K : PySem.W.Frag} {H : Hp} {d : Addr} {kvs : List (Key × V)} {od : Obj} {u : HO} {a : Addr} {xs : List V} (hd : H d = some (.dK kvs)) (h : SqT K H a xs) : SqT K (upd H d (.frz od u)) a xs := by
  rcases h with (h | ⟨o, h⟩) | h
  · exact .inl (.inl (by rw [upd_ne (ne_of h hd (fun z => nomatch z))]; exact h))
  · exact .inl (.inr ⟨o, by rw [upd_ne (ne_of h hd (fun z => nomatch z))]; exact h⟩)
  · exact .inr h
theorem valV_mem {kvs : List (Key × V)} {k : Key} {v0 : V} (h : (k, v0) ∈ kvs) : ∃ v, valV kvs k = some v ∧ (k, v) ∈ kvs := by
  induction kvs with
  | nil => cases h
  | cons p r ih =>
    by_cases e : p.1 = k
    · exact ⟨p.2, valV_pos e, by subst e; exact List.mem_cons_self⟩
    · rcases List.mem_cons.mp h with q | q
      · subst q; exact absurd rfl e
      · obtain ⟨v, h1, h2⟩ := ih q
        exact ⟨v, (valV_neg e).trans h1, List.mem_cons_of_mem _ h2⟩
section
variable {P : Program} {w : World} {K : PySem.W.Frag} {mg : Str → Option Value} {base : Heap}
def AscS (zs : List Str) : Prop := zs.Pairwise fun a b => a.cps.toList < b.cps.toList
def MeasOk (zs : List Str) : Prop := zs.length ≤ 4 ∧ (∀ z ∈ zs, NameOk z) ∧ AscS zs
theorem get_mapS {zs : List Str} {i : Nat} {x : V} (h : (zs.map V.str)[i]? = some x) : ∃ z, zs[i]? = some z ∧ x = .str z := by
  rw [List.getElem?_map] at h
  cases e : zs[i]? with
  | none => rw [e] at h; cases h
  | some n => rw [e] at h; exact ⟨n, rfl, (Option.some.inj h).symm⟩
theorem ascS_next {zs : List Str} (h : AscS zs) {i : Nat} {a b : Str} (ha : zs[i]? = some a) (hb : zs[i + 1]? = some b) : a.cps.toList < b.cps.toList := by
  rw [List.getElem?_eq_some_iff] at ha hb
  obtain ⟨h1, rfl⟩ := ha
  obtain ⟨h2, rfl⟩ := hb
  exact List.pairwise_iff_getElem.mp h i (i + 1) h1 h2 (Nat.lt_succ_self i)
def spIsMeasures (K : PySem.W.Frag) : Sp := fun vs H Q _ => ∃ a zs, vs = [.ref a] ∧ SqT K H a (zs.map V.str) ∧ MeasOk zs ∧ ∀ H', Same H H' → Q (.bl true) H'
theorem ok_is_measures {f : Addr} {fd : FuncData} (F : Fun K "is_measures" "is_measures" s_is_measures f fd) (T : Txt K mg) (D_is_name : DefOk P w K mg base CX0 1 "is_name" ["value"] spIsName) : FnOk P w K mg base CX0 2 f fd ["value"] (spIsMeasures K) := by
  refine F.ok sc_is_measures (fun vs H Q E h => ?_) (fun cdv A outer s H vs Q E hr h => ?_)
  · obtain ⟨i, _, rfl, _⟩ := h; rfl
  · obtain ⟨a, zs, rfl, hS, ⟨h1, h2, h3⟩, k⟩ := h
    refine ⟨_, (pss_cons (ps_if (PW.pt (pw_or (pt_not (pt_val (isBK K (T := "tuple") (pv 0) T.n_isinstance T.n_tuple (by decide +kernel)))) (pw_or (pt_cmpR op_gt (pe_callB (lenK K) (by rfl) T.n_len (by decide +kernel) (pa_cons (pv 0) pa_nil)) (pgi T.c_MOST_MEASURES_graphs) (nomark _)) (pw_or1 (pt_not (pt_val (pe_callB (allK K) (by rfl) T.n_all (by decide +kernel) (pa_cons (pe_lc (own := [("name", 1)]) (g := gName 1) (tt := tYes) (by rfl) sc_is_measures.nd ((pi_tupK K) (pv 0)) (blkOk_by (N := ["value", "name", "later"]) (sc := (defScope s_is_measures)) (by decide +kernel)) (fun _ _ _ _ _ => (pg_name (i := 1) sc_is_measures.nd rfl (Or.inl rfl))) (fun _ _ _ _ _ => pts_nil) (fun _ _ _ _ _ => (pe_d D_is_name (hr.mono (by decide)) pass0 (pa_cons (pv 1) pa_nil)))) pa_nil)))))))) (pss_one (ps_ret pe_bl)) pss_nil)
  (pss_one (ps_ret (pe_callB (allK K) (by rfl) T.n_all (by decide +kernel) (pa_cons (pe_lc (own := [("name", 1), ("later", 2)]) (g := gTup K 2 (gCons (gName 1) (gCons (gName 2) gNil))) (tt := tYes) (by rfl) sc_is_measures.nd (pi_zipA (by rfl) T.n_zip (pa_cons (pv 0) (pa_cons (pe_slice sl_rest1 (pv 0) (po_some pe_int) po_none) pa_nil))) (blkOk_by (N := ["value", "name", "later"]) (sc := (defScope s_is_measures)) (by decide +kernel)) (fun _ _ _ _ _ => (pg_tupK K (pgs_cons (pg_name (i := 1) sc_is_measures.nd rfl (Or.inl rfl)) (pgs_cons (pg_name (i := 2) sc_is_measures.nd rfl (Or.inl rfl)) pgs_nil)))) (fun _ _ _ _ _ => pts_nil) (fun _ _ _ _ _ => (pe_cmpR op_lt_str (pv 1) (pv 2) (nomark _)))) pa_nil))))), ?_⟩
    refine ⟨_, rfl, _, true, sqt_ty hS, kit_ty (by decide +kernel), true, rfl, if_f rfl ?_⟩
    refine ⟨_, rfl, _, _, rfl, sqt_len hS, _, _, rfl, rfl, _, rfl, if_f (decide_eq_false (by rw [List.length_map]; omega)) ?_⟩
    refine ⟨_, rfl, a, rfl, ⟨_, hS⟩, fun D hD => ?_⟩
    have hz : zs.length ≤ sizeLine := small_len (by omega)
    refine lc_ys walk_tup (List.replicate zs.length (.bl true)) (by simp) (by rw [List.length_map]; exact hz) hD (fun H' s' => Same.sqt s' hS) (fun i x H0 H' R hi s0 ⟨e, hx⟩ kk => ?_) (fun i H x H' h => by rw [h.1]; exact Same.refl _) fun H' s1 hl => ?_
    · obtain ⟨n, hn, rfl⟩ := get_mapS hx
      exact ⟨rfl, _, rfl, n, rfl, h2 n (List.mem_of_getElem? hn), fun H3 s3 => kk _ _ (rep_get (by rw [List.length_map] at hi; exact hi)) s3⟩
    · refine ⟨D, List.replicate zs.length true, rfl, SqL.of (by rw [hl, rep_map]), ?_⟩
      rw [map_all_true]
      refine ⟨true, rfl, if_f rfl ?_⟩
      refine ⟨_, rfl, _, rfl, 1, rfl, rfl, rfl, a, _, rfl, Same.sqt s1 hS, fun b H2 s2 hb => ?_⟩
      refine ⟨a, b, _, _, rfl, .inr ⟨Same.sqt (s1.trans s2) hS, hb, fun D2 hD2 => ?_⟩⟩
      refine lc_ys (walk_zipT (n := zs.length - 1) (by simp)) (List.replicate (zs.length - 1) (.bl true)) (by simp) (by omega) hD2 (fun H' s' => ⟨Same.sqt ((s1.trans s2).trans s') hS, Same.sqt s' hb⟩) (fun i x H0 H' R hi s0 ⟨T', x1, x2, e, e0, e2, e3, e4⟩ kk => ?_) yk_pair fun H3 s3 hl3 => ?_
      · subst e e2
        obtain ⟨n1, q1, rfl⟩ := get_mapS e3
        rw [← List.map_drop] at e4
        obtain ⟨n2, q2, rfl⟩ := get_mapS e4
        rw [List.getElem?_drop] at q2
        refine ⟨T', _, rfl, SqT.of upd_same, rfl, _, _, rfl, _, _, rfl, rfl, rfl, _, rfl, _, rfl, _, _, rfl, rfl, ?_⟩
        exact qb (Q := R) (b := decide (n1.cps.toList < n2.cps.toList)) (decide_eq_true (ascS_next h3 q1 (by rw [Nat.add_comm]; exact q2))) (kk _ _ (rep_get hi) (Same.refl _))
      · refine ⟨D2, List.replicate (zs.length - 1) true, rfl, SqL.of (by rw [hl3, rep_map]), ?_⟩
        rw [map_all_true]
        exact k _ ((s1.trans s2).trans s3)
/-- a step -/
structure Stp where
  src : Int
  tgt : Int
  time : Int
  pays : List Int
def StpAt (K : PySem.W.Frag) (H : Hp) (v : V) (s : Stp) : Prop := ∃ a b, v = .ref a ∧ SqT K H a [.int s.src, .int s.tgt, .int s.time, .ref b] ∧ SqT K H b (s.pays.map V.int)
theorem StpAt.mono {K : PySem.W.Frag} {H H' : Hp} {v : V} {s : Stp} (h : StpAt K H v s) (e : Same H H') : StpAt K H' v s := by
  obtain ⟨a, b, h1, h2, h3⟩ := h
  exact ⟨a, b, h1, Same.sqt e h2, Same.sqt e h3⟩
structure StpOk (count : Int) (many : Nat) (s : Stp) : Prop where
  s0 : 0 ≤ s.src
  s1 : s.src ≤ count - 1
  t0 : 0 ≤ s.tgt
  t1 : s.tgt ≤ count - 1
  d0 : 1 ≤ s.time
  d1 : s.time ≤ 1000
  pl : s.pays.length = many
  pb : ∀ p ∈ s.pays, -999999999999 ≤ p ∧ p ≤ 999999999999
def spIsStep (K : PySem.W.Frag) : Sp := fun vs H Q _ => ∃ c m v s, vs = [.int c, .int (Nat.cast m), v] ∧ StpAt K H v s ∧ StpOk c m s ∧ m ≤ 1000 ∧ ∀ H', Same H H' → Q (.bl true) H'
theorem ok_is_step {f : Addr} {fd : FuncData} (F : Fun K "is_step" "is_step" s_is_step f fd) (T : Txt K mg) (D_is_within : DefOk P w K mg base CX0 2 "is_within" ["value", "least", "most"] spIsWithin) (D_is_pay : DefOk P w K mg base CX0 3 "is_pay" ["value"] spIsPay) :
    FnOk P w K mg base CX0 4 f fd ["count", "many", "value"] (spIsStep K) := by
  refine F.ok sc_is_step (fun vs H Q E h => ?_) (fun cdv A outer s H vs Q E hr h => ?_)
  · obtain ⟨i, _, _, _, rfl, _⟩ := h; rfl
  · obtain ⟨c, m, v, st, rfl, ⟨a, b, rfl, hA, hB⟩, ok, hm, k⟩ := h
    refine ⟨_, (pss_cons (ps_if (PW.pt (pw_or (pt_not (pt_val (isBK K (T := "tuple") (pv 2) T.n_isinstance T.n_tuple (by decide +kernel)))) (pw_or (pt_cmpR op_ne (pe_callB (lenK K) (by rfl) T.n_len (by decide +kernel) (pa_cons (pv 2) pa_nil)) pe_int (nomark _)) (pw_or1 (pt_not (pt_val (pe_d D_is_within (hr.mono (by decide)) pass0 (pa_cons (pe_ix (ix_tupK K) (pv 2) pe_int (fun _ _ => rfl)) (pa_cons pe_int (pa_cons (pgi T.c_MOST_TIME) pa_nil)))))))))) (pss_one (ps_ret pe_bl)) pss_nil)
  (pss_cons (ps_if (PW.pt (pw_or (pt_not (pt_val (pe_d D_is_within (hr.mono (by decide)) pass0 (pa_cons (pe_ix (ix_tupK K) (pv 2) pe_int (fun _ _ => rfl)) (pa_cons pe_int (pa_cons (pe_op op_sub (pv 0) pe_int) pa_nil)))))) (pw_or1 (pt_not (pt_val (pe_d D_is_within (hr.mono (by decide)) pass0 (pa_cons (pe_ix (ix_tupK K) (pv 2) pe_int (fun _ _ => rfl)) (pa_cons pe_int (pa_cons (pe_op op_sub (pv 0) pe_int) pa_nil))))))))) (pss_one (ps_ret pe_bl)) pss_nil)
  (pss_one (ps_ret (pe_and (isBK K (T := "tuple") (pe_ix (ix_tupK K) (pv 2) pe_int (fun _ _ => rfl)) T.n_isinstance T.n_tuple (by decide +kernel)) (pe_and (pe_cmpR op_eq (pe_callB (lenK K) (by rfl) T.n_len (by decide +kernel) (pa_cons (pe_ix (ix_tupK K) (pv 2) pe_int (fun _ _ => rfl)) pa_nil)) (pv 1) (nomark _)) (pe_one (pe_callB (allK K) (by rfl) T.n_all (by decide +kernel) (pa_cons (pe_lc (own := [("pay", 3)]) (g := gName 3) (tt := tYes) (by rfl) sc_is_step.nd ((pi_tupK K) (pe_ix (ix_tupK K) (pv 2) pe_int (fun _ _ => rfl))) (blkOk_by (N := ["count", "many", "value", "pay"]) (sc := (defScope s_is_step)) (by decide +kernel)) (fun _ _ _ _ _ => (pg_name (i := 3) sc_is_step.nd rfl (Or.inl rfl))) (fun _ _ _ _ _ => pts_nil) (fun _ _ _ _ _ => (pe_d D_is_pay (hr.mono (by decide)) pass0 (pa_cons (pv 3) pa_nil)))) pa_nil))))))))), ?_⟩
    refine ⟨_, rfl, _, true, sqt_ty hA, kit_ty (by decide +kernel), true, rfl, if_f rfl ?_⟩
    refine ⟨_, rfl, _, _, rfl, sqt_len hA, rfl, _, rfl, if_f rfl ?_⟩
    refine ⟨_, rfl, a, _, 2, _, rfl, rfl, hA, rfl, _, _, _, rfl, ?_⟩
    rw [decide_eq_true (show 1 ≤ st.time ∧ st.time ≤ 1000 from ⟨ok.d0, ok.d1⟩)]
    refine ⟨true, rfl, if_f rfl ?_⟩
    refine ⟨_, rfl, a, _, 0, _, rfl, rfl, hA, rfl, _, rfl, _, _, rfl, rfl, _, _, _, rfl, ?_⟩
    rw [decide_eq_true (show 0 ≤ st.src ∧ st.src ≤ c - 1 from ⟨ok.s0, ok.s1⟩)]
    refine ⟨true, rfl, if_f rfl ?_⟩
    refine ⟨_, rfl, a, _, 1, _, rfl, rfl, hA, rfl, _, rfl, _, _, rfl, rfl, _, _, _, rfl, ?_⟩
    rw [decide_eq_true (show 0 ≤ st.tgt ∧ st.tgt ≤ c - 1 from ⟨ok.t0, ok.t1⟩)]
    refine ⟨true, rfl, if_f rfl ?_⟩
    refine ⟨_, rfl, a, _, 3, _, rfl, rfl, hA, rfl, _, true, sqt_ty hB, kit_ty (by decide +kernel), _, rfl, if_t rfl ?_⟩
    refine ⟨_, rfl, a, _, 3, _, rfl, rfl, hA, rfl, _, _, rfl, sqt_len hB, _, rfl, rfl, _, rfl, if_t (decide_eq_true (by rw [List.length_map, ok.pl])) ?_⟩
    refine ⟨_, rfl, a, _, 3, _, rfl, rfl, hA, rfl, b, rfl, ⟨_, hB⟩, fun D hD => ?_⟩
    refine lc_ys walk_tup (List.replicate st.pays.length (.bl true)) (by simp) (by rw [List.length_map, ok.pl]; exact small_len hm) hD (fun H' s' => Same.sqt s' hB) (fun i x H0 H' R hi s0 ⟨e, hx⟩ kk => ?_) (fun i H x H' h => by rw [h.1]; exact Same.refl _) fun H' s1 hl => ?_
    · obtain ⟨n, hn, rfl⟩ := get_map hx
      have q := ok.pb n (List.mem_of_getElem? hn)
      exact ⟨rfl, _, rfl, n, rfl, q.1, q.2, kk _ _ (rep_get (by rw [List.length_map] at hi; exact hi)) (Same.refl _)⟩
    · refine ⟨D, List.replicate st.pays.length true, rfl, SqL.of (by rw [hl, rep_map]), ?_⟩
      rw [map_all_true]
      exact k _ s1
/-- events: words and lots -/
def EvRel (K : PySem.W.Frag) (H : Hp) : List (Key × V) → List (Str × List Int) → Prop := Paired fun kv e => kv.1 = Sum.inr e.1 ∧ ∃ a, kv.2 = .ref a ∧ SqT K H a (e.2.map V.int)
theorem EvRel.mono {K : PySem.W.Frag} {H H' : Hp} {kvs : List (Key × V)} {es : List (Str × List Int)} (h : EvRel K H kvs es) (t : ∀ a xs, SqT K H a xs → SqT K H' a xs) : EvRel K H' kvs es :=
  Paired.mapP h fun _ _ ⟨h1, a, h2, h3⟩ => ⟨h1, a, h2, t _ _ h3⟩
def EvsOk (m : Int) (es : List (Str × List Int)) : Prop := ∀ e ∈ es, WordOk e.1 ∧ LotOf m e.2
def spIsEvents (K : PySem.W.Frag) : Sp := fun vs H Q _ => ∃ m d kvs es, vs = [.int m, .ref d] ∧ H d = some (.dK kvs) ∧ EvRel K H kvs es ∧ EvsOk m es ∧ es.length ≤ 1000 ∧ ∀ H', Same H H' → Q (.bl true) H'
theorem ok_is_events {f : Addr} {fd : FuncData} (F : Fun K "is_events" "is_events" s_is_events f fd) (T : Txt K mg) (D_is_event : DefOk P w K mg base CX0 1 "is_event" ["value"] spIsEvent) (D_is_lot_of : DefOk P w K mg base CX0 3 "is_lot_of" ["many", "value"] (spIsLotOf K)) :
    FnOk P w K mg base CX0 4 f fd ["many", "value"] (spIsEvents K) := by
  refine F.ok sc_is_events (fun vs H Q E h => ?_) (fun cdv A outer s H vs Q E hr h => ?_)
  · obtain ⟨i, _, _, _, rfl, _⟩ := h; rfl
  · obtain ⟨m, d, kvs, es, rfl, hd, hE, ok, hl, k⟩ := h
    have hu := hu_of hr
    have hlen : kvs.length = es.length := Paired.length hE
    refine ⟨_, (pss_cons (ps_if (pt_not (pt_val (isBK K (T := "dict") (pv 1) T.n_isinstance T.n_dict (by decide +kernel)))) (pss_one (ps_ret pe_bl)) pss_nil)
  (pss_one (ps_ret (pe_callB (allK K) (by rfl) T.n_all (by decide +kernel) (pa_cons (pe_lock (pe_lc (own := [("word", 2)]) (g := gName 2) (tt := tYes) (by rfl) sc_is_events.nd (pi_keys (pv 1)) (blkOk_by (N := ["many", "value", "word"]) (sc := (defScope s_is_events)) (by decide +kernel)) (fun _ _ _ _ _ => (pg_name (i := 2) sc_is_events.nd rfl (Or.inl rfl))) (fun _ _ _ _ _ => pts_nil) (fun _ _ _ _ _ => (pe_and (pe_d D_is_event (hr.mono (by decide)) pass0 (pa_cons (pv 2) pa_nil)) (pe_one (pe_d D_is_lot_of (hr.mono (by decide)) pass0 (pa_cons (pv 0) (pa_cons (pe_dget hu (pv 1) (pv 2) (fun _ _ => rfl)) pa_nil)))))))) pa_nil))))), ?_⟩
    refine ⟨_, rfl, _, true, .base (.dK hd), kit_ty (by decide +kernel), true, rfl, if_f rfl ?_⟩
    refine ⟨d, _, hd, trivial, fun od => ?_⟩
    have hE' : EvRel K (upd H d (.frz od (.dK kvs))) kvs es := hE.mono fun a xs h => sqt_lock hd h
    refine ⟨_, rfl, d, od, rfl, .inl ⟨kvs, upd_same, fun D hD => ?_⟩⟩
    refine lc_ys walk_keys (List.replicate kvs.length (.bl true)) (by simp) (small_len (by omega)) hD (fun H' s' => s' _ _ upd_same) (fun i x H0 H' R hi s0 ⟨e, ky, vv, hkv, hx⟩ kk => ?_) (fun i H x H' h => by rw [h.1]; exact Same.refl _) fun H' s1 hl' => ?_
    · subst e hx
      obtain ⟨ev, he, h1, a, h2, h3⟩ := paired_at hE' hkv
      have hev := ok ev (List.mem_of_getElem? he)
      have h1' : ky = Sum.inr ev.1 := h1
      subst h1'
      refine ⟨rfl, _, rfl, ev.1, rfl, hev.1, fun H3 s3 => ⟨true, rfl, if_t rfl ?_⟩⟩
      obtain ⟨v2, q1, q2⟩ := valV_mem (List.mem_of_getElem? hkv)
      obtain ⟨ev2, m2, g1, a2, g2, g3⟩ := paired_mem hE' q2
      have hev2 := ok ev2 m2
      have g2' : v2 = .ref a2 := g2
      subst g2'
      have sH : Same (upd H d (.frz od (.dK kvs))) H3 := s0.trans s3
      refine ⟨_, rfl, _, rfl, _, rfl, d, _, rfl, .inl ⟨kvs, Sum.inr ev.1, .inr ⟨od, sH _ _ upd_same⟩, rfl, q1.symm⟩, ?_⟩
      exact ⟨m, a2, ev2.2, rfl, Same.sqt sH g3, hev2.2, fun H4 s4 => kk _ _ (rep_get hi) (s3.trans s4)⟩
    · have nDd : D ≠ d := fun z => by
        rw [z, upd_same] at hD
        cases hD
      refine ⟨s1 _ _ upd_same, D, List.replicate kvs.length true, rfl, SqL.of (by rw [upd_ne nDd, hl', rep_map]), ?_⟩
      rw [map_all_true]
      exact k _ (same_unlock hd s1)
end
end K53
namespace K53
open PySem L2 RZ Own
abbrev s_outs_of : Stmt := top 41
abbrev s_reached_from : Stmt := top 42
theorem sc_outs_of : FnScope ["count", "steps", "found", "index", "step", "state", "lot"] ["count", "steps"] (defScope s_outs_of) := ⟨rfl, rfl, rfl, by decide +kernel, rfl, by decide +kernel, by decide +kernel⟩
theorem sc_reached_from : FnScope ["starts", "steps", "outs", "known", "line", "found", "lot", "index", "target", "state"] ["starts", "steps", "outs"] (defScope s_reached_from) := ⟨rfl, rfl, rfl, by decide +kernel, rfl, by decide +kernel, by decide +kernel⟩
section
variable {P : Program} {w : World} {K : PySem.W.Frag} {mg : Str → Option Value} {base : Heap}
theorem Paired.mono {α β : Type} {R R' : α → β → Prop} {xs : List α} {ys : List β} (h : Paired R xs ys) (k : ∀ a b, R a b → R' a b) : Paired R' xs ys := L2.Paired.mapP h k
/-- the steps at a -/
def StpsAt (K : PySem.W.Frag) (H : Hp) (a : Addr) (ss : List Stp) : Prop := ∃ vs, SqT K H a vs ∧ Paired (StpAt K H) vs ss
theorem StpsAt.mono {H H' : Hp} {a : Addr} {ss : List Stp} (h : StpsAt K H a ss) (e : Same H H') : StpsAt K H' a ss := by
  obtain ⟨vs, h1, h2⟩ := h
  exact ⟨vs, Same.sqt e h1, L2.Paired.mapP h2 fun _ _ q => q.mono e⟩
/-- what a graph is made of, but for its events -/
structure PartsOk (c : Int) (st : List Int) (zs : List Str) (ss : List Stp) : Prop where
  c1 : 1 ≤ c
  c2 : c ≤ 300
  so : LotOf c st
  sn : st ≠ []
  mo : MeasOk zs
  sl : ss.length ≤ 1200
  to : ∀ s ∈ ss, StpOk c zs.length s
def spNeedParts (K : PySem.W.Frag) : Sp := fun vs H Q _ => ∃ c aS aM aT st zs ss, vs = [.int c, .ref aS, .ref aM, .ref aT] ∧ SqT K H aS (st.map V.int) ∧ SqT K H aM (zs.map V.str) ∧ StpsAt K H aT ss ∧ PartsOk c st zs ss ∧ ∀ H', Same H H' → Q .non H'
theorem ok_need_parts {f : Addr} {fd : FuncData} (F : Fun K "need_parts" "need_parts" s_need_parts f fd) (T : Txt K mg) (D_is_within : DefOk P w K mg base CX0 2 "is_within" ["value", "least", "most"] spIsWithin)
    (D_is_starts : DefOk P w K mg base CX0 3 "is_starts" ["count", "value"] (spIsStarts K)) (D_is_measures : DefOk P w K mg base CX0 2 "is_measures" ["value"] (spIsMeasures K)) (D_is_step : DefOk P w K mg base CX0 4 "is_step" ["count", "many", "value"] (spIsStep K)) :
    FnOk P w K mg base CX0 5 f fd ["count", "starts", "measures", "steps"] (spNeedParts K) := by
  refine F.ok sc_need_parts (fun vs H Q E h => ?_) (fun cdv A outer s H vs Q E hr h => ?_)
  · obtain ⟨i, _, _, _, _, _, _, rfl, _⟩ := h; rfl
  · obtain ⟨c, aS, aM, aT, st, zs, ss, rfl, hS, hM, ⟨vsts, hT, hP⟩, ok, k⟩ := h
    refine ⟨_, (pss_cons (ps_if (pt_not (pt_val (pe_d D_is_within (hr.mono (by decide)) pass0 (pa_cons (pv 0) (pa_cons pe_int (pa_cons (pgi T.c_MOST_STATES_graphs) pa_nil)))))) (pss_one ps_never) pss_nil)
  (pss_cons (ps_if (pt_not (pt_val (pe_d D_is_starts (hr.mono (by decide)) pass0 (pa_cons (pv 0) (pa_cons (pv 1) pa_nil))))) (pss_one ps_never) pss_nil)
  (pss_cons (ps_if (pt_not (pt_val (pe_d D_is_measures (hr.mono (by decide)) pass0 (pa_cons (pv 2) pa_nil)))) (pss_one ps_never) pss_nil)
  (pss_cons (ps_if (pt_not (pt_val (isBK K (T := "tuple") (pv 3) T.n_isinstance T.n_tuple (by decide +kernel)))) (pss_one ps_never) pss_nil)
  (pss_cons (ps_if (pt_cmpR op_gt (pe_callB (lenK K) (by rfl) T.n_len (by decide +kernel) (pa_cons (pv 3) pa_nil)) (pgi T.c_MOST_STEPS_graphs) (nomark _)) (pss_one ps_never) pss_nil)
  (pss_one (ps_for PassesOwn.never rfl (pi_enumT (by rfl) T.n_enumerate (pa_cons (pv 3) pa_nil)) (pg_tupK K (pgs_cons (pg_name (i := 4) sc_need_parts.nd rfl (Or.inl rfl)) (pgs_cons (pg_name (i := 5) sc_need_parts.nd rfl (Or.inl rfl)) pgs_nil)))
  (pss_one (ps_if (pt_not (pt_val (pe_d D_is_step (hr.mono (by decide)) pass0 (pa_cons (pv 0) (pa_cons (pe_callB (lenK K) (by rfl) T.n_len (by decide +kernel) (pa_cons (pv 2) pa_nil)) (pa_cons (pv 5) pa_nil)))))) (pss_one ps_never) pss_nil))))))))), ?_⟩
    refine ⟨_, rfl, _, _, _, rfl, ?_⟩
    rw [decide_eq_true (show 1 ≤ c ∧ c ≤ 300 from ⟨ok.c1, ok.c2⟩)]
    refine ⟨true, rfl, if_f rfl ?_⟩
    refine ⟨_, rfl, _, rfl, c, aS, st, rfl, hS, ok.so, ok.sn, fun H1 s1 => ⟨true, rfl, if_f rfl ?_⟩⟩
    refine ⟨_, rfl, aM, zs, rfl, Same.sqt s1 hM, ok.mo, fun H2 s2 => ⟨true, rfl, if_f rfl ?_⟩⟩
    have s02 := s1.trans s2
    refine ⟨_, rfl, _, true, sqt_ty (Same.sqt s02 hT), kit_ty (by decide +kernel), true, rfl, if_f rfl ?_⟩
    have hlen : vsts.length = ss.length := Paired.length hP
    have hsl := ok.sl
    refine ⟨_, rfl, _, _, rfl, sqt_len (Same.sqt s02 hT), _, _, rfl, rfl, _, rfl, if_f (decide_eq_false (by rw [hlen]; omega)) ?_⟩
    refine ⟨_, rfl, aT, _, rfl, Same.sqt s02 hT, ?_⟩
    refine for_it walk_enumT (fun i σ H' => ∃ v4 v5, σ = [some (.int c), some (.ref aS), some (.ref aM), some (.ref aT), v4, v5] ∧ Same H H') ⟨_, _, rfl, s02⟩ (fun i σ H' _ ⟨_, _, _, s'⟩ => Same.sqt s' hT) (fun i x σ H3 H4 hi ⟨v4, v5, e, s'⟩ ⟨T', x1, x2, e1, e2, e3, e4, e5⟩ => ?_) fun σ H' ⟨_, _, _, s'⟩ => k _ s'
    subst e e1 e3
    cases e4
    have s'' : Same H (upd H3 T' (.tup [.int (i : Nat), x2])) := s'.trans (same_up e2)
    obtain ⟨sp, g1, g2⟩ := paired_at hP e5
    refine ⟨T', _, rfl, SqT.of upd_same, rfl, _, _, rfl, _, _, rfl, rfl, ?_⟩
    have hz : zs.length ≤ 1000 := by have := ok.mo.1; omega
    refine ⟨_, rfl, _, rfl, _, _, rfl, sqt_len (Same.sqt s'' hM), _, rfl, c, zs.length, x2, sp, ?_, g2.mono s'', ok.to sp (List.mem_of_getElem? g1), hz, fun H5 s5 => ⟨true, rfl, if_f rfl ?_⟩⟩
    · rw [List.length_map]
    · exact ⟨_, _, rfl, s''.trans s5⟩
end
end K53
namespace K53
open PySem L2 RZ Own
theorem big_len {n : Nat} (h : n ≤ 100000) : n < sizeLine := Nat.lt_of_le_of_lt h (by decide)
theorem yes_t {A N : Hp → Prop} {σ : St} {H : Hp} (h : A H) : tYes σ H fun b H3 => if b = true then A H3 else N H3 := by
  show if true = true then A H else N H
  rw [if_pos rfl]; exact h
/-- the steps ahead of i that begin at j -/
def outAt (ss : List Stp) (i j : Nat) : List Int := ((List.range i).filter fun k => decide ((ss[k]?.map Stp.src) = some (j : Int))).map fun (k : Nat) => (k : Int)
theorem outAt_zero (ss : List Stp) (j : Nat) : outAt ss 0 j = [] := rfl
theorem outAt_succ (ss : List Stp) (i j : Nat) : outAt ss (i + 1) j = outAt ss i j ++ if (ss[i]?.map Stp.src) = some (j : Int) then [(i : Int)] else [] := by
  unfold outAt
  rw [List.range_succ, List.filter_append, List.map_append]
  congr 1
  by_cases h : (ss[i]?.map Stp.src) = some (j : Int)
  · rw [if_pos h, List.filter_cons, if_pos (decide_eq_true h)]; rfl
  · rw [if_neg h, List.filter_cons, if_neg (by rw [decide_eq_false h]; exact Bool.false_ne_true)]; rfl
theorem outAt_len (ss : List Stp) (i j : Nat) : (outAt ss i j).length ≤ i := by
  unfold outAt
  rw [List.length_map]
  exact Nat.le_trans (List.length_filter_le _ _) (by rw [List.length_range]; exact Nat.le_refl _)
theorem outAt_mem {ss : List Stp} {i j : Nat} {n : Int} (h : n ∈ outAt ss i j) : 0 ≤ n ∧ n < i := by
  unfold outAt at h
  obtain ⟨k, hk, rfl⟩ := List.mem_map.mp h
  have := List.mem_range.mp (List.mem_filter.mp hk).1
  omega
/-- the outs of a graph at p -/
def OutsAt (K : PySem.W.Frag) (H : Hp) (p : Addr) (c : Int) (ss : List Stp) : Prop := ∃ ts : List Addr, SqT K H p (ts.map V.ref) ∧ (ts.length : Int) = c ∧ ∀ j t, ts[j]? = some t → SqT K H t ((outAt ss ss.length j).map V.int)
theorem OutsAt.mono {K : PySem.W.Frag} {H H' : Hp} {p : Addr} {c : Int} {ss : List Stp} (h : OutsAt K H p c ss) (e : Same H H') : OutsAt K H' p c ss := by
  obtain ⟨ts, h1, h2, h3⟩ := h
  exact ⟨ts, Same.sqt e h1, h2, fun j t q => Same.sqt e (h3 j t q)⟩
section
variable {P : Program} {w : World} {K : PySem.W.Frag} {mg : Str → Option Value} {base : Heap}
/-- lists of their own, one for each state: behind H0 -/
structure FoundAt (H0 H : Hp) (fl : Addr) (c : Nat) (g : Nat → List Int) (ls : List Addr) : Prop where
  at_ : H fl = some (.lst (ls.map V.ref))
  len : ls.length = c
  nd : ls.Nodup
  no : fl ∉ ls
  f0 : H0 fl = none
  own : ∀ j l, ls[j]? = some l → H l = some (.lst ((g j).map V.int)) ∧ H0 l = none
def spOutsOf (K : PySem.W.Frag) : Sp := fun vs H Q _ => ∃ c aT ss, vs = [.int c, .ref aT] ∧ StpsAt K H aT ss ∧ 1 ≤ c ∧ c ≤ 300 ∧ ss.length ≤ 1200 ∧ (∀ s ∈ ss, 0 ≤ s.src ∧ s.src ≤ c - 1) ∧ ∀ p H', Same H H' → H p = none → OutsAt K H' p c ss → Q (.ref p) H'
theorem ref_get {ls : List Addr} {j : Nat} {x : V} (h : (ls.map V.ref)[j]? = some x) : ∃ l, ls[j]? = some l ∧ x = .ref l := by
  rw [List.getElem?_map] at h
  cases e : ls[j]? with
  | none => rw [e] at h; cases h
  | some n => rw [e] at h; exact ⟨n, rfl, (Option.some.inj h).symm⟩
theorem ok_outs_of {f : Addr} {fd : FuncData} (F : Fun K "outs_of" "outs_of" s_outs_of f fd) (T : Txt K mg) : FnOk P w K mg base CX0 1 f fd ["count", "steps"] (spOutsOf K) := by
  refine F.ok sc_outs_of (fun vs H Q E h => ?_) (fun cdv A outer s H vs Q E hr h => ?_)
  · obtain ⟨c, _, _, rfl, _⟩ := h; rfl
  · obtain ⟨c, aT, ss, rfl, ⟨vsts, hT, hP⟩, c1, c2, hsl, hso, k⟩ := h
    refine ⟨_, (pss_cons (ps_setLc (i := 2) (own := [("state", 5)]) (g := gName 5) (tt := tYes) (by rfl) sc_outs_of.nd rfl rfl (sw_true rfl rfl rfl (by decide +kernel)) (pi_range1 (by rfl) T.n_range (pa_cons (pv 0) pa_nil)) (blkOk_by (N := ["count", "steps", "found", "index", "step", "state", "lot"]) (sc := (defScope s_outs_of)) (by decide +kernel)) (fun _ _ _ _ _ => (pg_name (i := 5) sc_outs_of.nd rfl (Or.inl rfl))) (fun _ _ _ _ _ => pts_nil) (fun _ _ _ _ _ => (pe_lst pa_nil)))
  (pss_cons (ps_for PassesOwn.never rfl (pi_enumT (by rfl) T.n_enumerate (pa_cons (pv 1) pa_nil)) (pg_tupK K (pgs_cons (pg_name (i := 3) sc_outs_of.nd rfl (Or.inl rfl)) (pgs_cons (pg_name (i := 4) sc_outs_of.nd rfl (Or.inl rfl)) pgs_nil)))
  (pss_one (ps_expr (pe_bm PySem.F.plainAttrs_list PySem.F.slot_list_append PySem.F.type_list_append mt_append (pe_ix (ix_listK K) (pv 2) (pe_ix (ix_tupK K) (pv 4) pe_int (fun _ _ => rfl)) (fun _ _ => rfl)) (pa_cons (pv 3) pa_nil)))))
  (pss_one (ps_ret (pe_callTy (tuple_ofK K) (by rfl) T.n_tuple (by decide +kernel) (pa_cons (pe_lc (own := [("lot", 6)]) (g := gName 6) (tt := tYes) (by rfl) sc_outs_of.nd ((pi_listK K) (pv 2)) (blkOk_by (N := ["count", "steps", "found", "index", "step", "state", "lot"]) (sc := (defScope s_outs_of)) (by decide +kernel)) (fun _ _ _ _ _ => (pg_name (i := 6) sc_outs_of.nd rfl (Or.inl rfl))) (fun _ _ _ _ _ => pts_nil) (fun _ _ _ _ _ => (pe_callTy (tuple_ofK K) (by rfl) T.n_tuple (by decide +kernel) (pa_cons (pv 6) pa_nil)))) pa_nil)))))), ?_⟩
    refine ⟨_, rfl, c, rfl, by omega, by omega, fun D hD => ?_⟩
    refine lc_it walk_range (fun i H1 => Same H H1 ∧ ∃ ls, FoundAt H H1 D i (fun _ => []) ls) ⟨same_up hD, [], ⟨upd_same, rfl, List.nodup_nil, List.not_mem_nil, hD, fun j l h => by simp at h⟩⟩ (fun _ _ _ _ => trivial) (fun i x H1 H2 hi ⟨s1, ls, Fd⟩ ⟨e, hx⟩ => ?_) fun H1 ⟨s1, ls, Fd⟩ => ?_
    · subst e hx
      refine ⟨rfl, yes_t ⟨Nat.zero_le _, fun l hl => ?_⟩⟩
      have nDl : D ≠ l := ne_of_none Fd.at_ hl
      have nls : l ∉ ls := fun hm => by
        obtain ⟨j, hj⟩ := List.mem_iff_getElem?.mp hm
        have := (Fd.own j l hj).1
        rw [hl] at this; cases this
      have l0 : H l = none := s1.free hl
      refine ⟨ls.map V.ref, by rw [upd_ne nDl]; exact Fd.at_, by rw [List.length_map, Fd.len]; exact big_len (by omega), fun b o e => ?_, ls ++ [l], ⟨?_, ?_, ?_, ?_, hD, fun j l' hj => ?_⟩⟩
      · rw [upd_ne (ne_of_none e hD), upd_ne (ne_of_none (s1 b o e) hl)]
        exact s1 b o e
      · rw [upd_same, List.map_append]; rfl
      · rw [List.length_append, Fd.len]; rfl
      · exact List.nodup_append.mpr ⟨Fd.nd, List.nodup_cons.mpr ⟨List.not_mem_nil, List.nodup_nil⟩, fun a ha b hb => by rw [List.mem_singleton.mp hb]; exact fun z => nls (z ▸ ha)⟩
      · intro hm
        rcases List.mem_append.mp hm with q | q
        · exact Fd.no q
        · exact nDl (List.mem_singleton.mp q)
      · by_cases hjl : j < ls.length
        · rw [List.getElem?_append_left hjl] at hj
          obtain ⟨q1, q2⟩ := Fd.own j l' hj
          have n1 : l' ≠ D := fun z => Fd.no (z ▸ List.mem_of_getElem? hj)
          have n2 : l' ≠ l := fun z => nls (z ▸ List.mem_of_getElem? hj)
          rw [upd_ne n1, upd_ne n2]
          exact ⟨q1, q2⟩
        · rw [List.getElem?_append_right (by omega)] at hj
          have : l' = l := by
            cases e : j - ls.length with
            | zero => rw [e] at hj; exact (Option.some.inj hj).symm
            | succ m => rw [e] at hj; cases hj
          subst this
          rw [upd_ne nDl.symm, upd_same]
          exact ⟨rfl, l0⟩
    · refine ⟨_, rfl, aT, _, rfl, Same.sqt s1 hT, ?_⟩
      have hlen : vsts.length = ss.length := Paired.length hP
      refine for_it walk_enumT (fun i σ H2 => ∃ v3 v4, σ = [some (.int c), some (.ref aT), some (.ref D), v3, v4, none, none] ∧ Same H H2 ∧ FoundAt H H2 D c.toNat (fun j => outAt ss i j) ls) ⟨none, none, rfl, s1, ⟨Fd.at_, Fd.len, Fd.nd, Fd.no, Fd.f0, Fd.own⟩⟩
        (fun i σ H' _ ⟨_, _, _, s', _⟩ => Same.sqt s' hT) (fun i x σ H3 H4 hi ⟨v3, v4, e, s3, F3⟩ ⟨T', x1, x2, e1, e2, e3, e4, e5⟩ => ?_) fun σ H3 ⟨v3, v4, e, s3, F3⟩ => ?_
      · subst e e1 e3
        cases e4
        have sT : Same H3 (upd H3 T' (.tup [.int (i : Nat), x2])) := same_up e2
        obtain ⟨sp, g1, a2, b2, rfl, h2, h3⟩ := paired_at hP e5
        have hsp := hso sp (List.mem_of_getElem? g1)
        obtain ⟨jn, hj⟩ : ∃ jn : Nat, sp.src = (jn : Int) := ⟨sp.src.toNat, by omega⟩
        have hjl : jn < ls.length := by rw [F3.len]; omega
        have hl : ls[jn]? = some ls[jn] := List.getElem?_eq_getElem hjl
        obtain ⟨q1, q2⟩ := F3.own jn _ hl
        refine ⟨T', _, rfl, SqT.of upd_same, rfl, _, _, rfl, _, _, rfl, rfl, ?_⟩
        refine ⟨_, rfl, _, rfl, a2, _, 0, _, rfl, rfl, Same.sqt (s3.trans sT) h2, rfl, D, _, sp.src, .ref ls[jn], rfl, rfl, SqL.of (sT _ _ F3.at_), ?_, .inl ⟨rfl, _, SqL.of (sT _ _ q1)⟩, _, rfl, ls[jn], _, _, rfl, rfl, sT _ _ q1, ?_, ?_⟩
        · rw [hj]
          exact atI_nat (by rw [List.getElem?_map, hl]; rfl)
        · rw [List.length_map]
          exact big_len (by have := outAt_len ss i jn; omega)
        · refine ⟨_, _, rfl, fun b o e => ?_, ⟨?_, F3.len, F3.nd, F3.no, F3.f0, fun j l' hj' => ?_⟩⟩
          · rw [upd_ne (ne_of_none e q2)]
            exact sT _ _ (s3 b o e)
          · rw [upd_ne (fun z => F3.no (by rw [z]; exact List.mem_of_getElem? hl))]
            exact sT _ _ F3.at_
          · obtain ⟨r1, r2⟩ := F3.own j l' hj'
            refine ⟨?_, r2⟩
            rw [outAt_succ, g1]
            by_cases e : l' = ls[jn]
            · have ej : j = jn := by
                have h1 := (List.getElem?_eq_some_iff.mp hj').2
                exact (List.getElem_inj F3.nd).mp (h1.trans e)
              subst ej
              rw [e, upd_same]
              rw [if_pos (by show some sp.src = some _; rw [hj]), List.map_append]
              rfl
            · rw [upd_ne e]
              have ej : ¬ (some sp.src = some (j : Int)) := fun z => by
                have z2 : jn = j := by have := Option.some.inj z; omega
                subst z2
                rw [hl] at hj'
                exact e (Option.some.inj hj').symm
              rw [if_neg (by exact ej), List.append_nil]
              exact sT _ _ r1
      · subst e
        refine ⟨_, rfl, D, rfl, ⟨_, SqL.of F3.at_⟩, fun D2 hD2 => ?_⟩
        refine lc_it walk_list (fun i H4 => Same H3 H4 ∧ ∃ ts : List Addr, H4 D2 = some (.lst (ts.map V.ref)) ∧ ts.length = i ∧ ∀ j t, ts[j]? = some t → H4 t = some (.tup ((outAt ss ss.length j).map V.int))) ⟨same_up hD2, [], upd_same, rfl, fun j t h => by simp at h⟩
          (fun i H4 _ ⟨s4, _⟩ => SqL.of (s4 _ _ F3.at_)) (fun i x H4 H5 hi ⟨s4, ts, t1, t2, t3⟩ ⟨e, hx⟩ => ?_) fun H4 ⟨s4, ts, t1, t2, t3⟩ => ?_
        · subst e
          obtain ⟨l, hl, rfl⟩ := ref_get hx
          obtain ⟨q1, q2⟩ := F3.own i l hl
          rw [hlen] at q1
          refine ⟨rfl, yes_t ⟨_, rfl, l, _, rfl, .inl ⟨SqL.of (s4 _ _ q1), fun t ht => ?_⟩⟩⟩
          have nD : D2 ≠ t := ne_of_none t1 ht
          refine ⟨_, by rw [upd_ne nD]; exact t1, by rw [List.length_map] at *; exact big_len (by have := F3.len; omega), fun b o e => ?_, ts ++ [t], ?_, by rw [List.length_append, t2]; rfl, fun j t' hj => ?_⟩
          · rw [upd_ne (ne_of_none e hD2), upd_ne (ne_of_none (s4 b o e) ht)]
            exact s4 b o e
          · rw [upd_same, List.map_append]; rfl
          · by_cases hjl : j < ts.length
            · rw [List.getElem?_append_left hjl] at hj
              have q := t3 j t' hj
              rw [upd_ne (ne_of q t1 (fun z => nomatch z)), upd_ne (ne_of_none q ht)]
              exact q
            · rw [List.getElem?_append_right (by omega)] at hj
              have hj0 : j = i ∧ t' = t := by
                cases e : j - ts.length with
                | zero => rw [e] at hj; exact ⟨by omega, (Option.some.inj hj).symm⟩
                | succ m => rw [e] at hj; cases hj
              obtain ⟨rfl, rfl⟩ := hj0
              rw [upd_ne nD.symm, upd_same]
        · refine ⟨D2, _, rfl, .inl ⟨SqL.of t1, fun p hp => ?_⟩⟩
          have s5 := s4.trans (same_up (o := .tup (ts.map V.ref)) hp)
          refine k p _ (s3.trans s5) ((s3.trans s4).free hp) ⟨ts, SqT.of upd_same, ?_, fun j t q => SqT.of ?_⟩
          · rw [t2, List.length_map, F3.len]; omega
          · rw [upd_ne (ne_of_none (t3 j t q) hp)]
            exact t3 j t q
end
end K53
namespace K53
open PySem L2 RZ Own
theorem pigeon : ∀ (c : Nat) (l : List Nat), l.Nodup → (∀ x ∈ l, x < c) → l.length ≤ c
  | 0, l, _, h => by
    cases l with
    | nil => exact Nat.le_refl _
    | cons a r => exact absurd (h a List.mem_cons_self) (Nat.not_lt_zero _)
  | c + 1, l, nd, h => by
    by_cases hc : c ∈ l
    · have q := pigeon c (l.erase c) (nd.erase c) fun x hx => by
        have h1 := (List.Nodup.mem_erase_iff nd).mp hx
        have h2 := h x h1.2
        have h3 := h1.1
        omega
      rw [List.length_erase_of_mem hc] at q
      omega
    · have q := pigeon c l nd fun x hx => by
        have h2 := h x hx
        have h3 : x ≠ c := fun z => hc (z ▸ hx)
        omega
      omega
def keyN : Key → Nat
  | .inl n => n.toNat
  | .inr _ => 0
def KeysIn (c : Int) (kvs : List (Key × V)) : Prop := (kvs.map (·.1)).Nodup ∧ ∀ k ∈ kvs.map (·.1), ∃ n : Int, k = .inl n ∧ 0 ≤ n ∧ n < c
theorem keys_len {c : Int} {kvs : List (Key × V)} (h : KeysIn c kvs) : kvs.length ≤ c.toNat := by
  obtain ⟨h1, h2⟩ := h
  have q := pigeon c.toNat ((kvs.map (·.1)).map keyN) (by
    refine List.Pairwise.map keyN (R := fun a b => a ∈ kvs.map (·.1) ∧ b ∈ kvs.map (·.1) ∧ a ≠ b) (fun a b ⟨ha, hb, hab⟩ => ?_) ?_
    · obtain ⟨n, rfl, n0, _⟩ := h2 a ha
      obtain ⟨m, rfl, m0, _⟩ := h2 b hb
      intro e
      have e' : n.toNat = m.toNat := e
      exact hab (by rw [show n = m by omega])
    · exact List.Pairwise.imp_of_mem (fun ha hb hab => ⟨ha, hb, hab⟩) h1) fun x hx => by
    obtain ⟨k, hk, rfl⟩ := List.mem_map.mp hx
    obtain ⟨n, rfl, n0, n1⟩ := h2 k hk
    show n.toNat < _
    omega
  rw [List.length_map, List.length_map] at q
  exact q
theorem valV_none_of {kvs : List (Key × V)} {k : Key} (h : k ∉ kvs.map (·.1)) : valV kvs k = none := by
  cases e : valV kvs k with
  | none => rfl
  | some v => exact absurd (valV_in e) h
theorem keys_put {c : Int} {kvs : List (Key × V)} {n : Int} {v : V} (h : KeysIn c kvs) (hv : valV kvs (.inl n) = none) (n0 : 0 ≤ n) (n1 : n < c) : KeysIn c (putK kvs (.inl n) v) ∧ (putK kvs (.inl n) v).length = kvs.length + 1 := by
  refine ⟨⟨nd_putK v h.1 hv, ?_⟩, by rw [putK_new v hv, List.length_append]; rfl⟩
  rw [putK_new v hv]
  intro k hk
  rw [List.map_append] at hk
  rcases List.mem_append.mp hk with q | q
  · exact h.2 k q
  · exact ⟨n, List.mem_singleton.mp q, n0, n1⟩
section
variable {P : Program} {w : World} {K : PySem.W.Frag} {mg : Str → Option Value} {base : Heap}
structure RInv (H0 : Hp) (c : Int) (dk dl df p : Nat) (m : Nat) (kvs : List (Key × V)) (ln fs : List Int) (H : Hp) : Prop where
  sm : Same H0 H
  hk : H dk = some (.dK kvs)
  hl : H dl = some (.lst (ln.map V.int))
  hf : H df = some (.lst (fs.map V.int))
  ki : KeysIn c kvs
  li : ∀ n ∈ ln, 0 ≤ n ∧ n < c
  pc : p + ln.length = kvs.length
  fl : fs.length ≤ 1200 * (p + m)
theorem dpl_ints {H : Hp} : ∀ ns : List Int, DpAll K H (ns.map V.int) (ns.map PyData.int)
  | [] => .nil
  | n :: ns => .cons (.int n) (dpl_ints ns)
theorem ints_lay : ∀ ns : List Int, PyData.canLayAll0 (ns.map PyData.int) = true
  | [] => by simp [PyData.canLayAll0]
  | n :: ns => by simp [PyData.canLayAll0, PyData.canLay0, ints_lay ns]
theorem ints_depth : ∀ ns : List Int, PyData.depthAll (ns.map PyData.int) = 0
  | [] => by simp [PyData.depthAll]
  | n :: ns => by simp [PyData.depthAll, PyData.depth, ints_depth ns]
theorem ints_shaped (ns : List Int) : SeqAt.shaped (.list (ns.map PyData.int)) = true := by
  show (PyData.canLay0 (.list (ns.map PyData.int)) && decide (PyData.depth (.list (ns.map PyData.int)) ≤ 64)) = true
  rw [Bool.and_eq_true]
  exact ⟨by simp only [PyData.canLay0]; exact ints_lay ns, decide_eq_true (by simp [PyData.depth, ints_depth])⟩
theorem ints_nil (ns : List Int) : PyData.eqv (.list (ns.map PyData.int)) (.list []) = decide (ns = []) := by
  cases ns <;> simp [PyData.eqv, PyData.eqvAll]
theorem big_len' {n : Nat} (h : n ≤ 1000000) : n < sizeLine := Nat.lt_of_le_of_lt h (by decide)
def spReached (K : PySem.W.Frag) : Sp := fun vs H Q _ => ∃ c aS aT aO st ss, vs = [.ref aS, .ref aT, .ref aO] ∧ SqT K H aS (st.map V.int) ∧ StpsAt K H aT ss ∧ OutsAt K H aO c ss ∧ LotOf c st ∧ c ≤ 300 ∧ ss.length ≤ 1200 ∧
  (∀ s ∈ ss, 0 ≤ s.tgt ∧ s.tgt ≤ c - 1) ∧ ∀ p H', Same H H' → H p = none → Q (.ref p) H'
theorem ok_reached_from {f : Addr} {fd : FuncData} (F : Fun K "reached_from" "reached_from" s_reached_from f fd) (T : Txt K mg) : FnOk P w K mg base CX0 1 f fd ["starts", "steps", "outs"] (spReached K) := by
  refine F.ok sc_reached_from (fun vs H Q E h => ?_) (fun cdv A outer s H vs Q E hr h => ?_)
  · obtain ⟨_, _, _, _, _, _, rfl, _⟩ := h; rfl
  · obtain ⟨c, aS, aT, aO, st, ss, rfl, hS, ⟨vsts, hT, hP⟩, ⟨ts, hO, hc, hts⟩, ⟨⟨hasc, hpos, hsz⟩, hlt⟩, c3, hsl, hto, k⟩ := h
    have hu := hu_of hr
    have hlen : vsts.length = ss.length := Paired.length hP
    refine ⟨_, (pss_cons (ps_par3 (i := 3) (j := 4) (l := 5) (by rfl) sc_reached_from.nd rfl rfl rfl (by decide) (by decide) (by decide) rfl rfl rfl (pa_cons (pe_dc (own := [("state", 9)]) (g := gName 9) (tt := tYes) (by rfl) sc_reached_from.nd ((pi_tupK K) (pv 0)) (blkOk_by (N := ["starts", "steps", "outs", "known", "line", "found", "lot", "index", "target", "state"]) (sc := (defScope s_reached_from)) (by decide +kernel)) (fun _ _ _ _ _ => (pg_name (i := 9) sc_reached_from.nd rfl (Or.inl rfl))) (fun _ _ _ _ _ => pts_nil) (fun _ _ _ _ _ => (pv 9)) (fun _ _ _ _ _ => pe_bl)) (pa_cons (pe_callTy (list_ofK K) (by rfl) T.n_list (by decide +kernel) (pa_cons (pv 0) pa_nil)) (pa_cons (pe_lst pa_nil) pa_nil))) (by rfl))
  (pss_cons (ps_while PassesOwn.never (pt_cmpR (neDK K hr.units) (pv 4) (pe_lst pa_nil) (nomark _))
  (pss_cons (ps_set (i := 6) sc_reached_from.nd rfl (Or.inl rfl) (pe_ix (ix_tupK K) (pv 2) (pe_bm0 PySem.F.plainAttrs_list PySem.F.slot_list_pop PySem.F.type_list_pop mt_pop (pv 4)) (fun _ _ => rfl)))
  (pss_cons (ps_expr (pe_bm PySem.F.plainAttrs_list PySem.F.slot_list_extend PySem.F.type_list_extend mt_extendT (pv 5) (pa_cons (pv 6) pa_nil)))
  (pss_one (ps_for PassesOwn.never rfl ((pi_tupK K) (pv 6)) (pg_name (i := 7) sc_reached_from.nd rfl (Or.inl rfl))
  (pss_cons (ps_set (i := 8) sc_reached_from.nd rfl (Or.inl rfl) (pe_ix (ix_tupK K) (pe_ix (ix_tupK K) (pv 1) (pv 7) (fun _ _ => rfl)) pe_int (fun _ _ => rfl)))
  (pss_one (ps_if (pt_cmp (pc_dnotin hu (pv 8) (pv 3))) (pss_cons (ps_dput hu (pv 3) (pv 8) pe_bl rfl)
  (pss_one (ps_expr (pe_bm PySem.F.plainAttrs_list PySem.F.slot_list_append PySem.F.type_list_append mt_append (pv 4) (pa_cons (pv 8) pa_nil))))) pss_nil))))))))
  (pss_one (ps_ret (pe_callTy (tuple_ofK K) (by rfl) T.n_tuple (by decide +kernel) (pa_cons (pe_callB (sortedIK K) (by rfl) T.n_sorted (by decide +kernel) (pa_cons (pv 5) pa_nil)) pa_nil)))))), ?_⟩
    have hnd : st.Nodup := List.Pairwise.imp (fun h => Int.ne_of_lt h) hasc
    refine ⟨_, rfl, aS, rfl, ⟨_, hS⟩, fun D hD => ?_⟩
    refine dc_tup (fun i H1 => ∃ kvs, Same H H1 ∧ H1 D = some (.dK kvs) ∧ KeysIn c kvs ∧ kvs.length = i ∧ ∀ k ∈ kvs.map (·.1), ∃ n ∈ st.take i, k = .inl n) ⟨[], same_up hD, upd_same, ⟨List.nodup_nil, fun k hk => by cases hk⟩, rfl, fun k hk => by cases hk⟩ (fun i H1 _ ⟨_, s1, _⟩ => Same.sqt s1 hS) (fun i x H1 hx ⟨kvs, s1, h1, h2, h3, h4⟩ => ?_) fun H1 ⟨kvs, s1, h1, h2, h3, _⟩ => ?_
    · obtain ⟨n, hn, rfl⟩ := get_map hx
      have hmem := List.mem_of_getElem? hn
      have hnew : valV kvs (.inl n) = none := valV_none_of fun hm => by
        obtain ⟨n', hn', e⟩ := h4 _ hm
        cases e
        obtain ⟨j, hj⟩ := List.mem_iff_getElem?.mp hn'
        rw [List.getElem?_take] at hj
        split at hj
        · rename_i hji
          have e1 := List.getElem?_eq_some_iff.mp hj
          have e2 := List.getElem?_eq_some_iff.mp hn
          have := (List.getElem_inj hnd).mp (e1.2.trans e2.2.symm)
          omega
        · cases hj
      obtain ⟨p1, p2⟩ := keys_put (v := .bl true) h2 hnew (hpos n hmem) (hlt n hmem)
      refine ⟨rfl, yes_t ⟨_, rfl, kvs, .inl n, rfl, h1, ?_, _, fun b o e => ?_, upd_same, p1, by rw [p2, h3], ?_⟩⟩
      · exact big_len (by have := keys_len h2; omega)
      · rw [upd_ne (ne_of_none e hD)]; exact s1 b o e
      · intro k hk
        rw [putK_new _ hnew, List.map_append] at hk
        rcases List.mem_append.mp hk with q | q
        · obtain ⟨n', hn', e⟩ := h4 k q
          exact ⟨n', by rw [List.take_add_one]; exact List.mem_append_left _ hn', e⟩
        · rw [List.mem_singleton.mp q]
          exact ⟨n, by rw [List.take_add_one, hn]; exact List.mem_append_right _ (by simp), rfl⟩
    · refine ⟨_, rfl, aS, _, rfl, .inr (Same.sqt s1 hS), fun dl hdl => ?_⟩
      have nDl : D ≠ dl := ne_of_none h1 hdl
      have hdl0 : H dl = none := s1.free hdl
      have s2 : Same H (upd H1 dl (.lst (st.map V.int))) := s1.trans (same_up hdl)
      refine ⟨Nat.zero_le _, fun df hdf => ?_⟩
      have nDf : D ≠ df := ne_of_none (by rw [upd_ne nDl]; exact h1) hdf
      have nlf : dl ≠ df := ne_of_none upd_same hdf
      have hdf0 : H df = none := s2.free hdf
      refine ⟨_, _, _, rfl, ?_⟩
      refine ⟨fun m σ H2 => ∃ v6 v7 v8 v9 p kvs ln fs, σ = [some (.ref aS), some (.ref aT), some (.ref aO), some (.ref D), some (.ref dl), some (.ref df), v6, v7, v8, v9] ∧ RInv H c D dl df p 0 kvs ln fs H2 ∧ m = c.toNat - p, ⟨_, _, _, _, _, 0, kvs, st, [], rfl, ⟨s2.trans (same_up hdf), by rw [upd_ne nDf, upd_ne nDl]; exact h1, by rw [upd_ne nlf]; exact upd_same, upd_same, h2, fun n hn => ⟨hpos n hn, hlt n hn⟩, by rw [h3, List.length_map]; omega, Nat.zero_le _⟩, rfl⟩, ?_⟩
      rintro m σ H2 ⟨v6, v7, v8, v9, p, kvs, ln, fs, rfl, R, rfl⟩
      have nkl : D ≠ dl := nDl
      refine ⟨_, rfl, Nat.zero_le _, fun b hb => ?_⟩
      have sb : Same H2 (upd H2 b (.lst [])) := same_up hb
      have nlb : dl ≠ b := ne_of_none R.hl hb
      refine ⟨_, _, .lst (SqL.of (sb _ _ R.hl)) (dpl_ints ln), .lst (SqL.of upd_same) .nil, ints_shaped ln, ints_shaped [], ?_⟩
      refine ⟨_, rfl, ?_⟩
      have hkl := keys_len R.ki
      by_cases hln : ln = []
      · subst hln
        refine if_f (show (!PyData.eqv (.list ([].map PyData.int)) (.list [])) = false by rw [ints_nil]; rfl) ?_
        refine ⟨_, rfl, df, fs, rfl, SqL.of (sb _ _ R.hf), fun ns' q _ _ hq => ?_⟩
        refine ⟨q, _, rfl, .inl ⟨SqL.of upd_same, fun r hr' => ?_⟩⟩
        have s5 := ((R.sm.trans sb).trans (same_up (o := .lst (ns'.map V.int)) hq))
        exact k r _ (s5.trans (same_up hr')) (s5.free hr')
      · refine if_t (show (!PyData.eqv _ _) = true by rw [ints_nil, decide_eq_false hln]; rfl) ?_
        have hpc := R.pc
        have hpl : 0 < ln.length := List.length_pos_iff.mpr hln
        have hp : p < c.toNat := by omega
        refine ⟨fun σ' H' => ∃ v6 v7 v8 v9 kvs ln fs, σ' = [some (.ref aS), some (.ref aT), some (.ref aO), some (.ref D), some (.ref dl), some (.ref df), v6, v7, v8, v9] ∧ RInv H c D dl df (p + 1) 0 kvs ln fs H', ?_, ?_⟩
        · rintro σ' H' ⟨v6, v7, v8, v9, kvs', ln', fs', e, R'⟩
          exact ⟨c.toNat - (p + 1), by omega, v6, v7, v8, v9, p + 1, kvs', ln', fs', e, R', rfl⟩
        -- outs[line.pop()]
        obtain ⟨n, hn⟩ : ∃ n, ln[ln.length - 1]? = some n := ⟨_, List.getElem?_eq_getElem (by omega)⟩
        have hnm := R.li n (List.mem_of_getElem? hn)
        obtain ⟨jn, rfl⟩ : ∃ jn : Nat, n = (jn : Int) := ⟨n.toNat, by omega⟩
        have hjl : jn < ts.length := by omega
        have hl : ts[jn]? = some ts[jn] := List.getElem?_eq_getElem hjl
        refine ⟨_, rfl, _, rfl, .inl ⟨rfl, _, SqL.of (sb _ _ R.hl)⟩, dl, ln.map V.int, .int (jn : Int), rfl, rfl, sb _ _ R.hl, by rw [List.length_map, List.getElem?_map, hn]; rfl, ?_⟩
        have sp : Same H (upd (upd H2 b (.lst [])) dl (.lst ((ln.map V.int).dropLast))) := fun x o e => by
          rw [upd_ne (fun z => by rw [z, hdl0] at e; cases e)]
          exact sb _ _ (R.sm _ _ e)
        refine ⟨aO, _, (jn : Int), .ref ts[jn], rfl, rfl, Same.sqt sp hO, atI_nat (by rw [List.getElem?_map, hl]; rfl), ?_⟩
        have hlot := hts jn _ hl
        have hol := outAt_len ss ss.length jn
        have nfl : df ≠ dl := fun z => nlf z.symm
        have hfd : (upd (upd H2 b (.lst [])) dl (.lst ((ln.map V.int).dropLast))) df = some (.lst (fs.map V.int)) := by rw [upd_ne nfl]; exact sb _ _ R.hf
        refine ⟨_, rfl, .inl ⟨rfl, _, SqL.of hfd⟩, _, rfl, df, ts[jn], fs.map V.int, _, rfl, rfl, hfd, Same.sqt sp hlot, ?_, ?_⟩
        · rw [List.length_map, List.length_map]
          have := R.fl
          exact Nat.le_of_lt (big_len' (by omega))
        · have R2 : RInv H c D dl df (p + 1) 0 kvs ln.dropLast (fs ++ outAt ss ss.length jn) (upd (upd (upd H2 b (.lst [])) dl (.lst ((ln.map V.int).dropLast))) df (.lst (fs.map V.int ++ (outAt ss ss.length jn).map V.int))) :=
            { sm := fun x o e => by rw [upd_ne (fun z => by rw [z, hdf0] at e; cases e)]; exact sp _ _ e
              hk := by rw [upd_ne nDf, upd_ne nDl]; exact sb _ _ R.hk
              hl := by rw [upd_ne nlf, upd_same, List.map_dropLast]
              hf := by rw [upd_same, List.map_append]
              ki := R.ki
              li := fun n hn => R.li n ((List.dropLast_sublist ln).subset hn)
              pc := by rw [List.length_dropLast]; omega
              fl := by rw [List.length_append]; have := R.fl; omega }
          generalize (upd (upd (upd H2 b (.lst [])) dl (.lst ((ln.map V.int).dropLast))) df (.lst (fs.map V.int ++ (outAt ss ss.length jn).map V.int))) = H5 at R2
          have hlot5 := Same.sqt R2.sm hlot
          refine ⟨_, rfl, ts[jn], rfl, ⟨_, hlot5⟩, ?_⟩
          refine for_it walk_tup (fun i σ H' => ∃ v7 v8 kvs ln fs, σ = [some (.ref aS), some (.ref aT), some (.ref aO), some (.ref D), some (.ref dl), some (.ref df), some (.ref ts[jn]), v7, v8, v9] ∧ RInv H c D dl df (p + 1) 0 kvs ln fs H') ⟨_, _, _, _, _, rfl, R2⟩
            (fun i σ H' _ ⟨_, _, _, _, _, _, R'⟩ => Same.sqt R'.sm hlot) (fun i x σ H6 H7 hi ⟨v7, v8, kvs, ln, fs, e, R'⟩ ⟨eH, hx⟩ => ?_) fun σ H6 ⟨v7, v8, kvs, ln, fs, e, R'⟩ => ⟨_, _, _, _, _, _, _, e, R'⟩
          subst e eH
          obtain ⟨n, hn, rfl⟩ := get_map hx
          have hnb := outAt_mem (List.mem_of_getElem? hn)
          obtain ⟨kn, rfl⟩ : ∃ kn : Nat, n = (kn : Int) := ⟨n.toNat, by omega⟩
          have hkn : kn < vsts.length := by omega
          have hv : vsts[kn]? = some vsts[kn] := List.getElem?_eq_getElem hkn
          obtain ⟨sp, g1, a2, b2, hva, h2', h3'⟩ := paired_at hP hv
          have htb := hto sp (List.mem_of_getElem? g1)
          refine ⟨_, rfl, _, rfl, aT, _, (kn : Int), _, rfl, rfl, Same.sqt R'.sm hT, atI_nat hv, a2, _, 1, _, hva, rfl, Same.sqt R'.sm h2', rfl, ?_⟩
          refine ⟨_, rfl, _, rfl, D, _, rfl, DGet.k (k := .inl sp.tgt) R'.hk, _, rfl, ?_⟩
          cases hv : valV kvs (.inl sp.tgt) with
          | some v => exact if_f rfl ⟨_, _, _, _, _, rfl, R'⟩
          | none =>
            refine if_t rfl ?_
            have hkl := keys_len R'.ki
            refine ⟨_, rfl, _, rfl, D, _, rfl, DPut.k (k := .inl sp.tgt) R'.hk (big_len (by omega)), ?_⟩
            obtain ⟨p1, p2⟩ := keys_put (v := .bl true) R'.ki hv htb.1 (by omega)
            have hD0 : H D = none := hD
            have hdl' : (upd H7 D (.dK (putK kvs (.inl sp.tgt) (.bl true)))) dl = some (.lst (ln.map V.int)) := by rw [upd_ne nDl.symm]; exact R'.hl
            refine ⟨_, rfl, .inl ⟨rfl, _, SqL.of hdl'⟩, _, rfl, dl, _, _, rfl, rfl, hdl', ?_, ?_⟩
            · rw [List.length_map]
              have := R'.pc
              exact big_len (by omega)
            · refine ⟨_, _, _, ln ++ [sp.tgt], fs, rfl, { sm := fun x o e => ?_, hk := ?_, hl := ?_, hf := ?_, ki := p1, li := fun n hn => ?_, pc := ?_, fl := R'.fl }⟩
              · rw [upd_ne (fun z => by rw [z, hdl0] at e; cases e), upd_ne (fun z => by rw [z, hD0] at e; cases e)]
                exact R'.sm _ _ e
              · rw [upd_ne nDl, upd_same]
              · rw [upd_same, List.map_append]; rfl
              · rw [upd_ne nfl, upd_ne nDf.symm]; exact R'.hf
              · rcases List.mem_append.mp hn with q | q
                · exact R'.li n q
                · rw [List.mem_singleton.mp q]; exact ⟨htb.1, by omega⟩
              · rw [List.length_append, p2]
                have := R'.pc
                show p + 1 + (ln.length + 1) = _
                omega
end
end K53
namespace K53
open PySem L2 RZ Own
abbrev s_BadGraph___init__ : Stmt := inClass (top 5) 0
abbrev s_BadName___init__ : Stmt := inClass (top 3) 0
abbrev s_BadNumber___init__ : Stmt := inClass (top 4) 0
abbrev s_TooMany___init__ : Stmt := inClass (top 10) 0
theorem sc_BadGraph___init__ : FnScope ["self", "part"] ["self", "part"] (defScope s_BadGraph___init__) := ⟨rfl, rfl, rfl, by decide +kernel, rfl, by decide +kernel, by decide +kernel⟩
theorem sc_BadName___init__ : FnScope ["self", "value"] ["self", "value"] (defScope s_BadName___init__) := ⟨rfl, rfl, rfl, by decide +kernel, rfl, by decide +kernel, by decide +kernel⟩
theorem sc_BadNumber___init__ : FnScope ["self", "value"] ["self", "value"] (defScope s_BadNumber___init__) := ⟨rfl, rfl, rfl, by decide +kernel, rfl, by decide +kernel, by decide +kernel⟩
theorem sc_TooMany___init__ : FnScope ["self", "what", "most"] ["self", "what", "most"] (defScope s_TooMany___init__) := ⟨rfl, rfl, rfl, by decide +kernel, rfl, by decide +kernel, by decide +kernel⟩
/-- an own exception class -/
structure ExTxt (K : PySem.W.Frag) (mg : Str → Option Value) (x : Str) (C fI : Addr) (fs : List Str) : Prop where
  g : mg x = some (.ref C)
  T : OexC K C
  iC : PySem.W.findIn K (.ref C) "__init__" = some (some (.ref fI))
  tI : PySem.W.typeIn K (.ref fI) = some (.type "function")
  no : ∀ f ∈ fs, PySem.W.findIn K (.ref C) f = some none
section
variable {P : Program} {w : World} {K : PySem.W.Frag} {mg : Str → Option Value} {base : Heap}
def spInit1 (K : PySem.W.Frag) (f : Str) : Sp := fun vs H Q _ => ∃ a C v, vs = [.ref a, v] ∧ OexC K C ∧ PySem.W.findIn K (.ref C) f = some none ∧ H a = some (exo a C none) ∧ ∀ dx, H dx = none → dx ≠ a → Q .non (upd (upd H dx (exd dx [(f, v)])) a (exo a C (some dx)))
def spInit2 (K : PySem.W.Frag) (f g : Str) : Sp := fun vs H Q _ => ∃ a C v z, vs = [.ref a, v, z] ∧ OexC K C ∧ PySem.W.findIn K (.ref C) f = some none ∧ PySem.W.findIn K (.ref C) g = some none ∧ H a = some (exo a C none) ∧
  ∀ dx, H dx = none → dx ≠ a → Q .non (upd (upd (upd H dx (exd dx [(f, v)])) a (exo a C (some dx))) dx (exd dx [(g, z), (f, v)]))
theorem ok_init_BadGraph {f : Addr} {fd : FuncData} (F : Fun K "__init__" "BadGraph.__init__" s_BadGraph___init__ f fd) : FnOk P w K mg base CX0 1 f fd ["self", "part"] (spInit1 K "part") := by
  refine F.ok sc_BadGraph___init__ (fun vs H Q E h => ?_) (fun cdv A outer s H vs Q E hr h => ?_)
  · obtain ⟨_, _, _, rfl, _⟩ := h; rfl
  · obtain ⟨a, C, v, rfl, T, no, ha, k⟩ := h
    refine ⟨_, pss_one (ps_ost (pv 0) (pv 1)), ?_⟩
    exact ⟨_, rfl, _, rfl, a, C, rfl, T, no, .inl ⟨ha, fun dx h1 h2 => k dx h1 h2⟩⟩
theorem ok_init_BadName {f : Addr} {fd : FuncData} (F : Fun K "__init__" "BadName.__init__" s_BadName___init__ f fd) : FnOk P w K mg base CX0 1 f fd ["self", "value"] (spInit1 K "value") := by
  refine F.ok sc_BadName___init__ (fun vs H Q E h => ?_) (fun cdv A outer s H vs Q E hr h => ?_)
  · obtain ⟨_, _, _, rfl, _⟩ := h; rfl
  · obtain ⟨a, C, v, rfl, T, no, ha, k⟩ := h
    refine ⟨_, pss_one (ps_ost (pv 0) (pv 1)), ?_⟩
    exact ⟨_, rfl, _, rfl, a, C, rfl, T, no, .inl ⟨ha, fun dx h1 h2 => k dx h1 h2⟩⟩
theorem ok_init_BadNumber {f : Addr} {fd : FuncData} (F : Fun K "__init__" "BadNumber.__init__" s_BadNumber___init__ f fd) : FnOk P w K mg base CX0 1 f fd ["self", "value"] (spInit1 K "value") := by
  refine F.ok sc_BadNumber___init__ (fun vs H Q E h => ?_) (fun cdv A outer s H vs Q E hr h => ?_)
  · obtain ⟨_, _, _, rfl, _⟩ := h; rfl
  · obtain ⟨a, C, v, rfl, T, no, ha, k⟩ := h
    refine ⟨_, pss_one (ps_ost (pv 0) (pv 1)), ?_⟩
    exact ⟨_, rfl, _, rfl, a, C, rfl, T, no, .inl ⟨ha, fun dx h1 h2 => k dx h1 h2⟩⟩
theorem ok_init_TooMany {f : Addr} {fd : FuncData} (F : Fun K "__init__" "TooMany.__init__" s_TooMany___init__ f fd) : FnOk P w K mg base CX0 1 f fd ["self", "what", "most"] (spInit2 K "what" "most") := by
  refine F.ok sc_TooMany___init__ (fun vs H Q E h => ?_) (fun cdv A outer s H vs Q E hr h => ?_)
  · obtain ⟨_, _, _, _, rfl, _⟩ := h; rfl
  · obtain ⟨a, C, v, z, rfl, T, no, no2, ha, k⟩ := h
    refine ⟨_, pss_cons (ps_ost (pv 0) (pv 1)) (pss_one (ps_ost (pv 0) (pv 2))), ?_⟩
    refine ⟨_, rfl, _, rfl, a, C, rfl, T, no, .inl ⟨ha, fun dx h1 h2 => ?_⟩⟩
    exact ⟨_, rfl, _, rfl, a, C, rfl, T, no2, .inr ⟨dx, [("what", v)], upd_same, by rw [upd_ne h2, upd_same], show (1 : Nat) ≤ 900 by decide, k dx h1 h2⟩⟩
end
section
variable {X : Cx} {x : Str} {C fI : Addr} {fd : FuncData} {p pos pos2 : Pos} {e e2 : Expr} {ta : TA} {W : WX}
/-- raise C(v) -/
def tRaise1 (C : Addr) (W : WX) (f : Str) (ta : TA) : TS := fun _ σ H => ta σ H fun vs H1 => ∃ v, vs = [v] ∧ ∀ d, H1 d = none → W (.ref C) (some d) σ (upd H1 d (.xd [(f, v)]))
def tRaise2 (C : Addr) (W : WX) (f g : Str) (ta : TA) : TS := fun _ σ H => ta σ H fun vs H1 => ∃ v z, vs = [v, z] ∧ ∀ d, H1 d = none → W (.ref C) (some d) σ (upd H1 d (.xd [(g, z), (f, v)]))
theorem del_upd1 {H1 : Hp} {a d : Addr} {x y z : HO} (ha : H1 a = none) (hd : d ≠ a) : upd (del (upd (upd (upd H1 a x) d y) a z) a) d w = upd H1 d w := by
  funext b
  by_cases h1 : b = d
  · rw [h1, upd_same, upd_same]
  · rw [upd_ne h1, upd_ne h1]
    by_cases h2 : b = a
    · rw [h2, del_same, ha]
    · rw [del_ne h2, upd_ne h2, upd_ne h1, upd_ne h2]
theorem del_upd2 {H1 : Hp} {a d : Addr} {x y z u : HO} (ha : H1 a = none) (hd : d ≠ a) : upd (del (upd (upd (upd (upd H1 a x) d y) a z) d u) a) d w = upd H1 d w := by
  funext b
  by_cases h1 : b = d
  · rw [h1, upd_same, upd_same]
  · rw [upd_ne h1, upd_ne h1]
    by_cases h2 : b = a
    · rw [h2, del_same, ha]
    · rw [del_ne h2, upd_ne h1, upd_ne h2, upd_ne h1, upd_ne h2]
/-- a promise that says more -/
def TaMono (ta : TA) : Prop := ∀ (σ : L2.St) (H : Hp) (Q Q' : List V → Hp → Prop), (∀ vs H1, Q vs H1 → Q' vs H1) → ta σ H Q → ta σ H Q'
def TeMono (te : TE) : Prop := ∀ (σ : L2.St) (H : Hp) (Q Q' : VK), (∀ v H1, Q v H1 → Q' v H1) → te σ H Q → te σ H Q'
theorem tem_var {i : Nat} : TeMono (tVar i) := fun _ _ _ _ k ⟨v, h, q⟩ => ⟨v, h, k _ _ q⟩
theorem tem_c {v : V} : TeMono (tC v) := fun _ _ _ _ k q => k _ _ q
theorem tam_nil : TaMono tNil := fun _ _ _ _ k q => k _ _ q
theorem tam_cons {te : TE} {t : TA} (h : TeMono te) (h2 : TaMono t) : TaMono (tCons te t) := fun σ H Q Q' k q => h σ H _ _ (fun v H1 q2 => h2 σ H1 _ _ (fun vs H2 q3 => k _ _ q3) q2) q
theorem ps_raise1 {f : Str} {ps : List Str} (hc : X.calm = true) (T : ExTxt X.K X.mg x C fI [f]) (F : ∀ base, FnOk X.prog X.w X.K X.mg base CX0 1 fI fd ps (spInit1 X.K f)) (hb : Binds X.K fd ps []) (hr : Room 2 X.A) (tk : Takes X W) (ha : PA X [e] ta) (hm : TaMono ta) (hg : Gl X x := by rfl)
    (hdb : (x == ("__debug__" : Str)) = false := by decide) (he : starEach (e :: []) X.env = (false, eval e X.env) :: starEach [] X.env := by rfl) (hpl : (backTo pos (starEach [] X.env)).any (·.1) = false := by rfl) :
    PS X (.Raise (some (.Call (.Name x p) [e] [] pos)) none pos2) (tRaise1 C W f ta) := by
  have h := ps_raise (pos := pos2) hc tk (pmk_oex (p := p) (pos := pos) T.T T.iC T.tI (F X.base) hr hb .nil pass0 hg T.g ha hdb he hpl)
  refine ⟨fun pins s σ H D I q => h.run pins s σ H D I ?_⟩
  refine hm σ H _ _ (fun vs H1 ⟨v, ev, k⟩ => ?_) q
  subst ev
  refine ⟨show (1 : Nat) ≤ 1000 by decide, fun a ha => ⟨a, C, v, rfl, T.T, T.no f (by simp), upd_same, fun dx h1 h2 => ?_⟩⟩
  rw [upd_ne h2] at h1
  refine ⟨rfl, dx, [(f, v)], upd_same, by rw [upd_ne h2, upd_same], h1, ?_⟩
  rw [del_upd1 ha h2]
  exact k dx h1
theorem ps_raise2 {f g : Str} {ps : List Str} (hc : X.calm = true) (T : ExTxt X.K X.mg x C fI [f, g]) (F : ∀ base, FnOk X.prog X.w X.K X.mg base CX0 1 fI fd ps (spInit2 X.K f g)) (hb : Binds X.K fd ps []) (hr : Room 2 X.A) (tk : Takes X W) (ha : PA X (e :: [e2]) ta) (hm : TaMono ta) (hg : Gl X x := by rfl)
    (hdb : (x == ("__debug__" : Str)) = false := by decide) (he : starEach (e :: [e2]) X.env = (false, eval e X.env) :: starEach [e2] X.env := by rfl) (hpl : (backTo pos (starEach [e2] X.env)).any (·.1) = false := by rfl) :
    PS X (.Raise (some (.Call (.Name x p) [e, e2] [] pos)) none pos2) (tRaise2 C W f g ta) := by
  have h := ps_raise (pos := pos2) hc tk (pmk_oex (p := p) (pos := pos) T.T T.iC T.tI (F X.base) hr hb .nil pass0 hg T.g ha hdb he hpl)
  refine ⟨fun pins s σ H D I q => h.run pins s σ H D I ?_⟩
  refine hm σ H _ _ (fun vs H1 ⟨v, z, ev, k⟩ => ?_) q
  subst ev
  refine ⟨show (2 : Nat) ≤ 1000 by decide, fun a ha => ⟨a, C, v, z, rfl, T.T, T.no f (by simp), T.no g (by simp), upd_same, fun dx h1 h2 => ?_⟩⟩
  rw [upd_ne h2] at h1
  refine ⟨rfl, dx, [(g, z), (f, v)], by rw [upd_ne (Ne.symm h2), upd_same], upd_same, h1, ?_⟩
  rw [del_upd2 ha h2]
  exact k dx h1
end
end K53
namespace Own
open PySem L2 RZ
section
variable {J : It} {n : Nat} {G : Hp → Prop} {Y : Nat → Hp → V → Hp → Prop}
/-- a dict comprehension over any walk -/
theorem dc_it (w : Walk J n G Y) {g : TG} {tt : TT} {tk tv : TE} {vs : List Nat} {σ : St} {H1 : Hp} {D : Addr} {Qd : Hp → Prop} (Pv : Nat → Hp → Prop) (h0 : Pv 0 (upd H1 D (.dK []))) (hG : ∀ i H, i ≤ n → Pv i H → G H)
    (hs : ∀ i x H H', i < n → Pv i H → Y i H x H' → g x (wipe σ vs) H' fun σ2 H2 => wipe σ2 vs = wipe σ vs ∧ tt σ2 H2 fun b H3 =>
      if b = true then tk σ2 H3 fun y H4 => tv σ2 H4 fun z H5 => ∃ kvs k, y = kV k ∧ H5 D = some (.dK kvs) ∧ kvs.length < sizeLine ∧ Pv (i + 1) (upd H5 D (.dK (putK kvs k z))) else Pv (i + 1) H3) (hd : ∀ H, Pv n H → Qd H) :
    ∃ W : Nat → Nat → Hp → Prop, (∃ m, W 0 m (upd H1 D (.dK []))) ∧ ∀ i m H, W i m H →
      (J.stop i H ∧ Qd H) ∨ (J.go i H ∧ ∃ Nx : Hp → Prop, (∀ H', Nx H' → ∃ m', m' < m ∧ W (i + 1) m' H') ∧ ∀ x H', J.yld i H x H' → g x (wipe σ vs) H' fun σ2 H2 => wipe σ2 vs = wipe σ vs ∧ tt σ2 H2 fun b H3 =>
        if b = true then tk σ2 H3 fun y H4 => tv σ2 H4 fun z H5 => ∃ kvs k, y = kV k ∧ H5 D = some (.dK kvs) ∧ kvs.length < sizeLine ∧ Nx (upd H5 D (.dK (putK kvs k z))) else Nx H3) := by
  refine ⟨fun i m H => m = n - i ∧ i ≤ n ∧ Pv i H, ⟨n, by simp, Nat.zero_le _, h0⟩, ?_⟩
  rintro i m H ⟨rfl, hi, p⟩
  have q := hG i H hi p
  by_cases hlt : i < n
  · refine .inr ⟨w.goes i H hlt q, Pv (i + 1), fun H' p' => ⟨n - (i + 1), by omega, rfl, hlt, p'⟩, fun x H' y => hs i x H H' hlt p (w.yields i H x H' hlt q y)⟩
  · have e : i = n := by omega
    subst e
    exact .inl ⟨w.stops H q, hd H p⟩
end
/-- a method of a class of ours -/
structure MDef (P : Program) (w : World) (K : PySem.W.Frag) (mg : Str → Option Value) (base : Heap) (CX : CXT) (k : Nat) (C : Addr) (m : Str) (ps : List Str) (sp : Sp) : Prop where
  c : Cls K C
  ex : ∃ (f : Addr) (fd : FuncData), Meth K C m f ∧ Binds K fd ps [] ∧ FnOk P w K mg base CX k f fd ps sp
structure CDef (P : Program) (w : World) (K : PySem.W.Frag) (mg : Str → Option Value) (base : Heap) (CX : CXT) (k : Nat) (x : Str) (C : Addr) (ps : List Str) (sp : Sp) : Prop where
  g : mg x = some (.ref C)
  ex : ∃ (f : Addr) (fd : FuncData), Mk K C f ∧ Binds K fd ps [] ∧ FnOk P w K mg base CX k f fd ps sp
structure PDef (P : Program) (w : World) (K : PySem.W.Frag) (mg : Str → Option Value) (base : Heap) (CX : CXT) (k : Nat) (C : Addr) (m : Str) (ps : List Str) (sp : Sp) : Prop where
  c : Cls K C
  ex : ∃ (p f : Addr) (fd : FuncData), PropOf K C m p f ∧ Binds K fd ps [] ∧ FnOk P w K mg base CX k f fd ps sp
def tM (C : Addr) (m : Str) (sp : Sp) (E : XK) (ta : TE) (t : TA) : TE := fun σ H Q => ta σ H fun x H1 => ∃ a dx fs, x = .ref a ∧ H1 a = some (.ins C dx fs) ∧ fs.lookup m = none ∧ t σ H1 fun vs H2 => sp (x :: vs) H2 Q E
def tMk (C : Addr) (sp : Sp) (E : XK) (t : TA) : TE := fun σ H Q => t σ H fun vs H1 => ∀ x dx, H1 x = none → H1 dx = none → dx ≠ x →
  sp (.ref x :: vs) (upd (upd H1 dx (.own x)) x (.ins C dx [])) (fun v H2 => v = .non ∧ Q (.ref x) H2) E
def tPr (C : Addr) (sp : Sp) (E : XK) (ta : TE) : TE := fun σ H Q => ta σ H fun x H1 => ∃ a dx fs, x = .ref a ∧ H1 a = some (.ins C dx fs) ∧ sp [.ref a] H1 Q E
section
variable {X : Cx} {CX : CXT} {k : Nat} {C : Addr} {m : Str} {ps : List Str} {sp : Sp} {E : XK} {p pos apos : Pos} {e o : Expr} {es : List Expr} {t : TA} {ta : TE}
theorem pe_md {pl : Sem Bool} (D : MDef X.prog X.w X.K X.mg X.base CX k C m ps sp) (ho : PE X o ta) (hr : Room k X.A) (hx : Passes CX X E) (ha : PA X (e :: es) t)
    (hst : starEach (e :: es) X.env = (false, eval e X.env) :: starEach es X.env := by rfl) (hpl : (backTo pos (starEach es X.env)).any (·.1) = false := by rfl)
    (ht : eval (.Call (.Attribute o m apos) (e :: es) [] pos) X.env = (do
      let ov ← eval o X.env
      standAt apos.atName
      let (f, first) ← holding [ov] (getMethod ov m pl)
      callWith pos f first (backTo pos (starEach (e :: es) X.env)) (backToKw pos (keywordEach [] X.env))) := by rfl) :
    PE X (.Call (.Attribute o m apos) (e :: es) [] pos) (tM C m sp E ta t) := by
  obtain ⟨f, fd, hm, hb, F⟩ := D.ex
  refine PE.re (pe_meth (pl := pl) ho D.c hm F hr hb .nil hx ha hst hpl ht) fun σ H Q h => ?_
  have e : (fun (x : V) (H1 : Hp) => ∃ a dx fs, x = .ref a ∧ H1 a = some (.ins C dx fs) ∧ fs.lookup m = none ∧ t σ H1 fun vs H2 => sp (x :: (vs ++ [])) H2 Q E) = fun x H1 => ∃ a dx fs, x = .ref a ∧ H1 a = some (.ins C dx fs) ∧ fs.lookup m = none ∧ t σ H1 fun vs H2 => sp (x :: vs) H2 Q E := by
    simp only [List.append_nil]
  exact (congrArg (ta σ H) e).mpr h
theorem pe_mkd {x : Str} (D : CDef X.prog X.w X.K X.mg X.base CX k x C ps sp) (hr : Room (k + 1) X.A) (hx : Passes CX X E) (ha : PA X (e :: es) t) (hg : Gl X x := by rfl)
    (hdb : (x == ("__debug__" : Str)) = false := by decide) (he : starEach (e :: es) X.env = (false, eval e X.env) :: starEach es X.env := by rfl) (hpl : (backTo pos (starEach es X.env)).any (·.1) = false := by rfl) :
    PE X (.Call (.Name x p) (e :: es) [] pos) (tMk C sp E t) := by
  obtain ⟨f, fd, hm, hb, F⟩ := D.ex
  refine PE.re (pe_make (p := p) (pos := pos) hm F hr hg D.g hb .nil hx ha hdb he hpl) fun σ H Q h => ?_
  have e : (fun (vs : List V) (H1 : Hp) => ∀ x dx, H1 x = none → H1 dx = none → dx ≠ x → sp (.ref x :: (vs ++ [])) (upd (upd H1 dx (.own x)) x (.ins C dx [])) (fun v H2 => v = .non ∧ Q (.ref x) H2) E) =
      fun vs H1 => ∀ x dx, H1 x = none → H1 dx = none → dx ≠ x → sp (.ref x :: vs) (upd (upd H1 dx (.own x)) x (.ins C dx [])) (fun v H2 => v = .non ∧ Q (.ref x) H2) E := by
    simp only [List.append_nil]
  exact (congrArg (t σ H) e).mpr h
theorem pe_prd (D : PDef X.prog X.w X.K X.mg X.base CX k C m ps sp) (ho : PE X o ta) (hr : Room (k + 1) X.A) (hx : Passes CX X.nox E) (hab : attributeBase o m X.env (eval o X.env) = eval o X.env := by rfl) :
    PE X (.Attribute o m pos) (tPr C sp E ta) := by
  obtain ⟨q, f, fd, hm, hb, F⟩ := D.ex
  exact pe_prop (dvs := []) ho D.c hm F hr hb .nil hx hab
end
end Own
namespace K53
open PySem L2 RZ Own
structure Ex1 (P : Program) (w : World) (K : PySem.W.Frag) (mg : Str → Option Value) (x : Str) (C : Addr) (f : Str) : Prop where
  ex : ∃ fI fd ps, ExTxt K mg x C fI [f] ∧ (∀ base, FnOk P w K mg base CX0 1 fI fd ps (spInit1 K f)) ∧ Binds K fd ps []
structure Ex2 (P : Program) (w : World) (K : PySem.W.Frag) (mg : Str → Option Value) (x : Str) (C : Addr) (f g : Str) : Prop where
  ex : ∃ fI fd ps, ExTxt K mg x C fI [f, g] ∧ (∀ base, FnOk P w K mg base CX0 1 fI fd ps (spInit2 K f g)) ∧ Binds K fd ps []
section
variable {X : Cx} {x : Str} {C : Addr} {p pos pos2 : Pos} {e e2 : Expr} {ta : TA} {W : WX} {f g : Str}
theorem ps_r1 (T : Ex1 X.prog X.w X.K X.mg x C f) (hr : Room 2 X.A) (tk : Takes X W) (ha : PA X [e] ta) (hm : TaMono ta) (hc : X.calm = true := by rfl) (hg : Gl X x := by rfl)
    (hdb : (x == ("__debug__" : Str)) = false := by decide) (he : starEach (e :: []) X.env = (false, eval e X.env) :: starEach [] X.env := by rfl) (hpl : (backTo pos (starEach [] X.env)).any (·.1) = false := by rfl) :
    PS X (.Raise (some (.Call (.Name x p) [e] [] pos)) none pos2) (tRaise1 C W f ta) := by
  obtain ⟨fI, fd, ps, h1, h2, h3⟩ := T.ex
  exact ps_raise1 hc h1 h2 h3 hr tk ha hm hg hdb he hpl
theorem ps_r2 (T : Ex2 X.prog X.w X.K X.mg x C f g) (hr : Room 2 X.A) (tk : Takes X W) (ha : PA X (e :: [e2]) ta) (hm : TaMono ta) (hc : X.calm = true := by rfl) (hg : Gl X x := by rfl)
    (hdb : (x == ("__debug__" : Str)) = false := by decide) (he : starEach (e :: [e2]) X.env = (false, eval e X.env) :: starEach [e2] X.env := by rfl) (hpl : (backTo pos (starEach [e2] X.env)).any (·.1) = false := by rfl) :
    PS X (.Raise (some (.Call (.Name x p) [e, e2] [] pos)) none pos2) (tRaise2 C W f g ta) := by
  obtain ⟨fI, fd, ps, h1, h2, h3⟩ := T.ex
  exact ps_raise2 hc h1 h2 h3 hr tk ha hm hg hdb he hpl
end
abbrev s_Graph___init__ : Stmt := inClass (top 44) 0
abbrev s_Graph_events : Stmt := inClass (top 44) 2
abbrev s_Graph_out : Stmt := inClass (top 44) 3
abbrev s_need_state : Stmt := top 43
theorem sc_Graph___init__ : FnScope ["self", "count", "starts", "steps", "measures", "events", "lots", "word"] ["self", "count", "starts", "steps", "measures", "events"] (defScope s_Graph___init__) := ⟨rfl, rfl, rfl, by decide +kernel, rfl, by decide +kernel, by decide +kernel⟩
theorem sc_Graph_events : FnScope ["self"] ["self"] (defScope s_Graph_events) := ⟨rfl, rfl, rfl, by decide +kernel, rfl, by decide +kernel, by decide +kernel⟩
theorem sc_Graph_out : FnScope ["self", "state"] ["self", "state"] (defScope s_Graph_out) := ⟨rfl, rfl, rfl, by decide +kernel, rfl, by decide +kernel, by decide +kernel⟩
theorem sc_need_state : FnScope ["graph", "value"] ["graph", "value"] (defScope s_need_state) := ⟨rfl, rfl, rfl, by decide +kernel, rfl, by decide +kernel, by decide +kernel⟩
structure Gr where
  count : Int
  starts : List Int
  meas : List Str
  steps : List Stp
  evs : List (Str × List Int)
def grFs (c : Int) (aS aT aM aL aO aR : Addr) : List (Str × V) := [("count", .int c), ("starts", .ref aS), ("steps", .ref aT), ("measures", .ref aM), ("lots", .ref aL), ("outs", .ref aO), ("reached", .ref aR)]
/-- the graph at a -/
def GrAt (K : PySem.W.Frag) (C : Addr) (H : Hp) (a : Addr) (g : Gr) : Prop := ∃ dx aS aT aM aL aO aR kvs, H a = some (.ins C dx (grFs g.count aS aT aM aL aO aR)) ∧ SqT K H aS (g.starts.map V.int) ∧ SqT K H aM (g.meas.map V.str) ∧ StpsAt K H aT g.steps ∧
  H aL = some (.dK kvs) ∧ EvRel K H kvs g.evs ∧ OutsAt K H aO g.count g.steps
theorem GrAt.mono {K : PySem.W.Frag} {C : Addr} {H H' : Hp} {a : Addr} {g : Gr} (h : GrAt K C H a g) (e : Same H H') : GrAt K C H' a g := by
  obtain ⟨dx, aS, aT, aM, aL, aO, aR, kvs, h1, h2, h3, h4, h5, h6, h7⟩ := h
  exact ⟨dx, aS, aT, aM, aL, aO, aR, kvs, e _ _ h1, Same.sqt e h2, Same.sqt e h3, h4.mono e, e _ _ h5, h6.mono fun _ _ q => Same.sqt e q, h7.mono e⟩
structure GrOk (g : Gr) : Prop where
  po : PartsOk g.count g.starts g.meas g.steps
  eo : EvsOk g.steps.length g.evs
  en : (g.evs.map (·.1)).Nodup
  el : g.evs.length ≤ 200
/-- what the written part says of the class -/
structure GrC (K : PySem.W.Frag) (C : Addr) : Prop where
  c : Cls K C
  ha : PySem.W.findIn K (.ref C) "__class__" = some (some (.builtin "object.__class__"))
  hn : PySem.W.specialIn K (.builtin "object.__class__") "__get__" = some (some (.builtin "getset_descriptor.__get__"))
  ht : PySem.W.takesIn K (.builtin "object.__class__") = some true
  hm : PySem.W.mroIn K C (.type "object") = some true
  kb : ∀ T ∈ (["NoneType", "int", "str", "tuple", "bool", "list"] : List String), PySem.W.kitOne K (.type T) (.ref C) = some false
  no : ∀ f ∈ (["count", "starts", "steps", "measures", "lots", "outs", "reached"] : List Str), NoAttr K C f
/-- isinstance(x, C) -/
def IsG (K : PySem.W.Frag) (C : Addr) (H : Hp) (x : V) (b : Bool) : Prop := ∃ t, TyX K H x t ∧ PySem.W.kitOne K t (.ref C) = some b
theorem GrAt.isG {K : PySem.W.Frag} {C : Addr} {H : Hp} {a : Addr} {g : Gr} (h : GrAt K C H a g) (R : GrC K C) : IsG K C H (.ref a) true := by
  obtain ⟨dx, aS, aT, aM, aL, aO, aR, kvs, h1, _⟩ := h
  exact ⟨.ref C, .base (.ins h1 R.c R.ha R.hn R.ht R.hm), by unfold PySem.W.kitOne; rw [if_pos (beq_self_eq_true _)]⟩
def tIsG (K : PySem.W.Frag) (C : Addr) (ta : TE) : TE := fun σ H Q => ta σ H fun x H1 => ∃ b, IsG K C H1 x b ∧ Q (.bl b) H1
theorem pe_isG {X : Cx} {C : Addr} {a : Expr} {ta : TE} {x : Str} {p p2 pos : Pos} (hm : X.mg x = some (.ref C)) (ha : PE X a ta) (hm0 : X.mg "isinstance" = none) (hg0 : Gl X "isinstance" := by rfl) (hg : Gl X x := by rfl) (hd : (x == ("__debug__" : Str)) = false := by decide)
    (he : starEach [a, .Name x p2] X.env = (false, eval a X.env) :: starEach [.Name x p2] X.env := by rfl) (he2 : starEach [.Name x p2] X.env = (false, eval (.Name x p2) X.env) :: starEach [] X.env := by rfl)
    (hpl : (backTo pos (starEach [.Name x p2] X.env)).any (·.1) = false := by rfl) :
    PE X (.Call (.Name "isinstance" p) [a, .Name x p2] [] pos) (tIsG X.K C ta) := by
  refine PE.re (pe_callB (X := X) (pos := pos) (p := p) call_isi hg0 hm0 (by decide +kernel) (pa_cons ha (pa_cons (pe_glob (v := .ref C) (pos := p2) hg hm rfl hd) pa_nil he2) he) (by decide) (by decide) he hpl) fun σ H Q h => ?_
  refine (show ta σ H _ from ?_)
  refine (show (fun x H1 => ∃ b, IsG X.K C H1 x b ∧ Q (.bl b) H1) = (fun x H1 => rIsi X.K [x, .ref C] H1 Q) from ?_) ▸ h
  funext x H1
  apply propext
  constructor
  · rintro ⟨b, ⟨t, h1, h2⟩, h3⟩
    exact ⟨x, .ref C, t, .ref C, b, rfl, .own C, h1, h2, h3⟩
  · rintro ⟨x', c, t, u, b, e, k, h1, h2, h3⟩
    cases e
    cases k
    exact ⟨b, ⟨t, h1, h2⟩, h3⟩
/-- all but x stays -/
def But (x : Addr) (H H' : Hp) : Prop := ∀ b o, b ≠ x → H b = some o → H' b = some o
theorem But.same {x : Addr} {H H1 H2 : Hp} (h : But x H H1) (s : Same H1 H2) : But x H H2 := fun b o n e => s _ _ (h b o n e)
theorem But.upd {x : Addr} {H H1 : Hp} {o : HO} (h : But x H H1) : But x H (upd H1 x o) := fun b u n e => by rw [upd_ne n]; exact h b u n e
theorem But.sqt {K : PySem.W.Frag} {x a : Addr} {H H' : Hp} {dx C : Addr} {fs : List (Str × V)} {xs : List V} (e : But x H H') (hx : H x = some (.ins C dx fs)) (h : SqT K H a xs) : SqT K H' a xs := by
  rcases h with (h | ⟨o, h⟩) | h
  · exact .inl (.inl (e _ _ (ne_of h hx (fun z => nomatch z)) h))
  · exact .inl (.inr ⟨o, e _ _ (ne_of h hx (fun z => nomatch z)) h⟩)
  · exact .inr h
section
variable {P : Program} {w : World} {K : PySem.W.Frag} {mg : Str → Option Value} {base : Heap}
def spNeedState (C : Addr) (K : PySem.W.Frag) : Sp := fun vs H Q _ => ∃ a g v, vs = [.ref a, .int v] ∧ GrAt K C H a g ∧ 0 ≤ v ∧ v ≤ g.count - 1 ∧ Q .non H
theorem ok_need_state {f C : Addr} {fd : FuncData} (F : Fun K "need_state" "need_state" s_need_state f fd) (T : Txt K mg) (R : GrC K C) (D_is_within : DefOk P w K mg base CX0 2 "is_within" ["value", "least", "most"] spIsWithin) : FnOk P w K mg base CX0 3 f fd ["graph", "value"] (spNeedState C K) := by
  refine F.ok sc_need_state (fun vs H Q E h => ?_) (fun cdv A outer s H vs Q E hr h => ?_)
  · obtain ⟨_, _, _, rfl, _⟩ := h; rfl
  · obtain ⟨a, g, v, rfl, ⟨dx, aS, aT, aM, aL, aO, aR, kvs, h1, _⟩, v0, v1, k⟩ := h
    refine ⟨_, (pss_one (ps_if (pt_not (pt_val (pe_d D_is_within (hr.mono (by decide)) pass0 (pa_cons (pv 1) (pa_cons pe_int (pa_cons (pe_op op_sub (fldK K (pv 0)) pe_int) pa_nil)))))) (pss_one ps_never) pss_nil)), ?_⟩
    refine ⟨_, rfl, _, rfl, a, C, dx, _, .int g.count, rfl, h1, R.c, R.no _ (by simp), rfl, _, _, rfl, rfl, _, _, _, rfl, ?_⟩
    rw [decide_eq_true (show 0 ≤ v ∧ v ≤ g.count - 1 from ⟨v0, v1⟩)]
    exact ⟨true, rfl, if_f rfl k⟩
def spOut (C : Addr) (K : PySem.W.Frag) : Sp := fun vs H Q _ => ∃ a g v, vs = [.ref a, .int (Nat.cast v)] ∧ GrAt K C H a g ∧ (v : Int) ≤ g.count - 1 ∧ ∀ p, SqT K H p ((outAt g.steps g.steps.length v).map V.int) → Q (.ref p) H
theorem ok_out {f C : Addr} {fd : FuncData} (F : Fun K "out" "Graph.out" s_Graph_out f fd) (T : Txt K mg) (R : GrC K C) (D_need_state : DefOk P w K mg base CX0 3 "need_state" ["graph", "value"] (spNeedState C K)) : FnOk P w K mg base CX0 4 f fd ["self", "state"] (spOut C K) := by
  refine F.ok sc_Graph_out (fun vs H Q E h => ?_) (fun cdv A outer s H vs Q E hr h => ?_)
  · obtain ⟨_, _, _, rfl, _⟩ := h; rfl
  · obtain ⟨a, g, v, rfl, hg, v1, k⟩ := h
    refine ⟨_, (pss_cons (ps_expr (pe_d D_need_state (hr.mono (by decide)) pass0 (pa_cons (pv 0) (pa_cons (pv 1) pa_nil))))
  (pss_one (ps_ret (pe_ix (ix_tupK K) (fldK K (pv 0)) (pv 1) (fun _ _ => rfl))))), ?_⟩
    refine ⟨_, rfl, _, rfl, a, g, v, rfl, hg, Int.natCast_nonneg v, v1, ?_⟩
    obtain ⟨dx, aS, aT, aM, aL, aO, aR, kvs, h1, h2, h3, h4, h5, h6, ⟨ts, o1, o2, o3⟩⟩ := hg
    have hl : v < ts.length := by omega
    refine ⟨_, rfl, a, C, dx, _, .ref aO, rfl, h1, R.c, R.no _ (by simp), rfl, _, rfl, aO, _, _, .ref ts[v], rfl, rfl, o1, ?_, ?_⟩
    · exact atI_nat (by rw [List.getElem?_map, List.getElem?_eq_getElem hl]; rfl)
    · exact k _ (o3 v _ (List.getElem?_eq_getElem hl))
def spEvents (C : Addr) (K : PySem.W.Frag) : Sp := fun vs H Q _ => ∃ a g, vs = [.ref a] ∧ GrAt K C H a g ∧ ∀ p kvs, H p = none → EvRel K H kvs g.evs → Q (.ref p) (upd H p (.dK kvs))
theorem ok_events {f C : Addr} {fd : FuncData} (F : Fun K "events" "Graph.events" s_Graph_events f fd) (T : Txt K mg) (R : GrC K C) : FnOk P w K mg base CX0 1 f fd ["self"] (spEvents C K) := by
  refine F.ok sc_Graph_events (fun vs H Q E h => ?_) (fun cdv A outer s H vs Q E hr h => ?_)
  · obtain ⟨_, _, rfl, _⟩ := h; rfl
  · obtain ⟨a, g, rfl, ⟨dx, aS, aT, aM, aL, aO, aR, kvs, h1, h2, h3, h4, h5, h6, h7⟩, k⟩ := h
    refine ⟨_, (pss_one (ps_ret (pe_callTy call_dictD (by rfl) T.n_dict (by decide +kernel) (pa_cons (fldK K (pv 0)) pa_nil)))), ?_⟩
    exact ⟨_, rfl, a, C, dx, _, .ref aL, rfl, h1, R.c, R.no _ (by simp), rfl, aL, kvs, rfl, .inl h5, fun p hp => k p kvs hp h6⟩
end
end K53
namespace K53
open PySem L2 RZ Own
section
variable {P : Program} {w : World} {K : PySem.W.Frag} {mg : Str → Option Value} {base : Heap}
theorem evrel_keys {H : Hp} : ∀ {kvs : List (Key × V)} {es : List (Str × List Int)}, EvRel K H kvs es → kvs.map (fun kv => kV kv.1) = (es.map (·.1)).map V.str
  | _, _, .nil => rfl
  | _, _, .cons ⟨h1, _⟩ t => by
    rw [List.map_cons, List.map_cons, List.map_cons, evrel_keys t, h1]
    rfl
theorem evrel_snoc {H : Hp} : ∀ {kvs : List (Key × V)} {es : List (Str × List Int)} {kv : Key × V} {e : Str × List Int}, EvRel K H kvs es → (kv.1 = Sum.inr e.1 ∧ ∃ a, kv.2 = .ref a ∧ SqT K H a (e.2.map V.int)) → EvRel K H (kvs ++ [kv]) (es ++ [e])
  | _, _, _, _, .nil, h => .cons h .nil
  | _, _, _, _, .cons h1 t, h => .cons h1 (evrel_snoc t h)
theorem evrel_fst {H : Hp} : ∀ {kvs : List (Key × V)} {es : List (Str × List Int)}, EvRel K H kvs es → kvs.map (·.1) = (es.map (·.1)).map Sum.inr
  | _, _, .nil => rfl
  | _, _, .cons ⟨h1, _⟩ t => by
    rw [List.map_cons, List.map_cons, List.map_cons, evrel_fst t, h1]
theorem evrel_get {H : Hp} {kvs : List (Key × V)} {es : List (Str × List Int)} (h : EvRel K H kvs es) {x : Str} (hx : x ∈ es.map (·.1)) : ∃ v a ns, valV kvs (.inr x) = some v ∧ v = .ref a ∧ SqT K H a (ns.map V.int) ∧ (x, ns) ∈ es := by
  obtain ⟨e, he, rfl⟩ := List.mem_map.mp hx
  have hm : (Sum.inr e.1 : Key) ∈ kvs.map (·.1) := by
    rw [evrel_fst h]
    exact List.mem_map.mpr ⟨e.1, hx, rfl⟩
  obtain ⟨kv, hkv, hk⟩ := List.mem_map.mp hm
  obtain ⟨v, h1, h2⟩ := valV_mem (k := kv.1) (v0 := kv.2) hkv
  obtain ⟨e2, he2, g1, a, g2, g3⟩ := paired_mem h h2
  have hk' : kv.1 = Sum.inr e.1 := hk
  rw [hk'] at h1 g1
  have e12 : e.1 = e2.1 := Sum.inr.inj g1
  exact ⟨v, a, e2.2, h1, g2, g3, by rw [e12]; exact he2⟩
theorem StpsAt.but {x a C dx : Addr} {fs : List (Str × V)} {H H' : Hp} {ss : List Stp} (h : StpsAt K H a ss) (e : But x H H') (hx : H x = some (.ins C dx fs)) : StpsAt K H' a ss := by
  obtain ⟨vs, h1, h2⟩ := h
  exact ⟨vs, e.sqt hx h1, Paired.mapP h2 fun _ _ ⟨a, b, q1, q2, q3⟩ => ⟨a, b, q1, e.sqt hx q2, e.sqt hx q3⟩⟩
theorem OutsAt.but {x p C dx : Addr} {fs : List (Str × V)} {H H' : Hp} {c : Int} {ss : List Stp} (h : OutsAt K H p c ss) (e : But x H H') (hx : H x = some (.ins C dx fs)) : OutsAt K H' p c ss := by
  obtain ⟨ts, h1, h2, h3⟩ := h
  exact ⟨ts, e.sqt hx h1, h2, fun j t q => e.sqt hx (h3 j t q)⟩
def gf4 (c : Int) (aS aT aM : Addr) : List (Str × V) := [("count", .int c), ("starts", .ref aS), ("steps", .ref aT), ("measures", .ref aM)]
def gf5 (c : Int) (aS aT aM aL : Addr) : List (Str × V) := [("count", .int c), ("starts", .ref aS), ("steps", .ref aT), ("measures", .ref aM), ("lots", .ref aL)]
def gf6 (c : Int) (aS aT aM aL aO : Addr) : List (Str × V) := [("count", .int c), ("starts", .ref aS), ("steps", .ref aT), ("measures", .ref aM), ("lots", .ref aL), ("outs", .ref aO)]
def tooMany (what : Str) (most : Int) (CT : Addr) (E : XK) (ok : Hp → Prop) : Prop := ∀ d H', ok H' → H' d = some (.xd [("most", .int most), ("what", .str what)]) → E (.ref CT) (some d) H'
def spGraph (C CT : Addr) (K : PySem.W.Frag) : Sp := fun vs H Q E => ∃ x dx aS aM aT aE c st zs ss kvs es, vs = [.ref x, .int c, .ref aS, .ref aT, .ref aM, .ref aE] ∧ H x = some (.ins C dx []) ∧ SqT K H aS (st.map V.int) ∧ SqT K H aM (zs.map V.str) ∧ StpsAt K H aT ss ∧
  PartsOk c st zs ss ∧ H aE = some (.dK kvs) ∧ EvRel K H kvs es ∧ EvsOk ss.length es ∧ (es.map (·.1)).Nodup ∧ es.length ≤ 1000 ∧
  (es.length ≤ 200 → ∀ H' es', But x H H' → (es'.map (·.1)).Perm (es.map (·.1)) → EvsOk ss.length es' → GrAt K C H' x ⟨c, st, zs, ss, es'⟩ → Q .non H') ∧
  (200 < es.length → tooMany "events" 200 CT E fun H' => But x H H')
theorem ok_Graph {f C CT : Addr} {fd : FuncData} {dvs : List V} (F : FunD K "__init__" "Graph.__init__" (defArgs s_Graph___init__) (defBody s_Graph___init__) (defScope s_Graph___init__) dvs [] f fd) (T : Txt K mg) (R : GrC K C) (X_TooMany : Ex2 P w K mg "TooMany" CT "what" "most")
    (D_need_parts : DefOk P w K mg base CX0 5 "need_parts" ["count", "starts", "measures", "steps"] (spNeedParts K)) (D_is_events : DefOk P w K mg base CX0 4 "is_events" ["many", "value"] (spIsEvents K))
    (D_outs_of : DefOk P w K mg base CX0 1 "outs_of" ["count", "steps"] (spOutsOf K)) (D_reached_from : DefOk P w K mg base CX0 1 "reached_from" ["starts", "steps", "outs"] (spReached K)) :
    FnOk P w K mg base (L2.CX P w) 6 f fd ["self", "count", "starts", "steps", "measures", "events"] (spGraph C CT K) := by
  refine F.ok sc_Graph___init__ (fun vs H Q E h => ?_) (fun cdv A outer s H vs Q E hr h => ?_)
  · obtain ⟨_, _, _, _, _, _, _, _, _, _, _, _, rfl, _⟩ := h; rfl
  · obtain ⟨x, dx, aS, aM, aT, aE, c, st, zs, ss, kvs, es, rfl, hx, hS, hM, hT, po, hE, hR, eo, en, el, kq, ke⟩ := h
    have hu := hu_of hr
    refine ⟨_, (pss_cons (ps_expr (pe_d D_need_parts (hr.mono (by decide)) pass0 (pa_cons (pv 1) (pa_cons (pv 2) (pa_cons (pv 4) (pa_cons (pv 3) pa_nil))))))
  (pss_cons (ps_if (PW.pt (pw_and (pt_cmpR op_notN (pv 5) pe_non (nomark _)) (pw_and1 (pt_not (pt_val (pe_d D_is_events (hr.mono (by decide)) pass0 (pa_cons (pe_callB (lenK K) (by rfl) T.n_len (by decide +kernel) (pa_cons (pv 3) pa_nil)) (pa_cons (pv 5) pa_nil)))))))) (pss_one ps_never) pss_nil)
  (pss_cons (ps_set (i := 6) sc_Graph___init__.nd rfl (Or.inr rfl) (pe_ifExp (pt_cmpR op_isN (pv 5) pe_non (nomark _)) pe_dnewK (pv 5)))
  (pss_cons (ps_if (pt_cmpR op_gt (pe_callB call_lenD (by rfl) T.n_len (by decide +kernel) (pa_cons (pv 6) pa_nil)) (pgi T.c_MOST_EVENTS) (nomark _)) (pss_one (ps_r2 X_TooMany (hr.mono (by decide)) (takes_of rfl rfl rfl rfl) (pa_cons pe_str (pa_cons (pgi T.c_MOST_EVENTS) pa_nil)) (tam_cons tem_c (tam_cons tem_c tam_nil)))) pss_nil)
  (pss_cons (ps_fld (pv 0) (pv 1) rfl)
  (pss_cons (ps_fld (pv 0) (pv 2) rfl)
  (pss_cons (ps_fld (pv 0) (pv 3) rfl)
  (pss_cons (ps_fld (pv 0) (pv 4) rfl)
  (pss_cons (ps_fld (pv 0) (pe_dc (own := [("word", 7)]) (g := gName 7) (tt := tYes) (by rfl) sc_Graph___init__.nd ((pi_listK K) (pe_callB (sortedSK K) (by rfl) T.n_sorted (by decide +kernel) (pa_cons (pe_callTy (call_list_dK rfl) (by rfl) T.n_list (by decide +kernel) (pa_cons (pv 6) pa_nil)) pa_nil))) (blkOk_by (N := ["self", "count", "starts", "steps", "measures", "events", "lots", "word"]) (sc := (defScope s_Graph___init__)) (by decide +kernel)) (fun _ _ _ _ _ => (pg_name (i := 7) sc_Graph___init__.nd rfl (Or.inl rfl))) (fun _ _ _ _ _ => pts_nil) (fun _ _ _ _ _ => (pv 7)) (fun _ _ _ _ _ => (pe_dget hu (pv 6) (pv 7) (fun _ _ => rfl)))) rfl)
  (pss_cons (ps_fld (pv 0) (pe_d D_outs_of (hr.mono (by decide)) pass0 (pa_cons (pv 1) (pa_cons (pv 3) pa_nil))) rfl)
  (pss_one (ps_fld (pv 0) (pe_d D_reached_from (hr.mono (by decide)) pass0 (pa_cons (pv 2) (pa_cons (pv 3) (pa_cons (fldK K (pv 0)) pa_nil)))) rfl)))))))))))), ?_⟩
    refine ⟨_, rfl, _, rfl, _, rfl, _, rfl, c, aS, aM, aT, st, zs, ss, rfl, hS, hM, hT, po, fun H1 s1 => ?_⟩
    obtain ⟨vsts, hT1, hP1⟩ := hT.mono s1
    have hvl : vsts.length = ss.length := Paired.length hP1
    refine ⟨_, rfl, rfl, _, rfl, if_t rfl ?_⟩
    refine ⟨_, rfl, _, _, rfl, sqt_len hT1, _, rfl, (ss.length : Int), aE, kvs, es, ?_, s1 _ _ hE, hR.mono fun _ _ q => Same.sqt s1 q, eo, el, fun H2 s2 => ⟨true, rfl, if_f rfl ?_⟩⟩
    · rw [hvl]
    have s02 := s1.trans s2
    have hkl : kvs.length = es.length := Paired.length hR
    have hx2 := s02 _ _ hx
    refine ⟨_, rfl, rfl, _, rfl, if_f rfl ⟨_, rfl, ?_⟩⟩
    refine ⟨_, rfl, aE, kvs, rfl, s02 _ _ hE, _, _, rfl, rfl, ?_⟩
    by_cases hbig : 200 < es.length
    · refine ⟨_, rfl, if_t (decide_eq_true (by omega)) ?_⟩
      refine ⟨_, _, rfl, fun d hd => ?_⟩
      exact ke hbig d _ (fun b o _ e => by rw [upd_ne (ne_of_none (s02 _ _ e) hd)]; exact s02 _ _ e) upd_same
    · refine ⟨_, rfl, if_f (decide_eq_false (by omega)) ?_⟩
      have kq' := kq (by omega)
      have b2 : But x H H2 := fun b o _ e => s02 b o e
      refine ⟨_, rfl, _, rfl, x, C, dx, _, rfl, hx2, R.c, R.no _ (by simp), (show (0 : Nat) < 1000 by decide), ?_⟩
      refine ⟨_, rfl, _, rfl, x, C, dx, _, rfl, upd_same, R.c, R.no _ (by simp), (show (1 : Nat) < 1000 by decide), ?_⟩
      refine ⟨_, rfl, _, rfl, x, C, dx, _, rfl, upd_same, R.c, R.no _ (by simp), (show (2 : Nat) < 1000 by decide), ?_⟩
      refine ⟨_, rfl, _, rfl, x, C, dx, _, rfl, upd_same, R.c, R.no _ (by simp), (show (3 : Nat) < 1000 by decide), ?_⟩
      rw [upd_upd, upd_upd, upd_upd]
      generalize e3 : (L2.upd H2 x _) = H3
      have b3 : But x H H3 := e3 ▸ b2.upd
      have hx3 : H3 x = some (.ins C dx (gf4 c aS aT aM)) := by rw [← e3]; exact upd_same
      have hE3 : H3 aE = some (.dK kvs) := b3 _ _ (ne_of hE hx (fun z => nomatch z)) hE
      refine ⟨_, rfl, aE, kvs, rfl, hE3, fun q hq => ?_⟩
      have hkeys : kvs.map (fun kv => kV kv.1) = (es.map (·.1)).map V.str := evrel_keys hR
      refine ⟨q, es.map (·.1), rfl, SqL.of (by rw [upd_same, hkeys]), fun ys p2 hperm hsort hp2 => ?_⟩
      have nq : H3 q = none := hq
      have s3 : Same H3 (upd (upd H3 q (.lst (kvs.map fun kv => kV kv.1))) p2 (.lst (ys.map V.str))) := (same_up hq).trans (same_up hp2)
      have h4 : (upd (upd H3 q (.lst (kvs.map fun kv => kV kv.1))) p2 (.lst (ys.map V.str))) p2 = some (.lst (ys.map V.str)) := upd_same
      generalize (upd (upd H3 q (.lst (kvs.map fun kv => kV kv.1))) p2 (.lst (ys.map V.str))) = H4 at h4 s3 ⊢
      have hnd : ys.Nodup := hperm.nodup_iff.mpr en
      have hyl : ys.length = es.length := by rw [hperm.length_eq, List.length_map]
      have b4 : But x H H4 := b3.same s3
      have hR4 : EvRel K H4 kvs es := hR.mono fun _ _ q => b4.sqt hx q
      refine ⟨p2, rfl, ⟨_, SqL.of h4⟩, fun D hD => ?_⟩
      refine dc_it walk_list (fun i H5 => ∃ kvs' es', Same H4 H5 ∧ H5 D = some (.dK kvs') ∧ EvRel K H4 kvs' es' ∧ es'.map (·.1) = ys.take i ∧ EvsOk ss.length es') ⟨[], [], same_up hD, upd_same, .nil, rfl, fun e he => by cases he⟩
        (fun i H5 _ ⟨_, _, s5, _⟩ => SqL.of (s5 _ _ h4)) (fun i v H5 H6 hi ⟨kvs', es', s5, d5, r5, m5, o5⟩ ⟨eH, hv⟩ => ?_) fun H5 ⟨kvs', es', s5, d5, r5, m5, o5⟩ => ?_
      · subst eH
        obtain ⟨y, hy, rfl⟩ := get_mapS hv
        have hym : y ∈ es.map (·.1) := hperm.mem_iff.mp (List.mem_of_getElem? hy)
        obtain ⟨v, a, ns, g1, rfl, g3, g4⟩ := evrel_get hR4 hym
        refine ⟨rfl, yes_t ⟨_, rfl, _, rfl, _, rfl, aE, .ref a, rfl, ?_, ?_⟩⟩
        · rw [← g1]
          exact DGet.k (k := .inr y) (s5 _ _ (s3 _ _ hE3))
        · have hl5 : kvs'.length = i := by
            rw [Paired.length r5, ← List.length_map (f := (·.1)), m5, List.length_take]
            rw [List.length_map] at hi
            omega
          have hnew : valV kvs' (.inr y) = none := valV_none_of fun hm => by
            rw [evrel_fst r5, m5] at hm
            obtain ⟨z, hz, e⟩ := List.mem_map.mp hm
            cases e
            obtain ⟨j, hj⟩ := List.mem_iff_getElem?.mp hz
            rw [List.getElem?_take] at hj
            split at hj
            · rename_i hji
              have e1 := List.getElem?_eq_some_iff.mp hj
              have e2 := List.getElem?_eq_some_iff.mp hy
              have := (List.getElem_inj hnd).mp (e1.2.trans e2.2.symm)
              omega
            · cases hj
          rw [List.length_map] at hi
          refine ⟨kvs', .inr y, rfl, d5, big_len (by omega), kvs' ++ [(.inr y, .ref a)], es' ++ [(y, ns)], fun b o e => ?_, by rw [upd_same, putK_new _ hnew], evrel_snoc r5 ⟨rfl, a, rfl, g3⟩, ?_, fun e he => ?_⟩
          · rw [upd_ne (ne_of_none e hD)]; exact s5 b o e
          · rw [List.map_append, m5, List.take_add_one, hy]; rfl
          · rcases List.mem_append.mp he with q | q
            · exact o5 e q
            · rw [List.mem_singleton.mp q]; exact eo _ g4
      · have b5 : But x H H5 := b4.same s5
        have hx5 := s5 _ _ (s3 _ _ hx3)
        refine ⟨_, rfl, x, C, dx, _, rfl, hx5, R.c, R.no _ (by simp), (show (4 : Nat) < 1000 by decide), ?_⟩
        rw [show putF "lots" (.ref D) (gf4 c aS aT aM) = gf5 c aS aT aM D from rfl]
        have b6 := b5.upd (o := .ins C dx (gf5 c aS aT aM D))
        have h6 : (upd H5 x (.ins C dx (gf5 c aS aT aM D))) x = _ := upd_same
        have xD : D ≠ x := ne_of d5 hx5 (fun z => nomatch z)
        have d6 : (upd H5 x (.ins C dx (gf5 c aS aT aM D))) D = some (.dK kvs') := by rw [upd_ne xD]; exact d5
        have e6 : But x H4 (upd H5 x (.ins C dx (gf5 c aS aT aM D))) := But.upd (fun b o _ e => s5 b o e)
        generalize (upd H5 x (.ins C dx (gf5 c aS aT aM D))) = H6 at b6 h6 d6 e6 ⊢
        refine ⟨_, rfl, _, rfl, c, aT, ss, rfl, hT.but b6 hx, po.c1, po.c2, po.sl, fun s hs => ⟨(po.to s hs).s0, (po.to s hs).s1⟩, fun aO H7 s7 _ hO => ?_⟩
        have b7 : But x H H7 := b6.same s7
        refine ⟨_, rfl, x, C, dx, _, rfl, s7 _ _ h6, R.c, R.no _ (by simp), (show (5 : Nat) < 1000 by decide), ?_⟩
        rw [show putF "outs" (.ref aO) (gf5 c aS aT aM D) = gf6 c aS aT aM D aO from rfl]
        have hx7 := s7 _ _ h6
        have b8 := b7.upd (o := .ins C dx (gf6 c aS aT aM D aO))
        have c8 : But x H7 (upd H7 x (.ins C dx (gf6 c aS aT aM D aO))) := But.upd (fun b o _ e => e)
        have h8 : (upd H7 x (.ins C dx (gf6 c aS aT aM D aO))) x = _ := upd_same
        have hO8 := hO.but c8 hx7
        have d8 := c8 _ _ xD (s7 _ _ d6)
        have e8 : But x H4 (upd H7 x (.ins C dx (gf6 c aS aT aM D aO))) := (e6.same s7).upd
        generalize (upd H7 x (.ins C dx (gf6 c aS aT aM D aO))) = H8 at b8 h8 hO8 d8 e8 ⊢
        refine ⟨_, rfl, _, rfl, _, rfl, x, C, dx, _, .ref aO, rfl, h8, R.c, R.no _ (by simp), rfl, c, aS, aT, aO, st, ss, rfl, b8.sqt hx hS, hT.but b8 hx, hO8, po.so, po.c2, po.sl, fun s hs => ⟨(po.to s hs).t0, (po.to s hs).t1⟩, fun aR H9 s9 _ => ?_⟩
        have b9 : But x H H9 := b8.same s9
        have hx9 := s9 _ _ h8
        refine ⟨_, rfl, x, C, dx, _, rfl, hx9, R.c, R.no _ (by simp), (show (6 : Nat) < 1000 by decide), ?_⟩
        have b10 := b9.upd (o := .ins C dx (grFs c aS aT aM D aO aR))
        have c10 : But x H9 (upd H9 x (.ins C dx (grFs c aS aT aM D aO aR))) := But.upd (fun b o _ e => e)
        refine kq' (upd H9 x (.ins C dx (grFs c aS aT aM D aO aR))) es' b10 ?_ o5 ⟨dx, aS, aT, aM, D, aO, aR, kvs', upd_same, b10.sqt hx hS, b10.sqt hx hM, hT.but b10 hx, ?_, ?_, (hO8.mono s9).but c10 hx9⟩
        · rw [m5, List.length_map, List.take_length]
          exact hperm
        · exact c10 _ _ xD (s9 _ _ d8)
        · have e10 : But x H4 (upd H9 x (.ins C dx (grFs c aS aT aM D aO aR))) := (e8.same s9).upd
          exact r5.mono fun a xs q => e10.sqt (s3 _ _ hx3) q
end
end K53
namespace K53
open PySem L2 RZ Own
abbrev s_need_both : Stmt := top 49
abbrev s_need_room : Stmt := top 50
abbrev s_target_of : Stmt := top 52
abbrev s_time_of : Stmt := top 53
theorem sc_need_both : FnScope ["one", "other", "name"] ["one", "other"] (defScope s_need_both) := ⟨rfl, rfl, rfl, by decide +kernel, rfl, by decide +kernel, by decide +kernel⟩
theorem sc_need_room : FnScope ["one", "other", "steps"] ["one", "other", "steps"] (defScope s_need_room) := ⟨rfl, rfl, rfl, by decide +kernel, rfl, by decide +kernel, by decide +kernel⟩
theorem sc_target_of : FnScope ["graph", "state", "step"] ["graph", "state", "step"] (defScope s_target_of) := ⟨rfl, rfl, rfl, by decide +kernel, rfl, by decide +kernel, by decide +kernel⟩
theorem sc_time_of : FnScope ["one", "other", "move"] ["one", "other", "move"] (defScope s_time_of) := ⟨rfl, rfl, rfl, by decide +kernel, rfl, by decide +kernel, by decide +kernel⟩
/-- raised: an exception of the class at C with these fields -/
def exr (E : XK) (C : Addr) (H : Hp) (fs : List (Str × V)) : Prop := ∀ d H', Same H H' → H' d = some (.xd fs) → E (.ref C) (some d) H'
section
variable {P : Program} {w : World} {K : PySem.W.Frag} {mg : Str → Option Value} {base : Heap}
/-- the first name of both -/
def firstIn (zs ys : List Str) : Option Str := zs.find? fun z => decide (z ∈ ys)
theorem inV_str (z : Str) (zs : List Str) : inV (.str z) (zs.map V.str) = decide (z ∈ zs) := by
  unfold inV
  rw [List.any_map]
  by_cases h : z ∈ zs
  · rw [decide_eq_true h]
    exact List.any_eq_true.mpr ⟨z, h, by simp [eqV]⟩
  · rw [decide_eq_false h]
    refine List.any_eq_false.mpr fun y hy e => ?_
    have e' : y = z := by simpa [eqV] using e
    exact h (e' ▸ hy)
theorem flat_strs (zs : List Str) : (zs.map V.str).all flatV = true := by
  rw [List.all_map]
  exact List.all_eq_true.mpr fun x _ => rfl
def spNeedBoth (C CG CN : Addr) (K : PySem.W.Frag) : Sp := fun vs H Q E => ∃ v u, vs = [v, u] ∧
  ((IsG K C H v false ∧ exr E CG H [("part", .str "one")]) ∨
   ∃ a g, v = .ref a ∧ GrAt K C H a g ∧ ((IsG K C H u false ∧ exr E CG H [("part", .str "other")]) ∨
   ∃ b g2, u = .ref b ∧ GrAt K C H b g2 ∧ (∀ z, firstIn g.meas g2.meas = some z → exr E CN H [("value", .str z)]) ∧ (firstIn g.meas g2.meas = none → Q .non H)))
theorem ok_need_both {f C CG CN : Addr} {fd : FuncData} (F : Fun K "need_both" "need_both" s_need_both f fd) (T : Txt K mg) (R : GrC K C) (G_Graph : mg "Graph" = some (.ref C)) (X_BadGraph : Ex1 P w K mg "BadGraph" CG "part") (X_BadName : Ex1 P w K mg "BadName" CN "value") :
    FnOk P w K mg base (L2.CX P w) 3 f fd ["one", "other"] (spNeedBoth C CG CN K) := by
  refine F.okX sc_need_both (fun vs H Q E h => ?_) (fun cdv A outer s H vs Q E hr h => ?_)
  · obtain ⟨_, _, rfl, _⟩ := h; rfl
  · obtain ⟨v, u, rfl, h⟩ := h
    refine ⟨_, (pss_cons (ps_if (pt_not (pt_val (pe_isG G_Graph (pv 0) T.n_isinstance))) (pss_one (ps_r1 X_BadGraph (hr.mono (by decide)) (takes_of rfl rfl rfl rfl) (pa_cons pe_str pa_nil) (tam_cons tem_c tam_nil))) pss_nil)
  (pss_cons (ps_if (pt_not (pt_val (pe_isG G_Graph (pv 1) T.n_isinstance))) (pss_one (ps_r1 X_BadGraph (hr.mono (by decide)) (takes_of rfl rfl rfl rfl) (pa_cons pe_str pa_nil) (tam_cons tem_c tam_nil))) pss_nil)
  (pss_one (ps_for (passes_of rfl) rfl ((pi_tupK K) (fldK K (pv 0))) (pg_name (i := 2) sc_need_both.nd rfl (Or.inl rfl))
  (pss_one (ps_if (pt_cmpR (in_seqK K) (pv 2) (fldK K (pv 1)) (by rfl)) (pss_one (ps_r1 X_BadName (hr.mono (by decide)) (takes_of rfl rfl rfl rfl) (pa_cons (pv 2) pa_nil) (tam_cons tem_var tam_nil))) pss_nil)))))), ?_⟩
    rcases h with ⟨h1, hE⟩ | ⟨a, g, rfl, hg, h⟩
    · exact ⟨_, rfl, false, h1, false, rfl, if_t rfl ⟨_, rfl, fun d hd => hE d _ (same_up hd) upd_same⟩⟩
    · refine ⟨_, rfl, true, hg.isG R, true, rfl, if_f rfl ?_⟩
      rcases h with ⟨h1, hE⟩ | ⟨b, g2, rfl, hg2, hk, hq⟩
      · exact ⟨_, rfl, false, h1, false, rfl, if_t rfl ⟨_, rfl, fun d hd => hE d _ (same_up hd) upd_same⟩⟩
      · refine ⟨_, rfl, true, hg2.isG R, true, rfl, if_f rfl ?_⟩
        have hg' := hg
        have hg2' := hg2
        obtain ⟨dx, aS, aT, aM, aL, aO, aR, kvs, h1, h2, h3, _⟩ := hg
        obtain ⟨dx', aS', aT', aM', aL', aO', aR', kvs', h1', h2', h3', _⟩ := hg2
        refine ⟨_, rfl, a, C, dx, _, .ref aM, rfl, h1, R.c, R.no _ (by simp), rfl, aM, rfl, ⟨_, h3⟩, ?_⟩
        refine for_it walk_tup (fun i σ H' => H' = H ∧ (∃ v2, σ = [some (.ref a), some (.ref b), v2]) ∧ ∀ z ∈ g.meas.take i, z ∉ g2.meas) ⟨rfl, ⟨none, rfl⟩, fun z hz => by cases hz⟩ (fun i σ H' _ ⟨e, _⟩ => e ▸ h3) (fun i x σ H3 H4 hi ⟨e, ⟨v2, es⟩, hn⟩ ⟨e4, hx⟩ => ?_) fun σ H' ⟨e, _, hn⟩ => ?_
        · subst e e4 es
          obtain ⟨z, hz, rfl⟩ := get_mapS hx
          refine ⟨_, rfl, _, rfl, b, C, dx', _, .ref aM', rfl, h1', R.c, R.no _ (by simp), rfl, aM', _, rfl, .inr h3', rfl, flat_strs _, _, rfl, ?_⟩
          by_cases hm : z ∈ g2.meas
          · refine if_t (show inV (.str z) (g2.meas.map V.str) = true by rw [inV_str, decide_eq_true hm]) ⟨_, rfl, _, rfl, fun d hd => hk z ?_ d _ (same_up hd) upd_same⟩
            refine List.find?_eq_some_iff_append.mpr ⟨decide_eq_true hm, g.meas.take i, g.meas.drop (i + 1), ?_, fun y hy => ?_⟩
            · have e := (List.getElem?_eq_some_iff.mp hz)
              obtain ⟨hl, e⟩ := e
              rw [← e, List.getElem_cons_drop, List.take_append_drop]
            · rw [decide_eq_false (hn y hy)]; rfl
          · refine if_f (show inV (.str z) (g2.meas.map V.str) = false by rw [inV_str, decide_eq_false hm]) ⟨rfl, ⟨_, rfl⟩, fun y hy => ?_⟩
            rw [List.take_add_one, hz] at hy
            rcases List.mem_append.mp hy with q | q
            · exact hn y q
            · rw [List.mem_singleton.mp q]; exact hm
        · subst e
          refine hq ?_
          rw [List.length_map, List.take_length] at hn
          exact List.find?_eq_none.mpr fun z hz => by simpa using hn z hz
def spNeedRoom (C CT : Addr) (K : PySem.W.Frag) : Sp := fun vs H Q E => ∃ a b g g2 n, vs = [.ref a, .ref b, .int n] ∧ GrAt K C H a g ∧ GrAt K C H b g2 ∧ g.meas.length ≤ 4 ∧ g2.meas.length ≤ 4 ∧ 0 ≤ g.count ∧ g.count ≤ 300 ∧ 0 ≤ g2.count ∧ g2.count ≤ 300 ∧
  (4 < g.meas.length + g2.meas.length → exr E CT H [("most", .int 4), ("what", .str "measures")]) ∧
  (g.meas.length + g2.meas.length ≤ 4 → 300 < g.count * g2.count → exr E CT H [("most", .int 300), ("what", .str "states")]) ∧
  (g.meas.length + g2.meas.length ≤ 4 → g.count * g2.count ≤ 300 → 1200 < n → exr E CT H [("most", .int 1200), ("what", .str "steps")]) ∧
  (g.meas.length + g2.meas.length ≤ 4 → g.count * g2.count ≤ 300 → n ≤ 1200 → Q .non H)
theorem ok_need_room {f C CT : Addr} {fd : FuncData} (F : Fun K "need_room" "need_room" s_need_room f fd) (T : Txt K mg) (R : GrC K C) (X_TooMany : Ex2 P w K mg "TooMany" CT "what" "most") :
    FnOk P w K mg base (L2.CX P w) 3 f fd ["one", "other", "steps"] (spNeedRoom C CT K) := by
  refine F.okX sc_need_room (fun vs H Q E h => ?_) (fun cdv A outer s H vs Q E hr h => ?_)
  · obtain ⟨_, _, _, _, _, rfl, _⟩ := h; rfl
  · obtain ⟨a, b, g, g2, n, rfl, hg, hg2, m1, m2, c0, c1, d0, d1, k1, k2, k3, k4⟩ := h
    refine ⟨_, (pss_cons (ps_if (pt_cmpR op_gt (pe_op op_add (pe_callB (lenK K) (by rfl) T.n_len (by decide +kernel) (pa_cons (fldK K (pv 0)) pa_nil)) (pe_callB (lenK K) (by rfl) T.n_len (by decide +kernel) (pa_cons (fldK K (pv 1)) pa_nil))) (pgi T.c_MOST_MEASURES_joins) (nomark _)) (pss_one (ps_r2 X_TooMany (hr.mono (by decide)) (takes_of rfl rfl rfl rfl) (pa_cons pe_str (pa_cons (pgi T.c_MOST_MEASURES_joins) pa_nil)) (tam_cons tem_c (tam_cons tem_c tam_nil)))) pss_nil)
  (pss_cons (ps_if (pt_cmpR op_gt (pe_op op_mul (fldK K (pv 0)) (fldK K (pv 1))) (pgi T.c_MOST_STATES_joins) (nomark _)) (pss_one (ps_r2 X_TooMany (hr.mono (by decide)) (takes_of rfl rfl rfl rfl) (pa_cons pe_str (pa_cons (pgi T.c_MOST_STATES_joins) pa_nil)) (tam_cons tem_c (tam_cons tem_c tam_nil)))) pss_nil)
  (pss_one (ps_if (pt_cmpR op_gt (pv 2) (pgi T.c_MOST_STEPS_joins) (nomark _)) (pss_one (ps_r2 X_TooMany (hr.mono (by decide)) (takes_of rfl rfl rfl rfl) (pa_cons pe_str (pa_cons (pgi T.c_MOST_STEPS_joins) pa_nil)) (tam_cons tem_c (tam_cons tem_c tam_nil)))) pss_nil)))), ?_⟩
    obtain ⟨dx, aS, aT, aM, aL, aO, aR, kvs, h1, h2, h3, _⟩ := hg
    obtain ⟨dx', aS', aT', aM', aL', aO', aR', kvs', h1', h2', h3', _⟩ := hg2
    refine ⟨_, rfl, a, C, dx, _, .ref aM, rfl, h1, R.c, R.no _ (by simp), rfl, _, _, rfl, sqt_len h3, _, rfl, b, C, dx', _, .ref aM', rfl, h1', R.c, R.no _ (by simp), rfl, _, _, rfl, sqt_len h3', _, _, rfl, rfl, _, _, rfl, rfl, _, rfl, ?_⟩
    rw [List.length_map, List.length_map]
    by_cases q1 : 4 < g.meas.length + g2.meas.length
    · exact if_t (decide_eq_true (by omega)) ⟨_, _, rfl, fun d hd => k1 q1 d _ (same_up hd) upd_same⟩
    · refine if_f (decide_eq_false (by omega)) ?_
      refine ⟨_, rfl, a, C, dx, _, .int g.count, rfl, h1, R.c, R.no _ (by simp), rfl, _, rfl, b, C, dx', _, .int g2.count, rfl, h1', R.c, R.no _ (by simp), rfl, _, _, rfl, rfl, .inl ⟨by omega, by omega⟩, _, _, rfl, rfl, _, rfl, ?_⟩
      by_cases q2 : 300 < g.count * g2.count
      · exact if_t (decide_eq_true q2) ⟨_, _, rfl, fun d hd => k2 (by omega) q2 d _ (same_up hd) upd_same⟩
      · refine if_f (decide_eq_false q2) ?_
        refine ⟨_, rfl, _, _, rfl, rfl, _, rfl, ?_⟩
        by_cases q3 : 1200 < n
        · exact if_t (decide_eq_true q3) ⟨_, _, rfl, fun d hd => k3 (by omega) (by omega) q3 d _ (same_up hd) upd_same⟩
        · exact if_f (decide_eq_false q3) (k4 (by omega) (by omega) (by omega))
/-- a move -/
abbrev Mv := Option Nat × Option Nat
def ov : Option Nat → V
  | none => .non
  | some n => .int (Nat.cast n)
def MvAt (K : PySem.W.Frag) (H : Hp) (v : V) (m : Mv) : Prop := ∃ a, v = .ref a ∧ SqT K H a [ov m.1, ov m.2]
theorem MvAt.mono {H H' : Hp} {v : V} {m : Mv} (h : MvAt K H v m) (e : Same H H') : MvAt K H' v m := by
  obtain ⟨a, h1, h2⟩ := h
  exact ⟨a, h1, Same.sqt e h2⟩
def tgtOf (g : Gr) (st : Int) : Option Nat → Int
  | none => st
  | some n => (g.steps[n]?.map Stp.tgt).getD 0
theorem tgtOf_some {g : Gr} {st : Int} {n : Nat} (hn : n < g.steps.length) : tgtOf g st (some n) = g.steps[n].tgt := by
  show (g.steps[n]?.map Stp.tgt).getD 0 = _
  rw [List.getElem?_eq_getElem hn]; rfl
def spTargetOf (C : Addr) (K : PySem.W.Frag) : Sp := fun vs H Q _ => ∃ a g st m, vs = [.ref a, .int st, ov m] ∧ GrAt K C H a g ∧ (∀ n, m = some n → n < g.steps.length) ∧ Q (.int (tgtOf g st m)) H
theorem step_at {H : Hp} {a : Addr} {ss : List Stp} {n : Nat} (h : StpsAt K H a ss) (hn : n < ss.length) : ∃ vs v b c, SqT K H a vs ∧ vs[n]? = some (.ref v) ∧ SqT K H v [.int ss[n].src, .int ss[n].tgt, .int ss[n].time, .ref b] ∧ SqT K H b (ss[n].pays.map V.int) ∧ c = vs.length := by
  obtain ⟨vs, h1, h2⟩ := h
  have hl := Paired.length h2
  have hv : vs[n]? = some vs[n] := List.getElem?_eq_getElem (by omega)
  obtain ⟨sp, g1, a2, b2, e, q2, q3⟩ := paired_at h2 hv
  rw [List.getElem?_eq_getElem hn] at g1
  cases g1
  exact ⟨vs, a2, b2, _, h1, by rw [hv, e], q2, q3, rfl⟩
theorem ok_target_of {f C : Addr} {fd : FuncData} (F : Fun K "target_of" "target_of" s_target_of f fd) (R : GrC K C) : FnOk P w K mg base CX0 1 f fd ["graph", "state", "step"] (spTargetOf C K) := by
  refine F.ok sc_target_of (fun vs H Q E h => ?_) (fun cdv A outer s H vs Q E hr h => ?_)
  · obtain ⟨_, _, _, _, rfl, _⟩ := h; rfl
  · obtain ⟨a, g, st, m, rfl, ⟨dx, aS, aT, aM, aL, aO, aR, kvs, h1, h2, h3, h4, _⟩, hm, k⟩ := h
    refine ⟨_, (pss_one (ps_ret (pe_ifExp (pt_cmpR op_isN (pv 2) pe_non (nomark _)) (pv 1) (pe_ix (ix_tupK K) (pe_ix (ix_tupK K) (fldK K (pv 0)) (pv 2) (fun _ _ => rfl)) pe_int (fun _ _ => rfl))))), ?_⟩
    refine ⟨_, rfl, rfl, _, rfl, ?_⟩
    cases m with
    | none => exact if_t rfl ⟨_, rfl, k⟩
    | some n =>
      have hn := hm n rfl
      obtain ⟨vs, v, b, _, q1, q2, q3, q4, _⟩ := step_at h4 hn
      refine if_f rfl ⟨_, rfl, a, C, dx, _, .ref aT, rfl, h1, R.c, R.no _ (by simp), rfl, _, rfl, aT, vs, (n : Int), _, rfl, rfl, q1, atI_nat q2, v, _, 1, _, rfl, rfl, q3, rfl, ?_⟩
      have e : tgtOf g st (some n) = g.steps[n].tgt := tgtOf_some hn
      rw [e] at k
      exact k
/-- what time a move takes -/
def timeOf (g g2 : Gr) : Mv → Int
  | (some n, none) => (g.steps[n]?.map Stp.time).getD 0
  | (none, some n) => (g2.steps[n]?.map Stp.time).getD 0
  | _ => 1
theorem timeOf_l {g g2 : Gr} {n : Nat} (hn : n < g.steps.length) : timeOf g g2 (some n, none) = g.steps[n].time := by
  show (g.steps[n]?.map Stp.time).getD 0 = _
  rw [List.getElem?_eq_getElem hn]; rfl
theorem timeOf_r {g g2 : Gr} {n : Nat} (hn : n < g2.steps.length) : timeOf g g2 (none, some n) = g2.steps[n].time := by
  show (g2.steps[n]?.map Stp.time).getD 0 = _
  rw [List.getElem?_eq_getElem hn]; rfl
def MvIn (g g2 : Gr) (m : Mv) : Prop := (∀ n, m.1 = some n → n < g.steps.length) ∧ (∀ n, m.2 = some n → n < g2.steps.length) ∧ m ≠ (none, none)
def spTimeOf (C : Addr) (K : PySem.W.Frag) : Sp := fun vs H Q _ => ∃ a b g g2 v m, vs = [.ref a, .ref b, v] ∧ GrAt K C H a g ∧ GrAt K C H b g2 ∧ MvAt K H v m ∧ MvIn g g2 m ∧ Q (.int (timeOf g g2 m)) H
theorem ok_time_of {f C : Addr} {fd : FuncData} (F : Fun K "time_of" "time_of" s_time_of f fd) (R : GrC K C) : FnOk P w K mg base CX0 1 f fd ["one", "other", "move"] (spTimeOf C K) := by
  refine F.ok sc_time_of (fun vs H Q E h => ?_) (fun cdv A outer s H vs Q E hr h => ?_)
  · obtain ⟨_, _, _, _, _, _, rfl, _⟩ := h; rfl
  · obtain ⟨a, b, g, g2, v, ⟨m1, m2⟩, rfl, ⟨dx, aS, aT, aM, aL, aO, aR, kvs, h1, h2, h3, h4, _⟩, ⟨dx', aS', aT', aM', aL', aO', aR', kvs', h1', h2', h3', h4', _⟩, ⟨p, rfl, hp⟩, ⟨i1, i2, i3⟩, k⟩ := h
    refine ⟨_, (pss_cons (ps_if (pt_cmpR (notIn_seqK K) pe_non (pv 2) (by rfl)) (pss_one (ps_ret pe_int)) pss_nil)
  (pss_one (ps_ret (pe_ifExp (pt_cmpR op_isN (pe_ix (ix_tupK K) (pv 2) pe_int (fun _ _ => rfl)) pe_non (nomark _)) (pe_ix (ix_tupK K) (pe_ix (ix_tupK K) (fldK K (pv 0)) (pe_ix (ix_tupK K) (pv 2) pe_int (fun _ _ => rfl)) (fun _ _ => rfl)) pe_int (fun _ _ => rfl)) (pe_ix (ix_tupK K) (pe_ix (ix_tupK K) (fldK K (pv 1)) (pe_ix (ix_tupK K) (pv 2) pe_int (fun _ _ => rfl)) (fun _ _ => rfl)) pe_int (fun _ _ => rfl)))))), ?_⟩
    refine ⟨_, rfl, p, _, rfl, .inr hp, rfl, ?_, ?_⟩
    · cases m1 <;> cases m2 <;> rfl
    cases m1 with
    | none =>
      cases m2 with
      | none => exact absurd rfl i3
      | some n =>
        refine ⟨_, rfl, if_f rfl ?_⟩
        have hn := i2 n rfl
        obtain ⟨vs, v, b', _, q1, q2, q3, q4, _⟩ := step_at h4' hn
        have e : timeOf g g2 (none, some n) = g2.steps[n].time := timeOf_r hn
        rw [e] at k
        refine ⟨_, rfl, p, _, 1, _, rfl, rfl, hp, rfl, rfl, _, rfl, if_f rfl ?_⟩
        exact ⟨_, rfl, b, C, dx', _, .ref aT', rfl, h1', R.c, R.no _ (by simp), rfl, _, rfl, p, _, 1, _, rfl, rfl, hp, rfl, aT', vs, (n : Int), _, rfl, rfl, q1, atI_nat q2, v, _, 2, _, rfl, rfl, q3, rfl, k⟩
    | some n =>
      have hn := i1 n rfl
      cases m2 with
      | none =>
        refine ⟨_, rfl, if_f rfl ?_⟩
        obtain ⟨vs, v, b', _, q1, q2, q3, q4, _⟩ := step_at h4 hn
        have e : timeOf g g2 (some n, none) = g.steps[n].time := timeOf_l hn
        rw [e] at k
        refine ⟨_, rfl, p, _, 1, _, rfl, rfl, hp, rfl, rfl, _, rfl, if_t rfl ?_⟩
        exact ⟨_, rfl, a, C, dx, _, .ref aT, rfl, h1, R.c, R.no _ (by simp), rfl, _, rfl, p, _, 0, _, rfl, rfl, hp, rfl, aT, vs, (n : Int), _, rfl, rfl, q1, atI_nat q2, v, _, 2, _, rfl, rfl, q3, rfl, k⟩
      | some n2 => exact ⟨_, rfl, if_t rfl k⟩
end
end K53
namespace K53
open PySem L2 RZ Own StX SkE
abbrev s_pays_of : Stmt := top 51
theorem sc_pays_of : FnScope ["one", "other", "move", "found", "graph", "step", "name", "pay", "key"] ["one", "other", "move"] (defScope s_pays_of) := ⟨rfl, rfl, rfl, by decide +kernel, rfl, by decide +kernel, by decide +kernel⟩
/-- names and pays -/
def PayD (names : List Str) (kvs : List (Key × V)) : Prop := kvs.map (·.1) = names.map Sum.inr ∧ ∀ kv ∈ kvs, ∃ n : Int, kv.2 = .int n ∧ -999999999999 ≤ n ∧ n ≤ 999999999999
theorem putK_map (kvs : List (Key × V)) (k : Key) (v : V) (h : k ∈ kvs.map (·.1)) : putK kvs k v = kvs.map fun kv => if kv.1 = k then (kv.1, v) else kv := by
  unfold putK
  rw [if_pos]
  obtain ⟨kv, h1, h2⟩ := List.mem_map.mp h
  exact List.any_eq_true.mpr ⟨kv, h1, decide_eq_true h2⟩
theorem PayD.put {names : List Str} {kvs : List (Key × V)} (h : PayD names kvs) {z : Str} {n : Int} (hz : z ∈ names) (h0 : -999999999999 ≤ n) (h1 : n ≤ 999999999999) : PayD names (putK kvs (.inr z) (.int n)) := by
  have hm : (Sum.inr z : Key) ∈ kvs.map (·.1) := by rw [h.1]; exact List.mem_map.mpr ⟨z, hz, rfl⟩
  rw [putK_map _ _ _ hm]
  refine ⟨?_, fun kv hk => ?_⟩
  · rw [← h.1, List.map_map]
    refine List.map_congr_left fun kv _ => ?_
    show (if kv.1 = _ then (kv.1, V.int n) else kv).1 = kv.1
    split <;> rfl
  · obtain ⟨kv0, hk0, rfl⟩ := List.mem_map.mp hk
    split
    · exact ⟨n, rfl, h0, h1⟩
    · exact h.2 kv0 hk0
theorem PayD.get {names : List Str} {kvs : List (Key × V)} (h : PayD names kvs) {z : Str} (hz : z ∈ names) : ∃ n : Int, valV kvs (.inr z) = some (.int n) ∧ -999999999999 ≤ n ∧ n ≤ 999999999999 := by
  have hm : (Sum.inr z : Key) ∈ kvs.map (·.1) := by rw [h.1]; exact List.mem_map.mpr ⟨z, hz, rfl⟩
  obtain ⟨kv, hkv, hk⟩ := List.mem_map.mp hm
  obtain ⟨v, h1, h2⟩ := valV_mem (k := kv.1) (v0 := kv.2) hkv
  have hk' : kv.1 = Sum.inr z := hk
  rw [hk'] at h1
  obtain ⟨n, e, b0, b1⟩ := h.2 _ h2
  have e' : v = .int n := e
  exact ⟨n, by rw [h1, e'], b0, b1⟩
theorem PayD.keys {names : List Str} {kvs : List (Key × V)} (h : PayD names kvs) {i : Nat} {k : Key} {v : V} (hi : kvs[i]? = some (k, v)) : ∃ z, k = .inr z ∧ names[i]? = some z := by
  have e : (kvs.map (·.1))[i]? = some k := by rw [List.getElem?_map, hi]; rfl
  rw [h.1, List.getElem?_map] at e
  cases q : names[i]? with
  | none => rw [q] at e; cases e
  | some z => rw [q] at e; exact ⟨z, (Option.some.inj e).symm, rfl⟩
theorem PayD.len {names : List Str} {kvs : List (Key × V)} (h : PayD names kvs) : kvs.length = names.length := by
  have := congrArg List.length h.1
  rwa [List.length_map, List.length_map] at this
section
variable {P : Program} {w : World} {K : PySem.W.Frag} {mg : Str → Option Value} {base : Heap}
theorem sqt_but {H H' : Hp} {D a : Addr} {kvs : List (Key × V)} {xs : List V} (e : ∀ b o, b ≠ D → H b = some o → H' b = some o) (hD : H D = some (.dK kvs)) (h : SqT K H a xs) : SqT K H' a xs := by
  rcases h with (h | ⟨o, h⟩) | h
  · exact .inl (.inl (e _ _ (ne_of h hD (fun z => nomatch z)) h))
  · exact .inl (.inr ⟨o, e _ _ (ne_of h hD (fun z => nomatch z)) h⟩)
  · exact .inr h
def spPaysOf (C : Addr) (K : PySem.W.Frag) : Sp := fun vs H Q _ => ∃ a b g g2 v m, vs = [.ref a, .ref b, v] ∧ GrAt K C H a g ∧ GrAt K C H b g2 ∧ MvAt K H v m ∧ MvIn g g2 m ∧ (g.meas ++ g2.meas).Nodup ∧ g.meas.length + g2.meas.length ≤ 4 ∧
  (∀ s ∈ g.steps, StpOk g.count g.meas.length s) ∧ (∀ s ∈ g2.steps, StpOk g2.count g2.meas.length s) ∧
  ∀ (p : Addr) (H' : Hp) (ps : List Int), Same H H' → SqT K H' p (ps.map V.int) → ps.length = g.meas.length + g2.meas.length → (∀ n ∈ ps, (-999999999999 : Int) ≤ n ∧ n ≤ 999999999999) → Q (.ref p) H'
theorem ok_pays_of {f C : Addr} {fd : FuncData} (F : Fun K "pays_of" "pays_of" s_pays_of f fd) (T : Txt K mg) (R : GrC K C) : FnOk P w K mg base CX0 1 f fd ["one", "other", "move"] (spPaysOf C K) := by
  refine F.ok sc_pays_of (fun vs H Q E h => ?_) (fun cdv A outer s H vs Q E hr h => ?_)
  · obtain ⟨_, _, _, _, _, _, rfl, _⟩ := h; rfl
  · obtain ⟨a, b, g, g2, v, ⟨m1, m2⟩, rfl, hg, hg2, ⟨pm, rfl, hp⟩, ⟨i1, i2, i3⟩, hnd, hml, so1, so2, k⟩ := h
    have hu := hu_of hr
    have hg' := hg
    have hg2' := hg2
    obtain ⟨dx, aS, aT, aM, aL, aO, aR, kvs, h1, h2, h3, h4, _⟩ := hg
    obtain ⟨dx', aS', aT', aM', aL', aO', aR', kvs', h1', h2', h3', h4', _⟩ := hg2
    refine ⟨_, (pss_cons (ps_set (i := 3) sc_pays_of.nd rfl (Or.inr rfl) (pe_dc (own := [("name", 6)]) (g := gName 6) (tt := tYes) (by rfl) sc_pays_of.nd ((pi_tupK K) (pe_tup (pa_star (fldK K (pv 0)) (pa_star (fldK K (pv 1)) pa_nil)))) (blkOk_by (N := ["one", "other", "move", "found", "graph", "step", "name", "pay", "key"]) (sc := (defScope s_pays_of)) (by decide +kernel)) (fun _ _ _ _ _ => (pg_name (i := 6) sc_pays_of.nd rfl (Or.inl rfl))) (fun _ _ _ _ _ => pts_nil) (fun _ _ _ _ _ => (pv 6)) (fun _ _ _ _ _ => pe_int)))
  (pss_cons (ps_for PassesOwn.never rfl (pi_zipA (by rfl) T.n_zip (pa_cons (pe_tup (pa_cons (pv 0) (pa_cons (pv 1) pa_nil))) (pa_cons (pv 2) pa_nil))) (pg_tupK K (pgs_cons (pg_name (i := 4) sc_pays_of.nd rfl (Or.inl rfl)) (pgs_cons (pg_name (i := 5) sc_pays_of.nd rfl (Or.inl rfl)) pgs_nil)))
  (pss_one (ps_if (pt_cmpR op_notN (pv 5) pe_non (nomark _)) (pss_one (ps_for PassesOwn.never rfl (pi_zipA (by rfl) T.n_zip (pa_cons (fldK K (pv 4)) (pa_cons (pe_ix (ix_tupK K) (pe_ix (ix_tupK K) (fldK K (pv 4)) (pv 5) (fun _ _ => rfl)) pe_int (fun _ _ => rfl)) pa_nil))) (pg_tupK K (pgs_cons (pg_name (i := 6) sc_pays_of.nd rfl (Or.inl rfl)) (pgs_cons (pg_name (i := 7) sc_pays_of.nd rfl (Or.inl rfl)) pgs_nil)))
  (pss_one (ps_dput hu (pv 3) (pv 6) (pv 7) rfl)))) pss_nil)))
  (pss_one (ps_ret (pe_callTy (tuple_ofK K) (by rfl) T.n_tuple (by decide +kernel) (pa_cons (pe_lc (own := [("name", 6)]) (g := gName 6) (tt := tYes) (by rfl) sc_pays_of.nd ((pi_listK K) (pe_callB (sortedSK K) (by rfl) T.n_sorted (by decide +kernel) (pa_cons (pe_lock (pe_lc (own := [("key", 8)]) (g := gName 8) (tt := tYes) (by rfl) sc_pays_of.nd (pi_keys (pv 3)) (blkOk_by (N := ["one", "other", "move", "found", "graph", "step", "name", "pay", "key"]) (sc := (defScope s_pays_of)) (by decide +kernel)) (fun _ _ _ _ _ => (pg_name (i := 8) sc_pays_of.nd rfl (Or.inl rfl))) (fun _ _ _ _ _ => pts_nil) (fun _ _ _ _ _ => (pe_callTy call_str_str (by rfl) T.n_str (by decide +kernel) (pa_cons (pv 8) pa_nil))))) pa_nil))) (blkOk_by (N := ["one", "other", "move", "found", "graph", "step", "name", "pay", "key"]) (sc := (defScope s_pays_of)) (by decide +kernel)) (fun _ _ _ _ _ => (pg_name (i := 6) sc_pays_of.nd rfl (Or.inl rfl))) (fun _ _ _ _ _ => pts_nil) (fun _ _ _ _ _ => (pe_dget hu (pv 3) (pv 6) (fun _ _ => rfl)))) pa_nil)))))), ?_⟩
    refine ⟨_, rfl, a, C, dx, _, .ref aM, rfl, h1, R.c, R.no _ (by simp), rfl, aM, _, rfl, .inl h3, _, rfl, b, C, dx', _, .ref aM', rfl, h1', R.c, R.no _ (by simp), rfl, aM', _, rfl, .inl h3', ?_⟩
    refine ⟨by simp only [List.length_append, List.length_map, List.length_nil]; exact Nat.le_of_lt (big_len (by omega)), fun p0 hp0 => ?_⟩
    have ec : g.meas.map V.str ++ (g2.meas.map V.str ++ []) = (g.meas ++ g2.meas).map V.str := by rw [List.append_nil, List.map_append]
    rw [ec]
    have hnl : (g.meas ++ g2.meas).length ≤ 4 := by rw [List.length_append]; exact hml
    generalize hnames : g.meas ++ g2.meas = names at hnd hnl ⊢
    have t0 : (upd H p0 (.tup (names.map V.str))) p0 = _ := upd_same
    have s0 : Same H (upd H p0 (.tup (names.map V.str))) := same_up hp0
    generalize (upd H p0 (.tup (names.map V.str))) = H0 at t0 s0 ⊢
    refine ⟨p0, rfl, ⟨_, SqT.of t0⟩, fun D hD => ?_⟩
    refine dc_it walk_tup (fun i H1 => ∃ kvs, Same H0 H1 ∧ H1 D = some (.dK kvs) ∧ PayD (names.take i) kvs) ⟨[], same_up hD, upd_same, rfl, fun kv h => by cases h⟩ (fun i H1 _ ⟨_, s1, _⟩ => SqT.of (s1 _ _ t0)) (fun i x H1 H1' hi ⟨kvs, s1, d1, p1⟩ ⟨eH, hx⟩ => ?_) fun H1 ⟨kvs, s1, d1, p1⟩ => ?_
    · subst eH
      obtain ⟨z, hz, rfl⟩ := get_mapS hx
      have hl1 := p1.len
      rw [List.length_take] at hl1
      refine ⟨rfl, yes_t ⟨_, rfl, kvs, .inr z, rfl, d1, big_len (by omega), kvs ++ [(.inr z, .int 0)], fun b o e => ?_, ?_, ?_, ?_⟩⟩
      · rw [upd_ne (ne_of_none e hD)]; exact s1 b o e
      · rw [upd_same, putK_new]
        refine valV_none_of fun hm => ?_
        rw [p1.1] at hm
        obtain ⟨y, hy, e⟩ := List.mem_map.mp hm
        cases e
        obtain ⟨j, hj⟩ := List.mem_iff_getElem?.mp hy
        rw [List.getElem?_take] at hj
        split at hj
        · have e1 := List.getElem?_eq_some_iff.mp hj
          have e2 := List.getElem?_eq_some_iff.mp hz
          have := (List.getElem_inj hnd).mp (e1.2.trans e2.2.symm)
          omega
        · cases hj
      · rw [List.map_append, p1.1, List.take_add_one, hz, List.map_append]; rfl
      · intro kv hk
        rcases List.mem_append.mp hk with q | q
        · exact p1.2 kv q
        · rw [List.mem_singleton.mp q]; exact ⟨0, rfl, by decide, by decide⟩
    · rw [List.length_map, List.take_length] at p1
      have s01 : Same H H1 := s0.trans s1
      have nDH : H D = none := s0.free hD
      refine ⟨_, rfl, _, rfl, (by show 2 ≤ sizeLine; decide), fun q0 hq0 => ⟨_, rfl, q0, pm, _, _, rfl, .inr ⟨SqT.of upd_same, Same.sqt (s01.trans (same_up hq0)) hp, ?_⟩⟩⟩
      have nqD : D ≠ q0 := ne_of_none d1 hq0
      have d2 : (upd H1 q0 (.tup [.ref a, .ref b])) D = some (.dK kvs) := by rw [upd_ne nqD]; exact d1
      have s02 : Same H (upd H1 q0 (.tup [.ref a, .ref b])) := s01.trans (same_up hq0)
      have q2 : (upd H1 q0 (.tup [.ref a, .ref b])) q0 = some (.tup [.ref a, .ref b]) := upd_same
      have nqH : H q0 = none := s01.free hq0
      generalize (upd H1 q0 (.tup [.ref a, .ref b])) = H2 at d2 s02 q2 ⊢
      refine for_it (walk_zipT (n := 2) (by simp)) (fun i σ H' => ∃ v4 v5 v6 v7 kvs, σ = [some (.ref a), some (.ref b), some (.ref pm), some (.ref D), v4, v5, v6, v7, none] ∧ Same H H' ∧ H' q0 = some (.tup [.ref a, .ref b]) ∧ H' D = some (.dK kvs) ∧ PayD names kvs)
        ⟨_, _, _, _, kvs, rfl, s02, q2, d2, p1⟩ (fun i σ H' _ ⟨_, _, _, _, _, _, s', q', _⟩ => ⟨SqT.of q', Same.sqt s' hp⟩) (fun i x σ H3 H4 hi ⟨v4, v5, v6, v7, kvs, e, s3, q3, d3, p3⟩ ⟨T', x1, x2, e1, e2, e3, e4, e5⟩ => ?_) fun σ H3 ⟨v4, v5, v6, v7, kvs, e, s3, q3, d3, p3⟩ => ?_
      · subst e e1 e3
        have nTD : D ≠ T' := ne_of_none d3 e2
        have nTq : q0 ≠ T' := ne_of_none q3 e2
        have s4 : Same H (upd H3 T' (.tup [x1, x2])) := s3.trans (same_up e2)
        have d4 : (upd H3 T' (.tup [x1, x2])) D = some (.dK kvs) := by rw [upd_ne nTD]; exact d3
        have q4 : (upd H3 T' (.tup [x1, x2])) q0 = some (.tup [.ref a, .ref b]) := by rw [upd_ne nTq]; exact q3
        refine ⟨T', _, rfl, SqT.of upd_same, rfl, _, _, rfl, _, _, rfl, rfl, ?_⟩
        obtain ⟨ga, gg, m, rfl, rfl, hgg, hsub, hmi, hso⟩ : ∃ ga gg m, x1 = .ref ga ∧ x2 = ov m ∧ GrAt K C H ga gg ∧ (∀ z ∈ gg.meas, z ∈ names) ∧ (∀ n, m = some n → n < gg.steps.length) ∧ (∀ s ∈ gg.steps, StpOk gg.count gg.meas.length s) := by
          match i, hi, e4, e5 with
          | 0, _, e4, e5 => exact ⟨a, g, m1, (Option.some.inj e4).symm, (Option.some.inj e5).symm, hg', fun z hz => hnames ▸ List.mem_append_left _ hz, i1, so1⟩
          | 1, _, e4, e5 => exact ⟨b, g2, m2, (Option.some.inj e4).symm, (Option.some.inj e5).symm, hg2', fun z hz => hnames ▸ List.mem_append_right _ hz, i2, so2⟩
        refine ⟨_, rfl, rfl, _, rfl, ?_⟩
        cases m with
        | none => exact if_f rfl ⟨_, _, _, _, kvs, rfl, s4, q4, d4, p3⟩
        | some n =>
          refine if_t rfl ?_
          have hn := hmi n rfl
          generalize (upd H3 T' (.tup [.ref ga, ov (some n)])) = H5 at s4 d4 q4 ⊢
          have hgg4 := hgg.mono s4
          obtain ⟨gx, gS, gT, gM, gL, gO, gR, gk, g1, _, g3, g4, _⟩ := hgg4
          obtain ⟨vs, v, bp, _, w1, w2, w3, w4, _⟩ := step_at g4 hn
          have hst := hso _ (List.getElem_mem hn)
          refine ⟨_, rfl, ga, C, gx, _, .ref gM, rfl, g1, R.c, R.no _ (by simp), rfl, _, rfl, ga, C, gx, _, .ref gT, rfl, g1, R.c, R.no _ (by simp), rfl, _, rfl, gT, vs, (n : Int), _, rfl, rfl, w1, atI_nat w2, v, _, 3, _, rfl, rfl, w3, rfl, gM, bp, _, _, rfl, .inr ⟨g3, w4, ?_⟩⟩
          refine for_it (walk_zipT (n := gg.meas.length) (by rw [List.length_map, List.length_map, hst.pl, Nat.min_self])) (fun i σ H' => ∃ v6 v7 kvs, σ = [some (.ref a), some (.ref b), some (.ref pm), some (.ref D), some (.ref ga), some (.int (n : Int)), v6, v7, none] ∧ (∀ b o, b ≠ D → H5 b = some o → H' b = some o) ∧ H' D = some (.dK kvs) ∧ PayD names kvs)
            ⟨_, _, kvs, rfl, fun _ _ _ e => e, d4, p3⟩ (fun i σ H' _ ⟨_, _, _, _, s', _⟩ => ⟨sqt_but s' d4 g3, sqt_but s' d4 w4⟩) (fun i x σ H6 H7 hi ⟨v6, v7, kvs, e, s6, d6, p6⟩ ⟨T2, y1, y2, f1, f2, f3, f4, f5⟩ => ?_) fun σ H6 ⟨v6, v7, kvs, e, s6, d6, p6⟩ => ?_
          · subst e f1 f3
            obtain ⟨z, hz, rfl⟩ := get_mapS f4
            obtain ⟨pn, hpn, rfl⟩ := get_map f5
            have hb := hst.pb pn (List.mem_of_getElem? hpn)
            have nT2 : D ≠ T2 := ne_of_none d6 f2
            refine ⟨T2, _, rfl, SqT.of upd_same, rfl, _, _, rfl, _, _, rfl, rfl, ?_⟩
            have d7 : (upd H6 T2 (.tup [.str z, .int pn])) D = some (.dK kvs) := by rw [upd_ne nT2]; exact d6
            refine ⟨_, rfl, _, rfl, _, rfl, D, _, rfl, DPut.k (k := .inr z) d7 (big_len (by rw [p6.len]; omega)), ?_⟩
            refine ⟨_, _, _, rfl, fun c o nc e => ?_, upd_same, p6.put (hsub z (List.mem_of_getElem? hz)) hb.1 hb.2⟩
            rw [upd_ne nc, upd_ne (ne_of_none (s6 _ _ nc e) f2)]
            exact s6 _ _ nc e
          · subst e
            refine ⟨_, _, _, _, kvs, rfl, fun c o e => s6 _ _ (fun z => by rw [z, nDH] at e; cases e) (s4 _ _ e), s6 _ _ (ne_of q4 d4 (fun z => nomatch z)) q4, d6, p6⟩
      · subst e
        have hkl := p3.len
        refine ⟨D, _, d3, trivial, fun od => ?_⟩
        have sL : ∀ b o, b ≠ D → H3 b = some o → (upd H3 D (.frz od (.dK kvs))) b = some o := fun b o n e => by rw [upd_ne n]; exact e
        refine ⟨_, rfl, D, od, rfl, .inl ⟨kvs, upd_same, fun D2 hD2 => ?_⟩⟩
        have nD2 : D2 ≠ D := fun z => by rw [z, upd_same] at hD2; cases hD2
        refine lc_ys walk_keys (names.map V.str) (by rw [List.length_map, hkl]) (small_len (by omega)) hD2 (fun H' s' => s' _ _ upd_same) (fun i x H4 H5 R hi s4 ⟨e, ky, vv, hkv, hx⟩ kk => ?_) (fun i H x H' h => by rw [h.1]; exact Same.refl _) fun H4 s4 hl4 => ?_
        · subst e hx
          obtain ⟨z, rfl, hz⟩ := p3.keys hkv
          exact ⟨rfl, _, rfl, z, rfl, kk _ _ (by rw [List.getElem?_map, hz]; rfl) (Same.refl _)⟩
        · refine ⟨s4 _ _ upd_same, ?_⟩
          have s5 : Same H3 (upd H4 D (.dK kvs)) := same_unlock d3 s4
          have hl5 : (upd H4 D (.dK kvs)) D2 = some (.lst (names.map V.str)) := by rw [upd_ne nD2]; exact hl4
          have d5 : (upd H4 D (.dK kvs)) D = some (.dK kvs) := upd_same
          generalize (upd H4 D (.dK kvs)) = H5 at s5 hl5 d5 ⊢
          refine ⟨D2, names, rfl, SqL.of hl5, fun ys p2 hperm _ hp2 => ?_⟩
          have s6 : Same H5 (upd H5 p2 (.lst (ys.map V.str))) := same_up hp2
          have p6 : (upd H5 p2 (.lst (ys.map V.str))) p2 = some (.lst (ys.map V.str)) := upd_same
          generalize (upd H5 p2 (.lst (ys.map V.str))) = H6 at s6 p6 ⊢
          refine ⟨p2, rfl, ⟨_, SqL.of p6⟩, fun D3 hD3 => ?_⟩
          have hyl : ys.length = names.length := hperm.length_eq
          refine lc_it walk_list (fun i H7 => Same H6 H7 ∧ ∃ ps : List Int, H7 D3 = some (.lst (ps.map V.int)) ∧ ps.length = i ∧ ∀ n ∈ ps, (-999999999999 : Int) ≤ n ∧ n ≤ 999999999999) ⟨same_up hD3, [], upd_same, rfl, fun n hn => by cases hn⟩ (fun i H7 _ ⟨s7, _⟩ => SqL.of (s7 _ _ p6)) (fun i x H7 H8 hi ⟨s7, ps, l7, l8, l9⟩ ⟨e, hx⟩ => ?_) fun H7 ⟨s7, ps, l7, l8, l9⟩ => ?_
          · subst e
            obtain ⟨z, hz, rfl⟩ := get_mapS hx
            obtain ⟨n, g0, g1, g2⟩ := p3.get (hperm.mem_iff.mp (List.mem_of_getElem? hz))
            rw [List.length_map] at hi
            refine ⟨rfl, yes_t ⟨_, rfl, _, rfl, D, .int n, rfl, ?_, _, l7, ?_, ?_⟩⟩
            · rw [← g0]
              exact DGet.k (k := .inr z) (s7 _ _ (s6 _ _ d5))
            · rw [List.length_map]
              exact big_len (by omega)
            · refine ⟨fun b o e => ?_, ps ++ [n], ?_, by rw [List.length_append, l8]; rfl, fun m hm => ?_⟩
              · rw [upd_ne (ne_of_none e hD3)]; exact s7 b o e
              · rw [upd_same, List.map_append]; rfl
              · rcases List.mem_append.mp hm with q | q
                · exact l9 m q
                · rw [List.mem_singleton.mp q]; exact ⟨g1, g2⟩
          · refine ⟨D3, _, rfl, .inl ⟨SqL.of l7, fun p hp => ?_⟩⟩
            refine k p _ ps ((((s3.trans s5).trans s6).trans s7).trans (same_up hp)) (SqT.of upd_same) ?_ l9
            rw [l8, List.length_map, hyl, ← hnames, List.length_append]
end
end K53
namespace Own
open PySem L2 RZ PySem.Spec PyProof.Rows PySem.Froz
section
variable {X : Cx} {pins : List (Addr × Obj)} {σ : L2.St} {H : Hp} {s : Shared}
/-! ### *d, d a dict -/
theorem star_dict {a : Addr} {kvs : List (Key × V)} {E : Value → Shared → Prop} {Q : List Value → Shared → Prop} (hc : X.calm = true) (I : Inv X pins σ H s) (h : H a = some (.dK kvs)) (hQ : ∀ us s', Inv X pins σ H s' → Vals (kvs.map fun kv => kV kv.1) us → Q us s') :
    PySem.W.StarOf (model X.prog X.w) X.A E (.ref a) Q s := by
  obtain ⟨z, lo, vs, rk, hd⟩ := (show ObjOk X.prog X.w H s.heap a (.dK kvs) from I.hok a _ h)
  obtain ⟨ep, hat⟩ := hd.dictAt
  have hl : kvs.length = vs.length := Paired.length rk
  have hT : s.TypeIs (.ref a) "dict" := hd.typeIs
  have hlt : a < s.heap.objs.size := by
    obtain ⟨o, ho, _⟩ := hT
    exact Heap.lt_size ho
  unfold PySem.W.StarOf notIterableAtAll
  refine wpAny_bind (wpAny_specialOf hT F.slot_dict_iter.lookup (wpAny_pure ⟨rfl, ?_⟩))
  unfold collect
  refine wpAny_bind (wpAny_runValue (codeAny_builtin PySem.F.entry_proto_collect ?_))
  rw [Around.under_plainId PySem.F.plain_proto_collect _]
  show wpAny _ X.A.in1 (newList [] >>= fun l => again (.builtin "list.__iadd__" ⟨[l, .ref a], []⟩)) _ _ s
  refine wpAny_bind (wpAny_newObj_type ?_)
  have hS : (s.heap.push { cls := .type "list", data := .seq ([] : List Value).toArray }).get? s.heap.objs.size = some { cls := .type "list", data := .seq ([] : List Value).toArray } := Heap.get?_push_size _ rfl
  have KS := PySem.W.kdl_dict (knd := mixKind X.prog X.w) (kvs := vs) (ep := ep) (prog := X.prog) (w := X.w) lo
  have key : ∀ R : Result → Shared → Prop, (∀ h' tk acc' c', (∀ b o, b ≠ s.heap.objs.size → (s.heap.push { cls := .type "list", data := .seq ([] : List Value).toArray }).get? b = some o → h'.get? b = some o) → h'.get? s.heap.objs.size = some { cls := .type "list", dict := none, data := .seq acc' c', slots := #[] } →
      ItemsOf (fun i v => ∃ k y, vs[i]? = some (k, y) ∧ (mixKind X.prog X.w).is k v = true) acc' vs.length → R (.ok (.ret (.ref s.heap.objs.size))) { s with heap := h', toks := tk }) →
      codeAny (model X.prog X.w) X.A (.builtin "list.__iadd__" ⟨[.ref s.heap.objs.size, .ref a], []⟩) R { s with heap := s.heap.push { cls := .type "list", data := .seq ([] : List Value).toArray } } := fun R hR => by
    refine codeAny_builtin PySem.F.entry_list_iadd ?_
    rw [Around.under_plainId PySem.F.plain_list_iadd _]
    exact PySem.W.kdl_extend (R := R) (s := { s with heap := s.heap.push { cls := .type "list", data := .seq ([] : List Value).toArray } }) KS (I.ok.hd hc) (KS.keep _ _ hat fun b _ o e => Heap.get?_push_of_some _ e) s.heap.objs.size (Nat.ne_of_gt hlt) (Nat.ne_of_gt hlt) _ 0 hS hR (by rw [← hl]; exact z)
  refine wpAny_pure ⟨plainId_quiet PySem.F.plain_list_iadd _, key _ fun h' tk acc' c' hk hS' hacc => ?_⟩
  show wpAny _ X.A (load s.heap.objs.size >>= _) _ _ _
  refine wpAny_bind (wpAny_load hS' ?_)
  refine wpAny_pure ?_
  show Q acc'.toList _
  refine hQ _ _ (I.kept (t' := tk) fun b o e => hk b o (Nat.ne_of_lt (Heap.lt_size e)) (Heap.get?_push_of_some _ e)) ?_
  have el : acc'.toList.length = acc'.size := by simp
  refine vals_of_at (by rw [List.length_map, el, hacc.1, hl]) fun j x w h1 h2 => ?_
  obtain ⟨k, y, hky, hi⟩ := hacc.2 j w (by rw [← Array.getElem?_toList]; exact h2)
  have e1 : (kvs.map (·.1))[j]? = some k := by
    rw [KV.keys rk, List.getElem?_map, hky] <;> rfl
  have e2 : (kvs.map fun kv => kV kv.1)[j]? = some (kV k) := by
    have e3 : (kvs.map fun kv => kV kv.1) = (kvs.map (·.1)).map kV := by rw [List.map_map] <;> rfl
    rw [e3, List.getElem?_map, e1] <;> rfl
  rw [e2] at h1
  cases h1
  exact keyIs_rel hi
end
section
variable {X : Cx} {e : Expr} {es : List Expr} {te : TE} {t : TA} {p : Pos}
def tStarD (te : TE) (t : TA) : TA := fun σ H Q => te σ H fun x H1 => ∃ a kvs, x = V.ref a ∧ H1 a = some (.dK kvs) ∧ t σ H1 fun ys H2 => Q ((kvs.map fun kv => kV kv.1) ++ ys) H2
theorem pa_starD (hc : X.calm = true) (he : PE X e te) (hr : PA X es t) (hs : starEach (.Starred e p :: es) X.env = (true, eval e X.env) :: starEach es X.env := by rfl) : PA X (.Starred e p :: es) (tStarD te t) := by
  refine ⟨fun pos pins s σ H Q I h => ?_⟩
  refine PySem.W.items_star (thn (he.run pins s σ H _ I h) fun v s1 ⟨y, H1, I1, ry, a, kvs, ey, hx, q⟩ => ?_) hs
  subst ey
  obtain rfl : v = Value.ref a := ry
  refine star_dict hc I1 hx fun us s2 I2 rv => ?_
  exact thn (hr.run pos pins s2 σ H1 _ I2 q) fun ws s3 ⟨vs, H3, I3, r3, q3⟩ => ⟨_, H3, I3, rv.append r3, q3⟩
end
/-! ### sets of texts -/
/-- the set of the texts l at a, as it lies -/
def TxR (P : Program) (w : World) (h : Heap) (a : Addr) (l : List Str) : Prop :=
  ∃ D : SD, h.get? a = some (sObj "set" D) ∧ TxOk P w D l ∧ l.Nodup ∧ Ris D.2.2.place.toList ∧ (w.params.followText "set-order" = true ∨ D.2.2.led = true)
theorem TxR.at {P : Program} {w : World} {h h' : Heap} {a : Addr} {l : List Str} (R : TxR P w h a l) (k : ∀ o, h.get? a = some o → h'.get? a = some o) : TxR P w h' a l := by
  obtain ⟨D, ho, r⟩ := R
  exact ⟨D, k _ ho, r⟩
theorem tail_ris {w : World} {ep : Nat} {es1 : Array (Int × Value)} {t2 : SetTable} {wd : Bool} (r : Ris t2.place.toList) (hl : w.params.followText "set-order" = true ∨ t2.led = true) :
    Ris (tailTx ep es1 t2 wd).2.2.place.toList ∧ (w.params.followText "set-order" = true ∨ (tailTx ep es1 t2 wd).2.2.led = true) := by
  unfold tailTx
  split
  · exact ⟨relayAll_ris _ _ _, hl.imp id fun z => by rw [relayAll_led]; exact z⟩
  · exact ⟨r, hl⟩
theorem add_ris {w : World} {h : Int} {v : Value} {D : SD} (r : Ris D.2.2.place.toList) (hl : w.params.followText "set-order" = true ∨ D.2.2.led = true) :
    Ris (addTx h v D).2.2.place.toList ∧ (w.params.followText "set-order" = true ∨ (addTx h v D).2.2.led = true) := by
  have r1 := layNew_ris D.2.2 D.1 h v r
  have l1 := layNew_led D.2.2 D.1 h v
  unfold addTx
  refine tail_ris ?_ (hl.imp id fun z => ?_)
  · split
    · exact r1
    · exact r1
  · split
    · exact l1.trans z
    · exact l1.trans z
section
variable {P : Program} {w : World} {A : Around} {E : Value → Shared → Prop} {s : Shared}
theorem tx_add {a : Addr} {l : List Str} {k : Str} {u : Tok} {Q : Bool → Shared → Prop} (R : TxR P w s.heap a l) (hb : l.length + 1 < scanBound)
    (h : ∀ b h', Heap.SameBut a s.heap h' → TxR P w h' a (if k ∈ l then l else k :: l) → Q b { s with heap := h' }) : wpAny (model P w) A (setAddHashed a (.str k u) (hashStr w k)) Q E s := by
  obtain ⟨D, ho, F, nd, r, hl⟩ := R
  by_cases hk : k ∈ l
  · rw [if_pos hk] at h
    obtain ⟨es, ep, t⟩ := D
    have hd : (sObj "set" (es, ep, t)).data = .set es ep t := rfl
    have hf : t.fits es.size = true := F.fit
    have hel : ElemsOf (strKind P w) es.toList := F.el
    have hsz : es.size = l.length := F.sz
    have hb0 : es.size < scanBound := by omega
    have hkey : (strKind P w).is k (.str k u) = true := is_str k u
    unfold setAddHashed setAddHashedIn
    refine wpAny_holding (wpAny_bind (wpAny_setState_of ho hd hf ?_))
    dsimp only
    rw [byScan_of rfl hb0 hel]
    simp only [↓reduceIte]
    unfold setAddByScan
    refine wpAny_bind ?_
    refine wpAny_bind (wpAny_rule ?_)
    refine wpAny_bind (wpAny_setScan_of (knd := strKind P w) (k := k) hkey ho hd hf hel ?_)
    cases hfi : List.findIdx? (fun e => (strKind P w).is k e.2) es.toList with
    | none =>
      obtain ⟨e, he, q⟩ := (F.mem k).mp hk
      have c := List.findIdx?_eq_none_iff.mp hfi e he
      rw [q] at c
      cases c
    | some j =>
      dsimp only
      exact wpAny_pure (wpAny_pure (h false s.heap (Heap.SameBut.refl a s.heap) ⟨_, ho, F, nd, r, hl⟩))
  · rw [if_neg hk] at h
    obtain ⟨r2, l2⟩ := add_ris (w := w) (h := hashStr w k) (v := .str k u) r hl
    refine add_x ho F hk hb (h true _ (Heap.SameBut.update s.heap a _) ⟨_, get_upd _ ho rfl, add_ok u F, List.nodup_cons.mpr ⟨hk, nd⟩, r2, l2⟩)
end
end Own
namespace Own
open PySem L2 RZ PySem.Spec PyProof.Rows PySem.Froz
/-- what the first i texts make -/
def GotS (xs : List Str) (i : Nat) (l : List Str) : Prop := (∀ k, k ∈ l ↔ k ∈ xs.take i) ∧ l.length ≤ i
theorem GotS.step {xs : List Str} {i : Nat} {l : List Str} {x : Str} (g : GotS xs i l) (hx : xs[i]? = some x) : GotS xs (i + 1) (if x ∈ l then l else x :: l) := by
  obtain ⟨g1, g2⟩ := g
  refine ⟨fun k => ?_, ?_⟩
  · rw [List.take_add_one, hx, List.mem_append, ← g1]
    show _ ↔ k ∈ l ∨ k ∈ [x]
    rw [List.mem_singleton]
    split
    · rename_i h
      exact ⟨.inl, fun z => z.elim id fun e => e ▸ h⟩
    · rw [List.mem_cons]
      exact Or.comm
  · split
    · omega
    · rw [List.length_cons]; omega
section
variable {P : Program} {w : World} {A : Around} {E : Value → Shared → Prop} {s : Shared}
theorem set_update_txt {I : Addr} {fp wr : List Addr} {G : Array GenState → Array GenState → Prop} {n : Nat} {Pv : Nat → Value → Prop} {St : Nat → Shared → Prop} {R : Result → Shared → Prop}
    (W : WalksS P w A.in1 I fp wr G n Pv St) (S : Addr) (hSf : S ∉ fp) (xs : List Str) (hn : n = xs.length) (hfew : xs.length + 1 < scanBound) (hval : ∀ i v, Pv i v → ∃ x t, xs[i]? = some x ∧ v = .str x t) :
    ∀ (k i : Nat) (s : Shared), n - i = k → i ≤ n → St i s → (∃ l, TxR P w s.heap S l ∧ GotS xs i l) →
      (∀ s' l, Moved (S :: wr) G s s' → TxR P w s'.heap S l → GotS xs n l → R (.ok (.ret .none)) s') →
      codeAny (model P w) A (.builtin "set.update.loop" ⟨[.ref S, .ref I], []⟩) R s := by
  have hSw : S ∉ wr := fun h => hSf (W.sub _ h)
  have hsub : ∀ b ∈ wr, b ∈ S :: wr := fun b hb => List.mem_cons_of_mem _ hb
  intro k
  induction k with
  | zero =>
    intro i s hk' hi hst ⟨l, hS, g⟩ hR
    have hin : i = n := by omega
    subst hin
    refine codeAny_builtin F.entry_set_update_loop ?_
    rw [Around.under_plainId F.plain_set_update_loop _]
    show wpAny _ A.in1 (pyNext (.ref I) >>= _) _ _ s
    refine wpAny_bind (W.done s _ _ hst fun s' hm => ?_)
    show wpAny _ A.in1 (ret Value.none) _ _ s'
    exact wpAny_pure (hR s' l (hm.mono hsub) (hS.at fun o e => hm.heap S o hSw e) g)
  | succ k ih =>
    intro i s hk' hi hst ⟨l, hS, g⟩ hR
    have hlt : i < n := by omega
    refine codeAny_builtin F.entry_set_update_loop ?_
    rw [Around.under_plainId F.plain_set_update_loop _]
    show wpAny _ A.in1 (pyNext (.ref I) >>= _) _ _ s
    refine wpAny_bind (W.item i s _ _ hlt hst fun v s' hP hst' hm => ?_)
    obtain ⟨x, t, hx, rfl⟩ := hval i v hP
    have hS' : TxR P w s'.heap S l := hS.at fun o e => hm.heap S o hSw e
    show wpAny _ A.in1 (holding [Value.str x t] (setAdd S (.str x t)) >>= _) _ _ s'
    refine wpAny_bind (wpAny_holding ?_)
    unfold setAdd
    refine wpAny_holding ?_
    refine wpAny_bind ((PySem.strKind P w).pyHash (k := x) (strKind_is _ _ _ _) ?_)
    refine tx_add (s := { s' with toks := s'.toks + 1 }) hS' (by have := g.2; omega) fun b h' hsb hS2 => ?_
    refine wpAny_pure ⟨plainId_quiet F.plain_set_update_loop _, ih (i + 1) _ (by omega) hlt (W.frame _ s' _ _ hst' (Nat.le_succ _) fun b hb o e => ?_) ⟨_, hS2, g.step hx⟩ fun s'' l2 hm'' hS'' g'' => ?_⟩
    · rw [hsb.2 b (fun h : b = S => hSf (by rw [← h]; exact hb))]; exact e
    · refine hR s'' l2 (Moved.trans W.gtrans ((hm.mono hsub).then_heap (Nat.le_succ _) fun b o hb e => ?_) hm'') hS'' g''
      rw [hsb.2 b (fun h : b = S => hb (by rw [h]; exact List.mem_cons_self))]; exact e
theorem tx_fresh {h : Heap} {a : Addr} (ho : h.get? a = some { cls := .type "set", dict := none, data := .set #[] 0 (.fresh 0 0 (!w.params.followText "set-order")) }) : TxR P w h a [] :=
  ⟨(#[], 0, .fresh 0 0 (!w.params.followText "set-order")), ho, TxOk.nil (by rfl), List.nodup_nil, List.Pairwise.nil, by
    show _ ∨ (!w.params.followText "set-order") = true
    cases w.params.followText "set-order"
    · exact .inr rfl
    · exact .inl rfl⟩
set_option maxHeartbeats 3200000 in
/-- set(a list of texts) -/
theorem call_set_txt {l : Addr} {items : Array Value} (xs : List Str) {Q : Value → Shared → Prop} (hh : A.handled = none) (hl : s.heap.IsList l items) (hit : StrsAre items.toList xs) (hfew : xs.length + 1 < scanBound)
    (h : ∀ (h' : Heap) (tk : Nat) L, TxR P w h' s.heap.objs.size L → (∀ k, k ∈ L ↔ k ∈ xs) → (∀ b o, s.heap.get? b = some o → h'.get? b = some o) → Q (.ref s.heap.objs.size) { s with heap := h', toks := tk }) :
    wpAny (model P w) A (call (.type "set") [.ref l]) Q E s := by
  have hisz : items.size = xs.length := by
    have q := StrsAre.length hit
    rw [Array.length_toList] at q
    exact q
  obtain ⟨c, tl, hmro⟩ := F.called_set.mro
  have hmade := F.called_set.made
  have hsub := F.called_set.sub
  refine wpAny_call (codeAny_of_tree ?_)
  show wpAny _ _ (callAny (.type "set") _) _ _ _
  refine wpAny_pure ⟨Code.quiet_builtin _ (by decide +kernel), codeAny_builtin F.entry_type_call ?_⟩
  rw [Around.under_plain (weight_type_call_type "set" [.ref l] []) rfl]
  have h1 := F.called_set.notType
  have h2 := F.called_set.canCreate
  have hct := F.typeCall_set_1 (.ref l)
  repeat (any_goals (first | assumption | wp_step))

  refine codeAny_mono (code_set_led1 (.ref l) (E := E) (Q₁ := fun obj s₁ => obj = .ref s.heap.objs.size ∧ s₁ = { s with heap := s.heap.push { cls := .type "set", dict := none, data := .set #[] 0 (.fresh 0 0 (!w.params.followText "set-order")) } }) ⟨rfl, rfl⟩) fun r s₁ hr => ?_
  cases r with
  | error e => exact hr
  | ok fl =>
    cases fl with
    | ret obj =>
      obtain ⟨rfl, rfl⟩ := hr
      have hS : (s.heap.push { cls := .type "set", dict := none, data := .set #[] 0 (.fresh 0 0 (!w.params.followText "set-order")) }).get? s.heap.objs.size = some { cls := .type "set", dict := none, data := .set #[] 0 (.fresh 0 0 (!w.params.followText "set-order")) } := Heap.get?_push_size _ rfl
      have hT : Shared.TypeIs { s with heap := s.heap.push { cls := .type "set", dict := none, data := .set #[] 0 (.fresh 0 0 (!w.params.followText "set-order")) } } (.ref s.heap.objs.size) "set" := ⟨_, hS, rfl⟩
      have hli := F.called_set.init.lookup
      have hbi := F.called_set.init.bind (.ref s.heap.objs.size)
      repeat (any_goals (first | assumption | wp_step))

      refine codeAny_mono (codeAny_call_builtin (R := wants (fun r s₂ => r = .none ∧ ∃ h' tk L, s₂ = { s with heap := h', toks := tk } ∧ TxR P w h' s.heap.objs.size L ∧ GotS xs xs.length L ∧
          (∀ b o, s.heap.get? b = some o → h'.get? b = some o)) E) F.called_set.init.plain F.entry_set_init (check_set_init_1 hT ?_)) fun r₂ s₂ hr₂ => ?_
      · obtain ⟨ol, hol, hcl, nl, hdl⟩ := hl
        obtain ⟨ocls, odict, odata, oslots⟩ := ol
        simp only at hcl hdl
        subst hcl; subst hdl
        have hol' : (s.heap.push { cls := .type "set", dict := none, data := .set #[] 0 (.fresh 0 0 (!w.params.followText "set-order")) }).get? l = some { cls := .type "list", dict := odict, data := .seq items nl, slots := oslots } := Heap.get?_push_of_some _ hol
        have hsls := F.sub_list_set
        have hslf := F.sub_list_frozenset
        have hne : (Value.type "list" == Value.type "dict") = false := by decide
        have hl1 : (s.heap.push { cls := .type "set", dict := none, data := .set #[] 0 (.fresh 0 0 (!w.params.followText "set-order")) }).IsList l items := ⟨_, hol', rfl, nl, rfl⟩
        unfold Builtin.«set.__init__» noKeywords Builtin.Frozenset.updateFrom
        generalize hPI : pyIter = PI
        wp_walk
        subst hPI

        refine wpAny_pyIter_list hl1 ?_
        refine wpAny_bind (wpAny_runValue ?_)
        have hlS : l < s.heap.objs.size := Heap.lt_size hol
        have hh3 : A.in1.in1.in1.handled = none := by simp [hh]
        have hneI : l ≠ (s.heap.push { cls := .type "set", dict := none, data := .set #[] 0 (.fresh 0 0 (!w.params.followText "set-order")) }).objs.size := by
          rw [Heap.size_push]; exact Nat.ne_of_lt (Nat.lt_succ_of_lt hlS)
        have hSf : s.heap.objs.size ∉ [(s.heap.push { cls := .type "set", dict := none, data := .set #[] 0 (.fresh 0 0 (!w.params.followText "set-order")) }).objs.size, l] := by
          rw [Heap.size_push]; simp only [List.mem_cons, List.mem_singleton, List.not_mem_nil, or_false, not_or]
          exact ⟨Nat.ne_of_lt (Nat.lt_succ_self _), Nat.ne_of_gt hlS⟩
        have hval : ∀ (i : Nat) (v : Value), items[i]? = some v → ∃ x t, xs[i]? = some x ∧ v = .str x t := fun i v hv => by
          have q : items.toList[i]? = some v := by rw [Array.getElem?_toList]; exact hv
          obtain ⟨t, e⟩ := SS.strs_at hit i v q
          have hi : i < xs.length := by
            have := (List.getElem?_eq_some_iff.mp q).1
            rw [Array.length_toList, hisz] at this
            exact this
          exact ⟨xs[i], t, List.getElem?_eq_getElem hi, by rw [e, List.getD_eq_getElem?_getD, List.getElem?_eq_getElem hi]; rfl⟩
        have none_of : ∀ b, s.heap.objs.size ≤ b → s.heap.get? b = none := fun b hb => by
          cases q : s.heap.get? b with
          | none => rfl
          | some o => exact absurd (Nat.lt_of_lt_of_le (Heap.lt_size q) hb) (Nat.lt_irrefl _)
        refine set_update_txt ((Walks.list hh3 _ l hneI items).toS) s.heap.objs.size
          hSf xs hisz hfew hval (items.size - 0) 0 _ (by omega) (Nat.zero_le _)
          ⟨⟨_, Heap.get?_push_size _ rfl, rfl, rfl⟩, (hl1.push _)⟩ ?hS0 ?hR
        case hS0 =>
          have hget : ((s.heap.push { cls := .type "set", dict := none, data := .set #[] 0 (.fresh 0 0 (!w.params.followText "set-order")) }).push { cls := .type "list_iterator", data := .fields #[.ref l, .int 0 0] }).get? s.heap.objs.size
              = some { cls := .type "set", dict := none, data := .set #[] 0 (.fresh 0 0 (!w.params.followText "set-order")) } := Heap.get?_push_of_some _ hS
          exact ⟨[], tx_fresh hget, fun k => by simp, Nat.le_refl _⟩
        case hR =>
          intro s' L hm hS' g'
          obtain ⟨h', g2, d', tk', os'⟩ := s'
          have eg : g2 = s.gens := hm.gens
          have ed : d' = s.drawn := hm.drawn
          have eo : os' = s.os := hm.os
          subst eg; subst ed; subst eo
          show wpAny _ _ _ _ _ _
          refine wpAny_pure ?_
          show wpAny _ _ (ret Value.none) _ _ _
          rw [hisz] at g'
          refine wpAny_pure ⟨rfl, h', tk', L, rfl, hS', g', fun b o e => hm.heap b o (fun z => ?_) (Heap.get?_push_of_some _ (Heap.get?_push_of_some _ e))⟩
          have hb := Heap.lt_size e
          rcases List.mem_cons.mp z with z | z
          · exact absurd hb (by rw [z]; exact Nat.lt_irrefl _)
          · rw [List.mem_singleton.mp z, Heap.size_push] at hb
            exact absurd hb (Nat.not_lt_of_le (Nat.le_succ _))

      · cases r₂ with
        | error e => exact hr₂
        | ok fl₂ =>
          cases fl₂ with
          | ret r =>
            obtain ⟨rfl, h', tk, L, rfl, hS', g', hk'⟩ := hr₂
            repeat (any_goals (first | assumption | wp_step))
            exact h _ _ _ hS' (fun k => by rw [g'.1 k, List.take_length]) hk'
          | _ => exact hr₂.elim
    | _ => exact hr.elim
end
end Own
namespace Own
open PySem L2 RZ PySem.Spec PyProof.Rows PySem.Froz
theorem perm_of_sub : ∀ (l ss : List Str), l.Nodup → (∀ k ∈ l, k ∈ ss) → ss.length ≤ l.length → ss.Perm l
  | [], ss, _, _, h => by
    have : ss = [] := List.length_eq_zero_iff.mp (Nat.le_zero.mp h)
    rw [this]
  | a :: r, ss, nd, hs, h => by
    have ha : a ∈ ss := hs a List.mem_cons_self
    obtain ⟨n1, n2⟩ := List.nodup_cons.mp nd
    have p1 : ss.Perm (a :: ss.erase a) := List.perm_cons_erase ha
    refine p1.trans (List.Perm.cons a (perm_of_sub r (ss.erase a) n2 (fun k hk => ?_) ?_))
    · exact (List.mem_erase_of_ne (fun e => n1 (by rw [← e]; exact hk))).mpr (hs k (List.mem_cons_of_mem _ hk))
    · rw [List.length_erase_of_mem ha]
      rw [List.length_cons] at h
      omega
theorem strsAre_mem : ∀ {vs : List Value} {ss : List Str}, StrsAre vs ss → ∀ {k : Str} {t : Tok}, Value.str k t ∈ vs → k ∈ ss
  | _, _, .nil, _, _, h => by cases h
  | _, _, .cons n t r, k, t', h => by
    rcases List.mem_cons.mp h with e | h
    · cases e; exact List.mem_cons_self
    · exact List.mem_cons_of_mem _ (strsAre_mem r h)
section
variable {P : Program} {w : World} {A : Around} {E : Value → Shared → Prop} {s : Shared}
theorem isStr_shape {k : Str} {v : Value} (h : (strKind P w).is k v = true) : ∃ t, v = .str k t := by
  have h' : Value.isStrOf k v = true := h
  cases v <;> simp [Value.isStrOf] at h'
  exact ⟨_, by rw [h']⟩
theorem strs_of_elems {es : List (Int × Value)} (h : ElemsOf (strKind P w) es) : ∀ vs : List Value, (∀ v ∈ vs, ∃ e ∈ es, e.2 = v) → ∃ ss, StrsAre vs ss
  | [], _ => ⟨[], .nil⟩
  | v :: vs, hv => by
    obtain ⟨e, he, q⟩ := hv v List.mem_cons_self
    obtain ⟨ss, h1⟩ := strs_of_elems h vs fun u hu => hv u (List.mem_cons_of_mem _ hu)
    obtain ⟨⟨k, hk, _⟩, _⟩ := h e he
    obtain ⟨t, ht⟩ := isStr_shape hk
    rw [q] at ht
    rw [ht]
    exact ⟨k :: ss, .cons k t h1⟩
/-- sorted(a set of texts) -/
theorem sorted_txt {a : Addr} {l : List Str} {Q : Value → Shared → Prop} (R : TxR P w s.heap a l) (hh : A.handled = none) (hb : l.length < scanBound)
    (hQ : ∀ s' p (out : Array Value) (c : Nat) (ss : List Str), (∀ b o, s.heap.get? b = some o → s'.heap.get? b = some o) → s'.gens = s.gens → s'.os = s.os → s.heap.objs.size ≤ p →
      s'.heap.get? p = some (seqObj "list" out c) → StrsAre out.toList ss → ss.Perm l → Q (.ref p) s') :
    wpAny (model P w) A (call (.builtin "sorted") [.ref a]) Q E s := by
  obtain ⟨⟨es, ep, t⟩, ho, F0, nd, r, hl⟩ := R
  refine Calls.call_function_entry kind_sorted plain_sorted entry_sorted (args_sorted1 _) ?_
  unfold Builtin.«sorted»
  refine wpAny_bind (m := checkCount "sorted" 1 1 _) (wpAny_pure ?_)
  have hes : es.size = l.length := F0.sz
  refine wpAny_bind (collect_set (A := A.in1) hh ⟨_, ho, rfl, rfl⟩ F0.fit (by rw [hes]; exact hb) r hl fun s1 vs k1 hz g1 o1 pm => ?_)
  have hvl : vs.length = l.length := by rw [pm.length_eq, List.length_map, Array.length_toList, hes]
  obtain ⟨ss, hS⟩ := strs_of_elems F0.el vs fun v hv => by
    obtain ⟨e, he, q⟩ := List.mem_map.mp (pm.mem_iff.mp hv)
    exact ⟨e, he, q⟩
  have hss : ss.length = l.length := by rw [← StrsAre.length hS, hvl]
  have hpl : ss.Perm l := perm_of_sub l ss nd (fun k hk => by
    obtain ⟨e, he, q⟩ := (F0.mem k).mp hk
    obtain ⟨tk, q2⟩ := isStr_shape q
    exact strsAre_mem hS (k := k) (t := tk) (by rw [← q2]; exact pm.mem_iff.mpr (List.mem_map.mpr ⟨e, he, rfl⟩))) (by rw [hss]; exact Nat.le_refl _)
  have hlz : vs.length ≤ sizeLine := by
    rw [hvl, sizeLine_eq]
    unfold scanBound at hb
    omega
  refine wpAny_bind (wpAny_newList ?_ hlz)
  have hoL : (s1.heap.push (seqObj "list" vs.toArray 0)).get? s1.heap.objs.size = some (seqObj "list" vs.toArray 0) := Heap.get?_push_size _ rfl
  refine wpAny_bind (wpAny_holding (wpAny_call_entry slot_list_sort ⟨_, hoL, rfl⟩ entry_list_sort (list_sort_treeKAny (s := { s1 with heap := s1.heap.push (seqObj "list" vs.toArray 0) }) strKind_oneLt hoL hS.keysOf (fun v₁ v₂ rest e => keyKind_strs (by rw [← e]; exact hS)) hlz fun st' a1 a2 => ⟨_, rfl, ?_⟩) (args_list_sort _)))
  obtain ⟨ss', h1, h2, h3⟩ := sorted_out_str hS a1 a2
  obtain ⟨c, hc⟩ := sortedHeap_at (vs := vs) (out := (arrOf st').map (·.2)) hoL
  refine wpAny_pure ⟨_, rfl, hQ _ s1.heap.objs.size _ c ss' (fun b u e => ?_) g1 o1 hz hc h1 (h2.trans hpl)⟩
  have q := k1 b u e
  have hlt := Heap.lt_size q
  show (sortedHeap (s1.heap.push (seqObj "list" vs.toArray 0)) s1.heap.objs.size vs _).get? b = some u
  rw [sortedHeap_old (Nat.ne_of_lt hlt) (by rw [size_push']; exact Nat.lt_succ_of_lt hlt)]
  exact Heap.get?_push_of_some _ q
end
/-! ### the rules -/
def SetTx (P : Program) (w : World) (a : Addr) (l : List Str) : HO := .ext fun h => TxR P w h a l
section
variable {X : Cx}
def rSetTx (P : Program) (w : World) (K : PySem.W.Frag) : List V → Hp → VK → Prop := fun vs H Q => ∃ (a : Addr) (xs : List Str), vs = [V.ref a] ∧ SqL K H a (xs.map V.str) ∧ xs.length + 1 < scanBound ∧
  ∀ p l, H p = none → (∀ k, k ∈ l ↔ k ∈ xs) → l.Nodup → Q (.ref p) (upd H p (SetTx P w p l))
theorem cr_setTx (hc : X.calm = true) : CallR X (.type "set") (rSetTx X.prog X.w X.K) := by
  intro pins s σ H vs us Q I r h
  obtain ⟨a, xs, rfl, hs, hb, q⟩ := h
  obtain ⟨its, rv, hl, hz⟩ := I.list hs
  rw [Vals.ref1 r]
  have hit : StrsAre its.toArray.toList xs := by
    have e : its.toArray.toList = its := by simp
    rw [e]; exact strsAre_of rv
  refine call_set_txt xs (I.ok.hd hc) hl.isList hit hb fun h' tk L hR hm hk => ?_
  have nd : L.Nodup := by obtain ⟨_, _, _, nd, _⟩ := hR; exact nd
  have ob : ObjOk X.prog X.w (upd H s.heap.objs.size (SetTx X.prog X.w s.heap.objs.size L)) h' s.heap.objs.size (SetTx X.prog X.w s.heap.objs.size L) :=
    ⟨hR, let ⟨D, ho, _⟩ := hR; ⟨_, ho⟩, fun h1 h2 p k => p.at k⟩
  exact ⟨.ref _, _, I.laid (t' := tk) hk (Nat.le_refl _) ob, rfl, q _ L (I.hok.fresh (Nat.le_refl _)) hm nd⟩
def rSortedTx (P : Program) (w : World) : List V → Hp → VK → Prop := fun vs H Q => ∃ (a : Addr) (l : List Str), vs = [V.ref a] ∧ H a = some (SetTx P w a l) ∧ l.length < scanBound ∧
  ∀ p (ss : List Str), H p = none → ss.Perm l → Q (.ref p) (upd H p (.lst (ss.map V.str)))
theorem cr_sortedTx (hc : X.calm = true) : CallR X (.builtin "sorted") (rSortedTx X.prog X.w) := by
  intro pins s σ H vs us Q I r h
  obtain ⟨a, l, rfl, hs, hb, q⟩ := h
  rw [Vals.ref1 r]
  have R : TxR X.prog X.w s.heap a l := (I.hok a _ hs).1
  refine sorted_txt R (I.ok.hd hc) hb fun s' p out c ss hk g1 o1 hp hget hS hperm => ?_
  have hlen : (ss.map V.str).length ≤ sizeLine := by
    rw [List.length_map, hperm.length_eq, sizeLine_eq]
    unfold scanBound at hb
    omega
  have hn : H p = none := I.hok.fresh hp
  have J : Inv X pins σ (upd H p (.lst (ss.map V.str))) { s with heap := s'.heap, gens := s'.gens, drawn := s'.drawn, toks := s'.toks } :=
    I.call (ch := []) (Un.laid hk hp hn) (I.hok.laid hk hp ⟨hlen, out.toList, c, vals_of_strs hS, hget⟩) (by rw [g1]; exact I.bare) (fun _ z => nomatch z)
  have e : s' = { s with heap := s'.heap, gens := s'.gens, drawn := s'.drawn, toks := s'.toks } := by
    cases s'
    cases s
    cases o1
    rfl
  rw [e]
  exact ⟨.ref p, _, J, rfl, q p ss hn hperm⟩
theorem setTxK (P : Program) (w : World) (K : PySem.W.Frag) (hc : X.calm = true := by rfl) (hP : X.prog = P := by rfl) (hw : X.w = w := by rfl) (hK : X.K = K := by rfl) : CallR X (.type "set") (rSetTx P w K) := by
  subst hP hw hK; exact cr_setTx hc
theorem sortedTxK (P : Program) (w : World) (hc : X.calm = true := by rfl) (hP : X.prog = P := by rfl) (hw : X.w = w := by rfl) : CallR X (.builtin "sorted") (rSortedTx P w) := by
  subst hP hw; exact cr_sortedTx hc
end
end Own
namespace K53
open PySem L2 RZ Own StX SkE
abbrev s_events_of : Stmt := top 54
theorem sc_events_of : FnScope ["one", "other", "moves", "word", "first", "second", "found", "here", "there", "key", "at", "move"] ["one", "other", "moves"] (defScope s_events_of) := ⟨rfl, rfl, rfl, by decide +kernel, rfl, by decide +kernel, by decide +kernel⟩
/-- the lot of a word: the moves that are in its lots -/
def hitB (here there : List Int) (m : Mv) : Bool := inV (ov m.1) (here.map V.int) || inV (ov m.2) (there.map V.int)
theorem flat_ints (ns : List Int) : (ns.map V.int).all flatV = true := by
  rw [List.all_map]
  exact List.all_eq_true.mpr fun x _ => rfl
theorem ov_flat (m : Option Nat) : flatV (ov m) = true := by cases m <;> rfl
section
variable {P : Program} {w : World} {K : PySem.W.Frag} {mg : Str → Option Value} {base : Heap}
theorem nodup_len {l : List Str} : ∀ {xs : List Str}, l.Nodup → (∀ k ∈ l, k ∈ xs) → l.length ≤ xs.length := by
  induction l with
  | nil => intro xs _ _; exact Nat.zero_le _
  | cons a r ih =>
    intro xs nd hs
    obtain ⟨n1, n2⟩ := List.nodup_cons.mp nd
    have ha := hs a List.mem_cons_self
    have q := ih (xs := xs.erase a) n2 fun k hk => (List.mem_erase_of_ne (fun e => n1 (by rw [← e]; exact hk))).mpr (hs k (List.mem_cons_of_mem _ hk))
    rw [List.length_erase_of_mem ha] at q
    have := List.length_pos_of_mem ha
    rw [List.length_cons]
    omega
theorem get_or {H : Hp} {a pe : Addr} {kvs : List (Key × V)} {es : List (Str × List Int)} (ha : H a = some (.dK kvs)) (h : EvRel K H kvs es) (x : Str) (hp : SqT K H pe []) : ∃ (o : Option V) (t : Addr) (ns : List Int), DGet H a (.str x) o ∧ o.getD (.ref pe) = .ref t ∧ SqT K H t (ns.map V.int) := by
  by_cases hx : x ∈ es.map (·.1)
  · obtain ⟨v, t, ns, g1, g2, g3, _⟩ := evrel_get h hx
    refine ⟨some v, t, ns, ?_, by rw [g2]; rfl, g3⟩
    rw [← g1]
    exact DGet.k (k := .inr x) ha
  · refine ⟨none, pe, [], ?_, rfl, hp⟩
    have : valV kvs (.inr x) = none := valV_none_of fun hm => by
      rw [evrel_fst h] at hm
      obtain ⟨y, hy, e⟩ := List.mem_map.mp hm
      cases e
      exact hx hy
    rw [← this]
    exact DGet.k (k := .inr x) ha
theorem if_t' {A B : Prop} (h : A) : if true = true then A else B := by rw [if_pos rfl]; exact h
def spEventsOf (C : Addr) (K : PySem.W.Frag) : Sp := fun vs H Q _ => ∃ a b am g g2 mvs ms, vs = [.ref a, .ref b, .ref am] ∧ GrAt K C H a g ∧ GrAt K C H b g2 ∧ H am = some (.lst mvs) ∧ Paired (MvAt K H) mvs ms ∧ ms.length ≤ 100000 ∧
  g.evs.length ≤ 200 ∧ g2.evs.length ≤ 200 ∧ (∀ e ∈ g.evs, WordOk e.1) ∧ (∀ e ∈ g2.evs, WordOk e.1) ∧
  ∀ (p : Addr) (H' : Hp) (kvs : List (Key × V)) (es : List (Str × List Int)), Same H H' → H p = none → H' p = some (.dK kvs) → EvRel K H' kvs es → EvsOk ms.length es → (es.map (·.1)).Nodup →
    (∀ x, x ∈ es.map (·.1) ↔ x ∈ g.evs.map (·.1) ∨ x ∈ g2.evs.map (·.1)) → Q (.ref p) H'
theorem ok_events_of {f C : Addr} {fd : FuncData} (F : Fun K "events_of" "events_of" s_events_of f fd) (T : Txt K mg) (R : GrC K C) (D_events : PDef P w K mg base CX0 1 C "events" ["self"] (spEvents C K)) : FnOk P w K mg base CX0 3 f fd ["one", "other", "moves"] (spEventsOf C K) := by
  refine F.ok sc_events_of (fun vs H Q E h => ?_) (fun cdv A outer s H vs Q E hr h => ?_)
  · obtain ⟨_, _, _, _, _, _, _, rfl, _⟩ := h; rfl
  · obtain ⟨a, b, am, g, g2, mvs, ms, rfl, hg, hg2, hm, hP, hml, e1, e2, w1, w2, k⟩ := h
    have hu := hu_of hr
    refine ⟨_, (pss_cons (ps_par3 (i := 4) (j := 5) (l := 6) (by rfl) sc_events_of.nd rfl rfl rfl (by decide) (by decide) (by decide) rfl rfl rfl (pa_cons (pe_prd D_events (pv 0) (hr.mono (by decide)) pass0) (pa_cons (pe_prd D_events (pv 1) (hr.mono (by decide)) pass0) (pa_cons pe_dnewK pa_nil))) (by rfl))
  (pss_cons (ps_for PassesOwn.never rfl ((pi_listK K) (pe_callB (sortedTxK P w) (by rfl) T.n_sorted (by decide +kernel) (pa_cons (pe_callTy (setTxK P w K) (by rfl) T.n_set (by decide +kernel) (pa_cons (pe_lc (own := [("key", 9)]) (g := gName 9) (tt := tYes) (by rfl) sc_events_of.nd ((pi_tupK K) (pe_tup ((pa_starD rfl) (pv 4) ((pa_starD rfl) (pv 5) pa_nil)))) (blkOk_by (N := ["one", "other", "moves", "word", "first", "second", "found", "here", "there", "key", "at", "move"]) (sc := (defScope s_events_of)) (by decide +kernel)) (fun _ _ _ _ _ => (pg_name (i := 9) sc_events_of.nd rfl (Or.inl rfl))) (fun _ _ _ _ _ => pts_nil) (fun _ _ _ _ _ => (pe_callTy call_str_str (by rfl) T.n_str (by decide +kernel) (pa_cons (pv 9) pa_nil)))) pa_nil)) pa_nil))) (pg_name (i := 3) sc_events_of.nd rfl (Or.inl rfl))
  (pss_cons (ps_asg (pe_tup (pa_cons (pe_dget2 hu (pv 4) (pv 3) (pe_tup pa_nil) ⟨rfl, rfl, rfl, rfl⟩) (pa_cons (pe_dget2 hu (pv 5) (pv 3) (pe_tup pa_nil) ⟨rfl, rfl, rfl, rfl⟩) pa_nil))) (pg_tupK K (pgs_cons (pg_name (i := 7) sc_events_of.nd rfl (Or.inr rfl)) (pgs_cons (pg_name (i := 8) sc_events_of.nd rfl (Or.inr rfl)) pgs_nil))))
  (pss_one (ps_dput hu (pv 6) (pv 3) (pe_callTy (tuple_ofK K) (by rfl) T.n_tuple (by decide +kernel) (pa_cons (pe_lc (own := [("at", 10), ("move", 11)]) (g := gTup K 2 (gCons (gName 10) (gCons (gName 11) gNil))) (by rfl) sc_events_of.nd (pi_enum (by rfl) T.n_enumerate (pa_cons (pv 2) pa_nil)) (blkOk_by (N := ["one", "other", "moves", "word", "first", "second", "found", "here", "there", "key", "at", "move"]) (sc := (defScope s_events_of)) (by decide +kernel)) (fun _ _ _ _ _ => (pg_tupK K (pgs_cons (pg_name (i := 10) sc_events_of.nd rfl (Or.inl rfl)) (pgs_cons (pg_name (i := 11) sc_events_of.nd rfl (Or.inl rfl)) pgs_nil)))) (fun _ _ _ _ _ => (pts_one (PW.pt (pw_or (pt_cmpR (in_seqK K) (pe_ix (ix_tupK K) (pv 11) pe_int (fun _ _ => rfl)) (pv 7) (by rfl)) (pw_or1 (pt_cmpR (in_seqK K) (pe_ix (ix_tupK K) (pv 11) pe_int (fun _ _ => rfl)) (pv 8) (by rfl))))))) (fun _ _ _ _ _ => (pv 10))) pa_nil)) rfl))))
  (pss_one (ps_ret (pv 6))))), ?_⟩
    obtain ⟨dx, aS, aT, aM, aL, aO, aR, kvs, h1, _⟩ := id hg
    obtain ⟨dx', aS', aT', aM', aL', aO', aR', kvs', h1', _⟩ := id hg2
    refine ⟨_, rfl, a, dx, _, rfl, h1, a, g, rfl, hg, fun p1 kv1 hp1 r1 => ?_⟩
    have s1 : Same H (upd H p1 (.dK kv1)) := same_up hp1
    have d1 : (upd H p1 (.dK kv1)) p1 = some (.dK kv1) := upd_same
    have r1' := r1.mono fun _ _ q => Same.sqt s1 q
    generalize (upd H p1 (.dK kv1)) = H1 at s1 d1 r1' ⊢
    refine ⟨_, rfl, b, dx', _, rfl, s1 _ _ h1', b, g2, rfl, hg2.mono s1, fun p2 kv2 hp2 r2 => ?_⟩
    have s12 : Same H1 (upd H1 p2 (.dK kv2)) := same_up hp2
    have d2 : (upd H1 p2 (.dK kv2)) p2 = some (.dK kv2) := upd_same
    have r2' := r2.mono fun _ _ q => Same.sqt s12 q
    have d1' := s12 _ _ d1
    have r1'' := r1'.mono fun _ _ q => Same.sqt s12 q
    have s2 := s1.trans s12
    generalize (upd H1 p2 (.dK kv2)) = H2 at s2 d2 r2' d1' r1'' ⊢
    refine fun pf hpf => ⟨_, _, _, rfl, ?_⟩
    have s3 : Same H2 (upd H2 pf (.dK [])) := same_up hpf
    have f3 : (upd H2 pf (.dK [])) pf = some (.dK []) := upd_same
    generalize (upd H2 pf (.dK [])) = H3 at s3 f3 ⊢
    have nf0 : H pf = none := s2.free hpf
    refine ⟨_, rfl, p1, kv1, rfl, s3 _ _ d1', _, rfl, p2, kv2, rfl, s3 _ _ d2, ?_⟩
    generalize hnames : g.evs.map (·.1) ++ g2.evs.map (·.1) = names
    have ek : kv1.map (fun kv => kV kv.1) ++ (kv2.map (fun kv => kV kv.1) ++ []) = names.map V.str := by
      rw [List.append_nil, evrel_keys r1'', evrel_keys r2', ← List.map_append, hnames]
    have hnl : names.length ≤ 400 := by rw [← hnames, List.length_append, List.length_map, List.length_map]; omega
    refine ⟨by rw [ek, List.length_map]; exact Nat.le_of_lt (big_len (by omega)), fun pt hpt => ?_⟩
    rw [ek]
    refine ⟨pt, rfl, ⟨_, SqT.of upd_same⟩, fun D hD => ?_⟩
    have s4 : Same H3 (upd H3 pt (.tup (names.map V.str))) := same_up hpt
    have t4 : (upd H3 pt (.tup (names.map V.str))) pt = some (.tup (names.map V.str)) := upd_same
    generalize (upd H3 pt (.tup (names.map V.str))) = H4 at s4 t4 hD ⊢
    refine lc_ys walk_tup (names.map V.str) rfl (by rw [List.length_map]; exact Nat.le_of_lt (big_len (by omega))) hD (fun H' s' => SqT.of (s' _ _ t4)) (fun i x H5 H6 R hi s5 ⟨e, hx⟩ kk => ?_) (fun i H x H' h => by rw [h.1]; exact Same.refl _) fun H5 s5 l5 => ?_
    · subst e
      obtain ⟨z, hz, rfl⟩ := get_mapS hx
      exact ⟨rfl, _, rfl, z, rfl, kk _ _ hx (Same.refl _)⟩
    refine ⟨D, names, rfl, SqL.of l5, by unfold scanBound; omega, fun ps l hps hmem hnd => ?_⟩
    have hll : l.length ≤ names.length := nodup_len hnd fun k hk => (hmem k).mp hk
    refine ⟨ps, l, rfl, upd_same, by unfold scanBound; omega, fun pl ss hpl hperm => ?_⟩
    have s6 : Same H3 (upd (upd H5 ps (SetTx P w ps l)) pl (.lst (ss.map V.str))) := (((s4.trans s5).trans (same_up hps)).trans (same_up hpl))
    have l6 : (upd (upd H5 ps (SetTx P w ps l)) pl (.lst (ss.map V.str))) pl = some (.lst (ss.map V.str)) := upd_same
    generalize (upd (upd H5 ps (SetTx P w ps l)) pl (.lst (ss.map V.str))) = H6 at s6 l6 ⊢
    have hsn : ss.Nodup := hperm.nodup_iff.mpr hnd
    have hsl : ss.length ≤ 400 := by rw [hperm.length_eq]; omega
    have s36 := s3.trans s6
    have nfl : pf ≠ pl := ne_of (s6 _ _ f3) l6 (fun z => nomatch z)
    refine ⟨pl, rfl, ⟨_, SqL.of l6⟩, ?_⟩
    refine for_it walk_list (fun i σ H' => ∃ v3 v7 v8 kvs es, σ = [some (.ref a), some (.ref b), some (.ref am), v3, some (.ref p1), some (.ref p2), some (.ref pf), v7, v8, none, none, none] ∧ Same H2 H' ∧ H' pl = some (.lst (ss.map V.str)) ∧ H' pf = some (.dK kvs) ∧ EvRel K H' kvs es ∧ es.map (·.1) = ss.take i ∧ EvsOk ms.length es)
      ⟨_, _, _, [], [], rfl, s36, l6, s6 _ _ f3, .nil, rfl, fun e he => by cases he⟩ (fun i σ H' _ ⟨_, _, _, _, _, _, _, q, _⟩ => SqL.of q) (fun i x σ H7 H8 hi ⟨v3, v7, v8, kvs, es, e, s7, l7, f7, r7, m7, o7⟩ ⟨eH, hx⟩ => ?_) fun σ H7 ⟨v3, v7, v8, kvs, es, e, s7, l7, f7, r7, m7, o7⟩ => ?_
    · subst e eH
      obtain ⟨x, hxs, rfl⟩ := get_mapS hx
      rw [List.length_map] at hi
      refine ⟨_, rfl, p1, rfl, .inl ⟨kv1, .inl (s7 _ _ d1')⟩, _, rfl, Nat.zero_le _, fun q1 hq1 => ?_⟩
      have s8 : Same H8 (upd H8 q1 (.tup [])) := same_up hq1
      have t8 : (upd H8 q1 (.tup [])) q1 = some (.tup []) := upd_same
      generalize (upd H8 q1 (.tup [])) = H9 at s8 t8 ⊢
      have s29 := s7.trans s8
      obtain ⟨o1, u1, ns1, g1, g2', g3⟩ := get_or (s29 _ _ d1') (r1''.mono fun _ _ q => Same.sqt s29 q) x (SqT.of t8)
      refine ⟨o1, g1, _, rfl, p2, rfl, .inl ⟨kv2, .inl (s29 _ _ d2)⟩, _, rfl, Nat.zero_le _, fun q2 hq2 => ?_⟩
      have s10 : Same H9 (upd H9 q2 (.tup [])) := same_up hq2
      have t10 : (upd H9 q2 (.tup [])) q2 = some (.tup []) := upd_same
      generalize (upd H9 q2 (.tup [])) = H10 at s10 t10 ⊢
      have s210 := s29.trans s10
      obtain ⟨o2, u2, ns2, g1', g2'', g3'⟩ := get_or (s210 _ _ d2) (r2'.mono fun _ _ q => Same.sqt s210 q) x (SqT.of t10)
      refine ⟨o2, g1', (by show 2 ≤ sizeLine; decide), fun q3 hq3 => ?_⟩
      rw [g2', g2'']
      refine ⟨q3, _, rfl, SqT.of upd_same, rfl, _, _, rfl, _, _, rfl, rfl, ?_⟩
      have s11 : Same H10 (upd H10 q3 (.tup [.ref u1, .ref u2])) := same_up hq3
      have z1 := Same.sqt (s10.trans s11) g3
      have z2 := Same.sqt s11 g3'
      have s811 := (s8.trans s10).trans s11
      generalize (upd H10 q3 (.tup [.ref u1, .ref u2])) = H11 at s11 z1 z2 s811 ⊢
      have hm11 := s811 _ _ (s7 _ _ (s2 _ _ hm))
      have s2_11 : Same H2 H11 := s7.trans s811
      have hP11 : Paired (MvAt K H11) mvs ms := Paired.mapP hP fun _ _ q => q.mono (s2.trans s2_11)
      have hmvl : mvs.length = ms.length := Paired.length hP
      refine ⟨_, rfl, am, mvs, rfl, SqL.of hm11, fun D2 hD2 => ?_⟩
      refine lc_it walk_enum (fun i H' => Same H11 H' ∧ ∃ ns : List Int, H' D2 = some (.lst (ns.map V.int)) ∧ Asc ns ∧ (∀ n ∈ ns, 0 ≤ n ∧ n < i) ∧ ns.length ≤ i) ⟨same_up hD2, [], upd_same, List.Pairwise.nil, fun n hn => (by cases hn), Nat.le_refl _⟩
        (fun i H' _ ⟨s', _⟩ => SqL.of (s' _ _ hm11)) (fun j v H12 H13 hj ⟨s12, ns, l12, a12, b12, c12⟩ ⟨T', x1, x2, f1, f2, f3, f4, f5⟩ => ?_) fun H12 ⟨s12, ns, l12, a12, b12, c12⟩ => ?_
      · subst f1 f3
        cases f4
        obtain ⟨⟨m1, m2⟩, gm, mp, rfl, hmp⟩ := paired_at hP11 f5
        have s13 : Same H11 (upd H12 T' (.tup [.int (j : Nat), .ref mp])) := s12.trans (same_up f2)
        have nDT : D2 ≠ T' := ne_of_none l12 f2
        have l13 : (upd H12 T' (.tup [.int (j : Nat), .ref mp])) D2 = some (.lst (ns.map V.int)) := by rw [upd_ne nDT]; exact l12
        refine ⟨T', _, rfl, SqT.of upd_same, rfl, _, _, rfl, _, _, rfl, rfl, rfl, ?_⟩
        generalize (upd H12 T' (.tup [.int (j : Nat), .ref mp])) = H14 at s13 l13 ⊢
        have hno : Same H11 H14 ∧ ∃ ns : List Int, H14 D2 = some (.lst (ns.map V.int)) ∧ Asc ns ∧ (∀ n ∈ ns, 0 ≤ n ∧ n < ((j + 1 : Nat) : Int)) ∧ ns.length ≤ j + 1 := ⟨s13, ns, l13, a12, fun n hn => ⟨(b12 n hn).1, by have := (b12 n hn).2; omega⟩, by omega⟩
        have hyes : ∃ acc, H14 D2 = some (.lst acc) ∧ acc.length < sizeLine ∧ (Same H11 (upd H14 D2 (.lst (acc ++ [.int (j : Nat)]))) ∧ ∃ ns : List Int, (upd H14 D2 (.lst (acc ++ [.int (j : Nat)]))) D2 = some (.lst (ns.map V.int)) ∧ Asc ns ∧ (∀ n ∈ ns, 0 ≤ n ∧ n < ((j + 1 : Nat) : Int)) ∧ ns.length ≤ j + 1) := by
          refine ⟨_, l13, by rw [List.length_map]; exact big_len (by omega), fun b o e => ?_, ns ++ [(j : Int)], by rw [upd_same, List.map_append]; rfl, ?_, fun n hn => ?_, by rw [List.length_append]; show ns.length + 1 ≤ _; omega⟩
          · rw [upd_ne (ne_of_none e hD2)]; exact s13 b o e
          · refine List.pairwise_append.mpr ⟨a12, List.pairwise_singleton _ _, fun p hp q hq => ?_⟩
            rw [List.mem_singleton.mp hq]
            exact (b12 p hp).2
          · rcases List.mem_append.mp hn with q | q
            · exact ⟨(b12 n q).1, by have := (b12 n q).2; omega⟩
            · rw [List.mem_singleton.mp q]; omega
        refine ⟨_, rfl, mp, _, 0, _, rfl, rfl, Same.sqt s13 hmp, rfl, _, rfl, u1, _, rfl, .inr (Same.sqt s13 z1), ov_flat m1, flat_ints ns1, _, rfl, ?_⟩
        cases hb1 : inV (ov m1) (ns1.map V.int) with
        | true => exact if_t rfl (if_t' ⟨_, rfl, hyes⟩)
        | false =>
          refine if_f rfl ?_
          refine ⟨_, rfl, mp, _, 1, _, rfl, rfl, Same.sqt s13 hmp, rfl, _, rfl, u2, _, rfl, .inr (Same.sqt s13 z2), ov_flat m2, flat_ints ns2, _, rfl, ?_⟩
          cases hb2 : inV (ov m2) (ns2.map V.int) with
          | true => exact if_t rfl ⟨_, rfl, hyes⟩
          | false => exact if_f rfl hno
      · refine ⟨D2, _, rfl, .inl ⟨SqL.of l12, fun q5 hq5 => ?_⟩⟩
        rw [hmvl] at b12
        have s16 : Same H8 (upd H12 q5 (.tup (ns.map V.int))) := (s811.trans s12).trans (same_up hq5)
        have t16 : (upd H12 q5 (.tup (ns.map V.int))) q5 = some (.tup (ns.map V.int)) := upd_same
        generalize (upd H12 q5 (.tup (ns.map V.int))) = H16 at s16 t16 ⊢
        have f16 := s16 _ _ f7
        have hk7 : kvs.length = i := by
          rw [Paired.length r7, ← List.length_map (f := (·.1)), m7, List.length_take]
          omega
        have hnew : valV kvs (.inr x) = none := valV_none_of fun hm => by
          rw [evrel_fst r7, m7] at hm
          obtain ⟨z, hz, e⟩ := List.mem_map.mp hm
          cases e
          obtain ⟨j, hj⟩ := List.mem_iff_getElem?.mp hz
          rw [List.getElem?_take] at hj
          split at hj
          · have e1 := List.getElem?_eq_some_iff.mp hj
            have e2 := List.getElem?_eq_some_iff.mp hxs
            have := (List.getElem_inj hsn).mp (e1.2.trans e2.2.symm)
            omega
          · cases hj
        refine ⟨_, rfl, _, rfl, pf, _, rfl, DPut.k (k := .inr x) f16 (big_len (by omega)), ?_⟩
        have bt : ∀ b o, b ≠ pf → H16 b = some o → (upd H16 pf (.dK (putK kvs (.inr x) (.ref q5)))) b = some o := fun b o n e => by rw [upd_ne n]; exact e
        have npl : pl ≠ pf := fun z => nfl z.symm
        refine ⟨_, _, _, kvs ++ [(.inr x, .ref q5)], es ++ [(x, ns)], rfl, fun b o e => ?_, by rw [upd_ne npl]; exact s16 _ _ l7, by rw [upd_same, putK_new _ hnew], evrel_snoc (r7.mono fun c xs q => sqt_but bt f16 (Same.sqt s16 q)) ⟨rfl, q5, rfl, sqt_but bt f16 (SqT.of t16)⟩, ?_, fun e he => ?_⟩
        · rw [upd_ne (ne_of_none e hpf)]; exact s16 _ _ (s7 _ _ e)
        · rw [List.map_append, m7, List.take_add_one, hxs]; rfl
        · rcases List.mem_append.mp he with q | q
          · exact o7 e q
          · rw [List.mem_singleton.mp q]
            refine ⟨?_, ⟨⟨a12, fun n hn => (b12 n hn).1, Nat.le_of_lt (big_len (show ns.length ≤ 100000 by omega))⟩, fun n hn => (b12 n hn).2⟩⟩
            have hxm : x ∈ names := (hmem x).mp (hperm.mem_iff.mp (List.mem_of_getElem? hxs))
            rw [← hnames] at hxm
            rcases List.mem_append.mp hxm with z | z
            · obtain ⟨e0, h0, rfl⟩ := List.mem_map.mp z
              exact w1 e0 h0
            · obtain ⟨e0, h0, rfl⟩ := List.mem_map.mp z
              exact w2 e0 h0
    · subst e
      refine ⟨_, rfl, ?_⟩
      rw [List.length_map, List.take_length] at m7
      refine k pf H7 kvs es (s2.trans s7) nf0 f7 r7 o7 (by rw [m7]; exact hsn) fun x => ?_
      rw [m7, hperm.mem_iff, hmem, ← hnames, List.mem_append]
end
end K53
/-! lambdas with parameters: called from the def that got them -/
namespace Own
open PySem PySem.Spec PyProof.Rows L2 LamX
abbrev lamEnvP (X : Cx) (scope : Scope) (L f c' : Addr) : Env := PySem.W.envX (X.env.qual ++ "<lambda>") scope L f (.ref c') (cellsFrom (L + 1) scope.names (cloFrom X.env.cells scope.names []))
def lamCxP (X : Cx) (A : Around) (outer : List Env) (s : Shared) (H : Hp) (E : XK) (scope : Scope) (f c' : Addr) : Cx where
  prog := X.prog
  w := X.w
  K := X.K
  mg := X.mg
  base := X.base
  A := A.deeper (lamEnvP X scope s.heap.objs.size f c')
  N := X.N
  s_0 := s
  H_0 := H
  env := lamEnvP X scope s.heap.objs.size f c'
  outer := outer
  stack := lamEnvP X scope s.heap.objs.size f c' :: outer
  ex := []
  fn := fun x => scope.names.lookup x == some .cell
  calm := true
  pn := []
  xe := fun e s' => wpAny (model X.prog X.w) (A.deeper (lamEnvP X scope s.heap.objs.size f c')) (leaving (lamEnvP X scope s.heap.objs.size f c') e) (fun _ s'' => L2.CX X.prog X.w outer H s E e s'') (fun e' s'' => L2.CX X.prog X.w outer H s E e' s'') s'
section
variable {X : Cx} {pins : List (Addr × Obj)} {σ : L2.St} {H HZ : Hp} {s s1 : Shared}
theorem lam_startP {A : Around} {outer : List Env} {E : XK} {scope : Scope} {own : List (Str × Nat)} {f c' : Addr} (I : Inv X pins σ H s) (ok : BlkOk X.N X.env.scope scope own) (hN : X.N.Nodup) (e0 : Env0 X.prog X.w X.K X.mg X.base A outer s1 HZ) (hd : A.handled = none)
    (un : Un (frs X.stack) [] H HZ s.heap s1.heap) :
    Inv (lamCxP X A outer s1 HZ E scope f c') [] (wipe σ (own.map (·.2))) HZ { s1 with heap := pushCells (s1.heap.push { cls := .type "frame", data := .dict #[] }) scope.names } := by
  have hfree : ∀ y ∈ scope.names, y.2 = .free → ∃ c, X.env.cells.lookup y.1 = some c := fun y hy e => by
    rcases ok.free y hy e with k | k
    · exact I.ok.has _ (.inl k)
    · exact I.ok.has _ (.inr k)
  have kp : ∀ b o, s1.heap.get? b = some o → (pushCells (s1.heap.push { cls := .type "frame", data := .dict #[] }) scope.names).get? b = some o := fun b o e => pushCells_keeps _ _ _ _ (Heap.get?_push_of_some _ e)
  have cellK : ∀ {c : Addr} {v : Option Value}, H c = none → s.heap.IsCell c v → s1.heap.IsCell c v := fun {c v} n ⟨o, ho, hd⟩ => by
    obtain ⟨sl, q⟩ := un.any ho n (by simp)
    exact ⟨_, q, hd⟩
  generalize hcells : cellsFrom (s1.heap.objs.size + 1) scope.names (cloFrom X.env.cells scope.names []) = cells
  have hcl := hcells.symm
  rw [← Heap.size_push s1.heap { cls := .type "frame", data := .dict #[] }] at hcl
  have cm : ∀ {y c}, (y, c) ∈ cloFrom X.env.cells scope.names [] → X.env.cells.lookup y = some c ∧ c < s1.heap.objs.size := fun {y c} hm => by
    rcases cloFrom_mem hm with hm | ⟨h1, rfl⟩
    · cases hm
    · obtain ⟨c, hc⟩ := hfree _ h1 rfl
      rw [hc]
      obtain ⟨w, z⟩ := I.cell _ _ hc
      exact ⟨rfl, (cellK (I.freeC _ _ hc) z).lt⟩
  have mem : ∀ {y c}, cells.lookup y = some c → (X.env.cells.lookup y = some c ∧ c < s1.heap.objs.size) ∨ (s1.heap.objs.size + 1 ≤ c ∧ CellAt (pushCells (s1.heap.push { cls := .type "frame", data := .dict #[] }) scope.names) c none) := fun {y c} e => by
    rw [hcl] at e
    rcases cells_mem (PySem.mem_of_lookup e) with hm | ⟨_, h2, h3⟩
    · exact .inl (cm hm)
    · rw [Heap.size_push] at h2; exact .inr ⟨h2, h3⟩
  have look : ∀ {y}, scope.names.lookup y = some .free → ∃ c, cells.lookup y = some c ∧ X.env.cells.lookup y = some c := fun {y} hl => by
    have hy : (y, NameKind.free) ∈ scope.names := PySem.mem_of_lookup hl
    obtain ⟨c', e'⟩ := mem_lookup (cells_acc (names := scope.names) (n := (s1.heap.push { cls := .type "frame", data := .dict #[] }).objs.size) (cloFrom_has (cells := X.env.cells) (acc := []) hy))
    rw [← hcl] at e'
    refine ⟨c', e', ?_⟩
    rw [hcl] at e'
    rcases cells_mem (PySem.mem_of_lookup e') with hm | ⟨h1, _, _⟩
    · exact (cm hm).1
    · have := ok.uniq _ h1
      rw [hl] at this; cases this
  have hce : (lamCxP X A outer s1 HZ E scope f c').env.cells = cells := hcells
  have noA : ∀ b : Addr, b ∉ (lamCxP X A outer s1 HZ E scope f c').ex := fun b z => absurd (show b ∈ ([] : List Addr) from z) (by simp)
  have okB : (lamCxP X A outer s1 HZ E scope f c').Ok := by
    refine ⟨e0.mod, ok.kind, rfl, rfl, Nat.le_refl _, fun y z c e1 e2 => ?_, fun y hy => ?_, fun y c z e => ?_, fun _ => hd, Around.frames_deeper e0.frames, .inr ⟨rfl, rfl⟩, fun b z => absurd z (noA b), e0.bs, e0.bsz, fun b _ _ => noA b, fun b z => absurd z (noA b), e0.funs, e0.frf⟩
    · rw [hce, hcl] at e1 e2
      refine cells_inj (fun p hp => ?_) (fun y z c a b => I.ok.inj y z c (cm a).1 (cm b).1) (PySem.mem_of_lookup e1) (PySem.mem_of_lookup e2)
      rw [Heap.size_push]
      exact Nat.lt_succ_of_lt (cm (y := p.1) (c := p.2) hp).2
    · rw [hce]
      have hy : scope.names.lookup y = some .cell ∨ scope.names.lookup y = some .free := hy
      rcases hy with e | e
      · obtain ⟨c, hm⟩ := cells_has (n := (s1.heap.push { cls := .type "frame", data := .dict #[] }).objs.size) (acc := cloFrom X.env.cells scope.names []) (PySem.mem_of_lookup e)
        obtain ⟨c', e'⟩ := mem_lookup hm
        exact ⟨c', by rw [hcl]; exact e'⟩
      · obtain ⟨c, h1, _⟩ := look e
        exact ⟨c, h1⟩
    · have z : (scope.names.lookup y == some NameKind.cell) = true := z
      have z : scope.names.lookup y = some .cell := by simpa using z
      rw [hce, hcl] at e
      rcases cells_mem (PySem.mem_of_lookup e) with hm | ⟨_, h2, _⟩
      · rcases cloFrom_mem hm with hm | ⟨h1, _⟩
        · cases hm
        · have q := ok.uniq _ h1
          rw [z] at q; cases q
      · rw [Heap.size_push] at h2
        exact Nat.le_of_succ_le h2
  refine ⟨okB, rfl, e0.bare, Un.kept kp, ⟨fun _ => none, ?_, fun i y av e1 e2 e3 => ?_⟩, fun y c e => ?_, e0.hok.fresh (Nat.le_refl _), fun y c e => ?_, fun p hp => absurd (show p ∈ ([] : List (Addr × Obj)) ++ [] from hp) (by simp), e0.hok.kept kp, by rw [wipe_length]; exact I.len⟩
  · exact Heap.Ns.keeps (Heap.Ns.new ..) fun b o e => pushCells_keeps _ _ _ _ e
  · obtain ⟨e2, hne⟩ := wipe_some e2
    have no : ∀ k, scope.names.lookup y = some k → ¬ (k = .local ∨ k = .cell) := fun k e hh => by
      rcases ok.own _ (PySem.mem_of_lookup e) hh with e' | e'
      · obtain ⟨p, hp, hpy⟩ := List.mem_map.mp e'
        have e3 := ok.ix p hp
        have : p.1 = y := hpy
        rw [this] at e3
        exact hne (List.mem_map.mpr ⟨p, hp, nodup_ix hN e3 e1⟩)
      · exact e' (List.mem_of_getElem? e1)
    have e3 : Vis scope y := e3
    have hfr : scope.names.lookup y = some .free := by
      rcases e3 with e3 | e3 | e3
      · exact absurd (.inl rfl) (no _ e3)
      · exact absurd (.inr rfl) (no _ e3)
      · exact e3
    obtain ⟨m, hn, hl⟩ := I.loc
    have hvis : Vis X.env.scope y := (ok.free _ (PySem.mem_of_lookup hfr) rfl).elim (fun k => .inr (.inl k)) (fun k => .inr (.inr k))
    obtain ⟨w, r, q⟩ := hl i y av e1 e2 hvis
    refine ⟨w, r, .inr ⟨.inr hfr, ?_⟩⟩
    obtain ⟨c, h1, h2⟩ := look hfr
    rcases q with ⟨k, _⟩ | ⟨_, c', e', z⟩
    · have k : X.env.scope.names.lookup y = some .local := k
      rcases ok.free _ (PySem.mem_of_lookup hfr) rfl with k' | k' <;> rw [show X.env.scope.names.lookup y = _ from k'] at k <;> cases k
    · rw [h2] at e'; cases e'
      exact ⟨c, by rw [hce]; exact h1, (cellK (I.freeC y _ h2) z).keeps kp⟩
  · rw [hce] at e
    rcases mem e with ⟨h1, _⟩ | ⟨_, z⟩
    · obtain ⟨w, z⟩ := I.cell y c h1
      exact ⟨w, (cellK (I.freeC y c h1) z).keeps kp⟩
    · exact ⟨_, z⟩
  · rw [hce] at e
    rcases mem e with ⟨h1, _⟩ | ⟨h1, _⟩
    · obtain ⟨w, o, ho, _⟩ := I.cell y c h1
      exact un.free c o ho (I.freeC y c h1) (by simp)
    · exact e0.hok.fresh (Nat.le_of_succ_le h1)
/-- the parameters are bound -/
theorem binds_ok {M : Model} {A : Around} {E : Value → Shared → Prop} {Y : Cx} (hN : Y.N.Nodup) : ∀ (ps : List (Str × Nat)) (us : List Value) (vs : List V) (σ : L2.St) (HY : Hp) (s : Shared) (Q : PUnit → Shared → Prop), Inv Y [] σ HY s → Vals vs us → vs.length = ps.length →
    (∀ p ∈ ps, Y.N[p.2]? = some p.1 ∧ Loc Y.env.scope p.1 ∧ (Y.fn p.1 = true ∨ Y.env.scope.names.lookup p.1 = some .local)) →
    (∀ s', Inv Y [] ((ps.zip vs).foldl (fun σ q => σ.set q.1.2 (some q.2)) σ) HY s' → Q ⟨⟩ s') →
    wpAny M A (forIn ((ps.map (·.1)).zip us) (⟨⟩ : PUnit) fun q _ => do storeName Y.env q.1 q.2; pure (.yield ⟨⟩)) Q E s
  | [], us, vs, σ, HY, s, Q, I, r, hl, hp, hq => by
    rw [List.map_nil, List.zip_nil_left, List.forIn_nil]
    exact wpAny_pure (hq s I)
  | p :: ps, us, vs, σ, HY, s, Q, I, r, hl, hp, hq => by
    cases r with
    | nil => cases hl
    | cons rv rr =>
      rw [List.map_cons, List.zip_cons_cons, List.forIn_cons]
      obtain ⟨h1, h2, h3⟩ := hp p List.mem_cons_self
      refine wpAny_bind (wpAny_bind (store_ok I hN h1 h2 rv (fun s' I' => wpAny_pure ?_) h3))
      exact binds_ok hN ps _ _ _ HY s' Q I' rr (by simpa using hl) (fun q hq' => hp q (List.mem_cons_of_mem _ hq')) hq
def bindP (σ : L2.St) (ps : List (Str × Nat)) (vs : List V) : L2.St := (ps.zip vs).foldl (fun σ q => σ.set q.1.2 (some q.2)) (wipe σ (ps.map (·.2)))
/-- a(..), in the def that got the lambda -/
theorem run_lamP {A : Around} {outer : List Env} {E : XK} {f c' : Addr} {pm ctv : Value} {params : Arguments} {body : Expr} {scope : Scope} {ps : List (Str × Nat)} {k : Nat} {tb : TE} {us : List Value} {vs : List V} {Q : VK}
    (I : Inv X pins σ H s) (ok : BlkOk X.N X.env.scope scope ps) (hN : X.N.Nodup) (hco : scope.isCoroutine = false) (hgen : scope.isGenerator = false)
    (hloc : ∀ p ∈ ps, Loc scope p.1 ∧ (scope.names.lookup p.1 = some .cell ∨ scope.names.lookup p.1 = some .local))
    (of1 : s1.heap.get? f = some (PySem.W.kla_obj "<lambda>" (X.env.qual ++ "<lambda>") params body scope (cloFrom X.env.cells scope.names []) pm c' ctv))
    (hbind : bindArgs (PySem.W.kla_fn "<lambda>" (X.env.qual ++ "<lambda>") params body scope (cloFrom X.env.cells scope.names []) pm (.ref c') ctv) ⟨us, []⟩ = pure ((ps.map (·.1)).zip us))
    (e0 : Env0 X.prog X.w X.K X.mg X.base A outer s1 HZ) (hr : Room (k + 1) A) (un : Un (frs X.stack) [] H HZ s.heap s1.heap) (hc : HZ c' = some (CodeO c' (X.env.qual ++ "<lambda>")))
    (hbody : ∀ (s : Shared), Room k (A.deeper (lamEnvP X scope s.heap.objs.size f c')) → PE (lamCxP X A outer s HZ E scope f c') body tb) (r : Vals vs us) (hl : vs.length = ps.length) (hq : tb (bindP σ ps vs) HZ Q) :
    codeAny (model X.prog X.w) A (.call (.ref f) ⟨us, []⟩) (CR (L2.CX X.prog X.w) outer X.prog X.w HZ s1 Q E) s1 := by
  obtain ⟨⟨oc, wvs, t, hoc, hdc, hvc⟩, _, _⟩ := e0.hok c' _ hc
  have lim : s1.heap.NoLimit := e0.mod.nolimit.keeps fun b o e => (e0.bs b o e).1
  refine PySem.W.kla_callFunE hr.depth of1 rfl hco hgen rfl ⟨c', oc, wvs, t, rfl, hoc, hdc, hvc⟩ ?_
  rw [hbind]
  refine wpAny_pure ?_
  simp only [newFunctionEnv, Option.isSome_none, Bool.false_eq_true, if_false]
  refine wpAny_bind (wpAny_alloc ?_)
  refine wpAny_bind (wpAny_layCells _ (fun name kind cells => by cases hkc : kind == NameKind.cell <;> simp [hkc]) _ _ _ _ ?_)
  have J := lam_startP (E := E) (f := f) (c' := c') I ok hN e0 hr.hd un
  rw [show ({ s1 with heap := s1.heap.push { cls := .type "frame", data := .dict #[] } } : Shared).heap.objs.size = s1.heap.objs.size + 1 from Heap.size_push ..]
  refine wpAny_bind (binds_ok (Y := lamCxP X A outer s1 HZ E scope f c') hN ps us vs _ HZ _ _ J r hl (fun p hp => ⟨ok.ix p hp, (hloc p hp).1, (hloc p hp).2.elim (fun z => .inl (by show (scope.names.lookup p.1 == some NameKind.cell) = true; rw [z]; rfl)) .inr⟩) fun s2 J2 => ?_)
  refine wpAny_pure ⟨J2.nolimit, ?_⟩
  show codeAny _ _ (.expr body (lamEnvP X scope s1.heap.objs.size f c')) _ _
  refine PySem.W.kla_codeExpr (wpAny_mono ((hbody s1 (hr.deeper _)).run [] _ _ HZ Q J2 hq) (fun v s' hq => ?_) fun e s' hq => hq)
  obtain ⟨w', H', J', rv, q⟩ := hq
  exact ⟨w', H', J'.os, J'.bare, J'.base, J'.hok, rv, q⟩
end
end Own
namespace Own
open PySem PySem.Spec PyProof.Rows L2 LamX
section
variable {X : Cx} {pins : List (Addr × Obj)} {σ : L2.St} {H HZ : Hp} {s s1 : Shared}
/-- x(e, ..), in the def that got the lambda: Z is that def's context, entered at s -/
theorem pe_actP {CXg : CXT} {Eg : XK} {Ng : List Str} {qg : Str} {sg : Scope} {g f c' : Addr} {cdg pm ctv : Value} {params : Arguments} {body : Expr} {scope : Scope} {ps : List (Str × Nat)} {k i : Nat} {a : Str} {tb : TE} {p1 p2 : Pos} {e : Expr} {es : List Expr} {ta : TA}
    (I : Inv X pins σ H s) (ok : BlkOk X.N X.env.scope scope ps) (hN : X.N.Nodup) (hco : scope.isCoroutine = false) (hgen : scope.isGenerator = false)
    (hloc : ∀ p ∈ ps, Loc scope p.1 ∧ (scope.names.lookup p.1 = some .cell ∨ scope.names.lookup p.1 = some .local))
    (hf : s.heap.get? f = some (PySem.W.kla_obj "<lambda>" (X.env.qual ++ "<lambda>") params body scope (cloFrom X.env.cells scope.names []) pm c' ctv)) (hfn : H f = none) (hfr : f ∉ frs X.stack)
    (hbind : ∀ us : List Value, us.length = ps.length → bindArgs (PySem.W.kla_fn "<lambda>" (X.env.qual ++ "<lambda>") params body scope (cloFrom X.env.cells scope.names []) pm (.ref c') ctv) ⟨us, []⟩ = pure ((ps.map (·.1)).zip us))
    (hr : Room (k + 1) (X.A.deeper (envOfC qg sg s.heap.objs.size g cdg)))
    (hbody : ∀ (A : Around) (outer : List Env) (s : Shared) (H : Hp), Room k (A.deeper (lamEnvP X scope s.heap.objs.size f c')) → PE (lamCxP X A outer s H (fun _ _ _ => False) scope f c') body tb)
    (ha : PA (cxOf CXg X.prog X.w X.K X.mg X.base Ng qg sg g cdg X.A X.stack s H Eg) (e :: es) ta)
    (hNi : Ng[i]? = some a) (hv : Vis sg a) (hd : (a == ("__debug__" : Str)) = false := by decide) (hcd : (a == ("__classdict__" : Str)) = false := by decide)
    (he : starEach (e :: es) (cxOf CXg X.prog X.w X.K X.mg X.base Ng qg sg g cdg X.A X.stack s H Eg).env = (false, eval e (cxOf CXg X.prog X.w X.K X.mg X.base Ng qg sg g cdg X.A X.stack s H Eg).env) :: starEach es (cxOf CXg X.prog X.w X.K X.mg X.base Ng qg sg g cdg X.A X.stack s H Eg).env := by rfl)
    (hpl : (backTo p2 (starEach es (cxOf CXg X.prog X.w X.K X.mg X.base Ng qg sg g cdg X.A X.stack s H Eg).env)).any (·.1) = false := by rfl) :
    PE (cxOf CXg X.prog X.w X.K X.mg X.base Ng qg sg g cdg X.A X.stack s H Eg) (.Call (.Name a p1) (e :: es) [] p2)
      (fun σZ HZ Q => σZ[i]? = some (some (.ref f)) ∧ ta σZ HZ fun vs H1 => vs.length = ps.length ∧ H1 c' = some (CodeO c' (X.env.qual ++ "<lambda>")) ∧ tb (bindP σ ps vs) H1 Q) := by
  refine ⟨fun pinsZ sZ σZ HZ Q IZ h => ?_⟩
  obtain ⟨hs, ht⟩ := h
  refine wpAny_Call_Name_kw (thn ((pe_var (pos := p1) (i := i) hNi hv hd hcd).run pinsZ sZ σZ HZ (fun v H1 => v = .ref f ∧ H1 = HZ) IZ ⟨.ref f, hs, rfl, rfl⟩) fun u s1 ⟨v, H1, I1, r1, q1⟩ => ?_)
  obtain ⟨ev, eH⟩ := q1
  subst ev
  rw [eH] at I1
  obtain rfl : u = Value.ref f := r1
  have fAt : ∀ {σ'} {H'} {s' : Shared}, Inv (cxOf CXg X.prog X.w X.K X.mg X.base Ng qg sg g cdg X.A X.stack s H Eg) pinsZ σ' H' s' → s'.heap.get? f = some (PySem.W.kla_obj "<lambda>" (X.env.qual ++ "<lambda>") params body scope (cloFrom X.env.cells scope.names []) pm c' ctv) :=
    fun I' => I'.base.keep f _ hf hfn hfr (fun z => nomatch (show f ∈ ([] : List Addr) from z))
  refine PySem.W.callWith_F (first := []) ⟨_, _, _, _, fAt I1⟩ (thn (ha.run p2 pinsZ s1 σZ HZ _ I1 ht) fun us s2 ⟨vs, H2, I2, r, hlen, hc, q⟩ => ⟨⟨_, _, _, _, fAt I2⟩, ?_⟩) he hpl
  show wpAny _ _ (call (.ref f) us) _ _ _
  have un : Un (frs X.stack) [] H H2 s.heap s2.heap := I2.base
  have rc := run_lamP (E := fun _ _ _ => False) (k := k) (us := us) (vs := vs) (Q := Q) I ok hN hco hgen hloc (fAt I2) (hbind us (by rw [← r.length]; exact hlen)) I2.env0 hr un hc (fun s' hr' => hbody _ _ s' H2 hr') r hlen q
  refine wpAny_call (codeAny_mono rc fun r s' hq => ?_)
  cases r with
  | error e => exact (by
      obtain ⟨_, _, _, _, _, _, _, _, _, _, _, _, z⟩ := hq
      exact z.elim)
  | ok fl =>
    cases fl with
    | ret u => exact I2.after hq
    | next => exact False.elim hq
    | brk => exact False.elim hq
    | cont => exact False.elim hq
/-- what the def does that gets two values and the lambda: act, the rule of its calls -/
def GivesP (X : Cx) (Ng : List Str) (x : Str) (sg : Scope) (g : Addr) (cdg : Value) (bg : List Stmt) (a q : Str) (i n : Nat) (TT : (List V → Hp → VK → Prop) → V → V → Hp → VK → XK → Prop) : Prop :=
  ∀ (f c' : Addr) (s : Shared) (H : Hp) (v1 v2 : V) (Q : VK) (E : XK) (tl : List V → Hp → VK → Prop),
    (∀ (e : Expr) (es : List Expr) (ta : TA) (p1 p2 : Pos), PA (cxOf (L2.CX X.prog X.w) X.prog X.w X.K X.mg X.base Ng x sg g cdg X.A X.stack s H E) (e :: es) ta →
      (starEach (e :: es) (cxOf (L2.CX X.prog X.w) X.prog X.w X.K X.mg X.base Ng x sg g cdg X.A X.stack s H E).env = (false, eval e (cxOf (L2.CX X.prog X.w) X.prog X.w X.K X.mg X.base Ng x sg g cdg X.A X.stack s H E).env) :: starEach es (cxOf (L2.CX X.prog X.w) X.prog X.w X.K X.mg X.base Ng x sg g cdg X.A X.stack s H E).env) →
      ((backTo p2 (starEach es (cxOf (L2.CX X.prog X.w) X.prog X.w X.K X.mg X.base Ng x sg g cdg X.A X.stack s H E).env)).any (·.1) = false) →
      PE (cxOf (L2.CX X.prog X.w) X.prog X.w X.K X.mg X.base Ng x sg g cdg X.A X.stack s H E) (.Call (.Name a p1) (e :: es) [] p2)
        (fun σZ HZ Q => σZ[i]? = some (some (.ref f)) ∧ ta σZ HZ fun vs H1 => vs.length = n ∧ H1 c' = some (CodeO c' q) ∧ tl vs H1 Q)) →
    H c' = some (CodeO c' q) → TT tl v1 v2 H Q E → Room 8 (X.A.deeper (envOfC x sg s.heap.objs.size g cdg)) →
    ∃ t, PSs (cxOf (L2.CX X.prog X.w) X.prog X.w X.K X.mg X.base Ng x sg g cdg X.A X.stack s H E) bg t ∧ t { nx := fun _ H' => Q .non H', rt := Q } (L2.start Ng [v1, v2, .ref f]) H
def tLamP (T : List (Addr × Str)) (E : XK) (TT : (List V → Hp → VK → Prop) → V → V → Hp → VK → XK → Prop) (ps : List (Str × Nat)) (t1 t2 tb : TE) : TE := fun σ H Q => t1 σ H fun v1 H1 => t2 σ H1 fun v2 H2 => Tabs T H2 ∧ ∀ H3, ExtN H2 H3 → Tabs T H3 → TT (fun vs H' Q' => tb (bindP σ ps vs) H' Q') v1 v2 H3 Q E
end
section
variable {X : Cx}
theorem spliced_one' {M : Model} {A : Around} {E : Value → Shared → Prop} {s : Shared} {x : Sem Value} {Q : List Value → Shared → Prop} (h : wpAny M A x (fun v s' => Q [v] s') E s) : wpAny M A (spliced [(false, x)]) Q E s :=
  Calls.spliced_cons (wpAny_mono h (fun v s' hq => Calls.spliced_nil hq) fun _ _ z => z)
/-- x(e1, e2, lambda ..: body) -/
theorem pe_lamcallP {T : List (Addr × Str)} {TT : (List V → Hp → VK → Prop) → V → V → Hp → VK → XK → Prop} {x a n1 n2 : Str} {g c P : Addr} {pg : Arguments} {bg : List Stmt} {sg : Scope} {dV kV doc pm cdv ct oc : Value} {an od : Option Addr} {osl : Array (Option Value)} {Ng : List Str} {E : XK}
    {e1 e2 : Expr} {t1 t2 : TE} {params : Arguments} {body : Expr} {scope : Scope} {ps : List (Str × Nat)} {tb : TE} {p lpos pos : Pos} (hg : Gl X x) (hm : X.mg x = some (.ref g)) (hk : PySem.W.keepIn X.K (.ref g) = true)
    (lk : X.K.lookup g = some ⟨oc, od, .func (PySem.W.fnOf x x pg bg sg dV kV doc pm an cdv ct), osl⟩) (hcg : PySem.W.codeIn X.K cdv x = true) (hb : L2.Binds X.K (PySem.W.fnOf x x pg bg sg dV kV doc pm an cdv ct) [n1, n2, a] []) (Sg : FnScope Ng [n1, n2, a] sg) (hNg : Ng[2]? = some a) (hva : Vis sg a)
    (hG : GivesP X Ng x sg g cdv bg a (X.env.qual ++ "<lambda>") 2 ps.length TT)
    (h1 : PE X e1 t1) (h2 : PE X e2 t2)
    (TB : TabB X.base X.mg c P) (hcode : X.env.code = .ref c) (hmT : (P, X.env.qual ++ "<lambda>") ∈ T) (hu : ∀ p ∈ T, p.1 = P → p.2 = X.env.qual ++ "<lambda>") (hr : Room 9 X.A) (ok : BlkOk X.N X.env.scope scope ps) (hN : X.N.Nodup) (hco : scope.isCoroutine = false) (hgen : scope.isGenerator = false)
    (hloc : ∀ p ∈ ps, Loc scope p.1 ∧ (scope.names.lookup p.1 = some .cell ∨ scope.names.lookup p.1 = some .local)) (hdef : defaultsOf params X.env = ([], []))
    (hbind : ∀ (q : Str) (cl : List (Str × Addr)) (pm cv ctv : Value) (us : List Value), us.length = ps.length → bindArgs (PySem.W.kla_fn "<lambda>" q params body scope cl pm cv ctv) ⟨us, []⟩ = pure ((ps.map (·.1)).zip us))
    (hbody : ∀ (A : Around) (outer : List Env) (s : Shared) (H : Hp) (f c' : Addr), Room 7 (A.deeper (lamEnvP X scope s.heap.objs.size f c')) → PE (lamCxP X A outer s H (fun _ _ _ => False) scope f c') body tb)
    (hx : Passes (L2.CX X.prog X.w) X E)
    (hdb : (x == ("__debug__" : Str)) = false := by decide) (hd : (a == ("__debug__" : Str)) = false := by decide) (hcd : (a == ("__classdict__" : Str)) = false := by decide)
    (hs1 : starEach [e1, e2, .Lambda params body scope lpos] X.env = (false, eval e1 X.env) :: starEach [e2, .Lambda params body scope lpos] X.env := by rfl) (hs2 : starEach [e2, .Lambda params body scope lpos] X.env = [(false, eval e2 X.env), (false, eval (.Lambda params body scope lpos) X.env)] := by rfl)
    (hpl : (backTo pos (starEach [e2, .Lambda params body scope lpos] X.env)).any (·.1) = false := by rfl) :
    PE X (.Call (.Name x p) [e1, e2, .Lambda params body scope lpos] [] pos) (tLamP T E TT ps t1 t2 tb) := by
  refine ⟨fun pins s σ H Q I h => ?_⟩
  refine wpAny_Call_Name_kw (ld_glob I hg hm ?_ hdb)
  refine PySem.W.callWith_K (h₀ := X.base) I.ok.mod.kin hk ?_ hs1 hpl
  rw [hs1, hs2]
  show wpAny _ _ (spliced [(false, eval e1 X.env), (false, eval e2 X.env), (false, eval (.Lambda params body scope lpos) X.env)]) _ _ s
  refine Calls.spliced_cons (thn (h1.run pins s σ H _ I h) fun u1 s1 ⟨v1, H1, I1, r1, q1⟩ => ?_)
  refine Calls.spliced_cons (thn (h2.run pins s1 σ H1 _ I1 q1) fun u2 s2 ⟨v2, H2, I2, r2, hT, q2⟩ => ?_)
  refine Calls.spliced_cons (lam_make2 I2 TB hcode hmT hu hT hdef (fun y hy e => by
    rcases ok.free y hy e with k | k
    · exact I2.ok.has _ (.inl k)
    · exact I2.ok.has _ (.inr k)) fun f c' pm' ctv H3 s' I3 eN T3 hf hfn hfr hco' => ?_)
  refine Calls.spliced_nil ⟨I3.kIn, ?_⟩
  have rc : codeAny (model X.prog X.w) X.A (.call (.ref g) ⟨[u1, u2, .ref f], []⟩) (CR (L2.CX X.prog X.w) X.stack X.prog X.w H3 s' Q E) s' := by
    refine run_ofS (N := Ng) (ps := [n1, n2, a]) (us := [u1, u2, .ref f]) (vs := [v1, v2, .ref f]) lk hcg Sg hr I3.env0 (hb s' [u1, u2, .ref f] I3.kIn rfl) (.cons r1 (.cons r2 (.cons rfl .nil))) rfl fun hr' => ?_
    exact hG f c' s' H3 v1 v2 Q E (fun vs H' Q' => tb (bindP σ ps vs) H' Q') (fun e es ta p1 p2 ha he hp => pe_actP (i := 2) (k := 7) I3 ok hN hco hgen hloc hf hfn hfr (hbind _ _ _ _ _) hr' (fun A outer s H hr2 => hbody A outer s H f c' hr2) ha hNg hva hd hcd he hp) hco' (q2 H3 eN T3) hr'
  refine wpAny_call (codeAny_mono rc fun r s2 hq => ?_)
  cases r with
  | error e => exact hx pins σ H3 s' e s2 I3 hq
  | ok fl =>
    cases fl with
    | ret u => exact I3.after hq
    | next => exact False.elim hq
    | brk => exact False.elim hq
    | cont => exact False.elim hq
end
end Own
namespace Own
open PySem L2 RZ
section
variable {J : It} {n : Nat} {G : Hp → Prop} {Y : Nat → Hp → V → Hp → Prop}
/-- the second clause of a comprehension -/
theorem lc_in (w : Walk J n G Y) {g1 : TG} {tt1 : TT} {te : TE} {vs1 : List Nat} {σ2 : L2.St} {H4 : Hp} {D : Addr} {Nx : Hp → Prop} (Pv : Nat → Hp → Prop) (h0 : Pv 0 H4) (hG : ∀ i H, i ≤ n → Pv i H → G H)
    (hs : ∀ i x H H', i < n → Pv i H → Y i H x H' → g1 x (wipe σ2 vs1) H' fun σ3 H5 => wipe σ3 vs1 = wipe σ2 vs1 ∧ tt1 σ3 H5 fun b H6 =>
      if b = true then te σ3 H6 fun y H7 => ∃ acc, H7 D = some (.lst acc) ∧ acc.length < sizeLine ∧ Pv (i + 1) (upd H7 D (.lst (acc ++ [y]))) else Pv (i + 1) H6) (hd : ∀ H, Pv n H → Nx H) :
    ∃ W1 : Nat → Nat → Hp → Prop, (∃ m, W1 0 m H4) ∧ ∀ j k H, W1 j k H →
      (J.stop j H ∧ Nx H) ∨ (J.go j H ∧ ∃ Nx1 : Hp → Prop, (∀ H', Nx1 H' → ∃ k', k' < k ∧ W1 (j + 1) k' H') ∧ ∀ x H', J.yld j H x H' → g1 x (wipe σ2 vs1) H' fun σ3 H5 => wipe σ3 vs1 = wipe σ2 vs1 ∧ tt1 σ3 H5 fun b H6 =>
        if b = true then te σ3 H6 fun y H7 => ∃ acc, H7 D = some (.lst acc) ∧ acc.length < sizeLine ∧ Nx1 (upd H7 D (.lst (acc ++ [y]))) else Nx1 H6) := by
  refine ⟨fun i m H => m = n - i ∧ i ≤ n ∧ Pv i H, ⟨n, by simp, Nat.zero_le _, h0⟩, ?_⟩
  rintro i m H ⟨rfl, hi, p⟩
  have q := hG i H hi p
  by_cases hlt : i < n
  · refine .inr ⟨w.goes i H hlt q, Pv (i + 1), fun H' p' => ⟨n - (i + 1), by omega, rfl, hlt, p'⟩, fun x H' y => hs i x H H' hlt p (w.yields i H x H' hlt q y)⟩
  · have e : i = n := by omega
    subst e
    exact .inl ⟨w.stops H q, hd H p⟩
theorem lc2_it (w : Walk J n G Y) {wi1 : TI} {g g1 : TG} {tt tt1 : TT} {te : TE} {vs vs1 : List Nat} {σ : L2.St} {H1 : Hp} {D : Addr} {Qd : Hp → Prop} (Pv : Nat → Hp → Prop) (h0 : Pv 0 (upd H1 D (.lst []))) (hG : ∀ i H, i ≤ n → Pv i H → G H)
    (hs : ∀ i x H H', i < n → Pv i H → Y i H x H' → g x (wipe σ vs) H' fun σ2 H2 => wipe σ2 vs = wipe σ vs ∧ tt σ2 H2 fun b H3 =>
      if b = true then wi1 σ2 H3 fun J1 H4 => ∃ W1 : Nat → Nat → Hp → Prop, (∃ m, W1 0 m H4) ∧ ∀ j k H, W1 j k H →
      (J1.stop j H ∧ Pv (i + 1) H) ∨ (J1.go j H ∧ ∃ Nx1 : Hp → Prop, (∀ H', Nx1 H' → ∃ k', k' < k ∧ W1 (j + 1) k' H') ∧ ∀ x H', J1.yld j H x H' → g1 x (wipe σ2 vs1) H' fun σ3 H5 => wipe σ3 vs1 = wipe σ2 vs1 ∧ tt1 σ3 H5 fun b H6 =>
        if b = true then te σ3 H6 fun y H7 => ∃ acc, H7 D = some (.lst acc) ∧ acc.length < sizeLine ∧ Nx1 (upd H7 D (.lst (acc ++ [y]))) else Nx1 H6)
      else Pv (i + 1) H3) (hd : ∀ H, Pv n H → Qd H) :
    ∃ W : Nat → Nat → Hp → Prop, (∃ m, W 0 m (upd H1 D (.lst []))) ∧ ∀ i m H, W i m H →
  (J.stop i H ∧ Qd H) ∨ (J.go i H ∧ ∃ Nx : Hp → Prop, (∀ H', Nx H' → ∃ m', m' < m ∧ W (i + 1) m' H') ∧ ∀ x H', J.yld i H x H' → g x (wipe σ vs) H' fun σ2 H2 => wipe σ2 vs = wipe σ vs ∧ tt σ2 H2 fun b H3 =>
    if b = true then wi1 σ2 H3 fun J1 H4 => ∃ W1 : Nat → Nat → Hp → Prop, (∃ m, W1 0 m H4) ∧ ∀ j k H, W1 j k H →
      (J1.stop j H ∧ Nx H) ∨ (J1.go j H ∧ ∃ Nx1 : Hp → Prop, (∀ H', Nx1 H' → ∃ k', k' < k ∧ W1 (j + 1) k' H') ∧ ∀ x H', J1.yld j H x H' → g1 x (wipe σ2 vs1) H' fun σ3 H5 => wipe σ3 vs1 = wipe σ2 vs1 ∧ tt1 σ3 H5 fun b H6 =>
        if b = true then te σ3 H6 fun y H7 => ∃ acc, H7 D = some (.lst acc) ∧ acc.length < sizeLine ∧ Nx1 (upd H7 D (.lst (acc ++ [y]))) else Nx1 H6)
    else Nx H3) := by
  refine ⟨fun i m H => m = n - i ∧ i ≤ n ∧ Pv i H, ⟨n, by simp, Nat.zero_le _, h0⟩, ?_⟩
  rintro i m H ⟨rfl, hi, p⟩
  have q := hG i H hi p
  by_cases hlt : i < n
  · refine .inr ⟨w.goes i H hlt q, Pv (i + 1), fun H' p' => ⟨n - (i + 1), by omega, rfl, hlt, p'⟩, fun x H' y => hs i x H H' hlt p (w.yields i H x H' hlt q y)⟩
  · have e : i = n := by omega
    subst e
    exact .inl ⟨w.stops H q, hd H p⟩
end
end Own
namespace K53
open PySem L2 RZ Own StX SkE LamX PySem.Spec
abbrev s_made : Stmt := top 55
theorem sc_made : FnScope ["one", "other", "moves_at", "x", "starts", "measures", "rows", "moves", "y", "move", "target", "name"] ["one", "other", "moves_at"] (defScope s_made) := ⟨rfl, rfl, rfl, by decide +kernel, rfl, by decide +kernel, by decide +kernel⟩
def sumTo (n : Nat) (f : Nat → Nat) : Nat := ((List.range n).map f).sum
theorem sumTo_succ (n : Nat) (f : Nat → Nat) : sumTo (n + 1) f = sumTo n f + f n := by
  unfold sumTo
  rw [List.range_succ, List.map_append, List.sum_append]
  simp
theorem sumTo_mono (f : Nat → Nat) {m n : Nat} (h : m ≤ n) : sumTo m f ≤ sumTo n f := by
  induction h with
  | refl => exact Nat.le_refl _
  | step _ ih => rw [sumTo_succ]; omega
theorem enc_b {x y c d : Int} (x0 : 0 ≤ x) (x1 : x ≤ c - 1) (y0 : 0 ≤ y) (y1 : y ≤ d - 1) : 0 ≤ x * d + y ∧ x * d + y ≤ c * d - 1 := by
  have hd : 0 ≤ d := by omega
  have h1 : x * d ≤ (c - 1) * d := Int.mul_le_mul_of_nonneg_right x1 hd
  have h2 : 0 ≤ x * d := Int.mul_nonneg x0 hd
  rw [Int.sub_mul, Int.one_mul] at h1
  omega
/-- the starts of a joined graph -/
def stJ (d : Int) (xs ys : List Int) : List Int := xs.flatMap fun x => ys.map fun y => x * d + y
theorem stJ_asc {c d : Int} {xs ys : List Int} (hx : LotOf c xs) (hy : LotOf d ys) : Asc (stJ d xs ys) := by
  obtain ⟨⟨ax, px, _⟩, bx⟩ := hx
  obtain ⟨⟨ay, py, _⟩, by_⟩ := hy
  unfold stJ Asc
  rw [List.pairwise_flatMap]
  refine ⟨fun x _ => List.pairwise_map.mpr (List.Pairwise.imp (fun h => by omega) ay), ?_⟩
  refine List.Pairwise.imp_of_mem (fun {x x'} hxm hxm' h a ha b hb => ?_) ax
  obtain ⟨y, hym, rfl⟩ := List.mem_map.mp ha
  obtain ⟨y', hym', rfl⟩ := List.mem_map.mp hb
  have h1 := by_ y hym
  have h2 := py y' hym'
  have hd : 0 ≤ d := by have := py y hym; omega
  have h3 : (x + 1) * d ≤ x' * d := Int.mul_le_mul_of_nonneg_right (by omega) hd
  rw [Int.add_mul, Int.one_mul] at h3
  omega
theorem stJ_len (d : Int) (xs ys : List Int) : (stJ d xs ys).length = xs.length * ys.length := by
  unfold stJ
  induction xs with
  | nil => simp
  | cons x r ih => rw [List.flatMap_cons, List.length_append, ih, List.length_map, List.length_cons, Nat.add_mul, Nat.one_mul, Nat.add_comm]
theorem stJ_snoc (d : Int) (xs ys : List Int) (x : Int) : stJ d (xs ++ (some x).toList) ys = stJ d xs ys ++ ys.map fun y => x * d + y := by
  unfold stJ
  rw [List.flatMap_append]
  simp
theorem lot_len {c : Int} {ns : List Int} (h : LotOf c ns) (hc : c ≤ 300) : ns.length ≤ 300 := by
  obtain ⟨⟨ha, hp, _⟩, hb⟩ := h
  have q := pigeon 300 (ns.map Int.toNat) (by
    refine List.pairwise_map.mpr (List.Pairwise.imp_of_mem (fun {a b} ma mb h e => ?_) ha)
    have := hp a ma
    have := hp b mb
    omega) fun x hx => by
    obtain ⟨n, hn, rfl⟩ := List.mem_map.mp hx
    have := hb n hn
    have := hp n hn
    omega
  rwa [List.length_map] at q
theorem stJ_mem {d : Int} {xs ys : List Int} {n : Int} (h : n ∈ stJ d xs ys) : ∃ x ∈ xs, ∃ y ∈ ys, n = x * d + y := by
  obtain ⟨x, hx, h2⟩ := List.mem_flatMap.mp h
  obtain ⟨y, hy, rfl⟩ := List.mem_map.mp h2
  exact ⟨x, hx, y, hy, rfl⟩
theorem strs_lt_of {x p : Str} (h : ltCps x.cps.toList p.cps.toList = false) (hne : p ≠ x) : p.cps.toList < x.cps.toList := by
  rw [PyProof.Rows.ltCps_eq] at h
  have h1 : ¬ x.cps.toList < p.cps.toList := of_decide_eq_false h
  by_cases h2 : p.cps.toList < x.cps.toList
  · exact h2
  · have e : p.cps.toList = x.cps.toList := List.le_antisymm (List.not_lt.mp h1) (List.not_lt.mp h2)
    refine absurd ?_ hne
    obtain ⟨⟨a⟩⟩ := p
    obtain ⟨⟨b⟩⟩ := x
    have e' : a = b := e
    rw [e']
theorem asc_of_rising : ∀ (xs : List Str) (p : Str), PyProof.Rows.risingS p xs = true → (p :: xs).Nodup → AscS (p :: xs)
  | [], p, _, _ => List.pairwise_singleton _ _
  | x :: r, p, h, nd => by
    have h' : (!ltCps x.cps.toList p.cps.toList && PyProof.Rows.risingS x r) = true := h
    obtain ⟨h1, h2⟩ := Bool.and_eq_true_iff.mp h'
    obtain ⟨n1, n2⟩ := List.nodup_cons.mp nd
    have ih := asc_of_rising r x h2 n2
    have hpx : p.cps.toList < x.cps.toList := strs_lt_of (by simpa using h1) fun e => n1 (e ▸ List.mem_cons_self)
    refine List.pairwise_cons.mpr ⟨fun y hy => ?_, ih⟩
    rcases List.mem_cons.mp hy with e | hy
    · rw [e]; exact hpx
    · exact List.lt_trans hpx ((List.pairwise_cons.mp ih).1 y hy)
theorem asc_of_sorted {xs : List Str} (h : PyProof.Rows.sortedS xs = true) (nd : xs.Nodup) : AscS xs := by
  cases xs with
  | nil => exact List.Pairwise.nil
  | cons x r => exact asc_of_rising r x h nd
/-- rows and moves as they grow -/
def RI (K : PySem.W.Frag) (H0 H' : Hp) (pr pm : Addr) (cc : Int) (ml cnt : Nat) : Prop := ∃ rows ss mvs ms, Same H0 H' ∧ H' pr = some (.lst rows) ∧ H' pm = some (.lst mvs) ∧ Paired (StpAt K H') rows ss ∧ Paired (MvAt K H') mvs ms ∧ (∀ s ∈ ss, StpOk cc ml s) ∧ ss.length = cnt ∧ ms.length = cnt
theorem RI.same {K : PySem.W.Frag} {H0 H' H'' : Hp} {pr pm : Addr} {cc : Int} {ml cnt : Nat} (h : RI K H0 H' pr pm cc ml cnt) (e : Same H' H'') : RI K H0 H'' pr pm cc ml cnt := by
  obtain ⟨rows, ss, mvs, ms, h1, h2, h3, h4, h5, h6, h7, h8⟩ := h
  exact ⟨rows, ss, mvs, ms, h1.trans e, e _ _ h2, e _ _ h3, Paired.mapP h4 fun _ _ q => q.mono e, Paired.mapP h5 fun _ _ q => q.mono e, h6, h7, h8⟩
theorem paired_snoc {α β : Type} {R : α → β → Prop} : ∀ {xs : List α} {ys : List β} {x : α} {y : β}, Paired R xs ys → R x y → Paired R (xs ++ [x]) (ys ++ [y])
  | _, _, _, _, .nil, h => .cons h .nil
  | _, _, _, _, .cons h1 t, h => .cons h1 (paired_snoc t h)
theorem sqt_lst {K : PySem.W.Frag} {H : Hp} {p c : Addr} {xs zs : List V} {ys : List V} (hp : H p = some (.lst xs)) (h : SqT K H c ys) : SqT K (upd H p (.lst zs)) c ys := by
  rcases h with (h | ⟨o, h⟩) | h
  · exact .inl (.inl (by rw [upd_ne (ne_of h hp (fun z => nomatch z))]; exact h))
  · exact .inl (.inr ⟨o, by rw [upd_ne (ne_of h hp (fun z => nomatch z))]; exact h⟩)
  · exact .inr h
section
variable {P : Program} {w : World} {K : PySem.W.Frag} {mg : Str → Option Value} {base : Heap}
def MovesOk (K : PySem.W.Frag) (tl : List V → Hp → VK → Prop) (c1 c2 : Int) (H : Hp) (mf : Nat → Nat → List Mv) : Prop := ∀ (x y : Nat) (H' : Hp) (Q : VK), (x : Int) < c1 → (y : Int) < c2 → Same H H' →
  (∀ (p : Addr) (H'' : Hp) (mvs : List V), Same H' H'' → H' p = none → H'' p = some (.lst mvs) → Paired (MvAt K H'') mvs (mf x y) → Q (.ref p) H'') → tl [.int (x : Int), .int (y : Int)] H' Q
def totalOf (c1 c2 : Int) (mf : Nat → Nat → List Mv) : Nat := sumTo c1.toNat fun x => sumTo c2.toNat fun y => (mf x y).length
/-- what made gets, and what it does with it -/
def TTmade (C CT : Addr) (K : PySem.W.Frag) (tl : List V → Hp → VK → Prop) (v1 v2 : V) (H : Hp) (Q : VK) (E : XK) : Prop := ∃ a b g g2 mf, v1 = .ref a ∧ v2 = .ref b ∧ GrAt K C H a g ∧ GrAt K C H b g2 ∧ GrOk g ∧ GrOk g2 ∧ (g.meas ++ g2.meas).Nodup ∧
  g.meas.length + g2.meas.length ≤ 4 ∧ g.count * g2.count ≤ 300 ∧ totalOf g.count g2.count mf ≤ 1200 ∧ (∀ x y : Nat, (x : Int) < g.count → (y : Int) < g2.count → ∀ m ∈ mf x y, MvIn g g2 m) ∧ MovesOk K tl g.count g2.count H mf ∧
  (∀ (p : Addr) (H' : Hp) (g3 : Gr), Same H H' → GrAt K C H' p g3 → GrOk g3 → g3.count = g.count * g2.count → g3.steps.length = totalOf g.count g2.count mf → g3.meas.Perm (g.meas ++ g2.meas) →
    (∀ x, x ∈ g3.evs.map (·.1) ↔ x ∈ g.evs.map (·.1) ∨ x ∈ g2.evs.map (·.1)) → Q (.ref p) H') ∧
  (∀ es : List Str, es.Nodup → (∀ x, x ∈ es ↔ x ∈ g.evs.map (·.1) ∨ x ∈ g2.evs.map (·.1)) → 200 < es.length → exr E CT H [("most", .int 200), ("what", .str "events")])
theorem made_gives {C CT g : Addr} {cdg : Value} {q : Str} {N0 : List Str} {q0 : Str} {sc0 : Scope} {f0 : Addr} {cd0 : Value} {A0 : Around} {o0 : List Env} {s0 : Shared} {H0 : Hp} {E0 : XK} (T : Txt K mg) (R : GrC K C)
    (D_target_of : DefOk P w K mg base CX0 1 "target_of" ["graph", "state", "step"] (spTargetOf C K)) (D_time_of : DefOk P w K mg base CX0 1 "time_of" ["one", "other", "move"] (spTimeOf C K))
    (D_pays_of : DefOk P w K mg base CX0 1 "pays_of" ["one", "other", "move"] (spPaysOf C K)) (D_events_of : DefOk P w K mg base CX0 3 "events_of" ["one", "other", "moves"] (spEventsOf C K))
    (M_Graph : CDef P w K mg base (L2.CX P w) 6 "Graph" C ["self", "count", "starts", "steps", "measures", "events"] (spGraph C CT K)) :
    GivesP (cxOf (L2.CX P w) P w K mg base N0 q0 sc0 f0 cd0 A0 o0 s0 H0 E0) ["one", "other", "moves_at", "x", "starts", "measures", "rows", "moves", "y", "move", "target", "name"] "made" (defScope s_made) g cdg (defBody s_made) "moves_at" q 2 2 (TTmade C CT K) := by
  intro f c' s H v1 v2 Q E tl act hc ⟨a, b, g, g2, mf, e1, e2, hg, hg2, go, go2, hnd, hml, hcc, htot, hmi, hmo, kq, ke⟩ hr
  subst e1 e2
  have hu := hu_of hr
  refine ⟨_, (pss_cons (ps_par (i := 6) (j := 7) (by rfl) sc_made.nd rfl rfl (by decide) rfl rfl (pa_cons (pe_lst pa_nil) (pa_cons (pe_lst pa_nil) pa_nil)) (by rfl))
  (pss_cons (ps_for (passes_of rfl) rfl (pi_range1 (by rfl) T.n_range (pa_cons (fldK K (pv 0)) pa_nil)) (pg_name (i := 3) sc_made.nd rfl (Or.inl rfl))
  (pss_one (ps_for (passes_of rfl) rfl (pi_range1 (by rfl) T.n_range (pa_cons (fldK K (pv 1)) pa_nil)) (pg_name (i := 8) sc_made.nd rfl (Or.inl rfl))
  (pss_one (ps_for (passes_of rfl) rfl ((pi_listK K) (act _ _ _ _ _ (pa_cons (pv 3) (pa_cons (pv 8) pa_nil)) rfl rfl)) (pg_name (i := 9) sc_made.nd rfl (Or.inl rfl))
  (pss_cons (ps_set (i := 10) sc_made.nd rfl (Or.inl rfl) (pe_op op_add (pe_op op_mul (pe_d D_target_of (hr.mono (by decide)) pass0 (pa_cons (pv 0) (pa_cons (pv 3) (pa_cons (pe_ix (ix_tupK K) (pv 9) pe_int (fun _ _ => rfl)) pa_nil)))) (fldK K (pv 1))) (pe_d D_target_of (hr.mono (by decide)) pass0 (pa_cons (pv 1) (pa_cons (pv 8) (pa_cons (pe_ix (ix_tupK K) (pv 9) pe_int (fun _ _ => rfl)) pa_nil))))))
  (pss_cons (ps_expr (pe_bm PySem.F.plainAttrs_list PySem.F.slot_list_append PySem.F.type_list_append mt_append (pv 6) (pa_cons (pe_tup (pa_cons (pe_op op_add (pe_op op_mul (pv 3) (fldK K (pv 1))) (pv 8)) (pa_cons (pv 10) (pa_cons (pe_d D_time_of (hr.mono (by decide)) pass0 (pa_cons (pv 0) (pa_cons (pv 1) (pa_cons (pv 9) pa_nil)))) (pa_cons (pe_d D_pays_of (hr.mono (by decide)) pass0 (pa_cons (pv 0) (pa_cons (pv 1) (pa_cons (pv 9) pa_nil)))) pa_nil))))) pa_nil)))
  (pss_one (ps_expr (pe_bm PySem.F.plainAttrs_list PySem.F.slot_list_append PySem.F.type_list_append mt_append (pv 7) (pa_cons (pv 9) pa_nil)))))))))))
  (pss_cons (ps_set (i := 4) sc_made.nd rfl (Or.inl rfl) (pe_callTy (tuple_ofK K) (by rfl) T.n_tuple (by decide +kernel) (pa_cons (pe_lc2 (own := [("x", 3), ("y", 8)]) (vs1 := [8]) (g := gName 3) (g1 := gName 8) (tt := tYes) (tt1 := tYes) (by rfl) sc_made.nd ((pi_tupK K) (fldK K (pv 0))) (blkOk_by (N := ["one", "other", "moves_at", "x", "starts", "measures", "rows", "moves", "y", "move", "target", "name"]) (sc := (defScope s_made)) (by decide +kernel)) (by decide) (fun _ _ _ _ _ => (pg_name (i := 3) sc_made.nd rfl (Or.inl rfl))) (fun _ _ _ _ _ => pts_nil) (fun _ _ _ _ _ => ((pi_tupK K) (fldK K (pv 1)))) (fun _ _ _ _ _ => (pg_name (i := 8) sc_made.nd rfl (Or.inl rfl))) (fun _ _ _ _ _ => pts_nil) (fun _ _ _ _ _ => (pe_op op_add (pe_op op_mul (pv 3) (fldK K (pv 1))) (pv 8)))) pa_nil)))
  (pss_cons (ps_set (i := 5) sc_made.nd rfl (Or.inl rfl) (pe_callTy (tuple_ofK K) (by rfl) T.n_tuple (by decide +kernel) (pa_cons (pe_callB (sortedSK K) (by rfl) T.n_sorted (by decide +kernel) (pa_cons (pe_lc (own := [("name", 11)]) (g := gName 11) (tt := tYes) (by rfl) sc_made.nd ((pi_tupK K) (pe_tup (pa_star (fldK K (pv 0)) (pa_star (fldK K (pv 1)) pa_nil)))) (blkOk_by (N := ["one", "other", "moves_at", "x", "starts", "measures", "rows", "moves", "y", "move", "target", "name"]) (sc := (defScope s_made)) (by decide +kernel)) (fun _ _ _ _ _ => (pg_name (i := 11) sc_made.nd rfl (Or.inl rfl))) (fun _ _ _ _ _ => pts_nil) (fun _ _ _ _ _ => (pe_callTy call_str_str (by rfl) T.n_str (by decide +kernel) (pa_cons (pv 11) pa_nil)))) pa_nil)) pa_nil)))
  (pss_one (ps_ret (pe_mkd M_Graph (hr.mono (by decide)) (passes_call (W := fun cls d _ H => E cls d H) (takes_of rfl rfl rfl rfl) fun _ _ _ _ h => h) (pa_cons (pe_op op_mul (fldK K (pv 0)) (fldK K (pv 1))) (pa_cons (pv 4) (pa_cons (pe_callTy (tuple_ofK K) (by rfl) T.n_tuple (by decide +kernel) (pa_cons (pv 6) pa_nil)) (pa_cons (pv 5) (pa_cons (pe_d D_events_of (hr.mono (by decide)) pass0 (pa_cons (pv 0) (pa_cons (pv 1) (pa_cons (pv 7) pa_nil)))) pa_nil)))))))))))), ?_⟩
  obtain ⟨dx, aS, aT, aM, aL, aO, aR, kvs, h1, h2, h3, h4, h5, h6, h7⟩ := id hg
  obtain ⟨dx', aS', aT', aM', aL', aO', aR', kvs', h1', h2', h3', h4', h5', h6', h7'⟩ := id hg2
  have c1 := go.po.c1
  have c2 := go.po.c2
  have d1 := go2.po.c1
  have d2 := go2.po.c2
  refine ⟨Nat.zero_le _, fun pr hpr => ⟨Nat.zero_le _, fun pm hpm => ⟨_, _, rfl, ?_⟩⟩⟩
  have npr : pr ≠ pm := ne_of_none upd_same hpm
  have npm0 : H pm = none := by rw [upd_ne npr.symm] at hpm; exact hpm
  have r0 : RI K H (upd (upd H pr (.lst [])) pm (.lst [])) pr pm (g.count * g2.count) (g.meas.length + g2.meas.length) 0 := ⟨[], [], [], [], (same_up hpr).trans (same_up hpm), by rw [upd_ne npr]; exact upd_same, upd_same, .nil, .nil, fun s h => (by cases h), rfl, rfl⟩
  have s0 : Same H (upd (upd H pr (.lst [])) pm (.lst [])) := (same_up hpr).trans (same_up hpm)
  generalize (upd (upd H pr (.lst [])) pm (.lst [])) = H1 at r0 s0 ⊢
  refine ⟨_, rfl, a, C, dx, _, .int g.count, rfl, s0 _ _ h1, R.c, R.no _ (by simp), rfl, g.count, rfl, by omega, by omega, ?_⟩
  refine for_it walk_range (fun i σ H' => ∃ v3 v8 v9 v10, σ = [some (.ref a), some (.ref b), some (.ref f), v3, none, none, some (.ref pr), some (.ref pm), v8, v9, v10, none] ∧ RI K H H' pr pm (g.count * g2.count) (g.meas.length + g2.meas.length) (sumTo i fun x => sumTo g2.count.toNat fun y => (mf x y).length))
    ⟨_, _, _, _, rfl, r0⟩ (fun _ _ _ _ _ => trivial) (fun i x σ H2 H3 hi ⟨v3, v8, v9, v10, e, r2⟩ ⟨e3, hx⟩ => ?_) fun σ H2 ⟨v3, v8, v9, v10, e, r2⟩ => ?_
  · subst e e3
    simp only [Int.zero_add] at hx
    subst hx
    have sH3 : Same H H3 := by obtain ⟨_, _, _, _, q, _⟩ := r2; exact q
    refine ⟨_, rfl, b, C, dx', _, .int g2.count, rfl, sH3 _ _ h1', R.c, R.no _ (by simp), rfl, g2.count, rfl, by omega, by omega, ?_⟩
    refine for_it walk_range (fun j σ H' => ∃ v8 v9 v10, σ = [some (.ref a), some (.ref b), some (.ref f), some (.int (i : Int)), none, none, some (.ref pr), some (.ref pm), v8, v9, v10, none] ∧ RI K H H' pr pm (g.count * g2.count) (g.meas.length + g2.meas.length) ((sumTo i fun x => sumTo g2.count.toNat fun y => (mf x y).length) + sumTo j fun y => (mf i y).length))
      ⟨_, _, _, rfl, r2⟩ (fun _ _ _ _ _ => trivial) (fun j x σ H4 H5 hj ⟨v8, v9, v10, e, r4⟩ ⟨e4, hx⟩ => ?_) fun σ H4 ⟨v8, v9, v10, e, r4⟩ => ?_
    · subst e e4
      simp only [Int.zero_add] at hx
      subst hx
      have sH5 : Same H H5 := by obtain ⟨_, _, _, _, q, _⟩ := r4; exact q
      have hi' : (i : Int) < g.count := by omega
      have hj' : (j : Int) < g2.count := by omega
      refine ⟨rfl, _, rfl, _, rfl, rfl, sH5 _ _ hc, hmo i j H5 _ hi' hj' sH5 fun p H6 mvs s6 hp0 hp hPm => ?_⟩
      have npr' : pr ≠ p := by obtain ⟨_, _, _, _, _, q, _⟩ := r4; exact ne_of_none q hp0
      have npm' : pm ≠ p := by obtain ⟨_, _, _, _, _, _, q, _⟩ := r4; exact ne_of_none q hp0
      have r6 := r4.same s6
      have hml6 : mvs.length = (mf i j).length := Paired.length hPm
      refine ⟨p, rfl, ⟨_, SqL.of hp⟩, ?_⟩
      refine for_it walk_list (fun l σ H' => ∃ v9 v10, σ = [some (.ref a), some (.ref b), some (.ref f), some (.int (i : Int)), none, none, some (.ref pr), some (.ref pm), some (.int (j : Int)), v9, v10, none] ∧ Same H H' ∧ H' p = some (.lst mvs) ∧ Paired (MvAt K H') mvs (mf i j) ∧
          RI K H H' pr pm (g.count * g2.count) (g.meas.length + g2.meas.length) ((sumTo i fun x => sumTo g2.count.toNat fun y => (mf x y).length) + (sumTo j fun y => (mf i y).length) + l))
        ⟨_, _, rfl, sH5.trans s6, hp, hPm, r6⟩ (fun l σ H' _ ⟨_, _, _, _, q, _⟩ => SqL.of q) (fun l v σ H7 H8 hl ⟨v9, v10, e, s7, p7, m7, r7⟩ ⟨e7, hv⟩ => ?_) fun σ H7 ⟨v9, v10, e, s7, p7, m7, r7⟩ => ?_
      · subst e e7
        obtain ⟨⟨m1, m2⟩, hm, mp, rfl, hmp⟩ := paired_at m7 hv
        have hmem := List.mem_of_getElem? hm
        obtain ⟨i1, i2, i3⟩ := hmi i j hi' hj' _ hmem
        have tb1 : 0 ≤ tgtOf g (i : Int) m1 ∧ tgtOf g (i : Int) m1 ≤ g.count - 1 := by
          cases m1 with
          | none => exact ⟨Int.natCast_nonneg i, by show (i : Int) ≤ _; omega⟩
          | some n =>
            rw [tgtOf_some (i1 n rfl)]
            exact ⟨(go.po.to _ (List.getElem_mem _)).t0, (go.po.to _ (List.getElem_mem _)).t1⟩
        have tb2 : 0 ≤ tgtOf g2 (j : Int) m2 ∧ tgtOf g2 (j : Int) m2 ≤ g2.count - 1 := by
          cases m2 with
          | none => exact ⟨Int.natCast_nonneg j, by show (j : Int) ≤ _; omega⟩
          | some n =>
            rw [tgtOf_some (i2 n rfl)]
            exact ⟨(go2.po.to _ (List.getElem_mem _)).t0, (go2.po.to _ (List.getElem_mem _)).t1⟩
        have tm : 1 ≤ timeOf g g2 (m1, m2) ∧ timeOf g g2 (m1, m2) ≤ 1000 := by
          cases m1 with
          | none =>
            cases m2 with
            | none => exact absurd rfl i3
            | some n =>
              rw [timeOf_r (i2 n rfl)]
              exact ⟨(go2.po.to _ (List.getElem_mem _)).d0, (go2.po.to _ (List.getElem_mem _)).d1⟩
          | some n =>
            cases m2 with
            | none =>
              rw [timeOf_l (i1 n rfl)]
              exact ⟨(go.po.to _ (List.getElem_mem _)).d0, (go.po.to _ (List.getElem_mem _)).d1⟩
            | some n2 => exact ⟨show (1 : Int) ≤ 1 by decide, show (1 : Int) ≤ 1000 by decide⟩
        have hg8 := hg.mono s7
        have hg8' := hg2.mono s7
        have e1 := enc_b (c := g.count) (d := g2.count) (Int.natCast_nonneg i) (by omega) (Int.natCast_nonneg j) (by omega)
        have e2 := enc_b (c := g.count) (d := g2.count) tb1.1 tb1.2 tb2.1 tb2.2
        refine ⟨_, rfl, _, rfl, _, rfl, mp, _, 0, _, rfl, rfl, hmp, rfl, a, g, (i : Int), m1, rfl, hg8, i1, ?_⟩
        refine ⟨_, rfl, b, C, dx', _, .int g2.count, rfl, s7 _ _ h1', R.c, R.no _ (by simp), rfl, _, _, rfl, rfl, .inl ⟨by omega, by omega⟩, ?_⟩
        refine ⟨_, rfl, _, rfl, _, rfl, mp, _, 1, _, rfl, rfl, hmp, rfl, b, g2, (j : Int), m2, rfl, hg8', i2, _, _, rfl, rfl, ?_⟩
        obtain ⟨rows, ss, mvs', ms, q1, q2, q3, q4, q5, q6, q7, q8⟩ := r7
        have hrl : rows.length = ss.length := Paired.length q4
        have hml' : mvs'.length = ms.length := Paired.length q5
        have hcnt : (sumTo i fun x => sumTo g2.count.toNat fun y => (mf x y).length) + (sumTo j fun y => (mf i y).length) + l + 1 ≤ 1200 := by
          have z1 : (sumTo j fun y => (mf i y).length) + (mf i j).length ≤ sumTo g2.count.toNat fun y => (mf i y).length := by
            rw [← sumTo_succ (f := fun y => (mf i y).length)]
            exact sumTo_mono _ (by omega)
          have z2 : (sumTo i fun x => sumTo g2.count.toNat fun y => (mf x y).length) + (sumTo g2.count.toNat fun y => (mf i y).length) ≤ totalOf g.count g2.count mf := by
            unfold totalOf
            rw [← sumTo_succ (f := fun x => sumTo g2.count.toNat fun y => (mf x y).length)]
            exact sumTo_mono _ (by omega)
          have z3 : l < (mf i j).length := by rw [← hml6]; exact hl
          omega
        refine ⟨_, rfl, .inl ⟨rfl, _, SqL.of q2⟩, _, rfl, _, rfl, b, C, dx', _, .int g2.count, rfl, s7 _ _ h1', R.c, R.no _ (by simp), rfl, _, _, rfl, rfl, .inl ⟨by omega, by omega⟩, _, rfl, _, _, rfl, rfl, _, rfl, _, rfl, _, rfl, _, rfl, a, b, g, g2, .ref mp, (m1, m2), rfl, hg8, hg8', ⟨mp, rfl, hmp⟩, ⟨i1, i2, i3⟩, ?_⟩
        refine ⟨_, rfl, _, rfl, _, rfl, a, b, g, g2, .ref mp, (m1, m2), rfl, hg8, hg8', ⟨mp, rfl, hmp⟩, ⟨i1, i2, i3⟩, hnd, hml, go.po.to, go2.po.to, fun pp H9 ps s9 hpp hpl hpb => ?_⟩
        refine ⟨(by show 4 ≤ sizeLine; decide), fun pt hpt => ⟨pr, rows, _, rfl, rfl, ?_, by rw [hrl, q7]; exact big_len (by omega), ?_⟩⟩
        · rw [upd_ne (ne_of_none (s9 _ _ q2) hpt)]; exact s9 _ _ q2
        · have s10 : Same H9 (upd H9 pt (.tup [.int ((i : Int) * g2.count + j), .int (tgtOf g (i : Int) m1 * g2.count + tgtOf g2 (j : Int) m2), .int (timeOf g g2 (m1, m2)), .ref pp])) := same_up hpt
          have t10 : (upd H9 pt (.tup [.int ((i : Int) * g2.count + j), .int (tgtOf g (i : Int) m1 * g2.count + tgtOf g2 (j : Int) m2), .int (timeOf g g2 (m1, m2)), .ref pp])) pt = some _ := upd_same
          generalize (upd H9 pt (.tup [.int ((i : Int) * g2.count + j), .int (tgtOf g (i : Int) m1 * g2.count + tgtOf g2 (j : Int) m2), .int (timeOf g g2 (m1, m2)), .ref pp])) = H10 at s10 t10 ⊢
          have s79 := s9.trans s10
          have r10 : H10 pr = some (.lst rows) := s79 _ _ q2
          have p10 : H10 pm = some (.lst mvs') := s79 _ _ q3
          have u11 : ∀ (c : Addr) (ys : List V), SqT K H10 c ys → SqT K (upd (upd H10 pr (.lst (rows ++ [.ref pt]))) pm (.lst (mvs' ++ [.ref mp]))) c ys := fun c ys z => sqt_lst (by rw [upd_ne npr.symm]; exact p10) (sqt_lst r10 z)
          refine ⟨_, rfl, .inl ⟨rfl, _, SqL.of (by rw [upd_ne npr.symm]; exact p10)⟩, _, rfl, pm, mvs', _, rfl, rfl, by rw [upd_ne npr.symm]; exact p10, by rw [hml', q8]; exact big_len (by omega), ?_⟩
          refine ⟨_, _, rfl, fun c o e => ?_, ?_, Paired.mapP m7 fun _ _ ⟨z, z1, z2⟩ => ⟨z, z1, u11 _ _ (Same.sqt s79 z2)⟩, ?_⟩
          · rw [upd_ne (fun z => by rw [z, npm0] at e; cases e), upd_ne (fun z => by rw [z, hpr] at e; cases e)]
            exact s79 _ _ (s7 _ _ e)
          · rw [upd_ne npm'.symm, upd_ne npr'.symm]; exact s79 _ _ p7
          · refine ⟨rows ++ [.ref pt], ss ++ [⟨(i : Int) * g2.count + j, tgtOf g (i : Int) m1 * g2.count + tgtOf g2 (j : Int) m2, timeOf g g2 (m1, m2), ps⟩], mvs' ++ [.ref mp], ms ++ [(m1, m2)], fun c o e => ?_, by rw [upd_ne npr]; exact upd_same, upd_same, ?_, ?_, fun st hst => ?_, ?_, ?_⟩
            · rw [upd_ne (fun z => by rw [z, npm0] at e; cases e), upd_ne (fun z => by rw [z, hpr] at e; cases e)]
              exact s79 _ _ (s7 _ _ e)
            · refine paired_snoc (Paired.mapP q4 fun _ _ ⟨z, z', z1, z2, z3⟩ => ⟨z, z', z1, u11 _ _ (Same.sqt s79 z2), u11 _ _ (Same.sqt s79 z3)⟩) ⟨pt, pp, rfl, u11 _ _ (SqT.of t10), u11 _ _ (Same.sqt s10 hpp)⟩
            · exact paired_snoc (Paired.mapP q5 fun _ _ ⟨z, z1, z2⟩ => ⟨z, z1, u11 _ _ (Same.sqt s79 z2)⟩) ⟨mp, rfl, u11 _ _ (Same.sqt s79 hmp)⟩
            · rcases List.mem_append.mp hst with z | z
              · exact q6 _ z
              · rw [List.mem_singleton.mp z]
                exact ⟨e1.1, e1.2, e2.1, e2.2, tm.1, tm.2, hpl, hpb⟩
            · rw [List.length_append, q7]; rfl
            · rw [List.length_append, q8]; rfl
      · subst e
        refine ⟨_, _, _, rfl, ?_⟩
        rw [hml6] at r7
        rw [sumTo_succ, ← Nat.add_assoc]
        exact r7
    · subst e
      refine ⟨_, _, _, _, rfl, ?_⟩
      rw [sumTo_succ]
      exact r4
  · subst e
    rw [show (sumTo g.count.toNat fun x => sumTo g2.count.toNat fun y => (mf x y).length) = totalOf g.count g2.count mf from rfl] at r2
    obtain ⟨rows, ss, mvs, ms, s2, p2, m2, t2, v2, o2, l2, n2⟩ := r2
    have hxo := go.po.so
    have hyo := go2.po.so
    have hxl : g.starts.length ≤ 300 := lot_len hxo c2
    have hyl : g2.starts.length ≤ 300 := lot_len hyo d2
    refine ⟨_, rfl, a, C, dx, _, .ref aS, rfl, s2 _ _ h1, R.c, R.no _ (by simp), rfl, aS, rfl, ⟨_, Same.sqt s2 h2⟩, fun D hD => ?_⟩
    refine lc2_it walk_tup (fun i H' => Same H2 H' ∧ H' D = some (.lst ((stJ g2.count (g.starts.take i) g2.starts).map V.int))) ⟨same_up hD, upd_same⟩ (fun i H' _ ⟨s', _⟩ => Same.sqt (s2.trans s') h2) (fun i x H3 H4 hi ⟨s3, l3⟩ ⟨e4, hx⟩ => ?_) fun H3 ⟨s3, l3⟩ => ?_
    · subst e4
      obtain ⟨xn, hxn, rfl⟩ := get_map hx
      rw [List.length_map] at hi
      have hxb : 0 ≤ xn ∧ xn < g.count := ⟨hxo.1.2.1 _ (List.mem_of_getElem? hxn), hxo.2 _ (List.mem_of_getElem? hxn)⟩
      refine ⟨rfl, yes_t ?_⟩
      refine ⟨_, rfl, b, C, dx', _, .ref aS', rfl, (s2.trans s3) _ _ h1', R.c, R.no _ (by simp), rfl, aS', rfl, ⟨_, Same.sqt (s2.trans s3) h2'⟩, ?_⟩
      have hlen0 : (stJ g2.count (g.starts.take i) g2.starts).length ≤ 300 * 300 := by
        rw [stJ_len, List.length_take]
        exact Nat.mul_le_mul (by omega) hyl
      refine lc_in walk_tup (fun j H' => Same H2 H' ∧ H' D = some (.lst ((stJ g2.count (g.starts.take i) g2.starts ++ (g2.starts.take j).map fun y => xn * g2.count + y).map V.int))) ⟨s3, by rw [List.take_zero, List.map_nil, List.append_nil]; exact l3⟩ (fun j H' _ ⟨s', _⟩ => Same.sqt (s2.trans s') h2') (fun j y H5 H6 hj ⟨s5, l5⟩ ⟨e6, hy⟩ => ?_) fun H5 ⟨s5, l5⟩ => ?_
      · subst e6
        obtain ⟨yn, hyn, rfl⟩ := get_map hy
        rw [List.length_map] at hj
        refine ⟨rfl, yes_t ?_⟩
        refine ⟨_, rfl, _, rfl, b, C, dx', _, .int g2.count, rfl, (s2.trans s5) _ _ h1', R.c, R.no _ (by simp), rfl, _, _, rfl, rfl, .inl ⟨by omega, by omega⟩, _, rfl, _, _, rfl, rfl, _, l5, ?_, fun c o e => ?_, ?_⟩
        · rw [List.length_map, List.length_append, List.length_map, List.length_take]
          exact big_len (by omega)
        · rw [upd_ne (ne_of_none e hD)]; exact s5 _ _ e
        · rw [upd_same, List.take_add_one, hyn, List.map_append, List.map_append, List.map_append, List.map_append, List.append_assoc]
          rfl
      · refine ⟨s5, ?_⟩
        rw [List.length_map, List.take_length] at l5
        rw [l5, List.take_add_one, hxn, stJ_snoc]
    · rw [List.length_map, List.take_length] at l3
      refine ⟨D, _, rfl, .inl ⟨SqL.of l3, fun ps hps => ?_⟩⟩
      have s4 : Same H2 (upd H3 ps (.tup ((stJ g2.count g.starts g2.starts).map V.int))) := s3.trans (same_up hps)
      have q4 : (upd H3 ps (.tup ((stJ g2.count g.starts g2.starts).map V.int))) ps = some _ := upd_same
      generalize (upd H3 ps (.tup ((stJ g2.count g.starts g2.starts).map V.int))) = H4 at s4 q4 ⊢
      have s24 := s2.trans s4
      refine ⟨_, rfl, a, C, dx, _, .ref aM, rfl, s24 _ _ h1, R.c, R.no _ (by simp), rfl, aM, _, rfl, .inl (Same.sqt s24 h3), _, rfl, b, C, dx', _, .ref aM', rfl, s24 _ _ h1', R.c, R.no _ (by simp), rfl, aM', _, rfl, .inl (Same.sqt s24 h3'), ?_⟩
      have ec : g.meas.map V.str ++ (g2.meas.map V.str ++ []) = (g.meas ++ g2.meas).map V.str := by rw [List.append_nil, List.map_append]
      have hnl : (g.meas ++ g2.meas).length ≤ 4 := by rw [List.length_append]; exact hml
      refine ⟨by rw [ec, List.length_map]; exact Nat.le_of_lt (big_len (by omega)), fun p0 hp0 => ?_⟩
      rw [ec]
      have hnok : ∀ z ∈ g.meas ++ g2.meas, NameOk z := fun z hz => (List.mem_append.mp hz).elim (go.po.mo.2.1 z) (go2.po.mo.2.1 z)
      have t5 : (upd H4 p0 (.tup ((g.meas ++ g2.meas).map V.str))) p0 = _ := upd_same
      have s5 : Same H4 (upd H4 p0 (.tup ((g.meas ++ g2.meas).map V.str))) := same_up hp0
      generalize (upd H4 p0 (.tup ((g.meas ++ g2.meas).map V.str))) = H5 at t5 s5 ⊢
      refine ⟨p0, rfl, ⟨_, SqT.of t5⟩, fun D2 hD2 => ?_⟩
      refine lc_ys walk_tup ((g.meas ++ g2.meas).map V.str) rfl (by rw [List.length_map]; exact Nat.le_of_lt (big_len (by omega))) hD2 (fun H' s' => SqT.of (s' _ _ t5)) (fun i x H6 H7 R' hi s6 ⟨e, hx⟩ kk => ?_) (fun i H x H' h => by rw [h.1]; exact Same.refl _) fun H6 s6 l6 => ?_
      · subst e
        obtain ⟨z, hz, rfl⟩ := get_mapS hx
        exact ⟨rfl, _, rfl, z, rfl, kk _ _ hx (Same.refl _)⟩
      refine ⟨D2, g.meas ++ g2.meas, rfl, SqL.of l6, fun ys p6 hperm hsort hp6 => ?_⟩
      have hysl : ys.length ≤ 4 := by rw [hperm.length_eq]; exact hnl
      refine ⟨p6, _, rfl, .inl ⟨SqL.of upd_same, fun p7 hp7 => ?_⟩⟩
      have s7 : Same H4 (upd (upd H6 p6 (.lst (ys.map V.str))) p7 (.tup (ys.map V.str))) := ((s5.trans s6).trans (same_up hp6)).trans (same_up hp7)
      have t7 : (upd (upd H6 p6 (.lst (ys.map V.str))) p7 (.tup (ys.map V.str))) p7 = some (.tup (ys.map V.str)) := upd_same
      generalize (upd (upd H6 p6 (.lst (ys.map V.str))) p7 (.tup (ys.map V.str))) = H7 at s7 t7 ⊢
      have s27 := s4.trans s7
      have s07 := s2.trans s27
      have hmo' : MeasOk ys := ⟨hysl, fun z hz => hnok z (hperm.mem_iff.mp hz), asc_of_sorted hsort (hperm.nodup_iff.mpr hnd)⟩
      refine ⟨_, rfl, a, C, dx, _, .int g.count, rfl, s07 _ _ h1, R.c, R.no _ (by simp), rfl, _, rfl, b, C, dx', _, .int g2.count, rfl, s07 _ _ h1', R.c, R.no _ (by simp), rfl, _, _, rfl, rfl, .inl ⟨by omega, by omega⟩, ?_⟩
      refine ⟨_, rfl, _, rfl, pr, rows, rfl, .inl ⟨SqL.of (s27 _ _ p2), fun p8 hp8 => ?_⟩⟩
      have s8 : Same H7 (upd H7 p8 (.tup rows)) := same_up hp8
      have t8 : (upd H7 p8 (.tup rows)) p8 = some (.tup rows) := upd_same
      generalize (upd H7 p8 (.tup rows)) = H8 at s8 t8 ⊢
      have s28 := s27.trans s8
      have s08 := s2.trans s28
      refine ⟨_, rfl, _, rfl, _, rfl, _, rfl, a, b, pm, g, g2, mvs, ms, rfl, hg.mono s08, hg2.mono s08, s28 _ _ m2, Paired.mapP v2 fun _ _ z => z.mono s28, by omega, go.el, go2.el, fun e he => (go.eo e he).1, fun e he => (go2.eo e he).1, fun p9 H9 kv9 es s9 hp9 d9 r9 o9 n9 m9 => ?_⟩
      intro x dx9 hx9 hdx9 hne
      have s10 : Same H9 (upd (upd H9 dx9 (.own x)) x (.ins C dx9 [])) := (same_up hdx9).trans (same_up (by rw [upd_ne (Ne.symm hne)]; exact hx9))
      have x10 : (upd (upd H9 dx9 (.own x)) x (.ins C dx9 [])) x = some (.ins C dx9 []) := upd_same
      generalize (upd (upd H9 dx9 (.own x)) x (.ins C dx9 [])) = H10 at s10 x10 ⊢
      have s810 := s9.trans s10
      have s710 := s8.trans s810
      have s410 := s7.trans s710
      have s010 := s24.trans s410
      have hx8 : H8 x = none := s9.free hx9
      have hxH : H x = none := s08.free hx8
      have hst : StpsAt K H10 p8 ss := ⟨rows, SqT.of (s810 _ _ t8), Paired.mapP t2 fun _ _ z => z.mono (s28.trans s810)⟩
      have hlen9 : es.length ≤ 1000 := by
        have z := nodup_len (l := es.map (·.1)) (xs := g.evs.map (·.1) ++ g2.evs.map (·.1)) n9 fun k hk => List.mem_append.mpr ((m9 k).mp hk)
        rw [List.length_map, List.length_append, List.length_map, List.length_map] at z
        have := go.el
        have := go2.el
        omega
      have hpo : PartsOk (g.count * g2.count) (stJ g2.count g.starts g2.starts) ys ss := {
        c1 := by have := Int.mul_le_mul c1 d1 (by decide) (by omega); omega
        c2 := hcc
        so := ⟨⟨stJ_asc hxo hyo, fun n hn => by
            obtain ⟨x', hx', y', hy', rfl⟩ := stJ_mem hn
            exact (enc_b (c := g.count) (d := g2.count) (hxo.1.2.1 _ hx') (by have := hxo.2 _ hx'; omega) (hyo.1.2.1 _ hy') (by have := hyo.2 _ hy'; omega)).1, by
            rw [stJ_len]
            exact Nat.le_of_lt (big_len (Nat.le_trans (Nat.mul_le_mul hxl hyl) (by decide)))⟩, fun n hn => by
            obtain ⟨x', hx', y', hy', rfl⟩ := stJ_mem hn
            have := (enc_b (c := g.count) (d := g2.count) (hxo.1.2.1 _ hx') (by have := hxo.2 _ hx'; omega) (hyo.1.2.1 _ hy') (by have := hyo.2 _ hy'; omega)).2
            omega⟩
        sn := by
          intro e
          have z := congrArg List.length e
          rw [stJ_len] at z
          have z1 := List.length_pos_iff.mpr go.po.sn
          have z2 := List.length_pos_iff.mpr go2.po.sn
          have := Nat.mul_pos z1 z2
          rw [z] at this
          exact absurd this (by decide)
        mo := hmo'
        sl := by rw [l2]; exact htot
        to := fun s hs => by
          have := o2 s hs
          rw [hperm.length_eq, List.length_append]
          exact this }
      refine ⟨x, dx9, ps, p7, p8, p9, g.count * g2.count, stJ g2.count g.starts g2.starts, ys, ss, kv9, es, rfl, x10, SqT.of (s410 _ _ q4), SqT.of (s710 _ _ t7), hst, hpo, s10 _ _ d9, r9.mono fun _ _ z => Same.sqt s10 z, by rw [l2, ← n2]; exact o9, n9, hlen9, fun hes H' es' bt hp' eo' hg3 => ⟨rfl, ?_⟩, fun hes => ?_⟩
      · have fr : Same H H' := fun c o e => bt _ _ (fun z => by rw [z, hxH] at e; cases e) (s010 _ _ e)
        refine kq x H' _ fr hg3 ⟨hpo, eo', hp'.nodup_iff.mpr n9, ?_⟩ rfl l2 hperm fun y => ?_
        · have z := hp'.length_eq
          rw [List.length_map, List.length_map] at z
          show es'.length ≤ 200
          omega
        · rw [hp'.mem_iff]
          exact m9 y
      · intro d H' bt hd
        exact ke (es.map (·.1)) n9 m9 (by rw [List.length_map]; exact hes) d H' (fun c o e => bt _ _ (fun z => by rw [z, hxH] at e; cases e) (s010 _ _ e)) hd
end
end K53
namespace K53
open PySem L2 RZ Own StX SkE LamX PySem.Spec
abbrev s_woven : Stmt := top 56
abbrev s_lockstep : Stmt := top 57
theorem sc_woven : FnScope ["one", "other", "x", "y", "at"] ["one", "other"] (defScope s_woven) := ⟨rfl, rfl, rfl, by decide +kernel, rfl, by decide +kernel, by decide +kernel⟩
theorem sc_lockstep : FnScope ["one", "other", "step", "x", "y", "later"] ["one", "other"] (defScope s_lockstep) := ⟨rfl, rfl, rfl, by decide +kernel, rfl, by decide +kernel, by decide +kernel⟩
def lamSc (st : Stmt) : Scope := match (defBody st).getLast? with
  | some (.Return (some (.Call _ args _ _)) _) => match args.getLast? with
    | some (.Lambda _ _ sc _) => sc
    | _ => { kind := .function, names := [], isGenerator := false, isCoroutine := false, more := [] }
  | _ => { kind := .function, names := [], isGenerator := false, isCoroutine := false, more := [] }
/-- a def whose code object stands at c -/
structure FunC (K : PySem.W.Frag) (x qual : Str) (st : Stmt) (f : Addr) (fd : FuncData) (c : Addr) : Prop where
  ex : ∃ (oc : Value) (od : Option Addr) (kV doc pm : Value) (an : Option Addr) (ct : Value) (osl : Array (Option Value)),
    fd = PySem.W.fnOf x qual (defArgs st) (defBody st) (defScope st) .none kV doc pm an (.ref c) ct ∧ K.lookup f = some ⟨oc, od, .func fd, osl⟩ ∧ PySem.W.codeIn K (.ref c) qual = true
  kp : PySem.W.keepIn K (.ref f) = true
section
variable {P : Program} {w : World} {K : PySem.W.Frag} {mg : Str → Option Value} {base : Heap}
theorem FunC.ok {CX : CXT} {x qual : Str} {st : Stmt} {f c : Addr} {fd : FuncData} {N ps : List Str} {k : Nat} {sp : Sp} (F : FunC K x qual st f fd c) (S : FnScope N ps (defScope st)) (len : ∀ vs H Q E, sp vs H Q E → vs.length = ps.length)
    (hbody : ∀ (A : Around) (outer : List Env) (s : Shared) (H : Hp) (vs : List V) (Q : VK) (E : XK), Room k (A.deeper (PyProof.Rows.envOfC qual (defScope st) s.heap.objs.size f (.ref c))) → sp vs H Q E →
      ∃ t, PSs (cxOf CX P w K mg base N qual (defScope st) f (.ref c) A outer s H E) (defBody st) t ∧ t { nx := fun _ H' => Q .non H', rt := Q } (start N vs) H) : FnOk P w K mg base CX (k + 1) f fd ps sp := by
  obtain ⟨oc, od, kV, doc, pm, an, ct, osl, rfl, lk, hcd⟩ := F.ex
  exact fn_of lk hcd S len fun A outer s H vs Q E hr hsp => hbody A outer s H vs Q E hr hsp
def locB (scope : Scope) (ps : List (Str × Nat)) : Bool := ps.all fun p => decide (scope.names.lookup p.1 = some .cell) || decide (scope.names.lookup p.1 = some .local)
theorem loc_of {scope : Scope} {ps : List (Str × Nat)} (h : locB scope ps = true) : ∀ p ∈ ps, Loc scope p.1 ∧ (scope.names.lookup p.1 = some .cell ∨ scope.names.lookup p.1 = some .local) := fun p hp => by
  have q := List.all_eq_true.mp h p hp
  rw [Bool.or_eq_true, decide_eq_true_eq, decide_eq_true_eq] at q
  exact ⟨q.elim .inr .inl, q⟩
/-- what the calls of made want -/
structure MadeOk (P : Program) (w : World) (K : PySem.W.Frag) (mg : Str → Option Value) (base : Heap) (C CT : Addr) : Prop where
  T : Txt K mg
  R : GrC K C
  ex : ∃ (g : Addr) (fd : FuncData), mg "made" = some (.ref g) ∧ Fun K "made" "made" s_made g fd ∧ Binds K fd ["one", "other", "moves_at"] []
  target_of : DefOk P w K mg base CX0 1 "target_of" ["graph", "state", "step"] (spTargetOf C K)
  time_of : DefOk P w K mg base CX0 1 "time_of" ["one", "other", "move"] (spTimeOf C K)
  pays_of : DefOk P w K mg base CX0 1 "pays_of" ["one", "other", "move"] (spPaysOf C K)
  events_of : DefOk P w K mg base CX0 3 "events_of" ["one", "other", "moves"] (spEventsOf C K)
  graph : CDef P w K mg base (L2.CX P w) 6 "Graph" C ["self", "count", "starts", "steps", "measures", "events"] (spGraph C CT K)
/-- the code object of a def that makes lambdas: its table in T -/
structure LamTab (T : List (Addr × Str)) (base : Heap) (mg : Str → Option Value) (c : Addr) (q : Str) : Prop where
  ex : ∃ P, TabB base mg c P ∧ (P, q) ∈ T ∧ ∀ p ∈ T, p.1 = P → p.2 = q
theorem pe_made {C CT : Addr} {Tb : List (Addr × Str)} {N0 : List Str} {q0 : Str} {sc0 : Scope} {f0 c0 : Addr} {A0 : Around} {o0 : List Env} {s0 : Shared} {H0 : Hp} {E0 : XK} {e1 e2 : Expr} {t1 t2 : TE} {params : Arguments} {body : Expr} {scope : Scope} {ps : List (Str × Nat)} {tb : TE} {p lpos pos : Pos}
    (LM : MadeOk P w K mg base C CT ∧ LamTab Tb base mg c0 (q0 ++ ".<locals>." ++ "<lambda>") ∧ Room 9 (A0.deeper (PyProof.Rows.envOfC q0 sc0 s0.heap.objs.size f0 (.ref c0))))
    (h1 : PE (cxOf (L2.CX P w) P w K mg base N0 q0 sc0 f0 (.ref c0) A0 o0 s0 H0 E0) e1 t1) (h2 : PE (cxOf (L2.CX P w) P w K mg base N0 q0 sc0 f0 (.ref c0) A0 o0 s0 H0 E0) e2 t2)
    (ok : BlkOk N0 sc0 scope ps) (hN : N0.Nodup) (hco : scope.isCoroutine = false) (hgen : scope.isGenerator = false)
    (hloc : locB scope ps = true) (hdef : defaultsOf params (PyProof.Rows.envOfC q0 sc0 s0.heap.objs.size f0 (.ref c0)) = ([], []))
    (hbind : ∀ (q : Str) (cl : List (Str × Addr)) (pm cv ctv : Value) (us : List Value), us.length = ps.length → bindArgs (PySem.W.kla_fn "<lambda>" q params body scope cl pm cv ctv) ⟨us, []⟩ = pure ((ps.map (·.1)).zip us))
    (hbody : ∀ (A : Around) (outer : List Env) (s : Shared) (H : Hp) (f c' : Addr), Room 7 (A.deeper (lamEnvP (cxOf (L2.CX P w) P w K mg base N0 q0 sc0 f0 (.ref c0) A0 o0 s0 H0 E0) scope s.heap.objs.size f c')) →
      PE (lamCxP (cxOf (L2.CX P w) P w K mg base N0 q0 sc0 f0 (.ref c0) A0 o0 s0 H0 E0) A outer s H (fun _ _ _ => False) scope f c') body tb)
    (hg : Gl (cxOf (L2.CX P w) P w K mg base N0 q0 sc0 f0 (.ref c0) A0 o0 s0 H0 E0) "made" := by rfl) (h2' : ps.length = 2 := by rfl)
    (hs1 : starEach [e1, e2, .Lambda params body scope lpos] (PyProof.Rows.envOfC q0 sc0 s0.heap.objs.size f0 (.ref c0)) = (false, eval e1 (PyProof.Rows.envOfC q0 sc0 s0.heap.objs.size f0 (.ref c0))) :: starEach [e2, .Lambda params body scope lpos] (PyProof.Rows.envOfC q0 sc0 s0.heap.objs.size f0 (.ref c0)) := by rfl)
    (hs2 : starEach [e2, .Lambda params body scope lpos] (PyProof.Rows.envOfC q0 sc0 s0.heap.objs.size f0 (.ref c0)) = [(false, eval e2 (PyProof.Rows.envOfC q0 sc0 s0.heap.objs.size f0 (.ref c0))), (false, eval (.Lambda params body scope lpos) (PyProof.Rows.envOfC q0 sc0 s0.heap.objs.size f0 (.ref c0)))] := by rfl)
    (hpl : (backTo pos (starEach [e2, .Lambda params body scope lpos] (PyProof.Rows.envOfC q0 sc0 s0.heap.objs.size f0 (.ref c0)))).any (·.1) = false := by rfl) :
    PE (cxOf (L2.CX P w) P w K mg base N0 q0 sc0 f0 (.ref c0) A0 o0 s0 H0 E0) (.Call (.Name "made" p) [e1, e2, .Lambda params body scope lpos] [] pos) (tLamP Tb E0 (TTmade C CT K) ps t1 t2 tb) := by
  obtain ⟨M, ⟨PT, TB, hmT, hu⟩, hr⟩ := LM
  obtain ⟨g, fd, gm, F, hb⟩ := M.ex
  have hkp := F.kp
  obtain ⟨oc, od, kV, doc, pm, an, cdv, ct, osl, rfl, lk, hcd⟩ := F.ex
  refine pe_lamcallP (E := E0) (p := p) (lpos := lpos) (pos := pos) hg gm hkp lk hcd hb sc_made rfl (.inl rfl) ?_ h1 h2 TB rfl hmT hu hr ok hN hco hgen (loc_of hloc) hdef hbind hbody (passes_call (W := fun cls d _ H => E0 cls d H) (takes_of rfl rfl rfl rfl) fun _ _ _ _ h => h) (by decide) (by decide) (by decide) hs1 hs2 hpl
  rw [h2']
  exact made_gives M.T M.R M.target_of M.time_of M.pays_of M.events_of M.graph
end
end K53
namespace K53
open PySem L2 RZ Own StX SkE LamX PySem.Spec
/-! ### counting the steps of a graph by their states -/
theorem sumTo_add (n : Nat) (f g : Nat → Nat) : sumTo n (fun j => f j + g j) = sumTo n f + sumTo n g := by
  induction n with
  | zero => rfl
  | succ n ih => rw [sumTo_succ, sumTo_succ, sumTo_succ, ih]; omega
theorem sumTo_const (n k : Nat) : sumTo n (fun _ => k) = n * k := by
  induction n with
  | zero => simp [sumTo]
  | succ n ih => rw [sumTo_succ, ih, Nat.add_mul, Nat.one_mul]
theorem sumTo_mul (n k : Nat) (f : Nat → Nat) : sumTo n (fun j => f j * k) = sumTo n f * k := by
  induction n with
  | zero => simp [sumTo]
  | succ n ih => rw [sumTo_succ, sumTo_succ, ih, Nat.add_mul]
theorem sumTo_mulr (n k : Nat) (f : Nat → Nat) : sumTo n (fun j => k * f j) = k * sumTo n f := by
  induction n with
  | zero => simp [sumTo]
  | succ n ih => rw [sumTo_succ, sumTo_succ, ih, Nat.mul_add]
theorem sumTo_congr {n : Nat} {f g : Nat → Nat} (h : ∀ j, j < n → f j = g j) : sumTo n f = sumTo n g := by
  induction n with
  | zero => rfl
  | succ n ih => rw [sumTo_succ, sumTo_succ, ih fun j hj => h j (Nat.lt_succ_of_lt hj), h n (Nat.lt_succ_self n)]
theorem sumTo_ind (n s : Nat) : sumTo n (fun j => if s = j then 1 else 0) = if s < n then 1 else 0 := by
  induction n with
  | zero => simp [sumTo]
  | succ n ih =>
    rw [sumTo_succ, ih]
    by_cases h1 : s < n
    · rw [if_pos h1, if_neg (by omega), if_pos (by omega)]
    · by_cases h2 : s = n
      · rw [if_neg h1, if_pos h2, if_pos (by omega)]
      · rw [if_neg h1, if_neg h2, if_neg (by omega)]
theorem sum_out {ss : List Stp} {c : Nat} (h : ∀ s ∈ ss, 0 ≤ s.src ∧ s.src < c) : ∀ i, i ≤ ss.length → sumTo c (fun j => (outAt ss i j).length) = i := by
  intro i
  induction i with
  | zero =>
    intro _
    rw [sumTo_congr (g := fun _ => 0) (fun j _ => by rw [outAt_zero]; rfl), sumTo_const, Nat.mul_zero]
  | succ i ih =>
    intro hi
    have hs := h _ (List.getElem_mem (show i < ss.length by omega))
    have e : ∀ j, (outAt ss (i + 1) j).length = (outAt ss i j).length + if ss[i].src.toNat = j then 1 else 0 := fun j => by
      rw [outAt_succ, List.length_append, List.getElem?_eq_getElem (show i < ss.length by omega)]
      congr 1
      by_cases hj : ss[i].src.toNat = j
      · rw [if_pos hj, if_pos (by show some ss[i].src = some (j : Int); congr 1; omega)]; rfl
      · rw [if_neg hj, if_neg (fun z => hj (by have z' : ss[i].src = (j : Int) := Option.some.inj z; omega))]; rfl
    rw [sumTo_congr (fun j _ => e j), sumTo_add, ih (by omega), sumTo_ind, if_pos (by omega)]
theorem sum_outs {g : Gr} (go : GrOk g) : sumTo g.count.toNat (fun j => (outAt g.steps g.steps.length j).length) = g.steps.length :=
  sum_out (fun s hs => ⟨(go.po.to s hs).s0, by have := (go.po.to s hs).s1; have := go.po.c1; omega⟩) _ (Nat.le_refl _)
def mfW (g g2 : Gr) (x y : Nat) : List Mv := (outAt g.steps g.steps.length x).map (fun n => (some n.toNat, none)) ++ (outAt g2.steps g2.steps.length y).map (fun n => (none, some n.toNat))
def mfL (g g2 : Gr) (x y : Nat) : List Mv := (outAt g.steps g.steps.length x).flatMap fun n => (outAt g2.steps g2.steps.length y).map fun m => (some n.toNat, some m.toNat)
theorem totW {g g2 : Gr} (go : GrOk g) (go2 : GrOk g2) : totalOf g.count g2.count (mfW g g2) = g.steps.length * g2.count.toNat + g2.steps.length * g.count.toNat := by
  unfold totalOf
  rw [sumTo_congr (g := fun x => (outAt g.steps g.steps.length x).length * g2.count.toNat + g2.steps.length) fun x _ => ?_]
  · rw [sumTo_add, sumTo_mul, sum_outs go, sumTo_const, Nat.mul_comm g.count.toNat]
  · rw [sumTo_congr (g := fun y => (outAt g.steps g.steps.length x).length + (outAt g2.steps g2.steps.length y).length) fun y _ => by unfold mfW; rw [List.length_append, List.length_map, List.length_map]]
    rw [sumTo_add, sumTo_const, sum_outs go2, Nat.mul_comm]
theorem totL {g g2 : Gr} (go : GrOk g) (go2 : GrOk g2) : totalOf g.count g2.count (mfL g g2) = g.steps.length * g2.steps.length := by
  unfold totalOf
  rw [sumTo_congr (g := fun x => (outAt g.steps g.steps.length x).length * g2.steps.length) fun x _ => ?_]
  · rw [sumTo_mul, sum_outs go]
  · rw [sumTo_congr (g := fun y => (outAt g.steps g.steps.length x).length * (outAt g2.steps g2.steps.length y).length) fun y _ => by
      unfold mfL
      rw [List.length_flatMap]
      generalize (outAt g.steps g.steps.length x) = l
      induction l with
      | nil => simp
      | cons a r ih => rw [List.map_cons, List.sum_cons, ih, List.length_map, List.length_cons, Nat.add_mul, Nat.one_mul, Nat.add_comm]]
    rw [sumTo_mulr, sum_outs go2]
theorem mfW_in {g g2 : Gr} {x y : Nat} {m : Mv} (h : m ∈ mfW g g2 x y) : MvIn g g2 m := by
  rcases List.mem_append.mp h with q | q
  · obtain ⟨n, hn, rfl⟩ := List.mem_map.mp q
    have := outAt_mem hn
    exact ⟨fun k e => (by cases e; omega), fun k e => (by cases e), fun e => (by cases e)⟩
  · obtain ⟨n, hn, rfl⟩ := List.mem_map.mp q
    have := outAt_mem hn
    exact ⟨fun k e => (by cases e), fun k e => (by cases e; omega), fun e => (by cases e)⟩
theorem mfL_in {g g2 : Gr} {x y : Nat} {m : Mv} (h : m ∈ mfL g g2 x y) : MvIn g g2 m := by
  obtain ⟨n, hn, q⟩ := List.mem_flatMap.mp h
  obtain ⟨k, hk, rfl⟩ := List.mem_map.mp q
  have := outAt_mem hn
  have := outAt_mem hk
  exact ⟨fun k e => (by cases e; omega), fun k e => (by cases e; omega), fun e => (by cases e)⟩
theorem first_nodup {g g2 : Gr} (go : GrOk g) (go2 : GrOk g2) (h : firstIn g.meas g2.meas = none) : (g.meas ++ g2.meas).Nodup := by
  have nd : ∀ {zs : List Str}, AscS zs → zs.Nodup := fun h => List.Pairwise.imp (fun {a b} hlt e => by rw [e] at hlt; exact List.lt_irrefl _ hlt) h
  refine List.nodup_append.mpr ⟨nd go.po.mo.2.2, nd go2.po.mo.2.2, fun a ha b hb e => ?_⟩
  have := List.find?_eq_none.mp h a ha
  rw [e] at this
  simp [hb] at this
section
variable {P : Program} {w : World} {K : PySem.W.Frag} {mg : Str → Option Value} {base : Heap}
theorem paired_app {α β : Type} {R : α → β → Prop} : ∀ {xs : List α} {ys : List β} {xs' : List α} {ys' : List β}, Paired R xs ys → Paired R xs' ys' → Paired R (xs ++ xs') (ys ++ ys')
  | _, _, _, _, .nil, h => h
  | _, _, _, _, .cons h1 t, h => .cons h1 (paired_app t h)
theorem sqtN {H H' : Hp} {a : Addr} {xs : List V} (e : ExtN H H') (h : SqT K H a xs) : SqT K H' a xs := by
  rcases h with (h | ⟨o, h⟩) | h
  · exact .inl (.inl (e _ _ h (fun _ z => by cases z)))
  · exact .inl (.inr ⟨o, e _ _ h (fun _ z => by cases z)⟩)
  · exact .inr h
theorem GrAt.monoN {C : Addr} {H H' : Hp} {a : Addr} {g : Gr} (h : GrAt K C H a g) (e : ExtN H H') : GrAt K C H' a g := by
  obtain ⟨dx, aS, aT, aM, aL, aO, aR, kvs, h1, h2, h3, ⟨vs, h4, h4'⟩, h5, h6, ⟨ts, o1, o2, o3⟩⟩ := h
  exact ⟨dx, aS, aT, aM, aL, aO, aR, kvs, e _ _ h1 (fun _ z => by cases z), sqtN e h2, sqtN e h3, ⟨vs, sqtN e h4, Paired.mapP h4' fun _ _ ⟨a, b, q1, q2, q3⟩ => ⟨a, b, q1, sqtN e q2, sqtN e q3⟩⟩, e _ _ h5 (fun _ z => by cases z), h6.mono fun _ _ q => sqtN e q, ⟨ts, sqtN e o1, o2, fun j t q => sqtN e (o3 j t q)⟩⟩
/-- raised, tables of code objects beside -/
def exN (E : XK) (Tb : List (Addr × Str)) (C : Addr) (H : Hp) (fs : List (Str × V)) : Prop := ∀ d H', ExtN H H' → Tabs Tb H' → H' d = some (.xd fs) → E (.ref C) (some d) H'
theorem exN.r {E : XK} {Tb : List (Addr × Str)} {C : Addr} {H : Hp} {fs : List (Str × V)} (h : exN E Tb C H fs) (t : Tabs Tb H) : exr E C H fs := fun d H' s hd => h d H' (ExtN.of s) (t.ext s) hd
def uni (es : List Str) (g g2 : Gr) : Prop := ∀ x, x ∈ es ↔ x ∈ g.evs.map (·.1) ∨ x ∈ g2.evs.map (·.1)
/-- what joining two graphs without a name in common ends in; n: the steps of the joined one -/
def joinRes (C CT : Addr) (K : PySem.W.Frag) (Tb : List (Addr × Str)) (n : Nat) (g g2 : Gr) (H : Hp) (Q : VK) (E : XK) : Prop :=
  (4 < g.meas.length + g2.meas.length → exN E Tb CT H [("most", .int 4), ("what", .str "measures")]) ∧
  (g.meas.length + g2.meas.length ≤ 4 → 300 < g.count * g2.count → exN E Tb CT H [("most", .int 300), ("what", .str "states")]) ∧
  (g.meas.length + g2.meas.length ≤ 4 → g.count * g2.count ≤ 300 → 1200 < n → exN E Tb CT H [("most", .int 1200), ("what", .str "steps")]) ∧
  (g.meas.length + g2.meas.length ≤ 4 → g.count * g2.count ≤ 300 → n ≤ 1200 →
    (∀ es : List Str, es.Nodup → uni es g g2 → 200 < es.length → exN E Tb CT H [("most", .int 200), ("what", .str "events")]) ∧
    (∀ (p : Addr) (H' : Hp) (g3 : Gr), ExtN H H' → Tabs Tb H' → GrAt K C H' p g3 → GrOk g3 → g3.count = g.count * g2.count → g3.steps.length = n → g3.meas.Perm (g.meas ++ g2.meas) → uni (g3.evs.map (·.1)) g g2 → Q (.ref p) H'))
def spWoven (C CG CN CT : Addr) (K : PySem.W.Frag) (Tb : List (Addr × Str)) : Sp := fun vs H Q E => ∃ v u, vs = [v, u] ∧ Tabs Tb H ∧
  ((IsG K C H v false ∧ exN E Tb CG H [("part", .str "one")]) ∨
   ∃ a g, v = .ref a ∧ GrAt K C H a g ∧ GrOk g ∧ ((IsG K C H u false ∧ exN E Tb CG H [("part", .str "other")]) ∨
   ∃ b g2, u = .ref b ∧ GrAt K C H b g2 ∧ GrOk g2 ∧ (∀ z, firstIn g.meas g2.meas = some z → exN E Tb CN H [("value", .str z)]) ∧
     (firstIn g.meas g2.meas = none → joinRes C CT K Tb (g.steps.length * g2.count.toNat + g2.steps.length * g.count.toNat) g g2 H Q E)))
theorem ok_woven {f c C CG CN CT : Addr} {fd : FuncData} {Tb : List (Addr × Str)} (F : FunC K "woven" "woven" s_woven f fd c) (M : MadeOk P w K mg base C CT) (LT : LamTab Tb base mg c "woven.<locals>.<lambda>")
    (D_need_both : DefOk P w K mg base (L2.CX P w) 3 "need_both" ["one", "other"] (spNeedBoth C CG CN K)) (D_need_room : DefOk P w K mg base (L2.CX P w) 3 "need_room" ["one", "other", "steps"] (spNeedRoom C CT K))
    (D_out : MDef P w K mg base CX0 4 C "out" ["self", "state"] (spOut C K)) : FnOk P w K mg base (L2.CX P w) 10 f fd ["one", "other"] (spWoven C CG CN CT K Tb) := by
  have T := M.T
  have R := M.R
  refine F.ok sc_woven (fun vs H Q E h => ?_) (fun A outer s H vs Q E hr h => ?_)
  · obtain ⟨_, _, rfl, _⟩ := h; rfl
  · obtain ⟨v, u, rfl, tab, h⟩ := h
    have LM := (And.intro M (And.intro LT hr) : MadeOk P w K mg base C CT ∧ LamTab Tb base mg c ("woven" ++ ".<locals>." ++ "<lambda>") ∧ _)
    refine ⟨_, (pss_cons (ps_expr (pe_d D_need_both (hr.mono (by decide)) (passes_call (W := fun cls d _ H => E cls d H) (takes_of rfl rfl rfl rfl) fun _ _ _ _ h => h) (pa_cons (pv 0) (pa_cons (pv 1) pa_nil))))
  (pss_cons (ps_expr (pe_d D_need_room (hr.mono (by decide)) (passes_call (W := fun cls d _ H => E cls d H) (takes_of rfl rfl rfl rfl) fun _ _ _ _ h => h) (pa_cons (pv 0) (pa_cons (pv 1) (pa_cons (pe_op op_add (pe_op op_mul (pe_callB (lenK K) (by rfl) T.n_len (by decide +kernel) (pa_cons (fldK K (pv 0)) pa_nil)) (fldK K (pv 1))) (pe_op op_mul (pe_callB (lenK K) (by rfl) T.n_len (by decide +kernel) (pa_cons (fldK K (pv 1)) pa_nil)) (fldK K (pv 0)))) pa_nil)))))
  (pss_one (ps_ret (pe_made (ps := [("x", 2), ("y", 3)]) LM (pv 0) (pv 1) (blkOk_by (N := ["one", "other", "x", "y", "at"]) (sc := (defScope s_woven)) (by decide +kernel)) sc_woven.nd rfl rfl (by decide +kernel) rfl (fun _ _ _ _ _ us hl => match us, hl with | [_, _], _ => rfl) (fun A outer s H f c' hr => (pe_op op_cat (pe_lc (own := [("at", 4)]) (g := gName 4) (tt := tYes) (by rfl) sc_woven.nd ((pi_tupK K) (pe_md D_out (pv 0) (hr.mono (by decide)) pass0 (pa_cons (pv 2) pa_nil))) (blkOk_by (N := ["one", "other", "x", "y", "at"]) (sc := (lamSc s_woven)) (by decide +kernel)) (fun _ _ _ _ _ => (pg_name (i := 4) sc_woven.nd rfl (Or.inl rfl))) (fun _ _ _ _ _ => pts_nil) (fun _ _ _ _ _ => (pe_tup (pa_cons (pv 4) (pa_cons pe_non pa_nil))))) (pe_lc (own := [("at", 4)]) (g := gName 4) (tt := tYes) (by rfl) sc_woven.nd ((pi_tupK K) (pe_md D_out (pv 1) (hr.mono (by decide)) pass0 (pa_cons (pv 3) pa_nil))) (blkOk_by (N := ["one", "other", "x", "y", "at"]) (sc := (lamSc s_woven)) (by decide +kernel)) (fun _ _ _ _ _ => (pg_name (i := 4) sc_woven.nd rfl (Or.inl rfl))) (fun _ _ _ _ _ => pts_nil) (fun _ _ _ _ _ => (pe_tup (pa_cons pe_non (pa_cons (pv 4) pa_nil)))))))))))), ?_⟩
    refine ⟨_, rfl, _, rfl, v, u, rfl, ?_⟩
    rcases h with ⟨h1, hE⟩ | ⟨a, g, rfl, hg, go, h⟩
    · exact .inl ⟨h1, hE.r tab⟩
    refine .inr ⟨a, g, rfl, hg, ?_⟩
    rcases h with ⟨h1, hE⟩ | ⟨b, g2, rfl, hg2, go2, hz, hn⟩
    · exact .inl ⟨h1, hE.r tab⟩
    refine .inr ⟨b, g2, rfl, hg2, fun z hzz => (hz z hzz).r tab, fun hnone => ?_⟩
    obtain ⟨j1, j2, j3, j4⟩ := hn hnone
    have hnd := first_nodup go go2 hnone
    have c1 := go.po.c1
    have c2 := go.po.c2
    have d1 := go2.po.c1
    have d2 := go2.po.c2
    obtain ⟨dx, aS, aT, aM, aL, aO, aR, kvs, h1, h2, h3, ⟨vs4, h4, h4'⟩, _⟩ := id hg
    obtain ⟨dy, bS, bT, bM, bL, bO, bR, kvt, k1, k2, k3, ⟨vt4, k4, k4'⟩, _⟩ := id hg2
    have hl1 : vs4.length = g.steps.length := Paired.length h4'
    have hl2 : vt4.length = g2.steps.length := Paired.length k4'
    have hsl := go.po.sl
    have hsl2 := go2.po.sl
    refine ⟨_, rfl, _, rfl, _, rfl, a, C, dx, _, .ref aT, rfl, h1, R.c, R.no _ (by simp), rfl, _, _, rfl, sqt_len h4, _, rfl, b, C, dy, _, .int g2.count, rfl, k1, R.c, R.no _ (by simp), rfl, _, _, rfl, rfl, .inl ⟨by omega, by omega⟩,
      _, rfl, b, C, dy, _, .ref bT, rfl, k1, R.c, R.no _ (by simp), rfl, _, _, rfl, sqt_len k4, _, rfl, a, C, dx, _, .int g.count, rfl, h1, R.c, R.no _ (by simp), rfl, _, _, rfl, rfl, .inl ⟨by omega, by omega⟩, _, _, rfl, rfl, ?_⟩
    have hnn : ((vs4.length : Int) * g2.count + (vt4.length : Int) * g.count) = ((g.steps.length * g2.count.toNat + g2.steps.length * g.count.toNat : Nat) : Int) := by
      rw [hl1, hl2, Int.natCast_add, Int.natCast_mul, Int.natCast_mul, Int.toNat_of_nonneg (by omega), Int.toNat_of_nonneg (by omega)]
    refine ⟨a, b, g, g2, _, rfl, hg, hg2, go.po.mo.1, go2.po.mo.1, by omega, c2, by omega, d2, fun q => (j1 q).r tab, fun q1 q2 => (j2 q1 q2).r tab, fun q1 q2 q3 => (j3 q1 q2 (by omega)).r tab, fun q1 q2 q3 => ?_⟩
    obtain ⟨i1, i2⟩ := j4 q1 q2 (by omega)
    refine ⟨_, rfl, _, rfl, tab, fun H3 e3 t3 => ?_⟩
    have hg3 := hg.monoN e3
    have hg4 := hg2.monoN e3
    refine ⟨a, b, g, g2, mfW g g2, rfl, rfl, hg3, hg4, go, go2, hnd, q1, q2, by rw [totW go go2]; omega, fun _ _ _ _ m hm => mfW_in hm, ?_, fun p H' g3 s' q1 q2 q3 q4 q5 q6 => ?_, fun es q1 q2 q3 => ?_⟩
    · intro x y H' Q' hx hy s' hk
      have hgx := hg3.mono s'
      have hgy := hg4.mono s'
      obtain ⟨dx', _, _, _, _, _, _, _, x1, _⟩ := id hgx
      obtain ⟨dy', _, _, _, _, _, _, _, y1, _⟩ := id hgy
      refine ⟨_, rfl, a, dx', _, rfl, x1, rfl, _, rfl, a, g, x, rfl, hgx, by omega, fun p hp => ?_⟩
      refine ⟨p, rfl, ⟨_, hp⟩, fun D hD => ?_⟩
      have hol := outAt_len g.steps g.steps.length x
      have hol2 := outAt_len g2.steps g2.steps.length y
      refine lc_it walk_tup (fun i H1 => Same H' H1 ∧ ∃ mvs, H1 D = some (.lst mvs) ∧ Paired (MvAt K H1) mvs (((outAt g.steps g.steps.length x).take i).map fun n => (some n.toNat, none))) ⟨same_up hD, [], upd_same, .nil⟩ (fun i H1 _ ⟨s1, _⟩ => Same.sqt s1 hp) (fun i z H1 H2 hi ⟨s1, mvs, l1, q1⟩ ⟨e, hz⟩ => ?_) fun H1 ⟨s1, mvs, l1, q1⟩ => ?_
      · subst e
        obtain ⟨n, hn, rfl⟩ := get_map hz
        have hnb := outAt_mem (List.mem_of_getElem? hn)
        rw [List.length_map] at hi
        refine ⟨rfl, yes_t ⟨_, rfl, (by show 2 ≤ sizeLine; decide), fun t ht => ?_⟩⟩
        have hml := Paired.length q1
        rw [List.length_map, List.length_take] at hml
        have st : Same H2 (upd H2 t (.tup [.int n, .non])) := same_up ht
        have tt : (upd H2 t (.tup [.int n, .non])) t = some (.tup [.int n, .non]) := upd_same
        generalize (upd H2 t (.tup [.int n, .non])) = H3' at st tt ⊢
        have u1 : ∀ c ys, SqT K H3' c ys → SqT K (upd H3' D (.lst (mvs ++ [.ref t]))) c ys := fun c ys z => sqt_lst (st _ _ l1) z
        refine ⟨mvs, st _ _ l1, big_len (by omega), fun b o e => ?_, _, upd_same, ?_⟩
        · rw [upd_ne (ne_of_none e hD)]; exact st _ _ (s1 _ _ e)
        · rw [List.take_add_one, hn, List.map_append]
          refine paired_snoc (Paired.mapP q1 fun _ _ ⟨z, z1, z2⟩ => ⟨z, z1, u1 _ _ (Same.sqt st z2)⟩) ⟨t, rfl, u1 _ _ (SqT.of ?_)⟩
          show H3' t = some (.tup [.int ((n.toNat : Nat) : Int), .non])
          rw [Int.toNat_of_nonneg hnb.1]
          exact tt
      · rw [List.length_map, List.take_length] at q1
        have hgy1 := hgy.mono s1
        refine ⟨_, rfl, b, dy', _, rfl, s1 _ _ y1, rfl, _, rfl, b, g2, y, rfl, hgy1, by omega, fun p2 hp2 => ?_⟩
        refine ⟨p2, rfl, ⟨_, hp2⟩, fun D2 hD2 => ?_⟩
        refine lc_it walk_tup (fun i H2 => Same H1 H2 ∧ ∃ mvs, H2 D2 = some (.lst mvs) ∧ Paired (MvAt K H2) mvs (((outAt g2.steps g2.steps.length y).take i).map fun n => (none, some n.toNat))) ⟨same_up hD2, [], upd_same, .nil⟩ (fun i H2 _ ⟨s2, _⟩ => Same.sqt s2 hp2) (fun i z H2 H2' hi ⟨s2, mvs2, l2, q2⟩ ⟨e, hz⟩ => ?_) fun H2 ⟨s2, mvs2, l2, q2⟩ => ?_
        · subst e
          obtain ⟨n, hn, rfl⟩ := get_map hz
          have hnb := outAt_mem (List.mem_of_getElem? hn)
          rw [List.length_map] at hi
          refine ⟨rfl, yes_t ⟨_, rfl, (by show 2 ≤ sizeLine; decide), fun t ht => ?_⟩⟩
          have hml := Paired.length q2
          rw [List.length_map, List.length_take] at hml
          have st : Same H2' (upd H2' t (.tup [.non, .int n])) := same_up ht
          have tt : (upd H2' t (.tup [.non, .int n])) t = some (.tup [.non, .int n]) := upd_same
          generalize (upd H2' t (.tup [.non, .int n])) = H3' at st tt ⊢
          have u1 : ∀ c ys, SqT K H3' c ys → SqT K (upd H3' D2 (.lst (mvs2 ++ [.ref t]))) c ys := fun c ys z => sqt_lst (st _ _ l2) z
          refine ⟨mvs2, st _ _ l2, big_len (by omega), fun b o e => ?_, _, upd_same, ?_⟩
          · rw [upd_ne (ne_of_none e hD2)]; exact st _ _ (s2 _ _ e)
          · rw [List.take_add_one, hn, List.map_append]
            refine paired_snoc (Paired.mapP q2 fun _ _ ⟨z, z1, z2⟩ => ⟨z, z1, u1 _ _ (Same.sqt st z2)⟩) ⟨t, rfl, u1 _ _ (SqT.of ?_)⟩
            show H3' t = some (.tup [.non, .int ((n.toNat : Nat) : Int)])
            rw [Int.toNat_of_nonneg hnb.1]
            exact tt
        · rw [List.length_map, List.take_length] at q2
          have z1 := Paired.length q1
          have z2 := Paired.length q2
          rw [List.length_map] at z1 z2
          refine ⟨D, D2, mvs, mvs2, rfl, rfl, s2 _ _ l1, l2, Nat.le_of_lt (big_len (by omega)), fun p3 hp3 => ?_⟩
          have s3 : Same H2 (upd H2 p3 (.lst (mvs ++ mvs2))) := same_up hp3
          exact hk p3 _ (mvs ++ mvs2) ((s1.trans s2).trans s3) ((s1.trans s2).free hp3) upd_same (paired_app (Paired.mapP q1 fun _ _ z => z.mono (s2.trans s3)) (Paired.mapP q2 fun _ _ z => z.mono s3))
    · rw [totW go go2] at q4
      exact i2 p H' g3 (e3.trans (ExtN.of s')) (t3.ext s') q1 q2 q3 q4 q5 q6
    · intro d H' s' hd
      exact i1 es q1 q2 q3 d H' (e3.trans (ExtN.of s')) (t3.ext s') hd
end
end K53
namespace K53
open PySem L2 RZ Own StX SkE LamX PySem.Spec
theorem tem_ix {K : PySem.W.Frag} {i : Nat} {v : V} : TeMono (tOp (rIxT K) (tVar i) (tC v)) := fun σ H Q Q' k ⟨x, hx, a, xs, j, y, e1, e2, hs, hj, q⟩ => ⟨x, hx, a, xs, j, y, e1, e2, hs, hj, k _ _ q⟩
theorem big_len2 {n : Nat} (h : n ≤ 2000000) : n < sizeLine := Nat.lt_of_le_of_lt h (by decide)
def firstTime (g g2 : Gr) : Option Int := ((g.steps ++ g2.steps).map Stp.time).find? fun t => decide (t ≠ 1)
section
variable {P : Program} {w : World} {K : PySem.W.Frag} {mg : Str → Option Value} {base : Heap}
def spLock (C CG CN CT CB : Addr) (K : PySem.W.Frag) (Tb : List (Addr × Str)) : Sp := fun vs H Q E => ∃ v u, vs = [v, u] ∧ Tabs Tb H ∧
  ((IsG K C H v false ∧ exN E Tb CG H [("part", .str "one")]) ∨
   ∃ a g, v = .ref a ∧ GrAt K C H a g ∧ GrOk g ∧ ((IsG K C H u false ∧ exN E Tb CG H [("part", .str "other")]) ∨
   ∃ b g2, u = .ref b ∧ GrAt K C H b g2 ∧ GrOk g2 ∧ (∀ z, firstIn g.meas g2.meas = some z → exN E Tb CN H [("value", .str z)]) ∧
     (firstIn g.meas g2.meas = none → (∀ t, firstTime g g2 = some t → exN E Tb CB H [("value", .int t)]) ∧
       (firstTime g g2 = none → joinRes C CT K Tb (g.steps.length * g2.steps.length) g g2 H Q E))))
theorem ok_lockstep {f c C CG CN CT CB : Addr} {fd : FuncData} {Tb : List (Addr × Str)} (F : FunC K "lockstep" "lockstep" s_lockstep f fd c) (M : MadeOk P w K mg base C CT) (LT : LamTab Tb base mg c "lockstep.<locals>.<lambda>") (X_BadNumber : Ex1 P w K mg "BadNumber" CB "value")
    (D_need_both : DefOk P w K mg base (L2.CX P w) 3 "need_both" ["one", "other"] (spNeedBoth C CG CN K)) (D_need_room : DefOk P w K mg base (L2.CX P w) 3 "need_room" ["one", "other", "steps"] (spNeedRoom C CT K))
    (D_out : MDef P w K mg base CX0 4 C "out" ["self", "state"] (spOut C K)) : FnOk P w K mg base (L2.CX P w) 10 f fd ["one", "other"] (spLock C CG CN CT CB K Tb) := by
  have T := M.T
  have R := M.R
  refine F.ok sc_lockstep (fun vs H Q E h => ?_) (fun A outer s H vs Q E hr h => ?_)
  · obtain ⟨_, _, rfl, _⟩ := h; rfl
  · obtain ⟨v, u, rfl, tab, h⟩ := h
    have LM := (And.intro M (And.intro LT hr) : MadeOk P w K mg base C CT ∧ LamTab Tb base mg c ("lockstep" ++ ".<locals>." ++ "<lambda>") ∧ _)
    refine ⟨_, (pss_cons (ps_expr (pe_d D_need_both (hr.mono (by decide)) (passes_call (W := fun cls d _ H => E cls d H) (takes_of rfl rfl rfl rfl) fun _ _ _ _ h => h) (pa_cons (pv 0) (pa_cons (pv 1) pa_nil))))
  (pss_cons (ps_for (passes_of rfl) rfl ((pi_tupK K) (pe_tup (pa_star (fldK K (pv 0)) (pa_star (fldK K (pv 1)) pa_nil)))) (pg_name (i := 2) sc_lockstep.nd rfl (Or.inl rfl))
  (pss_one (ps_if (pt_cmpR op_ne (pe_ix (ix_tupK K) (pv 2) pe_int (fun _ _ => rfl)) pe_int (nomark _)) (pss_one (ps_r1 X_BadNumber (hr.mono (by decide)) (takes_of rfl rfl rfl rfl) (pa_cons (pe_ix (ix_tupK K) (pv 2) pe_int (fun _ _ => rfl)) pa_nil) (tam_cons tem_ix tam_nil))) pss_nil)))
  (pss_cons (ps_expr (pe_d D_need_room (hr.mono (by decide)) (passes_call (W := fun cls d _ H => E cls d H) (takes_of rfl rfl rfl rfl) fun _ _ _ _ h => h) (pa_cons (pv 0) (pa_cons (pv 1) (pa_cons (pe_op op_mul (pe_callB (lenK K) (by rfl) T.n_len (by decide +kernel) (pa_cons (fldK K (pv 0)) pa_nil)) (pe_callB (lenK K) (by rfl) T.n_len (by decide +kernel) (pa_cons (fldK K (pv 1)) pa_nil))) pa_nil)))))
  (pss_one (ps_ret (pe_made (ps := [("x", 3), ("y", 4)]) LM (pv 0) (pv 1) (blkOk_by (N := ["one", "other", "step", "x", "y", "later"]) (sc := (defScope s_lockstep)) (by decide +kernel)) sc_lockstep.nd rfl rfl (by decide +kernel) rfl (fun _ _ _ _ _ us hl => match us, hl with | [_, _], _ => rfl) (fun A outer s H f c' hr => (pe_lc2 (own := [("step", 2), ("later", 5)]) (vs1 := [5]) (g := gName 2) (g1 := gName 5) (tt := tYes) (tt1 := tYes) (by rfl) sc_lockstep.nd ((pi_tupK K) (pe_md D_out (pv 0) (hr.mono (by decide)) pass0 (pa_cons (pv 3) pa_nil))) (blkOk_by (N := ["one", "other", "step", "x", "y", "later"]) (sc := (lamSc s_lockstep)) (by decide +kernel)) (by decide) (fun _ _ _ _ _ => (pg_name (i := 2) sc_lockstep.nd rfl (Or.inl rfl))) (fun _ _ _ _ _ => pts_nil) (fun _ _ _ _ _ => ((pi_tupK K) (pe_md D_out (pv 1) (hr.mono (by decide)) pass0 (pa_cons (pv 4) pa_nil)))) (fun _ _ _ _ _ => (pg_name (i := 5) sc_lockstep.nd rfl (Or.inl rfl))) (fun _ _ _ _ _ => pts_nil) (fun _ _ _ _ _ => (pe_tup (pa_cons (pv 2) (pa_cons (pv 5) pa_nil)))))))))))), ?_⟩
    refine ⟨_, rfl, _, rfl, v, u, rfl, ?_⟩
    rcases h with ⟨h1, hE⟩ | ⟨a, g, rfl, hg, go, h⟩
    · exact .inl ⟨h1, hE.r tab⟩
    refine .inr ⟨a, g, rfl, hg, ?_⟩
    rcases h with ⟨h1, hE⟩ | ⟨b, g2, rfl, hg2, go2, hz, hn⟩
    · exact .inl ⟨h1, hE.r tab⟩
    refine .inr ⟨b, g2, rfl, hg2, fun z hzz => (hz z hzz).r tab, fun hnone => ?_⟩
    obtain ⟨ht, hn'⟩ := hn hnone
    have hnd := first_nodup go go2 hnone
    have c1 := go.po.c1
    have c2 := go.po.c2
    have d1 := go2.po.c1
    have d2 := go2.po.c2
    obtain ⟨dx, aS, aT, aM, aL, aO, aR, kvs, h1, h2, h3, ⟨vs4, h4, h4'⟩, _⟩ := id hg
    obtain ⟨dy, bS, bT, bM, bL, bO, bR, kvt, k1, k2, k3, ⟨vt4, k4, k4'⟩, _⟩ := id hg2
    have hl1 : vs4.length = g.steps.length := Paired.length h4'
    have hl2 : vt4.length = g2.steps.length := Paired.length k4'
    have hsl := go.po.sl
    have hsl2 := go2.po.sl
    refine ⟨_, rfl, a, C, dx, _, .ref aT, rfl, h1, R.c, R.no _ (by simp), rfl, aT, _, rfl, .inl h4, _, rfl, b, C, dy, _, .ref bT, rfl, k1, R.c, R.no _ (by simp), rfl, bT, _, rfl, .inl k4, ?_⟩
    have hall : Paired (StpAt K H) (vs4 ++ (vt4 ++ [])) (g.steps ++ g2.steps) := by rw [List.append_nil]; exact paired_app h4' k4'
    refine ⟨by rw [List.append_nil, List.length_append]; exact Nat.le_of_lt (big_len (by omega)), fun p0 hp0 => ?_⟩
    have s0 : Same H (upd H p0 (.tup (vs4 ++ (vt4 ++ [])))) := same_up hp0
    have t0 : (upd H p0 (.tup (vs4 ++ (vt4 ++ [])))) p0 = _ := upd_same
    generalize (upd H p0 (.tup (vs4 ++ (vt4 ++ [])))) = H1 at s0 t0 ⊢
    refine ⟨p0, rfl, ⟨_, SqT.of t0⟩, ?_⟩
    refine for_it walk_tup (fun i σ H' => ∃ v2, σ = [some (.ref a), some (.ref b), v2, none, none, none] ∧ H' = H1 ∧ ∀ s ∈ (g.steps ++ g2.steps).take i, s.time = 1) ⟨_, rfl, rfl, fun s hs => by cases hs⟩ (fun i σ H' _ ⟨_, _, e, _⟩ => e ▸ SqT.of t0) (fun i x σ H2 H3 hi ⟨v2, es, e, hn1⟩ ⟨e3, hx⟩ => ?_) fun σ H2 ⟨v2, es, e, hn1⟩ => ?_
    · subst es e e3
      obtain ⟨sp, hsp, a2, b2, rfl, q2, q3⟩ := paired_at hall hx
      have q2' := Same.sqt s0 q2
      refine ⟨_, rfl, a2, _, 2, _, rfl, rfl, q2', rfl, rfl, _, rfl, ?_⟩
      by_cases h1' : sp.time = 1
      · refine if_f (show (!decide (V.int sp.time = V.int 1)) = false by rw [h1']; rfl) ⟨_, rfl, rfl, fun s hs => ?_⟩
        rw [List.take_add_one, hsp] at hs
        rcases List.mem_append.mp hs with q | q
        · exact hn1 s q
        · rw [List.mem_singleton.mp q]; exact h1'
      · refine if_t (show (!decide (V.int sp.time = V.int 1)) = true by rw [decide_eq_false (fun z => h1' (V.int.inj z))]; rfl) ⟨_, rfl, a2, _, 2, _, rfl, rfl, q2', rfl, _, rfl, fun d hd => ?_⟩
        refine ht sp.time ?_ d _ (ExtN.of (s0.trans (same_up hd))) (tab.ext (s0.trans (same_up hd))) upd_same
        refine List.find?_eq_some_iff_append.mpr ⟨decide_eq_true h1', ((g.steps ++ g2.steps).take i).map Stp.time, ((g.steps ++ g2.steps).drop (i + 1)).map Stp.time, ?_, fun y hy => ?_⟩
        · obtain ⟨hl, e⟩ := List.getElem?_eq_some_iff.mp hsp
          rw [← List.map_cons, ← List.map_append, ← e, List.getElem_cons_drop, List.take_append_drop]
        · obtain ⟨s, hs, rfl⟩ := List.mem_map.mp hy
          simp [hn1 s hs]
    · subst es e
      rw [List.length_append, List.length_append, List.length_nil, hl1, hl2, Nat.add_zero, ← List.length_append, List.take_length] at hn1
      have hft : firstTime g g2 = none := List.find?_eq_none.mpr fun t ht => by
        obtain ⟨s, hs, rfl⟩ := List.mem_map.mp ht
        simp [hn1 s hs]
      obtain ⟨j1, j2, j3, j4⟩ := hn' hft
      have tab1 := tab.ext s0
      have up : ∀ {E' : XK} {C' : Addr} {fs}, exN E' Tb C' H fs → exr E' C' H2 fs := fun z d H' s' hd => z d H' (ExtN.of (s0.trans s')) (tab.ext (s0.trans s')) hd
      refine ⟨_, rfl, _, rfl, _, rfl, a, C, dx, _, .ref aT, rfl, s0 _ _ h1, R.c, R.no _ (by simp), rfl, _, _, rfl, sqt_len (Same.sqt s0 h4), _, rfl, b, C, dy, _, .ref bT, rfl, s0 _ _ k1, R.c, R.no _ (by simp), rfl, _, _, rfl, sqt_len (Same.sqt s0 k4), _, _, rfl, rfl, .inl ⟨by omega, by omega⟩, ?_⟩
      have hnn : ((vs4.length : Int) * (vt4.length : Int)) = ((g.steps.length * g2.steps.length : Nat) : Int) := by
        rw [hl1, hl2, Int.natCast_mul]
      refine ⟨a, b, g, g2, _, rfl, hg.mono s0, hg2.mono s0, go.po.mo.1, go2.po.mo.1, by omega, c2, by omega, d2, fun q => up (j1 q), fun q1 q2 => up (j2 q1 q2), fun q1 q2 q3 => up (j3 q1 q2 (by omega)), fun q1 q2 q3 => ?_⟩
      obtain ⟨i1, i2⟩ := j4 q1 q2 (by omega)
      refine ⟨_, rfl, _, rfl, tab1, fun H3 e3 t3 => ?_⟩
      have e03 : ExtN H H3 := (ExtN.of s0).trans e3
      have hg3 := hg.monoN e03
      have hg4 := hg2.monoN e03
      refine ⟨a, b, g, g2, mfL g g2, rfl, rfl, hg3, hg4, go, go2, hnd, q1, q2, by rw [totL go go2]; omega, fun _ _ _ _ m hm => mfL_in hm, ?_, fun p H' g3 s' q1 q2 q3 q4 q5 q6 => ?_, fun es q1 q2 q3 => ?_⟩
      · intro x y H' Q' hx hy s' hk
        have hgx := hg3.mono s'
        have hgy := hg4.mono s'
        obtain ⟨dx', _, _, _, _, _, _, _, x1, _⟩ := id hgx
        obtain ⟨dy', _, _, _, _, _, _, _, y1, _⟩ := id hgy
        refine ⟨_, rfl, a, dx', _, rfl, x1, rfl, _, rfl, a, g, x, rfl, hgx, by omega, fun p hp => ?_⟩
        refine ⟨p, rfl, ⟨_, hp⟩, fun D hD => ?_⟩
        have hol := outAt_len g.steps g.steps.length x
        have hol2 := outAt_len g2.steps g2.steps.length y
        have hbig : g.steps.length * g2.steps.length ≤ 1200 := by omega
        refine lc2_it walk_tup (fun i H1 => Same H' H1 ∧ ∃ mvs, H1 D = some (.lst mvs) ∧ Paired (MvAt K H1) mvs (((outAt g.steps g.steps.length x).take i).flatMap fun n => (outAt g2.steps g2.steps.length y).map fun m => (some n.toNat, some m.toNat))) ⟨same_up hD, [], upd_same, .nil⟩ (fun i H1 _ ⟨s1, _⟩ => Same.sqt s1 hp) (fun i z H1 H2 hi ⟨s1, mvs, l1, q1⟩ ⟨e, hz⟩ => ?_) fun H1 ⟨s1, mvs, l1, q1⟩ => ?_
        · subst e
          obtain ⟨n, hn, rfl⟩ := get_map hz
          have hnb := outAt_mem (List.mem_of_getElem? hn)
          rw [List.length_map] at hi
          refine ⟨rfl, yes_t ?_⟩
          refine ⟨_, rfl, b, dy', _, rfl, s1 _ _ y1, rfl, _, rfl, b, g2, y, rfl, hgy.mono s1, by omega, fun p2 hp2 => ?_⟩
          refine ⟨p2, rfl, ⟨_, hp2⟩, ?_⟩
          have hlen0 : (((outAt g.steps g.steps.length x).take i).flatMap fun n => (outAt g2.steps g2.steps.length y).map fun m => ((some n.toNat, some m.toNat) : Mv)).length ≤ 1200 * 1200 := by
            have z : (((outAt g.steps g.steps.length x).take i).flatMap fun n => (outAt g2.steps g2.steps.length y).map fun m => ((some n.toNat, some m.toNat) : Mv)).length = ((outAt g.steps g.steps.length x).take i).length * (outAt g2.steps g2.steps.length y).length := by
              generalize ((outAt g.steps g.steps.length x).take i) = l
              induction l with
              | nil => simp
              | cons a r ih => rw [List.flatMap_cons, List.length_append, ih, List.length_map, List.length_cons, Nat.add_mul, Nat.one_mul, Nat.add_comm]
            rw [z, List.length_take]
            exact Nat.mul_le_mul (by omega) (by omega)
          refine lc_in (walk_tup (K := K) (a := p2) (xs := (outAt g2.steps g2.steps.length y).map V.int)) (fun j H3 => Same H' H3 ∧ SqT K H3 p2 ((outAt g2.steps g2.steps.length y).map V.int) ∧ ∃ mvs', H3 D = some (.lst mvs') ∧ Paired (MvAt K H3) mvs' ((((outAt g.steps g.steps.length x).take i).flatMap fun n => (outAt g2.steps g2.steps.length y).map fun m => (some n.toNat, some m.toNat)) ++ ((outAt g2.steps g2.steps.length y).take j).map fun m => (some n.toNat, some m.toNat))) ⟨s1, hp2, mvs, l1, by rw [List.take_zero, List.map_nil, List.append_nil]; exact q1⟩ (fun j H3 _ ⟨_, z, _⟩ => z) (fun j z H3 H4 hj ⟨s3, p3, mvs3, l3, q3⟩ ⟨e, hz⟩ => ?_) fun H3 ⟨s3, p3, mvs3, l3, q3⟩ => ?_
          · subst e
            obtain ⟨k, hk', rfl⟩ := get_map hz
            have hkb := outAt_mem (List.mem_of_getElem? hk')
            rw [List.length_map] at hj
            refine ⟨rfl, yes_t ⟨_, rfl, _, rfl, (by show 2 ≤ sizeLine; decide), fun t ht => ?_⟩⟩
            have hml := Paired.length q3
            rw [List.length_append, List.length_map, List.length_take] at hml
            have st : Same H4 (upd H4 t (.tup [.int n, .int k])) := same_up ht
            have tt : (upd H4 t (.tup [.int n, .int k])) t = some (.tup [.int n, .int k]) := upd_same
            generalize (upd H4 t (.tup [.int n, .int k])) = H5 at st tt ⊢
            have u1 : ∀ c ys, SqT K H5 c ys → SqT K (upd H5 D (.lst (mvs3 ++ [.ref t]))) c ys := fun c ys z => sqt_lst (st _ _ l3) z
            refine ⟨mvs3, st _ _ l3, big_len2 (by omega), fun b o e => ?_, u1 _ _ (Same.sqt st p3), _, upd_same, ?_⟩
            · rw [upd_ne (ne_of_none e hD)]; exact st _ _ (s3 _ _ e)
            · rw [List.take_add_one, hk', List.map_append, ← List.append_assoc]
              refine paired_snoc (Paired.mapP q3 fun _ _ ⟨z, z1, z2⟩ => ⟨z, z1, u1 _ _ (Same.sqt st z2)⟩) ⟨t, rfl, u1 _ _ (SqT.of ?_)⟩
              show H5 t = some (.tup [.int ((n.toNat : Nat) : Int), .int ((k.toNat : Nat) : Int)])
              rw [Int.toNat_of_nonneg hnb.1, Int.toNat_of_nonneg hkb.1]
              exact tt
          · refine ⟨s3, mvs3, l3, ?_⟩
            rw [List.length_map, List.take_length] at q3
            rw [List.take_add_one, hn, List.flatMap_append]
            simpa using q3
        · rw [List.length_map, List.take_length] at q1
          exact hk D H1 mvs s1 hD l1 q1
      · rw [totL go go2] at q4
        exact i2 p H' g3 (e03.trans (ExtN.of s')) (t3.ext s') q1 q2 q3 q4 q5 q6
      · intro d H' s' hd
        exact i1 es q1 q2 q3 d H' (e03.trans (ExtN.of s')) (t3.ext s') hd
end
end K53
/-! an exception that is kept behind its suite -/
namespace Own
open PySem PySem.Spec PyProof.Rows L2
/-- the exception at a -/
def ExO (a : Addr) (cls : Value) (d : Option Addr) : HO := .ext fun h => ∃ oe vs, h.get? a = some oe ∧ Zc cls d oe ∧ oe.data = .fields vs
section
variable {X : Cx} {pins : List (Addr × Obj)} {σ : L2.St} {H : Hp} {s : Shared}
theorem inv_track {a : Addr} {oe : Obj} {vs : Array Value} {cls : Value} {d : Option Addr} (I : Inv X pins σ H s) (ha : s.heap.get? a = some oe) (hz : Zc cls d oe) (hd : oe.data = .fields vs) (na : H a = none) (n0 : X.s_0.heap.get? a = none) (nL : a ≠ X.env.locals)
    (nP : ∀ p ∈ X.pn ++ pins, p.1 ≠ a) : Inv X pins σ (upd H a (ExO a cls d)) s := by
  have nb : ∀ b u, H b = some u → b ≠ a := fun b u e => ne_of_none e na
  have n0' : ∀ b o, X.s_0.heap.get? b = some o → b ≠ a := fun b o e z => by rw [z, n0] at e; cases e
  refine ⟨I.ok, I.os, I.bare, ⟨I.base.keep, I.base.slot, fun b o e n hx => ?_, I.base.there, fun b xs e => ?_, fun b o u e => ?_, fun b ps e => ?_⟩, I.loc, I.cell, ?_, fun y c e => ?_, fun p hp => ?_, fun b u e => ?_, I.len⟩
  · rw [upd_ne (n0' b o e)]; exact I.base.free b o e n hx
  · have q := I.base.tups b xs e
    rw [upd_ne (nb b _ q)]; exact q
  · have q := I.base.frzs b o u e
    rw [upd_ne (nb b _ q)]; exact q
  · obtain ⟨more, q⟩ := I.base.tbls b ps e
    exact ⟨more, by rw [upd_ne (nb b _ q)]; exact q⟩
  · rw [upd_ne nL.symm]; exact I.free
  · have hc : c ≠ a := fun z => by
      obtain ⟨v, o, ho, hdc⟩ := I.cell y c e
      rw [z, ha] at ho
      cases ho
      rw [hd] at hdc
      cases hdc
    rw [upd_ne hc]; exact I.freeC y c e
  · obtain ⟨h1, h2, h3, h4, h5⟩ := I.pin p hp
    exact ⟨h1, by rw [upd_ne (nP p hp)]; exact h2, h3, h4, h5⟩
  · by_cases hb : b = a
    · rw [hb, upd_same] at e
      cases e
      rw [hb]
      exact ⟨⟨oe, vs, ha, hz, hd⟩, ⟨oe, ha⟩, fun h1 h2 ⟨o, v, q1, q2, q3⟩ k => ⟨o, v, k _ q1, q2, q3⟩⟩
    · rw [upd_ne hb] at e
      exact (I.hok b u e).stay (fun c v _ q => q) (fun c q => by rw [upd_ne (nb c _ q)]; exact q) fun c xs q => by rw [upd_ne (nb c _ q)]; exact q
/-- what the clause 'except x as n' wishes, the exception being kept -/
def wKeep (K : PySem.W.Frag) (c : Value) (i : Nat) (ts : Addr → Value → Option Addr → TS) (D : Ends) : WX := fun cls d σ H =>
  ∃ b, PySem.W.exmOne K cls c = some b ∧ (b = true → ∀ a, H a = none → ts a cls d { nx := fun σ' H' => H' a = none → D.nx (σ'.set i none) (upd H' a (ExO a cls d)), rt := fun _ _ => False, bk := fun _ _ => False, ct := fun _ _ => False } (σ.set i (some (.ref a))) H) ∧ (b = false → False)
theorem ps_try_keep {x n : Str} {c : Value} {i : Nat} {body suite : List Stmt} {b₀ : Stmt} {np pos pos' : Pos} {tb : WX → TS} {ts : Addr → Value → Option Addr → TS} (hs : X.stack = X.env :: X.outer) (hf : X.env.frame = some X.env.locals) (hex : X.ex = []) (hN : X.N.Nodup) (hi : X.N[i]? = some n) (hln : X.env.kindOf n = some .local) (hc : Names X x c)
    (hb : ∀ (W : WX) (pn : List (Addr × Obj)) (xe : Value → Shared → Prop), Takes (X.tr pn xe) W → PassesOwn (model X.prog X.w) X.A X.env xe → PSs (X.tr pn xe) body (tb W))
    (hsu : ∀ (a : Addr) (oe : Obj) (cls : Value) (d : Option Addr) (pn : List (Addr × Obj)), Zc cls d oe → (∃ vs, oe.data = .fields vs) → PSs (X.suite a ((a, oe) :: pn)) (b₀ :: suite) (ts a cls d)) :
    PS X (.Try body [.ExceptHandler (some (.Name x np)) (some n) (b₀ :: suite) pos'] [] [] pos) (fun D σ H => tb (wKeep X.K c i ts D) D σ H) := by
  refine ⟨fun pins s σ H D I h => ?_⟩
  have ok := I.ok
  have hfr : X.A.frames = some (X.env :: X.outer) := by rw [ok.frames, hs]
  have hloc : Loc X.env.scope n := .inl hln
  refine wpAny_Try_except ?_
  refine wpAny_mono ((hb (wKeep X.K c i ts D) (X.pn ++ pins) (fun e s₁ => wpAny (model X.prog X.w) X.A (noteFrame e X.env) (fun _ s₂ => wpAny (model X.prog X.w) X.A (setFlight e none) (fun _ s₃ =>
    wpAny (model X.prog X.w) X.A (handleBy e X.env [.ExceptHandler (some (.Name x np)) (some n) (b₀ :: suite) pos']) (SP X pins D) X.xe s₃) X.xe s₂) X.xe s₁) (fun u s' xx => ?_) PassesOwn.looking).run [] s σ H D (I.toTry _) h) (fun f s1 hsp => ?_) (fun e s1 he => he)
  · obtain ⟨a, B, sI, pins', σ', H', cls, d, rfl, J', nb, up, sky, na, os, ag, b, hb1, hyes, hno⟩ := xx
    have J : Inv X pins σ' H' sI := J'.ofTry ok
    have sky' : Sky B (X.env :: X.outer) a (Zc cls d) X.env.locals s'.heap := by rw [← hs]; exact sky
    show wpAny (model X.prog X.w) X.A (noteFrame (.ref a) X.env) _ _ _
    refine Sky.land Zc.steady hfr hf sky' fun h3 fl3 up3 => ?_
    have J3 : Inv X pins σ' H' { s' with heap := h3 } := J.landed nb fl3.1 (up.trans up3) os ag
    obtain ⟨oe3, vs3, he3, hz3, hd3⟩ := fl3.there
    have notFr : ∀ {h : Heap} {o : Obj} {vs : Array Value}, h.FunFrames B (X.env :: X.outer) → h.get? a = some o → o.data = .fields vs → a ∉ frs (X.env :: X.outer) := fun {h o vs} ff e dd hm => by
      obtain ⟨_, o', e', hnf⟩ := ff.mem hm
      rw [e] at e'; cases e'
      exact hnf _ dd
    have nfr := notFr fl3.2.2.1 he3 hd3
    have nL : a ≠ X.env.locals := fun z => nfr (List.mem_filterMap.mpr ⟨X.env, List.mem_cons_self, by rw [hf, z]⟩)
    have nF : a ∉ X.fs := fun hm => by
      obtain ⟨e, he, q⟩ := List.mem_filterMap.mp hm
      exact nfr (List.mem_filterMap.mpr ⟨e, List.mem_cons_of_mem _ he, q⟩)
    have nB : B.get? a = none := fl3.2.1
    have nI : ∀ o, sI.heap.get? a ≠ some o := fun o e => by
      have q := nb a o e (by rw [hs]; exact nfr)
      rw [nB] at q; cases q
    have n0 : X.s_0.heap.get? a = none := by
      cases q : X.s_0.heap.get? a with
      | none => rfl
      | some o =>
        obtain ⟨o', e⟩ := J.base.there a o q (by rw [hex]; simp)
        exact absurd e (nI o')
    have nP : ∀ p ∈ X.pn ++ pins, p.1 ≠ a := fun p hp z => by
      have q := (J.pin p hp).1
      rw [z] at q
      exact nI _ q
    have S3 := J3.suite he3 hd3 na nL nF
    refine wpAny_handleBy_cons (codeAny_handlers_test ?_) (by intro q; cases q)
    have LT : PySem.W.Looks (model X.prog X.w) h3 (typeOf (.ref a)) cls := fun A Q E s k q => wpAny_typeOf_ref (k _ _ he3) (by rw [hz3.1]; exact q)
    have LM := PySem.W.exm_one (M := model X.prog X.w) (J3.kIn) LT hb1
    have test : ∀ {Q : Value → Shared → Prop} {E : Value → Shared → Prop}, Q c { s' with heap := h3 } → wpAny (model X.prog X.w) (X.A.mark (some (.ref a))) (eval (.Name x np) X.env) Q E { s' with heap := h3 } := fun {Q E} q => by
      obtain ⟨hg, hdbg, hm | ⟨hm, hv, hnn⟩⟩ := hc
      · exact ld_glob (X := X.suite a ((a, oe3) :: (X.pn ++ pins))) S3 hg hm q hdbg
      · exact ld_blt (X := X.suite a ((a, oe3) :: (X.pn ++ pins))) S3 hg hm hv q hnn hdbg
    refine test (LM.here ?_)
    cases b with
    | true =>
      refine codeAny_handlers_suite_as ?_
      refine HandSPX.lands_againZ fl3 fun h4 fl4 up4 => ?_
      have J4 : Inv X pins σ' H' { s' with heap := h4 } := J.landed nb fl4.1 ((up.trans up3).trans up4) os ag
      obtain ⟨oe4, vs4, he4, hz4, hd4⟩ := fl4.there
      have S4 := J4.suite he4 hd4 na nL nF
      refine store_ok (X := X.suite a ((a, oe4) :: (X.pn ++ pins))) (v := .ref a) S4 hN hi hloc rfl (fun s5 S5 => ?_) (.inr hln)
      refine wpAny_mono ((hsu a oe4 cls d (X.pn ++ pins) hz4 ⟨_, hd4⟩).run [] s5 _ H' _ S5 (hyes rfl a na)) (fun f s6 hsp => ?_) (fun _ _ z => False.elim z)
      cases f with
      | next =>
        obtain ⟨σ6, H6, S6, q6⟩ := hsp
        have hpin := S6.pin (a, oe4) (List.mem_append.mpr (.inl List.mem_cons_self))
        have J6 : Inv X pins σ6 (upd H6 a (ExO a cls d)) s6 := inv_track (S6.unsuite ok) hpin.1 hz4 hd4 hpin.2.1 n0 nL nP
        exact gone_ok J6 hN hi hln fun s7 J7 => ⟨_, _, J7, q6 hpin.2.1⟩
      | brk =>
        obtain ⟨_, _, _, q6⟩ := hsp
        exact q6.elim
      | cont =>
        obtain ⟨_, _, _, q6⟩ := hsp
        exact q6.elim
      | ret u =>
        obtain ⟨_, _, _, _, _, q6⟩ := hsp
        exact q6.elim
    | false => exact (hno rfl).elim
  · cases f with
    | next =>
      obtain ⟨σ', H', J', q⟩ := hsp
      exact wpAny_execs_nil ⟨σ', H', J'.ofTry ok, q⟩
    | brk =>
      obtain ⟨σ', H', J', q⟩ := hsp
      exact ⟨σ', H', J'.ofTry ok, q⟩
    | cont =>
      obtain ⟨σ', H', J', q⟩ := hsp
      exact ⟨σ', H', J'.ofTry ok, q⟩
    | ret u =>
      obtain ⟨v, σ', H', J', r, q⟩ := hsp
      exact ⟨v, σ', H', J'.ofTry ok, r, q⟩
/-! ### what is asked of it -/
/-- what a class of exceptions must say -/
structure XC (K : PySem.W.Frag) (C : Addr) : Prop where
  cl : (PySem.W.clsIn K C).isSome = true
  ga : PySem.W.findIn K (.ref C) "__getattribute__" = some (some (.builtin "BaseException.__getattribute__"))
  gg : PySem.W.findIn K (.ref C) "__getattr__" = some none
  sb : PySem.W.subIn K (.ref C) (.type "BaseException") = some true
  hd : PySem.W.hasDictIn K C = true
  ca : PySem.W.findIn K (.ref C) "__class__" = some (some (.builtin "object.__class__"))
  cn : PySem.W.specialIn K (.builtin "object.__class__") "__get__" = some (some (.builtin "getset_descriptor.__get__"))
  ct : PySem.W.takesIn K (.builtin "object.__class__") = some true
  cm : PySem.W.mroIn K C (.type "object") = some true
/-- isinstance(x, C): None, or an exception of the class at D -/
def tIsE (K : PySem.W.Frag) (C : Addr) (ta : TE) : TE := fun σ H Q => ta σ H fun x H1 => (x = .non ∧ PySem.W.kitOne K (.type "NoneType") (.ref C) = some false ∧ Q (.bl false) H1) ∨
  ∃ a D d fs b, x = .ref a ∧ H1 a = some (ExO a (.ref D) (some d)) ∧ H1 d = some (.xd fs) ∧ XC K D ∧ PySem.W.kitOne K (.ref D) (.ref C) = some b ∧ Q (.bl b) H1
def rIsX (K : PySem.W.Frag) : List V → Hp → VK → Prop := fun xs H Q => ∃ x C, xs = [x, .ref C] ∧ ((x = .non ∧ PySem.W.kitOne K (.type "NoneType") (.ref C) = some false ∧ Q (.bl false) H) ∨
  ∃ a D d fs b, x = .ref a ∧ H a = some (ExO a (.ref D) (some d)) ∧ H d = some (.xd fs) ∧ XC K D ∧ PySem.W.kitOne K (.ref D) (.ref C) = some b ∧ Q (.bl b) H)
theorem inst_at {a D d : Addr} {fs : List (Str × V)} (I : Inv X pins σ H s) (ha : H a = some (ExO a (.ref D) (some d))) (hd : H d = some (.xd fs)) :
    ∃ oe od, PySem.W.InstAt s.heap a oe D (some od) ∧ ∃ mA : Str → Option Value, (∀ f, RelO (fs.lookup f) (mA f)) ∧ ∀ f, PySem.W.lookIn f od = some (mA f) := by
  obtain ⟨⟨oe, vs, h1, h2, h3⟩, _, _⟩ := I.hok a _ ha
  have hx : ObjOk X.prog X.w H s.heap d (.xd fs) := I.hok d _ hd
  obtain ⟨mA, hns, hr⟩ := hx
  obtain ⟨od, ho, hl⟩ := lookIn_ns hns
  exact ⟨oe, od, ⟨h1, h2.1, by unfold PySem.W.notCls; rw [h3] <;> rfl, by rw [h2.2]; exact ho⟩, mA, hr, hl⟩
theorem call_isX : CallR X (.builtin "isinstance") (rIsX X.K) := by
  intro pins s σ H xs us Q I r h
  obtain ⟨x, C, rfl, h⟩ := h
  obtain ⟨u1, u2, rfl, r1, r2⟩ := vals2 r
  obtain rfl : u2 = Value.ref C := r2
  rcases h with ⟨rfl, hk, q⟩ | ⟨a, D, d, fs, b, rfl, ha, hd, hx, hk, q⟩
  · exact call_isi pins s σ H [.non, .ref C] [u1, .ref C] Q I r ⟨.non, .ref C, .type "NoneType", .ref C, false, rfl, .own C, .base .non, hk, q⟩
  · obtain rfl : u1 = Value.ref a := r1
    obtain ⟨oe, od, J, _⟩ := inst_at I ha hd
    exact PySem.W.kia_one (PySem.W.kitx_exc hx.cl hx.ga hx.gg hx.sb hx.ca hx.cn hx.ct hx.cm) I.kIn J hk (fun z => nomatch z) fun tk => ⟨.bl b, H, I.tok tk, rfl, q⟩
theorem pe_isE {C : Addr} {a : Expr} {ta : TE} {x : Str} {p p2 pos : Pos} (hm : X.mg x = some (.ref C)) (ha : PE X a ta) (hm0 : X.mg "isinstance" = none) (hg0 : Gl X "isinstance" := by rfl) (hg : Gl X x := by rfl) (hd : (x == ("__debug__" : Str)) = false := by decide)
    (he : starEach [a, .Name x p2] X.env = (false, eval a X.env) :: starEach [.Name x p2] X.env := by rfl) (he2 : starEach [.Name x p2] X.env = (false, eval (.Name x p2) X.env) :: starEach [] X.env := by rfl)
    (hpl : (backTo pos (starEach [.Name x p2] X.env)).any (·.1) = false := by rfl) :
    PE X (.Call (.Name "isinstance" p) [a, .Name x p2] [] pos) (tIsE X.K C ta) := by
  refine PE.re (pe_callB (X := X) (pos := pos) (p := p) call_isX hg0 hm0 (by decide +kernel) (pa_cons ha (pa_cons (pe_glob (v := .ref C) (pos := p2) hg hm rfl hd) pa_nil he2) he) (by decide) (by decide) he hpl) fun σ H Q h => ?_
  refine (show ta σ H _ from ?_)
  refine (show (fun x H1 => (x = .non ∧ PySem.W.kitOne X.K (.type "NoneType") (.ref C) = some false ∧ Q (.bl false) H1) ∨ ∃ a D d fs b, x = .ref a ∧ H1 a = some (ExO a (.ref D) (some d)) ∧ H1 d = some (.xd fs) ∧ XC X.K D ∧ PySem.W.kitOne X.K (.ref D) (.ref C) = some b ∧ Q (.bl b) H1) = (fun x H1 => rIsX X.K [x, .ref C] H1 Q) from ?_) ▸ h
  funext x H1
  apply propext
  constructor
  · exact fun h => ⟨x, C, rfl, h⟩
  · rintro ⟨x', C', e, h⟩
    cases e
    exact h
/-- e.f of the exception -/
def tXfk (K : PySem.W.Frag) (f : Str) (te : TE) : TE := fun σ H Q => te σ H fun x H1 => ∃ a D d fs v, x = .ref a ∧ H1 a = some (ExO a (.ref D) (some d)) ∧ H1 d = some (.xd fs) ∧ XC K D ∧ PySem.W.findIn K (.ref D) f = some none ∧ fs.lookup f = some v ∧ Q v H1
theorem pe_xfk {e : Expr} {te : TE} {pos : Pos} {n : Str} (he : PE X e te) (hb : attributeBase e n X.env (eval e X.env) = eval e X.env := by rfl) : PE X (.Attribute e n pos) (tXfk X.K n te) := by
  refine ⟨fun pins s σ H Q I h => ?_⟩
  refine attr_of hb (thn (he.run pins s σ H _ I h) fun u s1 hh => ?_)
  obtain ⟨x, H1, I1, rx, a, D, d, fs, v, ex, ea, ed, hx, hno, l, q⟩ := hh
  subst ex
  obtain rfl : u = Value.ref a := rx
  obtain ⟨oe, od, J, mA, hr, hl⟩ := inst_at I1 ea ed
  obtain ⟨u, hu, ru⟩ := RelO.some_of (v := v) (o := mA n) (by rw [← l]; exact hr n)
  exact HandSPX.exc_get I1.kIn J hx.ga hx.gg hx.sb (PySem.W.findObj_own hx.hd hno rfl (by rw [hl, hu])) (handed_of ru) ⟨v, H1, I1.tok _, ru, q⟩
end
end Own
/-! lambdas without parameters, handed to a def that tries them -/
namespace Own
open PySem PySem.Spec PyProof.Rows L2 LamX
section
variable {X : Cx} {pins : List (Addr × Obj)} {σ : L2.St} {H HZ : Hp} {s s1 : Shared}
/-- a(), in the def that got the lambda, in a try's body -/
theorem pe_act0 {CXg : CXT} {Eg : XK} {Ng : List Str} {qg : Str} {sg : Scope} {g f c' : Addr} {cdg pm ctv : Value} {params : Arguments} {body : Expr} {scope : Scope} {k i : Nat} {a : Str} {pn : List (Addr × Obj)} {xe : Value → Shared → Prop} {W : WX} {tb : XK → TE} {p1 p2 : Pos}
    (I : Inv X pins σ H s) (ok : BlkOk X.N X.env.scope scope []) (hN : X.N.Nodup) (hco : scope.isCoroutine = false) (hgen : scope.isGenerator = false)
    (hf : s.heap.get? f = some (PySem.W.kla_obj "<lambda>" (X.env.qual ++ "<lambda>") params body scope (cloFrom X.env.cells scope.names []) pm c' ctv)) (hfn : H f = none) (hfr : f ∉ frs X.stack)
    (hbind : bindArgs (PySem.W.kla_fn "<lambda>" (X.env.qual ++ "<lambda>") params body scope (cloFrom X.env.cells scope.names []) pm (.ref c') ctv) ⟨[], []⟩ = pure [])
    (tk : Takes ((cxOf CXg X.prog X.w X.K X.mg X.base Ng qg sg g cdg X.A X.stack s H Eg).tr pn xe) W) (hr : Room (k + 1) (X.A.deeper (envOfC qg sg s.heap.objs.size g cdg)))
    (hbody : ∀ (A : Around) (outer : List Env) (s : Shared) (H : Hp) (E : XK), Room k (A.deeper (lamEnvP X scope s.heap.objs.size f c')) → PE (lamCxP X A outer s H E scope f c') body (tb E))
    (hNi : Ng[i]? = some a) (hv : Vis sg a) (hd : (a == ("__debug__" : Str)) = false := by decide) (hcd : (a == ("__classdict__" : Str)) = false := by decide) :
    PE ((cxOf CXg X.prog X.w X.K X.mg X.base Ng qg sg g cdg X.A X.stack s H Eg).tr pn xe) (.Call (.Name a p1) [] [] p2)
      (fun σZ HZ Q => σZ[i]? = some (some (.ref f)) ∧ HZ c' = some (CodeO c' (X.env.qual ++ "<lambda>")) ∧ tb (WE W σZ) σ HZ Q) := by
  refine ⟨fun pinsZ sZ σZ HZ Q IZ h => ?_⟩
  obtain ⟨hs, hc, ht⟩ := h
  refine wpAny_Call_Name_kw (thn ((pe_var (pos := p1) (i := i) hNi hv hd hcd).run pinsZ sZ σZ HZ (fun v H1 => v = .ref f ∧ H1 = HZ) IZ ⟨.ref f, hs, rfl, rfl⟩) fun u s1 ⟨v, H1, I1, r1, q1⟩ => ?_)
  obtain ⟨ev, eH⟩ := q1
  subst ev
  rw [eH] at I1
  obtain rfl : u = Value.ref f := r1
  have of1 : s1.heap.get? f = some (PySem.W.kla_obj "<lambda>" (X.env.qual ++ "<lambda>") params body scope (cloFrom X.env.cells scope.names []) pm c' ctv) := I1.base.keep f _ hf hfn hfr (fun z => nomatch (show f ∈ ([] : List Addr) from z))
  refine PySem.W.callWith_F0 ⟨_, _, _, _, of1⟩ ?_
  show wpAny _ _ (call (.ref f) []) _ _ _
  have un : Un (frs X.stack) [] H HZ s.heap s1.heap := I1.base
  have rc := run_lamP (E := WE W σZ) (k := k) (us := []) (vs := []) (Q := Q) (ps := []) I ok hN hco hgen (fun p hp => by cases hp) of1 hbind I1.env0 hr un hc (fun s' hr' => hbody _ _ s' HZ _ hr') .nil rfl ht
  refine wpAny_call (codeAny_mono rc fun r s' hq => ?_)
  cases r with
  | error e => exact tk e s' (XE.of_call I1 (fun _ _ _ h => h) hq)
  | ok fl =>
    cases fl with
    | ret u => exact I1.after hq
    | next => exact False.elim hq
    | brk => exact False.elim hq
    | cont => exact False.elim hq
/-- the def that tries what it got -/
def GivesH (X : Cx) (Ng : List Str) (x : Str) (sg : Scope) (g : Addr) (cdg : Value) (bg : List Stmt) (a q : Str) (TT : (XK → Hp → VK → Prop) → Hp → VK → Prop) : Prop :=
  ∀ (f c' : Addr) (s : Shared) (H : Hp) (Q : VK) (tl : XK → Hp → VK → Prop),
    (∀ (W : WX) (pn : List (Addr × Obj)) (xe : Value → Shared → Prop) (p1 p2 : Pos), Takes ((cxOf C8.CX0 X.prog X.w X.K X.mg X.base Ng x sg g cdg X.A X.stack s H C8.E0).tr pn xe) W →
      PE ((cxOf C8.CX0 X.prog X.w X.K X.mg X.base Ng x sg g cdg X.A X.stack s H C8.E0).tr pn xe) (.Call (.Name a p1) [] [] p2) (fun σZ HZ Q => σZ[0]? = some (some (.ref f)) ∧ HZ c' = some (CodeO c' q) ∧ tl (WE W σZ) HZ Q)) →
    H c' = some (CodeO c' q) → TT tl H Q →
    ∃ t, PSs (cxOf C8.CX0 X.prog X.w X.K X.mg X.base Ng x sg g cdg X.A X.stack s H C8.E0).nox bg t ∧ t { nx := fun _ H' => Q .non H', rt := Q } (L2.start Ng [.ref f]) H
def tLamH (T : List (Addr × Str)) (TT : (XK → Hp → VK → Prop) → Hp → VK → Prop) (t : XK → TE) : TE := fun σ H Q => Tabs T H ∧ ∀ H1, ExtN H H1 → Tabs T H1 → TT (fun E H' Q' => t E σ H' Q') H1 Q
/-- x(lambda: body) -/
theorem pe_lamcall0 {T : List (Addr × Str)} {TT : (XK → Hp → VK → Prop) → Hp → VK → Prop} {x a : Str} {g c P : Addr} {k : Nat} {pg : Arguments} {bg : List Stmt} {sg : Scope} {dV kV doc pm cdv ct oc : Value} {an od : Option Addr} {osl : Array (Option Value)} {Ng : List Str}
    {params : Arguments} {body : Expr} {scope : Scope} {t : XK → TE} {p lpos pos : Pos} (hg : Gl X x) (hm : X.mg x = some (.ref g)) (hk : PySem.W.keepIn X.K (.ref g) = true)
    (lk : X.K.lookup g = some ⟨oc, od, .func (PySem.W.fnOf x x pg bg sg dV kV doc pm an cdv ct), osl⟩) (hcg : PySem.W.codeIn X.K cdv x = true) (hb : L2.Binds X.K (PySem.W.fnOf x x pg bg sg dV kV doc pm an cdv ct) [a] []) (Sg : FnScope Ng [a] sg) (hNg : Ng[0]? = some a) (hva : Vis sg a)
    (hG : GivesH X Ng x sg g cdv bg a (X.env.qual ++ "<lambda>") TT)
    (TB : TabB X.base X.mg c P) (hcode : X.env.code = .ref c) (hmT : (P, X.env.qual ++ "<lambda>") ∈ T) (hu : ∀ p ∈ T, p.1 = P → p.2 = X.env.qual ++ "<lambda>") (hr : Room (k + 2) X.A) (ok : BlkOk X.N X.env.scope scope []) (hN : X.N.Nodup) (hco : scope.isCoroutine = false) (hgen : scope.isGenerator = false) (hdef : defaultsOf params X.env = ([], []))
    (hbind : ∀ (q : Str) (cl : List (Str × Addr)) (pm cv ctv : Value), bindArgs (PySem.W.kla_fn "<lambda>" q params body scope cl pm cv ctv) ⟨[], []⟩ = pure [])
    (hbody : ∀ (A : Around) (outer : List Env) (s : Shared) (H : Hp) (E : XK) (f c' : Addr), Room k (A.deeper (lamEnvP X scope s.heap.objs.size f c')) → PE (lamCxP X A outer s H E scope f c') body (t E))
    (hdb : (x == ("__debug__" : Str)) = false := by decide) (hd : (a == ("__debug__" : Str)) = false := by decide) (hcd : (a == ("__classdict__" : Str)) = false := by decide) :
    PE X (.Call (.Name x p) [.Lambda params body scope lpos] [] pos) (tLamH T TT t) := by
  refine ⟨fun pins s σ H Q I h => ?_⟩
  obtain ⟨hT, h⟩ := h
  refine wpAny_Call_Name_kw (ld_glob I hg hm ?_ hdb)
  refine PySem.W.callWith_K (h₀ := X.base) I.ok.mod.kin hk ?_ (by rfl) (by rfl)
  show wpAny _ _ (spliced ((false, eval (.Lambda params body scope lpos) X.env) :: backTo pos (starEach [] X.env))) _ _ s
  refine Calls.spliced_cons (lam_make2 I TB hcode hmT hu hT hdef (fun y hy e => by
    rcases ok.free y hy e with k | k
    · exact I.ok.has _ (.inl k)
    · exact I.ok.has _ (.inr k)) fun f c' pm' ctv H1 s' I1 eN T1 hf hfn hfr hco' => ?_)
  refine Calls.spliced_nil ⟨I1.kIn, ?_⟩
  have rc : codeAny (model X.prog X.w) X.A (.call (.ref g) ⟨[.ref f], []⟩) (CR C8.CX0 X.stack X.prog X.w H1 s' Q C8.E0) s' := by
    refine run_ofS (N := Ng) (ps := [a]) (us := [.ref f]) (vs := [.ref f]) lk hcg Sg hr I1.env0 (hb s' [.ref f] I1.kIn rfl) (.cons rfl .nil) rfl fun hr' => ?_
    obtain ⟨t', ht', hq'⟩ := hG f c' s' H1 Q (fun E H' Q' => t E σ H' Q') (fun W pn xe p1 p2 tk => pe_act0 (i := 0) (k := k) (tb := t) I1 ok hN hco hgen hf hfn hfr (hbind _ _ _ _ _) tk hr' (fun A outer s H E hr2 => hbody A outer s H E f c' hr2) hNg hva hd hcd) hco' (h H1 eN T1)
    exact ⟨t', ht'.nox, hq'⟩
  refine wpAny_call (codeAny_mono rc fun r s2 hq => ?_)
  cases r with
  | error e => exact (show False from hq).elim
  | ok fl =>
    cases fl with
    | ret u => exact I1.after hq
    | next => exact False.elim hq
    | brk => exact False.elim hq
    | cont => exact False.elim hq
end
end Own
namespace K53
open PySem L2 RZ Own StX SkE LamX PySem.Spec
abbrev s__law_heard : Stmt := top 62
theorem sc__law_heard : FnScope ["ask", "caught", "error"] ["ask"] (defScope s__law_heard) := ⟨rfl, rfl, rfl, by decide +kernel, rfl, by decide +kernel, by decide +kernel⟩
/-- what is heard of a join -/
inductive Out where
  | many (what : Str) (most : Int)
  | graph (p : Str)
  | name (z : Str)
  | time (t : Int)
def Out.val : Out → List V
  | .many wh m => [.str wh, .int m]
  | .graph p => [.str "graph", .str p]
  | .name z => [.str "name", .str z]
  | .time t => [.str "time", .int t]
structure Cs where
  S : Addr
  G : Addr
  N : Addr
  T : Addr
  B : Addr
def Out.cls (c : Cs) : Out → Addr
  | .many _ _ => c.T
  | .graph _ => c.G
  | .name _ => c.N
  | .time _ => c.B
def Out.fs : Out → List (Str × V)
  | .many wh m => [("most", .int m), ("what", .str wh)]
  | .graph p => [("part", .str p)]
  | .name z => [("value", .str z)]
  | .time t => [("value", .int t)]
/-- what the written part says of the classes of errors -/
structure HeardC (K : PySem.W.Frag) (mg : Str → Option Value) (c : Cs) : Prop where
  T : Txt K mg
  gS : mg "ShareError" = some (.ref c.S)
  gT : mg "TooMany" = some (.ref c.T)
  gG : mg "BadGraph" = some (.ref c.G)
  gN : mg "BadName" = some (.ref c.N)
  gB : mg "BadNumber" = some (.ref c.B)
  ex : ∀ D ∈ [c.G, c.N, c.T, c.B], PySem.W.exmOne K (.ref D) (.ref c.S) = some true ∧ XC K D
  nk : ∀ C ∈ [c.G, c.N, c.T, c.B], PySem.W.kitOne K (.type "NoneType") (.ref C) = some false
  kk : ∀ D ∈ [c.G, c.N, c.T, c.B], ∀ C ∈ [c.G, c.N, c.T, c.B], PySem.W.kitOne K (.ref D) (.ref C) = some (decide (D = C))
  nd : c.T ≠ c.G ∧ c.T ≠ c.N ∧ c.T ≠ c.B ∧ c.G ≠ c.N ∧ c.G ≠ c.B ∧ c.N ≠ c.B
  f1 : PySem.W.findIn K (.ref c.T) "what" = some none
  f2 : PySem.W.findIn K (.ref c.T) "most" = some none
  f3 : PySem.W.findIn K (.ref c.G) "part" = some none
  f4 : PySem.W.findIn K (.ref c.N) "value" = some none
  f5 : PySem.W.findIn K (.ref c.B) "value" = some none
section
variable {P : Program} {w : World} {K : PySem.W.Frag} {mg : Str → Option Value} {base : Heap}
/-- the outcome o, raised -/
def exO (c : Cs) (Q : VK) : XK := fun cls d H' => ∃ (o : Out) (dd : Addr), cls = .ref (o.cls c) ∧ d = some dd ∧ H' dd = some (.xd o.fs) ∧ ∀ (p : Addr) (H'' : Hp), Same H' H'' → H'' p = some (.tup o.val) → Q (.ref p) H''
def TTheard (c : Cs) (tl : XK → Hp → VK → Prop) (H : Hp) (Q : VK) : Prop := ∀ (E : XK) (N : VK), (∀ cls d H', exO c Q cls d H' → E cls d H') → (∀ v H', Q .non H' → N v H') → tl E H N
theorem heard_gives {X : Cx} {c : Cs} {g : Addr} {cdg : Value} {q : Str} (hX : X.K = K) (hmg : X.mg = mg) (R : HeardC K mg c) : GivesH X ["ask", "caught", "error"] "_law_heard" (defScope s__law_heard) g cdg (defBody s__law_heard) "ask" q (TTheard c) := by
  subst hX hmg
  have T := R.T
  intro f c' s H Q tl act hc h
  refine ⟨_, pss_cons (ps_set (i := 1) sc__law_heard.nd rfl (Or.inl rfl) pe_non) (pss_cons (ps_try_keep (i := 2) (c := .ref c.S) (tb := fun W => fun D σ H => σ[0]? = some (some (.ref f)) ∧ H c' = some (CodeO c' q) ∧ tl (WE W σ) H fun _ H' => D.nx σ H')
      (ts := fun a cls d => tAsg (tVar 2) (gName 1)) rfl rfl rfl sc__law_heard.nd rfl rfl ⟨rfl, by decide, Or.inl R.gS⟩ (fun W pn xe tk _ => ?_) (fun a oe cls d pn hz hf => pss_one (ps_set (i := 1) sc__law_heard.nd rfl (Or.inl rfl) (pv 2))))
    (pss_cons (ps_if (pt_val (pe_isE R.gT (pv 1) T.n_isinstance)) (pss_one (ps_ret (pe_tup (pa_cons (pe_xfk (pv 1)) (pa_cons (pe_xfk (pv 1)) pa_nil))))) pss_nil)
  (pss_cons (ps_if (pt_val (pe_isE R.gG (pv 1) T.n_isinstance)) (pss_one (ps_ret (pe_tup (pa_cons pe_str (pa_cons (pe_xfk (pv 1)) pa_nil))))) pss_nil)
  (pss_cons (ps_if (pt_val (pe_isE R.gN (pv 1) T.n_isinstance)) (pss_one (ps_ret (pe_tup (pa_cons pe_str (pa_cons (pe_xfk (pv 1)) pa_nil))))) pss_nil)
  (pss_one (ps_ret (pe_ifExp (pt_val (pe_isE R.gB (pv 1) T.n_isinstance)) (pe_tup (pa_cons pe_str (pa_cons (pe_xfk (pv 1)) pa_nil))) (pe_ifExp (pt_cmpR op_isN (pv 1) pe_non (nomark _)) pe_non pe_str)))))))), ?_⟩
  · refine ⟨fun pins s' σ H' D I h' => ?_⟩
    exact (pss_one (ps_expr (act W pn xe _ _ tk))).run pins s' σ H' D I h'
  · refine ⟨rfl, hc, h _ _ (fun cls d H' ⟨o, dd, e1, e2, hdd, k⟩ => ?_) fun v H' hq => ?_⟩
    · subst e1 e2
      have hm : o.cls c ∈ [c.G, c.N, c.T, c.B] := by cases o <;> simp [Out.cls]
      refine ⟨true, (R.ex _ hm).1, fun _ a ha => ⟨_, rfl, fun _ => ?_⟩, fun hb => by cases hb⟩
      have hx := (R.ex _ hm).2
      have nda : dd ≠ a := ne_of_none hdd ha
      have h1 : (upd H' a (ExO a (.ref (o.cls c)) (some dd))) a = some (ExO a (.ref (o.cls c)) (some dd)) := upd_same
      have h2 : (upd H' a (ExO a (.ref (o.cls c)) (some dd))) dd = some (.xd o.fs) := by rw [upd_ne nda]; exact hdd
      have s1 : Same H' (upd H' a (ExO a (.ref (o.cls c)) (some dd))) := same_up ha
      generalize (upd H' a (ExO a (.ref (o.cls c)) (some dd))) = H1 at h1 h2 s1 ⊢
      obtain ⟨n1, n2, n3, n4, n5, n6⟩ := R.nd
      have kT := R.kk _ hm c.T (by simp)
      have kG := R.kk _ hm c.G (by simp)
      have kN := R.kk _ hm c.N (by simp)
      have kB := R.kk _ hm c.B (by simp)
      cases o with
      | many wh m =>
        refine ⟨_, rfl, .inr ⟨a, _, dd, _, _, rfl, h1, h2, hx, kT, _, rfl, if_t (decide_eq_true rfl) ?_⟩⟩
        exact ⟨_, rfl, a, _, dd, _, _, rfl, h1, h2, hx, R.f1, rfl, _, rfl, a, _, dd, _, _, rfl, h1, h2, hx, R.f2, rfl, (by show 2 ≤ sizeLine; decide), fun p hp => k p _ (s1.trans (same_up hp)) upd_same⟩
      | graph z =>
        refine ⟨_, rfl, .inr ⟨a, _, dd, _, _, rfl, h1, h2, hx, kT, _, rfl, if_f (decide_eq_false n1.symm) ?_⟩⟩
        refine ⟨_, rfl, .inr ⟨a, _, dd, _, _, rfl, h1, h2, hx, kG, _, rfl, if_t (decide_eq_true rfl) ?_⟩⟩
        exact ⟨_, rfl, a, _, dd, _, _, rfl, h1, h2, hx, R.f3, rfl, (by show 2 ≤ sizeLine; decide), fun p hp => k p _ (s1.trans (same_up hp)) upd_same⟩
      | name z =>
        refine ⟨_, rfl, .inr ⟨a, _, dd, _, _, rfl, h1, h2, hx, kT, _, rfl, if_f (decide_eq_false n2.symm) ?_⟩⟩
        refine ⟨_, rfl, .inr ⟨a, _, dd, _, _, rfl, h1, h2, hx, kG, _, rfl, if_f (decide_eq_false n4.symm) ?_⟩⟩
        refine ⟨_, rfl, .inr ⟨a, _, dd, _, _, rfl, h1, h2, hx, kN, _, rfl, if_t (decide_eq_true rfl) ?_⟩⟩
        exact ⟨_, rfl, a, _, dd, _, _, rfl, h1, h2, hx, R.f4, rfl, (by show 2 ≤ sizeLine; decide), fun p hp => k p _ (s1.trans (same_up hp)) upd_same⟩
      | time z =>
        refine ⟨_, rfl, .inr ⟨a, _, dd, _, _, rfl, h1, h2, hx, kT, _, rfl, if_f (decide_eq_false n3.symm) ?_⟩⟩
        refine ⟨_, rfl, .inr ⟨a, _, dd, _, _, rfl, h1, h2, hx, kG, _, rfl, if_f (decide_eq_false n5.symm) ?_⟩⟩
        refine ⟨_, rfl, .inr ⟨a, _, dd, _, _, rfl, h1, h2, hx, kN, _, rfl, if_f (decide_eq_false n6.symm) ?_⟩⟩
        refine ⟨_, rfl, .inr ⟨a, _, dd, _, _, rfl, h1, h2, hx, kB, _, rfl, if_t (decide_eq_true rfl) ?_⟩⟩
        exact ⟨_, rfl, a, _, dd, _, _, rfl, h1, h2, hx, R.f5, rfl, (by show 2 ≤ sizeLine; decide), fun p hp => k p _ (s1.trans (same_up hp)) upd_same⟩
    · refine ⟨_, rfl, .inl ⟨rfl, R.nk _ (by simp), _, rfl, if_f rfl ?_⟩⟩
      refine ⟨_, rfl, .inl ⟨rfl, R.nk _ (by simp), _, rfl, if_f rfl ?_⟩⟩
      refine ⟨_, rfl, .inl ⟨rfl, R.nk _ (by simp), _, rfl, if_f rfl ?_⟩⟩
      refine ⟨_, rfl, .inl ⟨rfl, R.nk _ (by simp), _, rfl, if_f rfl ?_⟩⟩
      exact ⟨_, rfl, rfl, _, rfl, if_t rfl hq⟩
end
end K53
namespace K53
open PySem L2 RZ Own StX SkE LamX PySem.Spec
def wd (n : Int) : Str := PySem.Str.ofString "e" ++ PySem.Str.ofString (toString n)
def wdN (n : Nat) : Str := wd (n : Int)
theorem wd_ok : ∀ n < 300, WordOk (wdN n) := by unfold WordOk; decide +kernel
theorem wd_nd : ((List.range 300).map wdN).Nodup := by decide +kernel
def stp0 (m : Nat) : Stp := ⟨0, 0, 1, List.replicate m 0⟩
def stp1 (m : Nat) (t : Int) : Stp := ⟨0, 0, t, List.replicate m 1⟩
/-- the steps of a plain graph -/
def plS (m many : Nat) (t : Int) : List Stp := (List.replicate (many - 1) (stp0 m) ++ [stp1 m t]).take many
theorem plS_len (m many : Nat) (t : Int) : (plS m many t).length = many := by
  unfold plS
  rw [List.length_take, List.length_append, List.length_replicate]
  show min many (many - 1 + 1) = many
  omega
theorem plS_mem {m many : Nat} {t : Int} {s : Stp} (h : s ∈ plS m many t) : s = stp0 m ∨ s = stp1 m t := by
  have h' := List.mem_of_mem_take h
  rcases List.mem_append.mp h' with q | q
  · exact .inl (List.eq_of_mem_replicate q)
  · exact .inr (List.mem_singleton.mp q)
theorem plS_time (m many : Nat) (t : Int) (h : 1 ≤ many) : ((plS m many t).map Stp.time).find? (fun t => decide (t ≠ 1)) = if t = 1 then none else some t := by
  have e : plS m many t = List.replicate (many - 1) (stp0 m) ++ [stp1 m t] := by
    unfold plS
    rw [List.take_of_length_le]
    rw [List.length_append, List.length_replicate]
    show many - 1 + 1 ≤ many
    omega
  rw [e, List.map_append, List.find?_append]
  have z : ((List.replicate (many - 1) (stp0 m)).map Stp.time).find? (fun t => decide (t ≠ 1)) = none := List.find?_eq_none.mpr fun x hx => by
    obtain ⟨s, hs, rfl⟩ := List.mem_map.mp hx
    rw [List.eq_of_mem_replicate hs]
    simp [stp0]
  rw [z, Option.none_or]
  show ([t].find? fun t => decide (t ≠ 1)) = _
  by_cases h1 : t = 1
  · rw [if_pos h1, List.find?_cons, decide_eq_false (by simpa using h1)]; rfl
  · rw [if_neg h1, List.find?_cons, decide_eq_true h1]
end K53
namespace K53
open PySem L2 RZ Own StX SkE LamX PySem.Spec
abbrev s__law_plain : Stmt := top 63
theorem sc__law_plain : FnScope ["count", "many", "names", "words", "time", "steps", "events", "step", "word", "name"] ["count", "many", "names", "words", "time"] (defScope s__law_plain) := ⟨rfl, rfl, rfl, by decide +kernel, rfl, by decide +kernel, by decide +kernel⟩
theorem wd_inj {a b : Nat} (ha : a < 300) (hb : b < 300) (h : wdN a = wdN b) : a = b := by
  have h1 : ((List.range 300).map wdN)[a]? = some (wdN a) := by rw [List.getElem?_map, List.getElem?_range ha]; rfl
  have h2 : ((List.range 300).map wdN)[b]? = some (wdN b) := by rw [List.getElem?_map, List.getElem?_range hb]; rfl
  obtain ⟨l1, e1⟩ := List.getElem?_eq_some_iff.mp h1
  obtain ⟨l2, e2⟩ := List.getElem?_eq_some_iff.mp h2
  exact (List.getElem_inj wd_nd).mp (e1.trans (h.trans e2.symm))
theorem merge_new : ∀ (more kvs : List (Key × V)), ((kvs ++ more).map (·.1)).Nodup → mergeK kvs more = kvs ++ more
  | [], kvs, _ => by rw [List.append_nil]; rfl
  | p :: more, kvs, h => by
    have hp : valV kvs p.1 = none := valV_none_of fun hm => by
      rw [List.map_append] at h
      have := (List.nodup_append.mp h).2.2 p.1 hm p.1 List.mem_cons_self
      exact this rfl
    show mergeK (putK kvs p.1 p.2) more = _
    rw [putK_new _ hp]
    have e : kvs ++ p :: more = (kvs ++ [(p.1, p.2)]) ++ more := by rw [List.append_assoc]; rfl
    rw [e] at h ⊢
    exact merge_new more _ h
section
variable {P : Program} {w : World} {K : PySem.W.Frag} {mg : Str → Option Value} {base : Heap}
theorem Same.sql' {H H' : Hp} {a : Addr} {xs : List V} (e : Same H H') (h : SqL K H a xs) : SqL K H' a xs := by
  rcases h with (h | ⟨o, h⟩) | h
  · exact .inl (.inl (e _ _ h))
  · exact .inl (.inr ⟨o, e _ _ h⟩)
  · exact .inr h
theorem small_log {n : Nat} (h : n < 300) : (n : Int).natAbs.log2 < 1920 := by
  rw [Int.natAbs_natCast]
  refine Nat.lt_of_le_of_lt (Nat.log2_le_self n) (by omega)
theorem str_len_app (a b : Str) : (a ++ b).length = a.length + b.length := by
  show (a.cps ++ b.cps).size = a.cps.size + b.cps.size
  exact Array.size_append
theorem paired_take {α β : Type} {R : α → β → Prop} : ∀ {xs : List α} {ys : List β} (h : Paired R xs ys) (n : Nat), Paired R (xs.take n) (ys.take n)
  | _, _, .nil, n => by rw [List.take_nil, List.take_nil]; exact .nil
  | _, _, .cons h1 t, 0 => .nil
  | _, _, .cons h1 t, n + 1 => .cons h1 (paired_take t n)
theorem rep_getV {n j : Nat} {v : V} (h : j < n) : (List.replicate n v)[j]? = some v := by rw [List.getElem?_replicate, if_pos h]
def spPlain (C : Addr) (K : PySem.W.Frag) : Sp := fun vs H Q _ => ∃ (c : Int) (many : Nat) (aN aW : Addr) (t : Int) (zs : List Str) (ws : List Nat), vs = [.int c, .int (Nat.cast many), .ref aN, .ref aW, .int t] ∧ 1 ≤ c ∧ c ≤ 300 ∧ many ≤ 1200 ∧ SqT K H aN (zs.map V.str) ∧ MeasOk zs ∧
  SqL K H aW (ws.map fun n => V.int (Nat.cast n)) ∧ (∀ n ∈ ws, n < 300) ∧ ws.Nodup ∧ ws.length ≤ 200 ∧ (ws = [] ∨ 1 ≤ many) ∧ 1 ≤ t ∧ t ≤ 1000 ∧
  ∀ (p : Addr) (H' : Hp) (g : Gr), Same H H' → GrAt K C H' p g → GrOk g → g.count = c → g.steps = plS zs.length many t → g.meas = zs → (g.evs.map (·.1)).Perm (ws.map wdN) → Q (.ref p) H'
theorem ok_plain {f C CT : Addr} {fd : FuncData} (F : Fun K "_law_plain" "_law_plain" s__law_plain f fd) (T : Txt K mg) (M_Graph : CDef P w K mg base (L2.CX P w) 6 "Graph" C ["self", "count", "starts", "steps", "measures", "events"] (spGraph C CT K)) :
    FnOk P w K mg base CX0 8 f fd ["count", "many", "names", "words", "time"] (spPlain C K) := by
  refine F.ok sc__law_plain (fun vs H Q E h => ?_) (fun cdv A outer s H vs Q E hr h => ?_)
  · obtain ⟨_, _, _, _, _, _, _, rfl, _⟩ := h; rfl
  · obtain ⟨c, many, aN, aW, t, zs, ws, rfl, c1, c2, hmany, hN, hmo, hW, hw3, hwn, hwl, hwm, t1, t2, k⟩ := h
    refine ⟨_, (pss_cons (ps_set (i := 5) sc__law_plain.nd rfl (Or.inl rfl) (pe_op op_cat (pe_lc (own := [("step", 7)]) (g := gName 7) (tt := tYes) (by rfl) sc__law_plain.nd (pi_range1 (by rfl) T.n_range (pa_cons (pe_op op_sub (pv 1) pe_int) pa_nil)) (blkOk_by (N := ["count", "many", "names", "words", "time", "steps", "events", "step", "word", "name"]) (sc := (defScope s__law_plain)) (by decide +kernel)) (fun _ _ _ _ _ => (pg_name (i := 7) sc__law_plain.nd rfl (Or.inl rfl))) (fun _ _ _ _ _ => pts_nil) (fun _ _ _ _ _ => (pe_tup (pa_cons pe_int (pa_cons pe_int (pa_cons pe_int (pa_cons (pe_callTy (tuple_ofK K) (by rfl) T.n_tuple (by decide +kernel) (pa_cons (pe_lc (own := [("name", 9)]) (g := gName 9) (tt := tYes) (by rfl) sc__law_plain.nd ((pi_tupK K) (pv 2)) (blkOk_by (N := ["count", "many", "names", "words", "time", "steps", "events", "step", "word", "name"]) (sc := (relS _ (defScope s__law_plain))) (by decide +kernel)) (fun _ _ _ _ _ => (pg_name (i := 9) sc__law_plain.nd rfl (Or.inl rfl))) (fun _ _ _ _ _ => pts_nil) (fun _ _ _ _ _ => pe_int)) pa_nil)) pa_nil))))))) (pe_lst (pa_cons (pe_tup (pa_cons pe_int (pa_cons pe_int (pa_cons (pv 4) (pa_cons (pe_callTy (tuple_ofK K) (by rfl) T.n_tuple (by decide +kernel) (pa_cons (pe_lc (own := [("name", 9)]) (g := gName 9) (tt := tYes) (by rfl) sc__law_plain.nd ((pi_tupK K) (pv 2)) (blkOk_by (N := ["count", "many", "names", "words", "time", "steps", "events", "step", "word", "name"]) (sc := (defScope s__law_plain)) (by decide +kernel)) (fun _ _ _ _ _ => (pg_name (i := 9) sc__law_plain.nd rfl (Or.inl rfl))) (fun _ _ _ _ _ => pts_nil) (fun _ _ _ _ _ => pe_int)) pa_nil)) pa_nil))))) pa_nil))))
  (pss_cons (ps_set (i := 6) sc__law_plain.nd rfl (Or.inl rfl) (pe_callTy (call_dictP rfl) (by rfl) T.n_dict (by decide +kernel) (pa_cons (pe_lc (own := [("word", 8)]) (g := gName 8) (tt := tYes) (by rfl) sc__law_plain.nd ((pi_listK K) (pv 3)) (blkOk_by (N := ["count", "many", "names", "words", "time", "steps", "events", "step", "word", "name"]) (sc := (defScope s__law_plain)) (by decide +kernel)) (fun _ _ _ _ _ => (pg_name (i := 8) sc__law_plain.nd rfl (Or.inl rfl))) (fun _ _ _ _ _ => pts_nil) (fun _ _ _ _ _ => (pe_tup (pa_cons (pe_op op_add_str pe_str (pe_callTy call_str_int (by rfl) T.n_str (by decide +kernel) (pa_cons (pv 8) pa_nil))) (pa_cons (pe_tup (pa_cons pe_int pa_nil)) pa_nil))))) pa_nil)))
  (pss_one (ps_ret (pe_mkd M_Graph (hr.mono (by decide)) (passes_call (W := fun _ _ _ _ => False) L2.takes0 fun _ _ _ _ h => h) (pa_cons (pv 0) (pa_cons (pe_tup (pa_cons pe_int pa_nil)) (pa_cons (pe_callTy (tuple_ofK K) (by rfl) T.n_tuple (by decide +kernel) (pa_cons (pe_slice sl_list (pv 5) po_none (po_some (pv 1))) pa_nil)) (pa_cons (pv 2) (pa_cons (pv 6) pa_nil)))))))))), ?_⟩
    have hzl : zs.length ≤ 4 := hmo.1
    refine ⟨_, rfl, _, _, rfl, rfl, ((many : Int) - 1), rfl, by omega, by omega, fun D hD => ?_⟩
    refine lc_it walk_range (fun i H1 => Same H H1 ∧ ∃ rows, H1 D = some (.lst rows) ∧ Paired (StpAt K H1) rows (List.replicate i (stp0 zs.length))) ⟨same_up hD, [], upd_same, .nil⟩ (fun _ _ _ _ => trivial) (fun i x H1 H2 hi ⟨s1, rows, l1, q1⟩ ⟨e, hx⟩ => ?_) fun H1 ⟨s1, rows, l1, q1⟩ => ?_
    · subst e
      have hrl := Paired.length q1
      rw [List.length_replicate] at hrl
      refine ⟨rfl, yes_t ?_⟩
      refine ⟨_, rfl, aN, rfl, ⟨_, Same.sqt s1 hN⟩, fun D2 hD2 => ?_⟩
      refine lc_ys walk_tup (List.replicate zs.length (.int 0)) (by simp) (by rw [List.length_map]; exact Nat.le_of_lt (big_len (by omega))) hD2 (fun H' s' => Same.sqt (s1.trans s') hN) (fun j y H3 H4 R hj s3 ⟨e, hy⟩ kk => ?_) (fun i H x H' h => by rw [h.1]; exact Same.refl _) fun H3 s3 l3 => ?_
      · subst e
        rw [List.length_map] at hj
        exact ⟨rfl, kk _ _ (rep_getV hj) (Same.refl _)⟩
      refine ⟨D2, _, rfl, .inl ⟨SqL.of l3, fun pz hpz => ?_⟩⟩
      refine ⟨(by show 4 ≤ sizeLine; decide), fun pt hpt => ?_⟩
      have s4 : Same H2 (upd (upd H3 pz (.tup (List.replicate zs.length (.int 0)))) pt (.tup [.int 0, .int 0, .int 1, .ref pz])) := (s3.trans (same_up hpz)).trans (same_up hpt)
      have t4 : (upd (upd H3 pz (.tup (List.replicate zs.length (.int 0)))) pt (.tup [.int 0, .int 0, .int 1, .ref pz])) pt = some (.tup [.int 0, .int 0, .int 1, .ref pz]) := upd_same
      have z4 : (upd (upd H3 pz (.tup (List.replicate zs.length (.int 0)))) pt (.tup [.int 0, .int 0, .int 1, .ref pz])) pz = some (.tup (List.replicate zs.length (.int 0))) := by rw [upd_ne (ne_of_none upd_same hpt)]; exact upd_same
      generalize (upd (upd H3 pz (.tup (List.replicate zs.length (.int 0)))) pt (.tup [.int 0, .int 0, .int 1, .ref pz])) = H5 at s4 t4 z4 ⊢
      have l5 := s4 _ _ l1
      have u5 : ∀ cc ys, SqT K H5 cc ys → SqT K (upd H5 D (.lst (rows ++ [.ref pt]))) cc ys := fun cc ys z => sqt_lst l5 z
      refine ⟨rows, l5, by rw [hrl]; exact big_len (by omega), fun b o e => ?_, _, upd_same, ?_⟩
      · rw [upd_ne (ne_of_none e hD)]; exact s4 _ _ (s1 _ _ e)
      · rw [List.replicate_succ']
        refine paired_snoc (Paired.mapP q1 fun _ _ ⟨z, z', z1, z2, z3⟩ => ⟨z, z', z1, u5 _ _ (Same.sqt s4 z2), u5 _ _ (Same.sqt s4 z3)⟩) ⟨pt, pz, rfl, u5 _ _ (SqT.of t4), u5 _ _ (SqT.of ?_)⟩
        rw [z4]
        show some (HO.tup _) = some (HO.tup ((List.replicate zs.length (0 : Int)).map V.int))
        rw [List.map_replicate]
    have hrl := Paired.length q1
    rw [List.length_replicate] at hrl
    refine ⟨_, rfl, _, rfl, aN, rfl, ⟨_, Same.sqt s1 hN⟩, fun D2 hD2 => ?_⟩
    refine lc_ys walk_tup (List.replicate zs.length (.int 1)) (by simp) (by rw [List.length_map]; exact Nat.le_of_lt (big_len (by omega))) hD2 (fun H' s' => Same.sqt (s1.trans s') hN) (fun j y H3 H4 R hj s3 ⟨e, hy⟩ kk => ?_) (fun i H x H' h => by rw [h.1]; exact Same.refl _) fun H3 s3 l3 => ?_
    · subst e
      rw [List.length_map] at hj
      exact ⟨rfl, kk _ _ (rep_getV hj) (Same.refl _)⟩
    refine ⟨D2, _, rfl, .inl ⟨SqL.of l3, fun pz hpz => ?_⟩⟩
    refine ⟨(by show 4 ≤ sizeLine; decide), fun pt hpt => ?_⟩
    have s4 : Same H1 (upd (upd H3 pz (.tup (List.replicate zs.length (.int 1)))) pt (.tup [.int 0, .int 0, .int t, .ref pz])) := (s3.trans (same_up hpz)).trans (same_up hpt)
    have t4 : (upd (upd H3 pz (.tup (List.replicate zs.length (.int 1)))) pt (.tup [.int 0, .int 0, .int t, .ref pz])) pt = some (.tup [.int 0, .int 0, .int t, .ref pz]) := upd_same
    have z4 : (upd (upd H3 pz (.tup (List.replicate zs.length (.int 1)))) pt (.tup [.int 0, .int 0, .int t, .ref pz])) pz = some (.tup (List.replicate zs.length (.int 1))) := by rw [upd_ne (ne_of_none upd_same hpt)]; exact upd_same
    generalize (upd (upd H3 pz (.tup (List.replicate zs.length (.int 1)))) pt (.tup [.int 0, .int 0, .int t, .ref pz])) = H5 at s4 t4 z4 ⊢
    have last : StpAt K H5 (.ref pt) (stp1 zs.length t) := ⟨pt, pz, rfl, SqT.of t4, SqT.of (by rw [z4]; show some (HO.tup _) = some (HO.tup ((List.replicate zs.length (1 : Int)).map V.int)); rw [List.map_replicate])⟩
    refine ⟨(by show 1 ≤ sizeLine; decide), fun pl hpl => ?_⟩
    have s6 : Same H5 (upd H5 pl (.lst [.ref pt])) := same_up hpl
    have l6 : (upd H5 pl (.lst [.ref pt])) pl = some (.lst [.ref pt]) := upd_same
    generalize (upd H5 pl (.lst [.ref pt])) = H6 at s6 l6 ⊢
    have s16 := s4.trans s6
    refine ⟨D, pl, rows, [.ref pt], rfl, rfl, s16 _ _ l1, l6, by rw [hrl]; exact Nat.le_of_lt (big_len (by have : [V.ref pt].length = 1 := rfl; omega)), fun ps hps => ?_⟩
    have s7 : Same H6 (upd H6 ps (.lst (rows ++ [.ref pt]))) := same_up hps
    have l7 : (upd H6 ps (.lst (rows ++ [.ref pt]))) ps = some (.lst (rows ++ [.ref pt])) := upd_same
    generalize (upd H6 ps (.lst (rows ++ [.ref pt]))) = H7 at s7 l7 ⊢
    have s17 := s16.trans s7
    have s07 := s1.trans s17
    have q7 : Paired (StpAt K H7) (rows ++ [.ref pt]) (List.replicate (many - 1) (stp0 zs.length) ++ [stp1 zs.length t]) := by
      have z := paired_snoc (Paired.mapP q1 fun _ _ z => z.mono s17) (last.mono (s6.trans s7))
      rw [show ((many : Int) - 1).toNat = many - 1 by omega] at z
      exact z
    refine ⟨_, rfl, aW, rfl, ⟨_, Same.sql' s07 hW⟩, fun D3 hD3 => ?_⟩
    refine lc_it walk_list (fun i H' => Same H7 H' ∧ ∃ (prs : List Addr) (kvs : List (Key × V)), H' D3 = some (.lst (prs.map V.ref)) ∧ Paired (fun p kv => SqT K H' p [kV kv.1, kv.2]) prs kvs ∧ EvRel K H' kvs ((ws.take i).map fun n => (wdN n, [0]))) ⟨same_up hD3, [], [], upd_same, .nil, .nil⟩ (fun i H' _ ⟨s', _⟩ => Same.sql' (s07.trans s') hW) (fun i x H8 H9 hi ⟨s8, prs, kvs, l8, a8, r8⟩ ⟨e, hx⟩ => ?_) fun H8 ⟨s8, prs, kvs, l8, a8, r8⟩ => ?_
    · subst e
      rw [List.length_map] at hi
      obtain ⟨n, hn, rfl⟩ : ∃ n, ws[i]? = some n ∧ x = .int (Nat.cast n) := by
        rw [List.getElem?_map] at hx
        cases e : ws[i]? with
        | none => rw [e] at hx; cases hx
        | some n => rw [e] at hx; exact ⟨n, rfl, (Option.some.inj hx).symm⟩
      have hn3 := hw3 n (List.mem_of_getElem? hn)
      have hkl := Paired.length r8
      rw [List.length_map, List.length_take] at hkl
      have hpl := Paired.length a8
      have hwk := wd_ok n hn3
      refine ⟨rfl, yes_t ⟨_, rfl, (n : Int), rfl, small_log hn3, _, _, rfl, rfl, ?_, (by show 1 ≤ sizeLine; decide), fun p0 hp0 => ⟨(by show 2 ≤ sizeLine; decide), fun p1 hp1 => ?_⟩⟩⟩
      · have z := hwk.2.1
        have z2 : (wdN n).length = (PySem.Str.ofString "e").length + (PySem.Str.ofString (toString (n : Int))).length := str_len_app _ _
        rw [z2] at z
        exact Nat.le_trans z (by decide)
      · have s9 : Same H9 (upd (upd H9 p0 (.tup [.int 0])) p1 (.tup [.str (wdN n), .ref p0])) := (same_up hp0).trans (same_up hp1)
        have t9 : (upd (upd H9 p0 (.tup [.int 0])) p1 (.tup [.str (wdN n), .ref p0])) p1 = some (.tup [.str (wdN n), .ref p0]) := upd_same
        have z9 : (upd (upd H9 p0 (.tup [.int 0])) p1 (.tup [.str (wdN n), .ref p0])) p0 = some (.tup [.int 0]) := by rw [upd_ne (ne_of_none upd_same hp1)]; exact upd_same
        rw [show PySem.Str.ofString "e" ++ PySem.Str.ofString (toString (n : Int)) = wdN n from rfl]
        generalize (upd (upd H9 p0 (.tup [.int 0])) p1 (.tup [.str (wdN n), .ref p0])) = H10 at s9 t9 z9 ⊢
        have l10 := s9 _ _ l8
        have u10 : ∀ cc ys, SqT K H10 cc ys → SqT K (upd H10 D3 (.lst (prs.map V.ref ++ [.ref p1]))) cc ys := fun cc ys z => sqt_lst l10 z
        refine ⟨prs.map V.ref, l10, by rw [List.length_map, hpl]; exact big_len (by omega), fun b o e => ?_, prs ++ [p1], kvs ++ [(.inr (wdN n), .ref p0)], by rw [upd_same, List.map_append]; rfl, paired_snoc (Paired.mapP a8 fun _ _ z => u10 _ _ (Same.sqt s9 z)) (show SqT K _ p1 [kV (.inr (wdN n)), .ref p0] from u10 _ _ (SqT.of t9)), ?_⟩
        · rw [upd_ne (ne_of_none e hD3)]; exact s9 _ _ (s8 _ _ e)
        · rw [List.take_add_one, hn, List.map_append]
          exact evrel_snoc (r8.mono fun c xs q => u10 _ _ (Same.sqt s9 q)) ⟨rfl, p0, rfl, u10 _ _ (SqT.of z9)⟩
    rw [List.length_map, List.take_length] at r8
    have hes : ((ws.map fun n => (wdN n, ([0] : List Int))).map (·.1)) = ws.map wdN := by rw [List.map_map]; rfl
    have hwd : (ws.map wdN).Nodup := List.pairwise_map.mpr (List.Pairwise.imp_of_mem (fun ha hb hab e => hab (wd_inj (hw3 _ ha) (hw3 _ hb) e)) hwn)
    have hkn : (kvs.map (·.1)).Nodup := by
      rw [evrel_fst r8, hes]
      exact List.pairwise_map.mpr (List.Pairwise.imp (fun hab e => hab (Sum.inr.inj e)) hwd)
    refine ⟨D3, prs, kvs, rfl, SqL.of l8, a8, fun pd hpd => ?_⟩
    rw [merge_new kvs [] hkn, List.nil_append]
    have s11 : Same H8 (upd H8 pd (.dK kvs)) := same_up hpd
    have d11 : (upd H8 pd (.dK kvs)) pd = some (.dK kvs) := upd_same
    generalize (upd H8 pd (.dK kvs)) = H11 at s11 d11 ⊢
    have s711 := s8.trans s11
    refine ⟨_, rfl, (by show 1 ≤ sizeLine; decide), fun p2 hp2 => ?_⟩
    have s12 : Same H11 (upd H11 p2 (.tup [.int 0])) := same_up hp2
    have t12 : (upd H11 p2 (.tup [.int 0])) p2 = some (.tup [.int 0]) := upd_same
    generalize (upd H11 p2 (.tup [.int 0])) = H12 at s12 t12 ⊢
    have s712 := s711.trans s12
    refine ⟨_, rfl, _, rfl, (many : Int), rfl, ps, _, rfl, SqL.of (s712 _ _ l7), fun p3 hp3 => ?_⟩
    have hcut : cutV (rows ++ [V.ref pt]) none (some (many : Int)) = (rows ++ [V.ref pt]).take many := by
      unfold cutV
      rw [HT.sIx_nat]
      show ((rows ++ [V.ref pt]).drop 0).take (min many _ - 0) = _
      rw [List.drop_zero, Nat.sub_zero, ← List.take_take, List.take_length]
    rw [hcut]
    have s13 : Same H12 (upd H12 p3 (.lst ((rows ++ [V.ref pt]).take many))) := same_up hp3
    refine ⟨p3, _, rfl, .inl ⟨SqL.of upd_same, fun p4 hp4 => ?_⟩⟩
    have s14 : Same H12 (upd (upd H12 p3 (.lst ((rows ++ [V.ref pt]).take many))) p4 (.tup ((rows ++ [V.ref pt]).take many))) := s13.trans (same_up hp4)
    have t14 : (upd (upd H12 p3 (.lst ((rows ++ [V.ref pt]).take many))) p4 (.tup ((rows ++ [V.ref pt]).take many))) p4 = some (.tup ((rows ++ [V.ref pt]).take many)) := upd_same
    generalize (upd (upd H12 p3 (.lst ((rows ++ [V.ref pt]).take many))) p4 (.tup ((rows ++ [V.ref pt]).take many))) = H14 at s14 t14 ⊢
    have s714 := s712.trans s14
    have s014 := s07.trans s714
    refine ⟨_, rfl, _, rfl, fun x dx hx hdx hne => ?_⟩
    have s15 : Same H14 (upd (upd H14 dx (.own x)) x (.ins C dx [])) := (same_up hdx).trans (same_up (by rw [upd_ne (Ne.symm hne)]; exact hx))
    have x15 : (upd (upd H14 dx (.own x)) x (.ins C dx [])) x = some (.ins C dx []) := upd_same
    generalize (upd (upd H14 dx (.own x)) x (.ins C dx [])) = H15 at s15 x15 ⊢
    have s015 := s014.trans s15
    have hxH : H x = none := s014.free hx
    have hst : StpsAt K H15 p4 (plS zs.length many t) := ⟨_, SqT.of (s15 _ _ t14), paired_take (Paired.mapP q7 fun _ _ z => z.mono (s714.trans s15)) many⟩
    have hpo : PartsOk c [0] zs (plS zs.length many t) := {
      c1 := c1
      c2 := c2
      so := ⟨⟨List.pairwise_singleton _ _, fun n hn => by rw [List.mem_singleton.mp hn]; exact Int.le_refl 0, by show 1 ≤ sizeLine; decide⟩, fun n hn => by rw [List.mem_singleton.mp hn]; omega⟩
      sn := fun e => by cases e
      mo := hmo
      sl := by rw [plS_len]; exact hmany
      to := fun s hs => by
        rcases plS_mem hs with e | e
        · subst e
          exact ⟨Int.le_refl 0, by show (0 : Int) ≤ c - 1; omega, Int.le_refl 0, by show (0 : Int) ≤ c - 1; omega, by show (1 : Int) ≤ 1; decide, by show (1 : Int) ≤ 1000; decide, List.length_replicate, fun p hp => by rw [List.eq_of_mem_replicate hp]; decide⟩
        · subst e
          exact ⟨Int.le_refl 0, by show (0 : Int) ≤ c - 1; omega, Int.le_refl 0, by show (0 : Int) ≤ c - 1; omega, t1, t2, List.length_replicate, fun p hp => by rw [List.eq_of_mem_replicate hp]; decide⟩ }
    have heo : EvsOk ((plS zs.length many t).length : Nat) (ws.map fun n => (wdN n, ([0] : List Int))) := fun e he => by
      obtain ⟨n, hn, rfl⟩ := List.mem_map.mp he
      refine ⟨wd_ok n (hw3 n hn), ⟨⟨List.pairwise_singleton _ _, fun m hm => by rw [List.mem_singleton.mp hm]; exact Int.le_refl 0, by show 1 ≤ sizeLine; decide⟩, fun m hm => ?_⟩⟩
      rw [List.mem_singleton.mp hm, plS_len]
      rcases hwm with z | z
      · rw [z] at hn; cases hn
      · omega
    refine ⟨x, dx, p2, aN, p4, pd, c, [0], zs, plS zs.length many t, kvs, _, rfl, x15, SqT.of (s15 _ _ (s14 _ _ t12)), Same.sqt s015 hN, hst, hpo, s15 _ _ (s14 _ _ (s12 _ _ d11)), r8.mono fun _ _ z => Same.sqt ((s11.trans s12).trans (s14.trans s15)) z, heo, by rw [hes]; exact hwd, by rw [List.length_map]; omega, fun _ H' es' bt hp' eo' hg3 => ⟨rfl, ?_⟩, fun hes2 => by rw [List.length_map] at hes2; omega⟩
    have fr : Same H H' := fun b o e => bt _ _ (fun z => by rw [z, hxH] at e; cases e) (s015 _ _ e)
    refine k x H' _ fr hg3 ⟨hpo, eo', hp'.nodup_iff.mpr (by rw [hes]; exact hwd), ?_⟩ rfl rfl rfl (by rw [hes] at hp'; exact hp')
    have z := hp'.length_eq
    rw [List.length_map, hes, List.length_map] at z
    show es'.length ≤ 200
    omega
end
end K53
namespace K53
open PySem L2 RZ Own
abbrev s__law_pen : Stmt := top 59
abbrev s__law_draw : Stmt := top 60
abbrev s__law_pick : Stmt := top 61
theorem sc__law_pen : FnScope ["script"] ["script"] (defScope s__law_pen) := ⟨rfl, rfl, rfl, by decide +kernel, rfl, by decide +kernel, by decide +kernel⟩
theorem sc__law_draw : FnScope ["pen", "many", "at", "cell", "mixed", "digit", "great"] ["pen", "many"] (defScope s__law_draw) := ⟨rfl, rfl, rfl, by decide +kernel, rfl, by decide +kernel, by decide +kernel⟩
theorem sc__law_pick : FnScope ["pen", "some"] ["pen", "some"] (defScope s__law_pick) := ⟨rfl, rfl, rfl, by decide +kernel, rfl, by decide +kernel, by decide +kernel⟩
def PenAt (H : Hp) (pen : Addr) (n : Nat) : Prop := ∃ (cl : Addr) (pos buf : Int) (cells : List Int), H pen = some (.lst [.ref cl, .int pos, .int buf]) ∧ H cl = some (.lst (cells.map V.int)) ∧ cl ≠ pen ∧ cells.length ≤ 63 ∧ 0 ≤ pos ∧ pos ≤ n ∧ 0 ≤ buf
section
variable {P : Program} {w : World} {K : PySem.W.Frag} {mg : Str → Option Value} {base : Heap}
def spPen (K : PySem.W.Frag) : Sp := fun vs H Q _ => ∃ (a : Addr) (ns : List Int), vs = [.ref a] ∧ SqL K H a (ns.map V.int) ∧ ∀ p H', Same H H' → H p = none → PenAt H' p 0 → Q (.ref p) H'
theorem ok_pen {f : Addr} {fd : FuncData} (F : Fun K "_law_pen" "_law_pen" s__law_pen f fd) (T : Txt K mg) : FnOk P w K mg base CX0 1 f fd ["script"] (spPen K) := by
  refine F.ok sc__law_pen (fun vs H Q E h => ?_) (fun cdv A outer s H vs Q E hr h => ?_)
  · obtain ⟨_, _, rfl, _⟩ := h; rfl
  · obtain ⟨a, ns, rfl, hS, k⟩ := h
    refine ⟨_, (pss_one (ps_ret (pe_lst (pa_cons (pe_callTy (list_ofK K) (by rfl) T.n_list (by decide +kernel) (pa_cons (pe_slice sl_list (pv 0) po_none (po_some pe_int)) pa_nil)) (pa_cons pe_int (pa_cons pe_int pa_nil)))))), ?_⟩
    refine ⟨_, rfl, 63, rfl, a, _, rfl, hS, fun p hp => ?_⟩
    have hcut : cutV (ns.map V.int) none (some 63) = (ns.take 63).map V.int := by
      unfold cutV
      rw [show (some (63 : Int)) = some ((63 : Nat) : Int) from rfl, HT.sIx_nat]
      show ((ns.map V.int).drop 0).take (min 63 _ - 0) = _
      rw [List.drop_zero, Nat.sub_zero, ← List.take_take, List.take_length, List.map_take]
    rw [hcut]
    refine ⟨p, _, rfl, .inl (SqL.of upd_same), fun q hq => ?_⟩
    refine ⟨(by show 3 ≤ sizeLine; decide), fun r hr' => ?_⟩
    have s1 : Same H (upd H p (.lst ((ns.take 63).map V.int))) := same_up hp
    have s2 := s1.trans (same_up (o := .lst ((ns.take 63).map V.int)) hq)
    have s3 := s2.trans (same_up (o := .lst [.ref q, .int 0, .int 0]) hr')
    refine k r _ s3 (s2.free hr') ⟨q, 0, 0, ns.take 63, upd_same, by rw [upd_ne (ne_of_none upd_same hr')]; exact upd_same, ne_of_none upd_same hr', by rw [List.length_take]; omega, by decide, by decide, by decide⟩
theorem nat_lt {i : Int} (h0 : 0 ≤ i) (h1 : i < 18446744073709551616) : i.natAbs < 2 ^ 64 := by
  have h : (i.natAbs : Int) = i := Int.natAbs_of_nonneg h0
  have h2 : (2 : Nat) ^ 64 = 18446744073709551616 := by decide
  omega
theorem mul_bd {a b c d : Int} (a0 : 0 ≤ a) (a1 : a ≤ b) (c0 : 0 ≤ c) (c1 : c ≤ d) : 0 ≤ a * c ∧ a * c ≤ b * d :=
  ⟨Int.mul_nonneg a0 c0, Int.mul_le_mul a1 c1 c0 (by omega)⟩
def spDraw : Sp := fun vs H Q _ => ∃ pen many n, vs = [.ref pen, .int many] ∧ 0 < many ∧ many < 1073741824 ∧ n ≤ 1000000 ∧ PenAt H pen n ∧ ∀ d H', 0 ≤ d → d < many → But pen H H' → PenAt H' pen (n + 1) → Q (.int d) H'
theorem ok_draw {f : Addr} {fd : FuncData} (F : Fun K "_law_draw" "_law_draw" s__law_draw f fd) (T : Txt K mg) : FnOk P w K mg base CX0 1 f fd ["pen", "many"] spDraw := by
  refine F.ok sc__law_draw (fun vs H Q E h => ?_) (fun cdv A outer s H vs Q E hr h => ?_)
  · obtain ⟨_, _, _, rfl, _⟩ := h; rfl
  · obtain ⟨pen, many, n, rfl, m0, m1, hn, ⟨cl, pos, buf, cells, h1, h2, hne, h3, p0, p1, b0⟩, k⟩ := h
    refine ⟨_, (pss_cons (ps_if (pt_cmpR op_gt (pe_ix (ix_listK K) (pv 0) pe_int (fun _ _ => rfl)) pe_int (nomark _)) (pss_cons (ps_set (i := 5) sc__law_draw.nd rfl (Or.inl rfl) (pe_op op_mod (pe_callTy call_int1 (by rfl) T.n_int (by decide +kernel) (pa_cons (pe_ix (ix_listK K) (pv 0) pe_int (fun _ _ => rfl)) pa_nil)) (pv 1)))
  (pss_cons (ps_asg (pe_op op_fdiv (pe_callTy call_int1 (by rfl) T.n_int (by decide +kernel) (pa_cons (pe_ix (ix_listK K) (pv 0) pe_int (fun _ _ => rfl)) pa_nil)) (pv 1)) (pg_sub (pv 0) pe_int set_list))
  (pss_one (ps_ret (pv 5))))) pss_nil)
  (pss_cons (ps_set (i := 2) sc__law_draw.nd rfl (Or.inl rfl) (pe_ix (ix_listK K) (pv 0) pe_int (fun _ _ => rfl)))
  (pss_cons (ps_asg (pe_op op_add (pv 2) pe_int) (pg_sub (pv 0) pe_int set_list))
  (pss_cons (ps_set (i := 3) sc__law_draw.nd rfl (Or.inl rfl) (pe_op op_add (pe_op op_mul pe_int (pv 2)) pe_int))
  (pss_cons (ps_if (pt_cmpR (neDK K hr.units) (pe_ix (ix_listK K) (pv 0) pe_int (fun _ _ => rfl)) (pe_lst pa_nil) (nomark _)) (pss_one (ps_set (i := 3) sc__law_draw.nd rfl (Or.inl rfl) (pe_ix (ix_listK K) (pe_ix (ix_listK K) (pv 0) pe_int (fun _ _ => rfl)) (pe_op op_mod (pe_callTy call_int1 (by rfl) T.n_int (by decide +kernel) (pa_cons (pv 2) pa_nil)) (pe_callB (lenK K) (by rfl) T.n_len (by decide +kernel) (pa_cons (pe_ix (ix_listK K) (pv 0) pe_int (fun _ _ => rfl)) pa_nil))) (fun _ _ => rfl)))) pss_nil)
  (pss_cons (ps_if (PW.pt (pw_and (pt_cmpR op_lt (pv 2) (pe_callB (lenK K) (by rfl) T.n_len (by decide +kernel) (pa_cons (pe_ix (ix_listK K) (pv 0) pe_int (fun _ _ => rfl)) pa_nil)) (nomark _)) (pw_and1 (pt_cmpR op_ge (pe_callB call_abs (by rfl) T.n_abs (by decide +kernel) (pa_cons (pv 3) pa_nil)) (pe_op op_pow pe_int pe_int) (nomark _))))) (pss_cons (ps_set (i := 6) sc__law_draw.nd rfl (Or.inl rfl) (pe_op op_add (pe_op op_mul pe_int (pe_op op_sub (pe_callB call_abs (by rfl) T.n_abs (by decide +kernel) (pa_cons (pv 3) pa_nil)) (pe_op op_pow pe_int pe_int))) (pe_callTy call_int1 (by rfl) T.n_int (by decide +kernel) (pa_cons (pe_cmpR op_lt (pv 3) pe_int (nomark _)) pa_nil))))
  (pss_cons (ps_asg (pe_op op_fdiv (pe_callTy call_int1 (by rfl) T.n_int (by decide +kernel) (pa_cons (pv 6) pa_nil)) (pv 1)) (pg_sub (pv 0) pe_int set_list))
  (pss_one (ps_ret (pe_op op_mod (pe_callTy call_int1 (by rfl) T.n_int (by decide +kernel) (pa_cons (pv 6) pa_nil)) (pv 1)))))) pss_nil)
  (pss_cons (ps_set (i := 4) sc__law_draw.nd rfl (Or.inl rfl) (pe_op op_add (pe_op op_add (pe_op op_mod (pe_callTy call_int1 (by rfl) T.n_int (by decide +kernel) (pa_cons (pv 3) pa_nil)) pe_int) (pe_op op_mul pe_int (pv 2))) pe_int))
  (pss_cons (ps_set (i := 4) sc__law_draw.nd rfl (Or.inl rfl) (pe_op op_mod (pe_callTy call_int1 (by rfl) T.n_int (by decide +kernel) (pa_cons (pe_op op_pow (pv 4) pe_int) pa_nil)) pe_int))
  (pss_cons (ps_set (i := 4) sc__law_draw.nd rfl (Or.inl rfl) (pe_op op_add (pe_op op_add (pe_op op_mul (pv 4) (pe_op op_add (pe_op op_mul pe_int (pv 2)) pe_int)) (pe_op op_mul (pe_op op_mul pe_int (pv 2)) (pv 2))) pe_int))
  (pss_cons (ps_set (i := 4) sc__law_draw.nd rfl (Or.inl rfl) (pe_op op_mod (pe_callTy call_int1 (by rfl) T.n_int (by decide +kernel) (pa_cons (pe_op op_pow (pv 4) pe_int) pa_nil)) pe_int))
  (pss_one (ps_ret (pe_op op_mod (pe_callTy call_int1 (by rfl) T.n_int (by decide +kernel) (pa_cons (pe_op op_fdiv (pv 4) pe_int) pa_nil)) (pv 1)))))))))))))), ?_⟩
    refine ⟨_, rfl, pen, _, 2, _, rfl, rfl, SqL.of h1, rfl, _, _, rfl, rfl, _, rfl, ?_⟩
    by_cases hb : 0 < buf
    · refine if_t (decide_eq_true hb) ?_
      refine ⟨_, rfl, pen, _, 2, _, rfl, rfl, SqL.of h1, rfl, .inl ⟨_, rfl, _, rfl, _, _, rfl, rfl, m0, ?_⟩⟩
      refine ⟨_, rfl, pen, _, 2, _, rfl, rfl, SqL.of h1, rfl, .inl ⟨_, rfl, _, rfl, _, _, rfl, rfl, ⟨m0, m1⟩, _, rfl, pen, _, 2, 2, rfl, rfl, h1, rfl, ?_⟩⟩
      refine ⟨_, rfl, k _ _ (Int.emod_nonneg _ (Int.ne_of_gt m0)) (Int.emod_lt_of_pos _ m0) (fun b o e q => by rw [upd_ne e]; exact q) ⟨cl, pos, buf / many, cells, upd_same, by rw [upd_ne hne]; exact h2, hne, h3, p0, by omega, Int.ediv_nonneg (Int.le_of_lt hb) (Int.le_of_lt m0)⟩⟩
    · refine if_f (decide_eq_false hb) ?_
      refine ⟨_, rfl, pen, _, 1, _, rfl, rfl, SqL.of h1, rfl, ?_⟩
      refine ⟨_, rfl, _, _, rfl, rfl, _, rfl, pen, _, 1, 1, rfl, rfl, h1, rfl, ?_⟩
      have g1 : (upd H pen (.lst [.ref cl, .int (pos + 1), .int buf])) pen = some (.lst [.ref cl, .int (pos + 1), .int buf]) := upd_same
      have g2 : (upd H pen (.lst [.ref cl, .int (pos + 1), .int buf])) cl = some (.lst (cells.map V.int)) := by rw [upd_ne hne]; exact h2
      have gb : But pen H (upd H pen (.lst [.ref cl, .int (pos + 1), .int buf])) := fun b o e q => by rw [upd_ne e]; exact q
      refine ⟨_, rfl, _, _, rfl, rfl, .inl ⟨by decide, by decide⟩, _, _, rfl, rfl, ?_⟩
      refine ⟨_, rfl, pen, _, 0, _, rfl, rfl, SqL.of g1, rfl, Nat.zero_le _, fun b hb2 => ?_⟩
      have sb : Same (upd H pen (.lst [.ref cl, .int (pos + 1), .int buf])) (upd (upd H pen (.lst [.ref cl, .int (pos + 1), .int buf])) b (.lst [])) := same_up hb2
      refine ⟨_, _, .lst (SqL.of (sb _ _ g2)) (dpl_ints cells), .lst (SqL.of upd_same) .nil, ints_shaped cells, ints_shaped [], _, rfl, ?_⟩
      have gp : (upd (upd H pen (.lst [.ref cl, .int (pos + 1), .int buf])) b (.lst [])) pen = some (.lst [.ref cl, .int (pos + 1), .int buf]) := sb _ _ g1
      have gc : (upd (upd H pen (.lst [.ref cl, .int (pos + 1), .int buf])) b (.lst [])) cl = some (.lst (cells.map V.int)) := sb _ _ g2
      have bt : But pen H (upd (upd H pen (.lst [.ref cl, .int (pos + 1), .int buf])) b (.lst [])) := gb.same sb
      by_cases hcn : cells = []
      · refine if_f (show (!PyData.eqv (.list (cells.map PyData.int)) (.list [])) = false by rw [ints_nil, decide_eq_true hcn]; rfl) ?_
        refine ⟨_, rfl, _, rfl, pen, _, 0, _, rfl, rfl, SqL.of gp, rfl, _, _, rfl, .inl ⟨_, SqL.of gc, rfl⟩, _, _, rfl, rfl, _, rfl, ?_⟩
        by_cases hlt : pos < (cells.map V.int).length
        · refine if_t (decide_eq_true hlt) ?_
          refine ⟨_, rfl, _, rfl, _, _, rfl, rfl, ⟨by decide, by decide, by decide⟩, _, _, rfl, rfl, _, rfl, ?_⟩
          by_cases hge : (10 : Int) ^ (18 : Int).toNat ≤ (if (51679 * pos + 937) < 0 then -(51679 * pos + 937) else (51679 * pos + 937))
          · refine if_t (decide_eq_true hge) ?_
            have g0 : 0 ≤ 2 * ((if (51679 * pos + 937) < 0 then -(51679 * pos + 937) else (51679 * pos + 937)) - 10 ^ (18 : Int).toNat) + (if decide ((51679 * pos + 937) < 0) = true then 1 else 0) := by
              have : (0 : Int) ≤ (if decide ((51679 * pos + 937) < 0) = true then 1 else 0) := by split <;> decide
              omega
            refine ⟨_, rfl, _, rfl, _, _, rfl, rfl, ⟨by decide, by decide, by decide⟩, _, _, rfl, rfl, _, _, rfl, rfl, .inl ⟨by decide, by decide⟩, _, rfl, _, _, rfl, rfl, .inr ⟨_, rfl, _, _, rfl, rfl, ?_⟩⟩
            refine ⟨_, rfl, .inl ⟨_, rfl, _, rfl, _, _, rfl, rfl, ⟨m0, m1⟩, _, rfl, pen, _, 2, 2, rfl, rfl, gp, rfl, ?_⟩⟩
            exact ⟨_, rfl, .inl ⟨_, rfl, _, rfl, _, _, rfl, rfl, m0, k _ _ (Int.emod_nonneg _ (Int.ne_of_gt m0)) (Int.emod_lt_of_pos _ m0) bt.upd ⟨cl, pos + 1, _, cells, upd_same, by rw [upd_ne hne]; exact gc, hne, h3, by omega, by omega, Int.ediv_nonneg g0 (Int.le_of_lt m0)⟩⟩⟩
          · refine if_f (decide_eq_false hge) ?_
            have a0 := Int.emod_nonneg (51679 * pos + 937) (show (2147483563 : Int) ≠ 0 by decide)
            have a1 := Int.emod_lt_of_pos (51679 * pos + 937) (show (0 : Int) < 2147483563 by decide)
            have x0 : 0 ≤ (((51679 * pos + 937) % 2147483563 + 53407 * pos + 643) ^ (5 : Int).toNat % 2147483497) := Int.emod_nonneg _ (by decide)
            have x1 : (((51679 * pos + 937) % 2147483563 + 53407 * pos + 643) ^ (5 : Int).toNat % 2147483497) < 2147483497 := Int.emod_lt_of_pos _ (by decide)
            have y1 := mul_bd x0 (Int.le_of_lt x1) (show 0 ≤ 2 * pos + 69 by omega) (show 2 * pos + 69 ≤ 3000000 by omega)
            have y2 := mul_bd (show 0 ≤ 50549 * pos by omega) (show 50549 * pos ≤ 50549 * 1000001 by omega) (show 0 ≤ pos by omega) (show pos ≤ 1000001 by omega)
            have w1 : ((51679 * pos + 937) % 2147483563 + 53407 * pos + 643).natAbs < 2 ^ 64 := nat_lt (by omega) (by omega)
            have w2 : ((((51679 * pos + 937) % 2147483563 + 53407 * pos + 643) ^ (5 : Int).toNat % 2147483497) * (2 * pos + 69) + 50549 * pos * pos + 643).natAbs < 2 ^ 64 := nat_lt (by omega) (by omega)
            have w3 : -(2 ^ 64) < (((51679 * pos + 937) % 2147483563 + 53407 * pos + 643) ^ (5 : Int).toNat % 2147483497) ∧ (((51679 * pos + 937) % 2147483563 + 53407 * pos + 643) ^ (5 : Int).toNat % 2147483497) < 2 ^ 64 := ⟨by omega, by omega⟩
            have w4 : -(2 ^ 64) < 50549 * pos ∧ 50549 * pos < 2 ^ 64 := ⟨by omega, by omega⟩
            refine ⟨_, rfl, .inl ⟨_, rfl, _, _, rfl, rfl, (show (0 : Int) < 2147483563 by decide), _, rfl, _, _, rfl, rfl, .inl ⟨by decide, by decide⟩, _, _, rfl, rfl, _, _, rfl, rfl, ?_⟩⟩
            refine ⟨_, rfl, _, _, rfl, rfl, ⟨by decide, by decide, w1⟩, .inl ⟨_, rfl, _, _, rfl, rfl, (show (0 : Int) < 2147483497 by decide), ?_⟩⟩
            refine ⟨_, rfl, _, rfl, _, _, rfl, rfl, .inl ⟨by decide, by decide⟩, _, _, rfl, rfl, _, _, rfl, rfl, .inl w3, _, rfl, _, _, rfl, rfl, .inl ⟨by decide, by decide⟩, _, rfl, _, _, rfl, rfl, .inl w4, _, _, rfl, rfl, _, _, rfl, rfl, ?_⟩
            refine ⟨_, rfl, _, _, rfl, rfl, ⟨by decide, by decide, w2⟩, .inl ⟨_, rfl, _, _, rfl, rfl, (show (0 : Int) < 2147483629 by decide), ?_⟩⟩
            exact ⟨_, rfl, _, _, rfl, rfl, ⟨by decide, by decide⟩, .inl ⟨_, rfl, _, rfl, _, _, rfl, rfl, m0, k _ _ (Int.emod_nonneg _ (Int.ne_of_gt m0)) (Int.emod_lt_of_pos _ m0) bt ⟨cl, pos + 1, buf, cells, gp, gc, hne, h3, by omega, by omega, b0⟩⟩⟩
        · refine if_f (decide_eq_false hlt) (if_f rfl ?_)
          have a0 := Int.emod_nonneg (51679 * pos + 937) (show (2147483563 : Int) ≠ 0 by decide)
          have a1 := Int.emod_lt_of_pos (51679 * pos + 937) (show (0 : Int) < 2147483563 by decide)
          have x0 : 0 ≤ (((51679 * pos + 937) % 2147483563 + 53407 * pos + 643) ^ (5 : Int).toNat % 2147483497) := Int.emod_nonneg _ (by decide)
          have x1 : (((51679 * pos + 937) % 2147483563 + 53407 * pos + 643) ^ (5 : Int).toNat % 2147483497) < 2147483497 := Int.emod_lt_of_pos _ (by decide)
          have y1 := mul_bd x0 (Int.le_of_lt x1) (show 0 ≤ 2 * pos + 69 by omega) (show 2 * pos + 69 ≤ 3000000 by omega)
          have y2 := mul_bd (show 0 ≤ 50549 * pos by omega) (show 50549 * pos ≤ 50549 * 1000001 by omega) (show 0 ≤ pos by omega) (show pos ≤ 1000001 by omega)
          have w1 : ((51679 * pos + 937) % 2147483563 + 53407 * pos + 643).natAbs < 2 ^ 64 := nat_lt (by omega) (by omega)
          have w2 : ((((51679 * pos + 937) % 2147483563 + 53407 * pos + 643) ^ (5 : Int).toNat % 2147483497) * (2 * pos + 69) + 50549 * pos * pos + 643).natAbs < 2 ^ 64 := nat_lt (by omega) (by omega)
          have w3 : -(2 ^ 64) < (((51679 * pos + 937) % 2147483563 + 53407 * pos + 643) ^ (5 : Int).toNat % 2147483497) ∧ (((51679 * pos + 937) % 2147483563 + 53407 * pos + 643) ^ (5 : Int).toNat % 2147483497) < 2 ^ 64 := ⟨by omega, by omega⟩
          have w4 : -(2 ^ 64) < 50549 * pos ∧ 50549 * pos < 2 ^ 64 := ⟨by omega, by omega⟩
          refine ⟨_, rfl, .inl ⟨_, rfl, _, _, rfl, rfl, (show (0 : Int) < 2147483563 by decide), _, rfl, _, _, rfl, rfl, .inl ⟨by decide, by decide⟩, _, _, rfl, rfl, _, _, rfl, rfl, ?_⟩⟩
          refine ⟨_, rfl, _, _, rfl, rfl, ⟨by decide, by decide, w1⟩, .inl ⟨_, rfl, _, _, rfl, rfl, (show (0 : Int) < 2147483497 by decide), ?_⟩⟩
          refine ⟨_, rfl, _, rfl, _, _, rfl, rfl, .inl ⟨by decide, by decide⟩, _, _, rfl, rfl, _, _, rfl, rfl, .inl w3, _, rfl, _, _, rfl, rfl, .inl ⟨by decide, by decide⟩, _, rfl, _, _, rfl, rfl, .inl w4, _, _, rfl, rfl, _, _, rfl, rfl, ?_⟩
          refine ⟨_, rfl, _, _, rfl, rfl, ⟨by decide, by decide, w2⟩, .inl ⟨_, rfl, _, _, rfl, rfl, (show (0 : Int) < 2147483629 by decide), ?_⟩⟩
          exact ⟨_, rfl, _, _, rfl, rfl, ⟨by decide, by decide⟩, .inl ⟨_, rfl, _, rfl, _, _, rfl, rfl, m0, k _ _ (Int.emod_nonneg _ (Int.ne_of_gt m0)) (Int.emod_lt_of_pos _ m0) bt ⟨cl, pos + 1, buf, cells, gp, gc, hne, h3, by omega, by omega, b0⟩⟩⟩
      · refine if_t (show (!PyData.eqv (.list (cells.map PyData.int)) (.list [])) = true by rw [ints_nil, decide_eq_false hcn]; rfl) ?_
        have hlp : 0 < cells.length := List.length_pos_iff.mpr hcn
        have hll : (0 : Int) < ((cells.map V.int).length : Nat) := by rw [List.length_map]; omega
        obtain ⟨j, hj⟩ : ∃ j : Nat, pos % ((cells.map V.int).length : Nat) = (j : Int) := ⟨(pos % ((cells.map V.int).length : Nat)).toNat, by have := Int.emod_nonneg pos (Int.ne_of_gt hll); omega⟩
        have hjl : j < cells.length := by
          have := Int.emod_lt_of_pos pos hll
          rw [hj, List.length_map] at this
          omega
        refine ⟨_, rfl, pen, _, 0, _, rfl, rfl, SqL.of gp, rfl, _, rfl, .inl ⟨_, rfl, _, rfl, pen, _, 0, _, rfl, rfl, SqL.of gp, rfl, _, _, rfl, .inl ⟨_, SqL.of gc, rfl⟩, _, _, rfl, rfl, hll, cl, _, _, .int cells[j], rfl, rfl, SqL.of gc, by rw [hj]; exact atI_nat (by rw [List.getElem?_map, List.getElem?_eq_getElem hjl]; rfl), ?_⟩⟩
        generalize cells[j] = cv
        refine ⟨_, rfl, _, rfl, pen, _, 0, _, rfl, rfl, SqL.of gp, rfl, _, _, rfl, .inl ⟨_, SqL.of gc, rfl⟩, _, _, rfl, rfl, _, rfl, ?_⟩
        by_cases hlt : pos < (cells.map V.int).length
        · refine if_t (decide_eq_true hlt) ?_
          refine ⟨_, rfl, _, rfl, _, _, rfl, rfl, ⟨by decide, by decide, by decide⟩, _, _, rfl, rfl, _, rfl, ?_⟩
          by_cases hge : (10 : Int) ^ (18 : Int).toNat ≤ (if cv < 0 then -cv else cv)
          · refine if_t (decide_eq_true hge) ?_
            have g0 : 0 ≤ 2 * ((if cv < 0 then -cv else cv) - 10 ^ (18 : Int).toNat) + (if decide (cv < 0) = true then 1 else 0) := by
              have : (0 : Int) ≤ (if decide (cv < 0) = true then 1 else 0) := by split <;> decide
              omega
            refine ⟨_, rfl, _, rfl, _, _, rfl, rfl, ⟨by decide, by decide, by decide⟩, _, _, rfl, rfl, _, _, rfl, rfl, .inl ⟨by decide, by decide⟩, _, rfl, _, _, rfl, rfl, .inr ⟨_, rfl, _, _, rfl, rfl, ?_⟩⟩
            refine ⟨_, rfl, .inl ⟨_, rfl, _, rfl, _, _, rfl, rfl, ⟨m0, m1⟩, _, rfl, pen, _, 2, 2, rfl, rfl, gp, rfl, ?_⟩⟩
            exact ⟨_, rfl, .inl ⟨_, rfl, _, rfl, _, _, rfl, rfl, m0, k _ _ (Int.emod_nonneg _ (Int.ne_of_gt m0)) (Int.emod_lt_of_pos _ m0) bt.upd ⟨cl, pos + 1, _, cells, upd_same, by rw [upd_ne hne]; exact gc, hne, h3, by omega, by omega, Int.ediv_nonneg g0 (Int.le_of_lt m0)⟩⟩⟩
          · refine if_f (decide_eq_false hge) ?_
            have a0 := Int.emod_nonneg cv (show (2147483563 : Int) ≠ 0 by decide)
            have a1 := Int.emod_lt_of_pos cv (show (0 : Int) < 2147483563 by decide)
            have x0 : 0 ≤ ((cv % 2147483563 + 53407 * pos + 643) ^ (5 : Int).toNat % 2147483497) := Int.emod_nonneg _ (by decide)
            have x1 : ((cv % 2147483563 + 53407 * pos + 643) ^ (5 : Int).toNat % 2147483497) < 2147483497 := Int.emod_lt_of_pos _ (by decide)
            have y1 := mul_bd x0 (Int.le_of_lt x1) (show 0 ≤ 2 * pos + 69 by omega) (show 2 * pos + 69 ≤ 3000000 by omega)
            have y2 := mul_bd (show 0 ≤ 50549 * pos by omega) (show 50549 * pos ≤ 50549 * 1000001 by omega) (show 0 ≤ pos by omega) (show pos ≤ 1000001 by omega)
            have w1 : (cv % 2147483563 + 53407 * pos + 643).natAbs < 2 ^ 64 := nat_lt (by omega) (by omega)
            have w2 : (((cv % 2147483563 + 53407 * pos + 643) ^ (5 : Int).toNat % 2147483497) * (2 * pos + 69) + 50549 * pos * pos + 643).natAbs < 2 ^ 64 := nat_lt (by omega) (by omega)
            have w3 : -(2 ^ 64) < ((cv % 2147483563 + 53407 * pos + 643) ^ (5 : Int).toNat % 2147483497) ∧ ((cv % 2147483563 + 53407 * pos + 643) ^ (5 : Int).toNat % 2147483497) < 2 ^ 64 := ⟨by omega, by omega⟩
            have w4 : -(2 ^ 64) < 50549 * pos ∧ 50549 * pos < 2 ^ 64 := ⟨by omega, by omega⟩
            refine ⟨_, rfl, .inl ⟨_, rfl, _, _, rfl, rfl, (show (0 : Int) < 2147483563 by decide), _, rfl, _, _, rfl, rfl, .inl ⟨by decide, by decide⟩, _, _, rfl, rfl, _, _, rfl, rfl, ?_⟩⟩
            refine ⟨_, rfl, _, _, rfl, rfl, ⟨by decide, by decide, w1⟩, .inl ⟨_, rfl, _, _, rfl, rfl, (show (0 : Int) < 2147483497 by decide), ?_⟩⟩
            refine ⟨_, rfl, _, rfl, _, _, rfl, rfl, .inl ⟨by decide, by decide⟩, _, _, rfl, rfl, _, _, rfl, rfl, .inl w3, _, rfl, _, _, rfl, rfl, .inl ⟨by decide, by decide⟩, _, rfl, _, _, rfl, rfl, .inl w4, _, _, rfl, rfl, _, _, rfl, rfl, ?_⟩
            refine ⟨_, rfl, _, _, rfl, rfl, ⟨by decide, by decide, w2⟩, .inl ⟨_, rfl, _, _, rfl, rfl, (show (0 : Int) < 2147483629 by decide), ?_⟩⟩
            exact ⟨_, rfl, _, _, rfl, rfl, ⟨by decide, by decide⟩, .inl ⟨_, rfl, _, rfl, _, _, rfl, rfl, m0, k _ _ (Int.emod_nonneg _ (Int.ne_of_gt m0)) (Int.emod_lt_of_pos _ m0) bt ⟨cl, pos + 1, buf, cells, gp, gc, hne, h3, by omega, by omega, b0⟩⟩⟩
        · refine if_f (decide_eq_false hlt) (if_f rfl ?_)
          have a0 := Int.emod_nonneg cv (show (2147483563 : Int) ≠ 0 by decide)
          have a1 := Int.emod_lt_of_pos cv (show (0 : Int) < 2147483563 by decide)
          have x0 : 0 ≤ ((cv % 2147483563 + 53407 * pos + 643) ^ (5 : Int).toNat % 2147483497) := Int.emod_nonneg _ (by decide)
          have x1 : ((cv % 2147483563 + 53407 * pos + 643) ^ (5 : Int).toNat % 2147483497) < 2147483497 := Int.emod_lt_of_pos _ (by decide)
          have y1 := mul_bd x0 (Int.le_of_lt x1) (show 0 ≤ 2 * pos + 69 by omega) (show 2 * pos + 69 ≤ 3000000 by omega)
          have y2 := mul_bd (show 0 ≤ 50549 * pos by omega) (show 50549 * pos ≤ 50549 * 1000001 by omega) (show 0 ≤ pos by omega) (show pos ≤ 1000001 by omega)
          have w1 : (cv % 2147483563 + 53407 * pos + 643).natAbs < 2 ^ 64 := nat_lt (by omega) (by omega)
          have w2 : (((cv % 2147483563 + 53407 * pos + 643) ^ (5 : Int).toNat % 2147483497) * (2 * pos + 69) + 50549 * pos * pos + 643).natAbs < 2 ^ 64 := nat_lt (by omega) (by omega)
          have w3 : -(2 ^ 64) < ((cv % 2147483563 + 53407 * pos + 643) ^ (5 : Int).toNat % 2147483497) ∧ ((cv % 2147483563 + 53407 * pos + 643) ^ (5 : Int).toNat % 2147483497) < 2 ^ 64 := ⟨by omega, by omega⟩
          have w4 : -(2 ^ 64) < 50549 * pos ∧ 50549 * pos < 2 ^ 64 := ⟨by omega, by omega⟩
          refine ⟨_, rfl, .inl ⟨_, rfl, _, _, rfl, rfl, (show (0 : Int) < 2147483563 by decide), _, rfl, _, _, rfl, rfl, .inl ⟨by decide, by decide⟩, _, _, rfl, rfl, _, _, rfl, rfl, ?_⟩⟩
          refine ⟨_, rfl, _, _, rfl, rfl, ⟨by decide, by decide, w1⟩, .inl ⟨_, rfl, _, _, rfl, rfl, (show (0 : Int) < 2147483497 by decide), ?_⟩⟩
          refine ⟨_, rfl, _, rfl, _, _, rfl, rfl, .inl ⟨by decide, by decide⟩, _, _, rfl, rfl, _, _, rfl, rfl, .inl w3, _, rfl, _, _, rfl, rfl, .inl ⟨by decide, by decide⟩, _, rfl, _, _, rfl, rfl, .inl w4, _, _, rfl, rfl, _, _, rfl, rfl, ?_⟩
          refine ⟨_, rfl, _, _, rfl, rfl, ⟨by decide, by decide, w2⟩, .inl ⟨_, rfl, _, _, rfl, rfl, (show (0 : Int) < 2147483629 by decide), ?_⟩⟩
          exact ⟨_, rfl, _, _, rfl, rfl, ⟨by decide, by decide⟩, .inl ⟨_, rfl, _, rfl, _, _, rfl, rfl, m0, k _ _ (Int.emod_nonneg _ (Int.ne_of_gt m0)) (Int.emod_lt_of_pos _ m0) bt ⟨cl, pos + 1, buf, cells, gp, gc, hne, h3, by omega, by omega, b0⟩⟩⟩
end
end K53
namespace K53
open PySem L2 RZ Own StX SkE LamX PySem.Spec
/-- all but lists and tables stays -/
def ExtL (H H' : Hp) : Prop := ∀ b o, H b = some o → (∀ ps, o ≠ .tbl ps) → (∀ xs, o ≠ .lst xs) → H' b = some o
theorem ExtL.refl (H : Hp) : ExtL H H := fun _ _ h _ _ => h
theorem ExtL.trans {H H1 H2 : Hp} (a : ExtL H H1) (b : ExtL H1 H2) : ExtL H H2 := fun c o h n m => b c o (a c o h n m) n m
theorem ExtL.ofN {H H' : Hp} (e : ExtN H H') : ExtL H H' := fun b o h n _ => e b o h n
theorem ExtL.ofS {H H' : Hp} (e : Same H H') : ExtL H H' := fun b o h _ _ => e b o h
theorem ExtL.ofB {H H' : Hp} {p : Addr} {xs : List V} (e : But p H H') (h : H p = some (.lst xs)) : ExtL H H' := fun b o q _ m => e b o (fun z => by rw [z, h] at q; cases q; exact m _ rfl) q
theorem PenAt.lst {H : Hp} {p : Addr} {n : Nat} (h : PenAt H p n) : ∃ xs, H p = some (.lst xs) := by
  obtain ⟨_, _, _, _, h1, _⟩ := h
  exact ⟨_, h1⟩
theorem PenAt.monoN {H H' : Hp} {p : Addr} {n : Nat} (h : PenAt H p n) (e : ExtN H H') : PenAt H' p n := by
  obtain ⟨cl, pos, buf, cells, h1, h2, q⟩ := h
  exact ⟨cl, pos, buf, cells, e _ _ h1 (fun _ z => by cases z), e _ _ h2 (fun _ z => by cases z), q⟩
theorem tabs_but {T : List (Addr × Str)} {H H' : Hp} {p : Addr} {xs : List V} (t : Tabs T H) (e : But p H H') (h : H p = some (.lst xs)) : Tabs T H' := fun q hq => by
  obtain ⟨ps, h1, h2, h3⟩ := t q hq
  refine ⟨ps, e _ _ (fun z => by rw [z, h] at h1; cases h1) h1, h2, fun pos cv hc => ?_⟩
  obtain ⟨c, e1, e2⟩ := h3 pos cv hc
  exact ⟨c, e1, e _ _ (fun z => by rw [z, h] at e2; cases e2) e2⟩
section
variable {P : Program} {w : World} {K : PySem.W.Frag} {mg : Str → Option Value} {base : Heap}
theorem sqtL {K : PySem.W.Frag} {H H' : Hp} {a : Addr} {xs : List V} (e : ExtL H H') (h : SqT K H a xs) : SqT K H' a xs := by
  rcases h with (h | ⟨o, h⟩) | h
  · exact .inl (.inl (e _ _ h (fun _ z => by cases z) (fun _ z => by cases z)))
  · exact .inl (.inr ⟨o, e _ _ h (fun _ z => by cases z) (fun _ z => by cases z)⟩)
  · exact .inr h
theorem GrAt.monoL {C : Addr} {H H' : Hp} {a : Addr} {g : Gr} (h : GrAt K C H a g) (e : ExtL H H') : GrAt K C H' a g := by
  obtain ⟨dx, aS, aT, aM, aL, aO, aR, kvs, h1, h2, h3, ⟨vs, h4, h4'⟩, h5, h6, ⟨ts, o1, o2, o3⟩⟩ := h
  exact ⟨dx, aS, aT, aM, aL, aO, aR, kvs, e _ _ h1 (fun _ z => by cases z) (fun _ z => by cases z), sqtL e h2, sqtL e h3, ⟨vs, sqtL e h4, Paired.mapP h4' fun _ _ ⟨a, b, q1, q2, q3⟩ => ⟨a, b, q1, sqtL e q2, sqtL e q3⟩⟩, e _ _ h5 (fun _ z => by cases z) (fun _ z => by cases z), h6.mono fun _ _ q => sqtL e q, ⟨ts, sqtL e o1, o2, fun j t q => sqtL e (o3 j t q)⟩⟩
def spPick (K : PySem.W.Frag) : Sp := fun vs H Q _ => ∃ (pen a : Addr) (xs : List V) (n : Nat), vs = [.ref pen, .ref a] ∧ H a = some (.lst xs) ∧ a ≠ pen ∧ 0 < xs.length ∧ xs.length < 1000 ∧ n ≤ 1000000 ∧ PenAt H pen n ∧ ∀ (d : Nat) (x : V) H', xs[d]? = some x → But pen H H' → PenAt H' pen (n + 1) → Q x H'
theorem ok_pick {f : Addr} {fd : FuncData} (F : Fun K "_law_pick" "_law_pick" s__law_pick f fd) (T : Txt K mg) (D__law_draw : DefOk P w K mg base CX0 1 "_law_draw" ["pen", "many"] spDraw) : FnOk P w K mg base CX0 2 f fd ["pen", "some"] (spPick K) := by
  refine F.ok sc__law_pick (fun vs H Q E h => ?_) (fun cdv A outer s H vs Q E hr h => ?_)
  · obtain ⟨_, _, _, _, rfl, _⟩ := h; rfl
  · obtain ⟨pen, a, xs, n, rfl, ha, hne, h0, h1, hn, hp, k⟩ := h
    refine ⟨_, (pss_one (ps_ret (pe_ix (ix_listK K) (pv 1) (pe_d D__law_draw (hr.mono (by decide)) pass0 (pa_cons (pv 0) (pa_cons (pe_callB (lenK K) (by rfl) T.n_len (by decide +kernel) (pa_cons (pv 1) pa_nil)) pa_nil))) (fun _ _ => rfl)))), ?_⟩
    refine ⟨_, rfl, _, rfl, _, rfl, _, _, rfl, .inl ⟨_, SqL.of ha, rfl⟩, pen, _, n, rfl, by omega, by omega, hn, hp, fun d H' d0 d1 bt hp' => ?_⟩
    obtain ⟨j, rfl⟩ : ∃ j : Nat, d = (j : Int) := ⟨d.toNat, by omega⟩
    have hj : j < xs.length := by omega
    exact ⟨a, _, _, xs[j], rfl, rfl, SqL.of (bt _ _ hne ha), atI_nat (List.getElem?_eq_getElem hj), k j _ H' (List.getElem?_eq_getElem hj) bt hp'⟩
/-- joint(e, ..): the slot holds woven or lockstep -/
structure JointOk (P : Program) (w : World) (K : PySem.W.Frag) (mg : Str → Option Value) (base : Heap) (f0 f1 : Addr) (sp0 sp1 : Sp) : Prop where
  k0 : PySem.W.keepIn K (.ref f0) = true
  k1 : PySem.W.keepIn K (.ref f1) = true
  d0 : ∃ fd, Binds K fd ["one", "other"] [] ∧ KBinds K fd ["one", "other"] ["other", "one"] (fun us ws => match us, ws with | [], [a, b] => [b, a] | _, _ => []) (fun us ws => match us, ws with | [], [a, b] => [b, a] | _, _ => []) ∧ FnOk P w K mg base (L2.CX P w) 10 f0 fd ["one", "other"] sp0
  d1 : ∃ fd, Binds K fd ["one", "other"] [] ∧ KBinds K fd ["one", "other"] ["other", "one"] (fun us ws => match us, ws with | [], [a, b] => [b, a] | _, _ => []) (fun us ws => match us, ws with | [], [a, b] => [b, a] | _, _ => []) ∧ FnOk P w K mg base (L2.CX P w) 10 f1 fd ["one", "other"] sp1
def tJoint (i : Nat) (f0 f1 : Addr) (sp0 sp1 : Sp) (E : XK) (t : TA) : TE := fun σ H Q => (σ[i]? = some (some (.ref f0)) ∧ t σ H fun vs H1 => sp0 vs H1 Q E) ∨ (σ[i]? = some (some (.ref f1)) ∧ t σ H fun vs H1 => sp1 vs H1 Q E)
theorem pe_joint {X : Cx} {i : Nat} {f0 f1 : Addr} {sp0 sp1 : Sp} {E : XK} {x : Str} {p pos : Pos} {e : Expr} {es : List Expr} {t : TA} (J : JointOk X.prog X.w X.K X.mg X.base f0 f1 sp0 sp1) (hr : Room 10 X.A) (hx : Passes (L2.CX X.prog X.w) X E) (ha : PA X (e :: es) t)
    (hN : X.N[i]? = some x := by rfl) (hv : Vis X.env.scope x := by first | exact .inl rfl | exact .inr (.inl rfl) | exact .inr (.inr rfl))
    (hdb : (x == ("__debug__" : Str)) = false := by decide) (hcd : (x == ("__classdict__" : Str)) = false := by decide)
    (he : starEach (e :: es) X.env = (false, eval e X.env) :: starEach es X.env := by rfl) (hpl : (backTo pos (starEach es X.env)).any (·.1) = false := by rfl) : PE X (.Call (.Name x p) (e :: es) [] pos) (tJoint i f0 f1 sp0 sp1 E t) := by
  refine ⟨fun pins s σ H Q I h => ?_⟩
  have ap : ∀ (sp : Sp), (fun (vs : List V) (H1 : Hp) => sp (vs ++ []) H1 Q E) = fun vs H1 => sp vs H1 Q E := fun sp => by
    funext vs H1
    rw [List.append_nil]
  rcases h with ⟨hs, h⟩ | ⟨hs, h⟩
  · obtain ⟨fd, hb, _, F⟩ := J.d0
    refine (pe_callL (i := i) (f := f0) F hr hN hv J.k0 hb .nil hx ha hdb hcd he hpl).run pins s σ H Q I ⟨hs, ?_⟩
    show t σ H (fun vs H1 => sp0 (vs ++ []) H1 Q E)
    rw [ap]
    exact h
  · obtain ⟨fd, hb, _, F⟩ := J.d1
    refine (pe_callL (i := i) (f := f1) F hr hN hv J.k1 hb .nil hx ha hdb hcd he hpl).run pins s σ H Q I ⟨hs, ?_⟩
    show t σ H (fun vs H1 => sp1 (vs ++ []) H1 Q E)
    rw [ap]
    exact h
/-- joint(other=.., one=..) -/
def tJointK (i : Nat) (f0 f1 : Addr) (sp0 sp1 : Sp) (E : XK) (ta tb : TE) : TE := fun σ H Q => (σ[i]? = some (some (.ref f0)) ∧ ta σ H fun a H1 => tb σ H1 fun b H2 => sp0 [b, a] H2 Q E) ∨ (σ[i]? = some (some (.ref f1)) ∧ ta σ H fun a H1 => tb σ H1 fun b H2 => sp1 [b, a] H2 Q E)
theorem pe_jointK {X : Cx} {i : Nat} {f0 f1 : Addr} {sp0 sp1 : Sp} {E : XK} {x : Str} {p pos q1 q2 : Pos} {e1 e2 : Expr} {ta tb : TE} (J : JointOk X.prog X.w X.K X.mg X.base f0 f1 sp0 sp1) (hr : Room 10 X.A) (hx : Passes (L2.CX X.prog X.w) X E) (ha : PE X e1 ta) (hb : PE X e2 tb)
    (hN : X.N[i]? = some x := by rfl) (hv : Vis X.env.scope x := by first | exact .inl rfl | exact .inr (.inl rfl) | exact .inr (.inr rfl))
    (hdb : (x == ("__debug__" : Str)) = false := by decide) (hcd : (x == ("__classdict__" : Str)) = false := by decide) : PE X (.Call (.Name x p) [] [⟨some "other", e1, q1⟩, ⟨some "one", e2, q2⟩] pos) (tJointK i f0 f1 sp0 sp1 E ta tb) := by
  refine ⟨fun pins s σ H Q I h => ?_⟩
  have main : ∀ (f : Addr) (sp : Sp), σ[i]? = some (some (.ref f)) → PySem.W.keepIn X.K (.ref f) = true → (∃ fd, Binds X.K fd ["one", "other"] [] ∧ KBinds X.K fd ["one", "other"] ["other", "one"] (fun us ws => match us, ws with | [], [a, b] => [b, a] | _, _ => []) (fun us ws => match us, ws with | [], [a, b] => [b, a] | _, _ => []) ∧ FnOk X.prog X.w X.K X.mg X.base (L2.CX X.prog X.w) 10 f fd ["one", "other"] sp) →
      (ta σ H fun a H1 => tb σ H1 fun b H2 => sp [b, a] H2 Q E) → wpAny (model X.prog X.w) X.A (eval (.Call (.Name x p) [] [⟨some "other", e1, q1⟩, ⟨some "one", e2, q2⟩] pos) X.env) (EP X pins σ Q) X.xe s := by
    intro f sp hs hk ⟨fd, _, kb, F⟩ ht
    refine wpAny_Call_Name_kw (thn ((pe_var (pos := p) hN hv hdb hcd).run pins s σ H (fun v H1 => v = .ref f ∧ H1 = H) I ⟨.ref f, hs, rfl, rfl⟩) fun u s1 ⟨v, H1, I1, r1, q1⟩ => ?_)
    obtain ⟨rfl, rfl⟩ := q1
    cases r1
    refine PySem.W.callWith_KW0 (h₀ := X.base) I.ok.mod.kin hk rfl ?_ rfl
    refine thn ((pk_cons ha (pk_cons hb pk_nil)).run pos pins s1 σ H1 (fun zs H2 => ∃ a b, zs = [a, b] ∧ sp [b, a] H2 Q E) I1 ?_) fun ws s2 ⟨zs, H2, I2, rz, a, b, ez, q⟩ => ⟨I2.kIn, ?_⟩
    · show ta σ H1 fun a H2 => tb σ H2 fun b H3 => ∃ a' b', [a, b] = [a', b'] ∧ sp [b', a'] H3 Q E
      have e : (fun (a : V) (H2 : Hp) => tb σ H2 fun b H3 => ∃ a' b', [a, b] = [a', b'] ∧ sp [b', a'] H3 Q E) = fun a H2 => tb σ H2 fun b H3 => sp [b, a] H3 Q E := by
        funext a H2
        congr 1
        funext b H3
        exact propext ⟨fun ⟨a', b', e, h⟩ => by cases e; exact h, fun h => ⟨a, b, rfl, h⟩⟩
      rw [e]
      exact ht
    · subst ez
      exact run_fnk (us := []) (vs := []) F hr kb hx I2 .nil rz q
  rcases h with ⟨hs, h⟩ | ⟨hs, h⟩
  · exact main f0 sp0 hs J.k0 J.d0 h
  · exact main f1 sp1 hs J.k1 J.d1 h
end
end K53
namespace K53
open PySem L2 RZ Own StX SkE LamX PySem.Spec
section
variable {P : Program} {w : World} {K : PySem.W.Frag} {mg : Str → Option Value} {base : Heap}
/-- _law_heard, as callers use it -/
structure HeardFn (K : PySem.W.Frag) (mg : Str → Option Value) (c : Cs) : Prop where
  R : HeardC K mg c
  ex : ∃ (g : Addr) (fd : FuncData), mg "_law_heard" = some (.ref g) ∧ Fun K "_law_heard" "_law_heard" s__law_heard g fd ∧ Binds K fd ["ask"] []
theorem pe_heard {X : Cx} {c : Cs} {Tb : List (Addr × Str)} {cA : Addr} {q : Str} {params : Arguments} {body : Expr} {scope : Scope} {t : XK → TE} {p lpos pos : Pos}
    (HO : HeardFn K mg c) (LT : LamTab Tb base mg cA q) (hr : Room 12 X.A) (ok : BlkOk X.N X.env.scope scope []) (hN : X.N.Nodup) (hco : scope.isCoroutine = false) (hgen : scope.isGenerator = false) (hdef : defaultsOf params X.env = ([], []))
    (hbind : ∀ (q : Str) (cl : List (Str × Addr)) (pm cv ctv : Value), bindArgs (PySem.W.kla_fn "<lambda>" q params body scope cl pm cv ctv) ⟨[], []⟩ = pure [])
    (hbody : ∀ (A : Around) (outer : List Env) (s : Shared) (H : Hp) (E : XK) (f c' : Addr), Room 10 (A.deeper (lamEnvP X scope s.heap.objs.size f c')) → PE (lamCxP X A outer s H E scope f c') body (t E))
    (hK : X.K = K := by rfl) (hM : X.mg = mg := by rfl) (hB : X.base = base := by rfl) (hcode : X.env.code = .ref cA := by rfl) (hq : X.env.qual ++ "<lambda>" = q := by rfl) (hg : Gl X "_law_heard" := by rfl) :
    PE X (.Call (.Name "_law_heard" p) [.Lambda params body scope lpos] [] pos) (tLamH Tb (TTheard c) t) := by
  subst hK hM hB hq
  obtain ⟨PT, TB, hmT, hu⟩ := LT
  obtain ⟨g, fd, gm, F, hb⟩ := HO.ex
  have hkp := F.kp
  obtain ⟨oc, od, kV, doc, pm, an, cdv, ct, osl, rfl, lk, hcd⟩ := F.ex
  exact pe_lamcall0 (k := 10) hg gm hkp lk hcd hb sc__law_heard rfl (.inl rfl) (heard_gives rfl rfl HO.R) TB hcode hmT hu hr ok hN hco hgen hdef hbind hbody
/-! ### what is heard of a join -/
theorem exO.n {c : Cs} {Q : VK} {E : XK} {Tb : List (Addr × Str)} {H : Hp} (o : Out) (h : ∀ cls d H', exO c Q cls d H' → E cls d H')
    (k : ∀ (p : Addr) (H' : Hp), ExtN H H' → Tabs Tb H' → H' p = some (.tup o.val) → Q (.ref p) H') : exN E Tb (o.cls c) H o.fs := fun d H' e t hd => by
  refine h _ _ _ ⟨o, d, rfl, rfl, hd, fun p H'' s hp => k p H'' (e.trans (ExtN.of s)) (t.ext s) hp⟩
/-- the answers of a join, up to a graph -/
def resOf (n : Nat) (g g2 : Gr) : Option Out :=
  if 4 < g.meas.length + g2.meas.length then some (.many "measures" 4) else if 300 < g.count * g2.count then some (.many "states" 300) else if 1200 < n then some (.many "steps" 1200) else none
def wovenOf (g g2 : Gr) : Option Out := match firstIn g.meas g2.meas with
  | some z => some (.name z)
  | none => resOf (g.steps.length * g2.count.toNat + g2.steps.length * g.count.toNat) g g2
def lockOf (g g2 : Gr) : Option Out := match firstIn g.meas g2.meas with
  | some z => some (.name z)
  | none => match firstTime g g2 with
    | some t => some (.time t)
    | none => resOf (g.steps.length * g2.steps.length) g g2
/-- what the law hears: o, a new tuple; None when o is none -/
def Says (K : PySem.W.Frag) (Tb : List (Addr × Str)) (H : Hp) (o : Option Out) (v : V) (H' : Hp) : Prop := ExtN H H' ∧ Tabs Tb H' ∧ match o with
  | some o => ∃ p, v = .ref p ∧ SqT K H' p o.val
  | none => v = .non
/-- a refusal by a stated outcome -/
theorem joinRes.out {c : Cs} {C : Addr} {Tb : List (Addr × Str)} {n : Nat} {g g2 : Gr} {H : Hp} {Q N : VK} {E : XK} {o : Out} (h : ∀ cls d H', exO c Q cls d H' → E cls d H') (e : resOf n g g2 = some o)
    (k : ∀ v H', Says K Tb H (some o) v H' → Q v H') : joinRes C c.T K Tb n g g2 H N E := by
  have kk : exN E Tb (o.cls c) H o.fs := exO.n o h fun p H' e t hp => k _ H' ⟨e, t, p, rfl, SqT.of hp⟩
  unfold resOf at e
  refine ⟨fun q => ?_, fun q1 q2 => ?_, fun q1 q2 q3 => ?_, fun q1 q2 q3 => ?_⟩
  · rw [if_pos q] at e
    cases e
    exact kk
  · rw [if_neg (by omega), if_pos q2] at e
    cases e
    exact kk
  · rw [if_neg (by omega), if_neg (by omega), if_pos q3] at e
    cases e
    exact kk
  · rw [if_neg (by omega), if_neg (by omega), if_neg (by omega)] at e
    cases e
theorem woven_out {c : Cs} {C : Addr} {Tb : List (Addr × Str)} {a b : Addr} {g g2 : Gr} {H : Hp} {Q N : VK} {E : XK} {o : Out} (t : Tabs Tb H) (h1 : GrAt K C H a g) (go : GrOk g) (h2 : GrAt K C H b g2) (go2 : GrOk g2) (e : wovenOf g g2 = some o)
    (h : ∀ cls d H', exO c Q cls d H' → E cls d H') (k : ∀ v H', Says K Tb H (some o) v H' → Q v H') : spWoven C c.G c.N c.T K Tb [.ref a, .ref b] H N E := by
  have kk : exN E Tb (o.cls c) H o.fs := exO.n o h fun p H' e t hp => k _ H' ⟨e, t, p, rfl, SqT.of hp⟩
  unfold wovenOf at e
  refine ⟨_, _, rfl, t, .inr ⟨a, g, rfl, h1, go, .inr ⟨b, g2, rfl, h2, go2, fun z hz => ?_, fun hz => ?_⟩⟩⟩
  · rw [hz] at e
    cases e
    exact kk
  · rw [hz] at e
    exact joinRes.out h e k
theorem lock_out {c : Cs} {C : Addr} {Tb : List (Addr × Str)} {a b : Addr} {g g2 : Gr} {H : Hp} {Q N : VK} {E : XK} {o : Out} (t : Tabs Tb H) (h1 : GrAt K C H a g) (go : GrOk g) (h2 : GrAt K C H b g2) (go2 : GrOk g2) (e : lockOf g g2 = some o)
    (h : ∀ cls d H', exO c Q cls d H' → E cls d H') (k : ∀ v H', Says K Tb H (some o) v H' → Q v H') : spLock C c.G c.N c.T c.B K Tb [.ref a, .ref b] H N E := by
  have kk : exN E Tb (o.cls c) H o.fs := exO.n o h fun p H' e t hp => k _ H' ⟨e, t, p, rfl, SqT.of hp⟩
  unfold lockOf at e
  refine ⟨_, _, rfl, t, .inr ⟨a, g, rfl, h1, go, .inr ⟨b, g2, rfl, h2, go2, fun z hz => ?_, fun hz => ⟨fun u hu => ?_, fun hu => ?_⟩⟩⟩⟩
  · rw [hz] at e
    cases e
    exact kk
  · rw [hz] at e
    simp only [hu] at e
    cases e
    exact kk
  · rw [hz] at e
    simp only [hu] at e
    exact joinRes.out h e k
theorem res_none {n : Nat} {g g2 : Gr} (e : resOf n g g2 = none) : g.meas.length + g2.meas.length ≤ 4 ∧ g.count * g2.count ≤ 300 ∧ n ≤ 1200 := by
  unfold resOf at e
  by_cases h1 : 4 < g.meas.length + g2.meas.length
  · rw [if_pos h1] at e; cases e
  · rw [if_neg h1] at e
    by_cases h2 : 300 < g.count * g2.count
    · rw [if_pos h2] at e; cases e
    · rw [if_neg h2] at e
      by_cases h3 : 1200 < n
      · rw [if_pos h3] at e; cases e
      · omega
/-- what a join that fits gives -/
def Fits (C : Addr) (K : PySem.W.Frag) (Tb : List (Addr × Str)) (n : Nat) (g g2 : Gr) (H : Hp) (Q : VK) (E : XK) (CT : Addr) : Prop :=
  (∀ es : List Str, es.Nodup → uni es g g2 → 200 < es.length → exN E Tb CT H [("most", .int 200), ("what", .str "events")]) ∧
    (∀ (p : Addr) (H' : Hp) (g3 : Gr), ExtN H H' → Tabs Tb H' → GrAt K C H' p g3 → GrOk g3 → g3.count = g.count * g2.count → g3.steps.length = n → g3.meas.Perm (g.meas ++ g2.meas) → uni (g3.evs.map (·.1)) g g2 → Q (.ref p) H')
theorem joinRes.fits {CT : Addr} {C : Addr} {Tb : List (Addr × Str)} {n : Nat} {g g2 : Gr} {H : Hp} {Q : VK} {E : XK} (e : resOf n g g2 = none) (k : Fits C K Tb n g g2 H Q E CT) : joinRes C CT K Tb n g g2 H Q E := by
  obtain ⟨h1, h2, h3⟩ := res_none e
  exact ⟨fun q => by omega, fun _ q => by omega, fun _ _ q => by omega, fun _ _ _ => k⟩
theorem woven_fit {c : Cs} {C : Addr} {Tb : List (Addr × Str)} {a b : Addr} {g g2 : Gr} {H : Hp} {Q : VK} {E : XK} (t : Tabs Tb H) (h1 : GrAt K C H a g) (go : GrOk g) (h2 : GrAt K C H b g2) (go2 : GrOk g2) (e : wovenOf g g2 = none)
    (k : Fits C K Tb (g.steps.length * g2.count.toNat + g2.steps.length * g.count.toNat) g g2 H Q E c.T) : spWoven C c.G c.N c.T K Tb [.ref a, .ref b] H Q E := by
  unfold wovenOf at e
  refine ⟨_, _, rfl, t, .inr ⟨a, g, rfl, h1, go, .inr ⟨b, g2, rfl, h2, go2, fun z hz => ?_, fun hz => ?_⟩⟩⟩
  · rw [hz] at e
    cases e
  · rw [hz] at e
    exact joinRes.fits e k
theorem lock_fit {c : Cs} {C : Addr} {Tb : List (Addr × Str)} {a b : Addr} {g g2 : Gr} {H : Hp} {Q : VK} {E : XK} (t : Tabs Tb H) (h1 : GrAt K C H a g) (go : GrOk g) (h2 : GrAt K C H b g2) (go2 : GrOk g2) (e : lockOf g g2 = none)
    (k : Fits C K Tb (g.steps.length * g2.steps.length) g g2 H Q E c.T) : spLock C c.G c.N c.T c.B K Tb [.ref a, .ref b] H Q E := by
  unfold lockOf at e
  refine ⟨_, _, rfl, t, .inr ⟨a, g, rfl, h1, go, .inr ⟨b, g2, rfl, h2, go2, fun z hz => ?_, fun hz => ⟨fun u hu => ?_, fun hu => ?_⟩⟩⟩⟩
  · rw [hz] at e
    cases e
  · rw [hz] at e
    simp only [hu] at e
    cases e
  · rw [hz] at e
    simp only [hu] at e
    exact joinRes.fits e k
/-! ### what is compared -/
def Out.data : Out → PyData
  | .many wh m => .tuple [.str wh, .int m]
  | .graph p => .tuple [.str "graph", .str p]
  | .name z => .tuple [.str "name", .str z]
  | .time t => .tuple [.str "time", .int t]
theorem Out.dp {H : Hp} {p : Addr} {o : Out} (h : SqT K H p o.val) : Dp K H (.ref p) o.data := by
  cases o <;> exact .tup h (.cons (.str _) (.cons (by first | exact .int _ | exact .str _) .nil))
def odata : Option Out → PyData
  | some o => o.data
  | none => .none
theorem Says.dp {Tb : List (Addr × Str)} {H H' : Hp} {o : Option Out} {v : V} (h : Says K Tb H o v H') : Dp K H' v (odata o) := by
  obtain ⟨_, _, h⟩ := h
  cases o with
  | none => rw [show v = .non from h]; exact .non
  | some o =>
    obtain ⟨p, rfl, hp⟩ := h
    exact Out.dp hp
end
end K53
namespace K53
open PySem L2 RZ Own StX SkE LamX PySem.Spec
abbrev s__law_names_right : Stmt := top 64
theorem sc__law_names_right : FnScope ["pen", "heard", "wide", "one", "other", "joint"] ["pen"] (defScope s__law_names_right) := ⟨rfl, rfl, rfl, by decide +kernel, rfl, by decide +kernel, by decide +kernel⟩
section
variable {P : Program} {w : World} {K : PySem.W.Frag} {mg : Str → Option Value} {base : Heap}
theorem tup_k {K : PySem.W.Frag} {H : Hp} {Q : VK} {xs : List V} (h : xs.length ≤ 1000) (k : ∀ p H', Same H H' → SqT K H' p xs → Q (.ref p) H') : xs.length ≤ sizeLine ∧ ∀ p, H p = none → Q (.ref p) (upd H p (.tup xs)) :=
  ⟨Nat.le_trans h (by decide), fun p hp => k p _ (same_up hp) (SqT.of upd_same)⟩
theorem lst_k {H : Hp} {Q : VK} {xs : List V} (h : xs.length ≤ 1000) (k : ∀ p H', Same H H' → H p = none → H' p = some (.lst xs) → Q (.ref p) H') : xs.length ≤ sizeLine ∧ ∀ p, H p = none → Q (.ref p) (upd H p (.lst xs)) :=
  ⟨Nat.le_trans h (by decide), fun p hp => k p _ (same_up hp) hp upd_same⟩
/-- what is heard of the lambda's body -/
def Hears (K : PySem.W.Frag) (c : Cs) (Tb : List (Addr × Str)) (t : XK → TE) (σ : L2.St) (H : Hp) (o : Option Out) : Prop :=
  ∀ (R : VK) (E : XK) (N : VK), (∀ cls d H', exO c R cls d H' → E cls d H') → (∀ v H', R .non H' → N v H') → (∀ v H', Says K Tb H o v H' → R v H') → t E σ H N
theorem hear {c : Cs} {Tb : List (Addr × Str)} {t : XK → TE} {σ : L2.St} {H : Hp} {o : Option Out} {R : VK} (tab : Tabs Tb H) (h : ∀ H1, ExtN H H1 → Tabs Tb H1 → Hears K c Tb t σ H1 o) (k : ∀ v H', Says K Tb H o v H' → R v H') : tLamH Tb (TTheard c) t σ H R :=
  ⟨tab, fun H1 e1 t1 E N hE hN => h H1 e1 t1 R E N hE hN fun v H' ⟨e, t', q⟩ => k v H' ⟨e1.trans e, t', q⟩⟩
theorem Says.monoN {Tb : List (Addr × Str)} {H H1 H2 : Hp} {o : Option Out} {v : V} (h : Says K Tb H o v H1) (e : ExtN H1 H2) (t : Tabs Tb H2) : Says K Tb H o v H2 := by
  obtain ⟨e1, t1, h⟩ := h
  refine ⟨e1.trans e, t, ?_⟩
  cases o with
  | none => exact h
  | some o =>
    obtain ⟨p, e2, hp⟩ := h
    exact ⟨p, e2, sqtN e hp⟩
/-- [_law_heard(lambda: ..) for joint in (woven, lockstep)]: both times o -/
theorem heard2 {c : Cs} {Tb : List (Addr × Str)} {t : XK → TE} {i : Nat} {vs : List Nat} {σ : L2.St} {H1 : Hp} {D a f0 f1 : Addr} {Qd : Hp → Prop} {o : Option Out} (hD : H1 D = none) (hp : SqT K H1 a [.ref f0, .ref f1]) (tab : Tabs Tb H1)
    (hw : ∀ v, wipe ((wipe σ vs).set i v) vs = wipe σ vs)
    (hs : ∀ f H2, f = f0 ∨ f = f1 → ExtN H1 H2 → Tabs Tb H2 → Hears K c Tb t ((wipe σ vs).set i (some (.ref f))) H2 o)
    (hd : ∀ v1 v2 H, ExtN H1 H → Tabs Tb H → H D = some (.lst [v1, v2]) → Says K Tb H1 o v1 H → Says K Tb H1 o v2 H → Qd H) :
    ∃ W : Nat → Nat → Hp → Prop, (∃ m, W 0 m (upd H1 D (.lst []))) ∧ ∀ j m H, W j m H →
      ((Itt K a).stop j H ∧ Qd H) ∨ ((Itt K a).go j H ∧ ∃ Nx : Hp → Prop, (∀ H', Nx H' → ∃ m', m' < m ∧ W (j + 1) m' H') ∧ ∀ x H', (Itt K a).yld j H x H' → gName i x (wipe σ vs) H' fun σ2 H2 => wipe σ2 vs = wipe σ vs ∧ tYes σ2 H2 fun b H3 =>
        if b = true then tLamH Tb (TTheard c) t σ2 H3 fun y H4 => ∃ acc, H4 D = some (.lst acc) ∧ acc.length < sizeLine ∧ Nx (upd H4 D (.lst (acc ++ [y]))) else Nx H3) := by
  have up : ∀ {H2 : Hp} {xs : List V}, ExtN H1 H2 → ExtN H1 (upd H2 D (.lst xs)) := fun e b u q n => by rw [upd_ne (ne_of_none q hD)]; exact e b u q n
  have upT : ∀ {H2 : Hp} {xs ys : List V}, Tabs Tb H2 → H2 D = some (.lst ys) → Tabs Tb (upd H2 D (.lst xs)) := fun t h => tabs_but t (fun b u n q => by rw [upd_ne n]; exact q) h
  have upS : ∀ {H2 : Hp} {xs ys : List V} {v : V}, Says K Tb H1 o v H2 → H2 D = some (.lst ys) → Says K Tb H1 o v (upd H2 D (.lst xs)) := fun {H2 xs ys v} ⟨e1, t1, q⟩ h => by
    refine ⟨up e1, upT t1 h, ?_⟩
    cases o with
    | none => exact q
    | some o =>
      obtain ⟨p, e2, hp⟩ := q
      exact ⟨p, e2, sqtL (ExtL.ofB (fun b u n q => by rw [upd_ne n]; exact q) h) hp⟩
  refine lc_it (walk_tup (K := K) (a := a) (xs := [.ref f0, .ref f1])) (fun j H => ExtN H1 H ∧ Tabs Tb H ∧ ∃ l : List V, H D = some (.lst l) ∧ l.length = j ∧ ∀ v ∈ l, Says K Tb H1 o v H) ⟨up (ExtN.refl _), tab.ext (same_up hD), [], upd_same, rfl, fun v hv => by cases hv⟩ (fun j H _ ⟨e, _⟩ => sqtN e hp) (fun j x H H' hj ⟨e, t1, l, hl, hll, hv⟩ ⟨e2, hx⟩ => ?_) fun H ⟨e, t1, l, hl, hll, hv⟩ => ?_
  · subst e2
    have hxf : ∃ f, x = .ref f ∧ (f = f0 ∨ f = f1) := by
      match j, hx with
      | 0, hx => exact ⟨f0, (Option.some.inj hx).symm, .inl rfl⟩
      | 1, hx => exact ⟨f1, (Option.some.inj hx).symm, .inr rfl⟩
    obtain ⟨f, rfl, hf⟩ := hxf
    refine ⟨hw _, yes_t (hear t1 (fun H2 e2 t2 => hs f H2 hf (e.trans e2) t2) fun v H3 hsay => ?_)⟩
    have hl3 : H3 D = some (.lst l) := hsay.1 _ _ hl (fun _ z => by cases z)
    refine ⟨l, hl3, by have : j < 2 := hj; exact Nat.lt_of_le_of_lt (show l.length ≤ 2 by omega) (by decide), up (e.trans hsay.1), upT hsay.2.1 hl3, l ++ [v], upd_same, by rw [List.length_append, hll]; rfl, fun u hu => ?_⟩
    rcases List.mem_append.mp hu with q | q
    · exact upS ((hv u q).monoN hsay.1 hsay.2.1) hl3
    · rw [List.mem_singleton.mp q]
      exact upS ⟨e.trans hsay.1, hsay.2⟩ hl3
  · match l, hll with
    | [v1, v2], _ => exact hd v1 v2 H e t1 hl (hv _ (by simp)) (hv _ (by simp))
end
end K53
namespace K53
open PySem L2 RZ Own StX SkE LamX PySem.Spec
section
variable {P : Program} {w : World} {K : PySem.W.Frag} {mg : Str → Option Value} {base : Heap}
def OkO (o : Option Out) : Prop := PyData.canLay0 (odata o) = true
theorem odata_depth (o : Option Out) : PyData.depth (odata o) ≤ 1 := by
  cases o with
  | none => simp [odata, PyData.depth]
  | some o => cases o <;> simp [odata, Out.data, PyData.depth, PyData.depthAll]
theorem outs_lay : ∀ ds : List (Option Out), (∀ o ∈ ds, OkO o) → PyData.canLayAll0 (ds.map odata) = true ∧ PyData.depthAll (ds.map odata) ≤ 1
  | [], _ => by simp [PyData.canLayAll0, PyData.depthAll]
  | d :: ds, h => by
    obtain ⟨h1, h2⟩ := outs_lay ds fun o ho => h o (List.mem_cons_of_mem _ ho)
    have h3 : PyData.canLay0 (odata d) = true := h d List.mem_cons_self
    have h4 := odata_depth d
    simp only [List.map_cons, PyData.canLayAll0, PyData.depthAll, h1, h3, Bool.and_true, true_and]
    exact Nat.max_le.mpr ⟨h4, h2⟩
theorem outs_shaped (ds : List (Option Out)) (h : ∀ o ∈ ds, OkO o) : SeqAt.shaped (.list (ds.map odata)) = true := by
  obtain ⟨h1, h2⟩ := outs_lay ds h
  show (PyData.canLay0 (.list (ds.map odata)) && decide (PyData.depth (.list (ds.map odata)) ≤ 64)) = true
  rw [Bool.and_eq_true]
  refine ⟨by simp only [PyData.canLay0]; exact h1, decide_eq_true ?_⟩
  simp only [PyData.depth]
  omega
theorem out_shaped (o : Option Out) (h : OkO o) : SeqAt.shaped (odata o) = true := by
  show (PyData.canLay0 (odata o) && decide (PyData.depth (odata o) ≤ 64)) = true
  rw [Bool.and_eq_true]
  exact ⟨h, decide_eq_true (Nat.le_trans (odata_depth o) (by decide))⟩
theorem lay_of {d : PyData} (h : SeqAt.shaped d = true) : PyData.canLay0 d = true := by
  have h : (PyData.canLay0 d && decide (PyData.depth d ≤ 64)) = true := h
  rw [Bool.and_eq_true] at h
  exact h.1
theorem eq_same {H : Hp} {Q : VK} {x y : V} {d : PyData} (hx : Dp K H x d) (hy : Dp K H y d) (hs : SeqAt.shaped d = true) (q : Q (.bl true) H) : rEqD K x y H Q :=
  ⟨d, d, hx, hy, hs, hs, by rw [SeqAt.eqv_refl d (lay_of hs)]; exact q⟩
theorem ne_same {H : Hp} {Q : VK} {x y : V} {d : PyData} (hx : Dp K H x d) (hy : Dp K H y d) (hs : SeqAt.shaped d = true) (q : Q (.bl false) H) : rNeD K x y H Q :=
  ⟨d, d, hx, hy, hs, hs, by rw [SeqAt.eqv_refl d (lay_of hs)]; exact q⟩
end
end K53
namespace K53
open PySem L2 RZ Own StX SkE LamX PySem.Spec
section
variable {P : Program} {w : World} {K : PySem.W.Frag} {mg : Str → Option Value} {base : Heap}
instance (z : Str) : Decidable (NameOk z) := by unfold NameOk; infer_instance
instance (zs : List Str) : Decidable (MeasOk zs) := by unfold MeasOk AscS; infer_instance
/-- the graph that _law_plain makes -/
structure PG (g : Gr) (c : Int) (zs : List Str) (many : Nat) (t : Int) (ws : List Nat) : Prop where
  ok : GrOk g
  count : g.count = c
  steps : g.steps = plS zs.length many t
  meas : g.meas = zs
  evs : (g.evs.map (·.1)).Perm (ws.map wdN)
theorem plain_k {C aN aW : Addr} {c : Int} {many : Nat} {t : Int} {zs : List Str} {ws : List Nat} {H : Hp} {Q : VK} {E : XK} (c1 : 1 ≤ c) (c2 : c ≤ 300) (hm : many ≤ 1200) (hN : SqT K H aN (zs.map V.str)) (hmo : MeasOk zs) (hW : SqL K H aW (ws.map fun n => V.int (Nat.cast n)))
    (w1 : ∀ n ∈ ws, n < 300) (w2 : ws.Nodup) (w3 : ws.length ≤ 200) (w4 : ws = [] ∨ 1 ≤ many) (t1 : 1 ≤ t) (t2 : t ≤ 1000) (k : ∀ p H' g, Same H H' → GrAt K C H' p g → PG g c zs many t ws → Q (.ref p) H') :
    spPlain C K [.int c, .int (Nat.cast many), .ref aN, .ref aW, .int t] H Q E :=
  ⟨c, many, aN, aW, t, zs, ws, rfl, c1, c2, hm, hN, hmo, hW, w1, w2, w3, w4, t1, t2, fun p H' g s hg go e1 e2 e3 e4 => k p H' g s hg ⟨go, e1, e2, e3, e4⟩⟩
theorem plain0 {C aN aW : Addr} {c : Int} {many : Nat} {t : Int} {zs : List Str} {H : Hp} {Q : VK} {E : XK} (c1 : 1 ≤ c) (c2 : c ≤ 300) (hm : many ≤ 1200) (hN : SqT K H aN (zs.map V.str)) (hmo : MeasOk zs) (hW : H aW = some (.lst [])) (t1 : 1 ≤ t) (t2 : t ≤ 1000)
    (k : ∀ p H' g, Same H H' → GrAt K C H' p g → PG g c zs many t [] → Q (.ref p) H') : spPlain C K [.int c, .int (Nat.cast many), .ref aN, .ref aW, .int t] H Q E :=
  plain_k (ws := []) c1 c2 hm hN hmo (SqL.of hW) (fun _ z => by cases z) List.nodup_nil (by decide) (.inl rfl) t1 t2 k
theorem joint_k {i : Nat} {f0 f1 f : Addr} {sp0 sp1 : Sp} {E : XK} {t : TA} {σ : L2.St} {H : Hp} {N : VK} (hf : f = f0 ∨ f = f1) (hs : σ[i]? = some (some (.ref f))) (h : ∀ sp, sp = sp0 ∨ sp = sp1 → t σ H fun vs H1 => sp vs H1 N E) : tJoint i f0 f1 sp0 sp1 E t σ H N := by
  rcases hf with rfl | rfl
  · exact .inl ⟨hs, h _ (.inl rfl)⟩
  · exact .inr ⟨hs, h _ (.inr rfl)⟩
theorem join_out {c : Cs} {C : Addr} {Tb : List (Addr × Str)} {a b : Addr} {g g2 : Gr} {H0 H : Hp} {Q N : VK} {E : XK} {o : Out} {sp : Sp} (hsp : sp = spWoven C c.G c.N c.T K Tb ∨ sp = spLock C c.G c.N c.T c.B K Tb) (t : Tabs Tb H) (h1 : GrAt K C H a g) (go : GrOk g) (h2 : GrAt K C H b g2) (go2 : GrOk g2)
    (eW : wovenOf g g2 = some o) (eL : lockOf g g2 = some o) (e0 : Same H0 H) (h : ∀ cls d H', exO c Q cls d H' → E cls d H') (k : ∀ v H', Says K Tb H0 (some o) v H' → Q v H') : sp [.ref a, .ref b] H N E := by
  have k' : ∀ v H', Says K Tb H (some o) v H' → Q v H' := fun v H' ⟨e, t, q⟩ => k v H' ⟨(ExtN.of e0).trans e, t, q⟩
  rcases hsp with rfl | rfl
  · exact woven_out t h1 go h2 go2 eW h k'
  · exact lock_out t h1 go h2 go2 eL h k'
theorem join_fit {c : Cs} {C : Addr} {Tb : List (Addr × Str)} {a b : Addr} {g g2 : Gr} {H : Hp} {Q : VK} {E : XK} {sp : Sp} (hsp : sp = spWoven C c.G c.N c.T K Tb ∨ sp = spLock C c.G c.N c.T c.B K Tb) (t : Tabs Tb H) (h1 : GrAt K C H a g) (go : GrOk g) (h2 : GrAt K C H b g2) (go2 : GrOk g2)
    (eW : wovenOf g g2 = none) (eL : lockOf g g2 = none) (k1 : ∀ es : List Str, es.Nodup → uni es g g2 → 200 < es.length → exN E Tb c.T H [("most", .int 200), ("what", .str "events")])
    (k2 : ∀ (p : Addr) (H' : Hp) (g3 : Gr), ExtN H H' → Tabs Tb H' → GrAt K C H' p g3 → GrOk g3 → uni (g3.evs.map (·.1)) g g2 → Q (.ref p) H') : sp [.ref a, .ref b] H Q E := by
  rcases hsp with rfl | rfl
  · exact woven_fit t h1 go h2 go2 eW ⟨k1, fun p H' g3 e t' a1 a2 _ _ _ a3 => k2 p H' g3 e t' a1 a2 a3⟩
  · exact lock_fit t h1 go h2 go2 eL ⟨k1, fun p H' g3 e t' a1 a2 _ _ _ a3 => k2 p H' g3 e t' a1 a2 a3⟩
theorem wName {g g2 : Gr} {z : Str} (h : firstIn g.meas g2.meas = some z) : wovenOf g g2 = some (.name z) := by unfold wovenOf; rw [h]
theorem lName {g g2 : Gr} {z : Str} (h : firstIn g.meas g2.meas = some z) : lockOf g g2 = some (.name z) := by unfold lockOf; rw [h]
theorem wRes {g g2 : Gr} (h : firstIn g.meas g2.meas = none) : wovenOf g g2 = resOf (g.steps.length * g2.count.toNat + g2.steps.length * g.count.toNat) g g2 := by unfold wovenOf; rw [h]
theorem lRes {g g2 : Gr} (h : firstIn g.meas g2.meas = none) (ht : firstTime g g2 = none) : lockOf g g2 = resOf (g.steps.length * g2.steps.length) g g2 := by unfold lockOf; rw [h]; simp only [ht]
theorem lTime {g g2 : Gr} {t : Int} (h : firstIn g.meas g2.meas = none) (ht : firstTime g g2 = some t) : lockOf g g2 = some (.time t) := by unfold lockOf; rw [h]; simp only [ht]
theorem ft_pg {g g2 : Gr} {c c2 : Int} {zs zs2 : List Str} {m m2 : Nat} {t t2 : Int} {ws ws2 : List Nat} (p : PG g c zs m t ws) (q : PG g2 c2 zs2 m2 t2 ws2) (hm : 1 ≤ m) (hm2 : 1 ≤ m2) : firstTime g g2 = if t = 1 then (if t2 = 1 then none else some t2) else some t := by
  unfold firstTime
  rw [List.map_append, List.find?_append, p.steps, q.steps, plS_time _ _ _ hm, plS_time _ _ _ hm2]
  by_cases h : t = 1
  · rw [if_pos h, if_pos h]; rfl
  · rw [if_neg h, if_neg h]; rfl
theorem rMeas {n : Nat} {g g2 : Gr} (h : 4 < g.meas.length + g2.meas.length) : resOf n g g2 = some (.many "measures" 4) := by unfold resOf; rw [if_pos h]
theorem rStates {n : Nat} {g g2 : Gr} (h : g.meas.length + g2.meas.length ≤ 4) (h2 : 300 < g.count * g2.count) : resOf n g g2 = some (.many "states" 300) := by unfold resOf; rw [if_neg (by omega), if_pos h2]
theorem rSteps {n : Nat} {g g2 : Gr} (h : g.meas.length + g2.meas.length ≤ 4) (h2 : g.count * g2.count ≤ 300) (h3 : 1200 < n) : resOf n g g2 = some (.many "steps" 1200) := by unfold resOf; rw [if_neg (by omega), if_neg (by omega), if_pos h3]
theorem rNone {n : Nat} {g g2 : Gr} (h : g.meas.length + g2.meas.length ≤ 4) (h2 : g.count * g2.count ≤ 300) (h3 : n ≤ 1200) : resOf n g g2 = none := by unfold resOf; rw [if_neg (by omega), if_neg (by omega), if_neg (by omega)]
theorem meas_eq {zs ys : List Str} (h : zs.Perm ys) (h1 : AscS zs) (h2 : AscS ys) : zs = ys :=
  List.Perm.eq_of_pairwise (le := fun a b : Str => a.cps.toList < b.cps.toList) (fun a b _ _ p q => (List.lt_irrefl _ (List.lt_trans p q)).elim) h1 h2 h
theorem strs_lay : ∀ zs : List Str, (∀ z ∈ zs, PyData.strOk z = true) → PyData.canLayAll0 (zs.map PyData.str) = true ∧ PyData.depthAll (zs.map PyData.str) = 0
  | [], _ => by simp [PyData.canLayAll0, PyData.depthAll]
  | z :: zs, h => by
    obtain ⟨h1, h2⟩ := strs_lay zs fun o ho => h o (List.mem_cons_of_mem _ ho)
    have h3 : PyData.strOk z = true := h z List.mem_cons_self
    simp [PyData.canLayAll0, PyData.canLay0, PyData.depthAll, PyData.depth, h1, h2, h3]
theorem strs_shaped (zs : List Str) (h : ∀ z ∈ zs, PyData.strOk z = true) : SeqAt.shaped (.tuple (zs.map PyData.str)) = true := by
  obtain ⟨h1, h2⟩ := strs_lay zs h
  show (PyData.canLay0 (.tuple (zs.map PyData.str)) && decide (PyData.depth (.tuple (zs.map PyData.str)) ≤ 64)) = true
  rw [Bool.and_eq_true]
  refine ⟨by simp only [PyData.canLay0]; exact h1, decide_eq_true ?_⟩
  simp [PyData.depth, h2]
theorem dpl_strs {H : Hp} : ∀ zs : List Str, DpAll K H (zs.map V.str) (zs.map PyData.str)
  | [] => .nil
  | z :: zs => .cons (.str z) (dpl_strs zs)
instance (o : Option Out) : Decidable (OkO o) := by unfold OkO; infer_instance
/-- _law_plain's promise, as used -/
structure PlainK (K : PySem.W.Frag) (C : Addr) (sp : Sp) : Prop where
  k : ∀ {aN aW : Addr} {c : Int} {many : Nat} {t : Int} {zs : List Str} {ws : List Nat} {H : Hp} {Q : VK} {E : XK} (_ : 1 ≤ c) (_ : c ≤ 300) (_ : many ≤ 1200) (_ : SqT K H aN (zs.map V.str)) (_ : MeasOk zs) (_ : SqL K H aW (ws.map fun n => V.int (Nat.cast n)))
    (_ : ∀ n ∈ ws, n < 300) (_ : ws.Nodup) (_ : ws.length ≤ 200) (_ : ws = [] ∨ 1 ≤ many) (_ : 1 ≤ t) (_ : t ≤ 1000) (_ : ∀ p H' g, Same H H' → GrAt K C H' p g → PG g c zs many t ws → Q (.ref p) H'), sp [.int c, .int (Nat.cast many), .ref aN, .ref aW, .int t] H Q E
  k0 : ∀ {aN aW : Addr} {c : Int} {many : Nat} {t : Int} {zs : List Str} {H : Hp} {Q : VK} {E : XK} (_ : 1 ≤ c) (_ : c ≤ 300) (_ : many ≤ 1200) (_ : SqT K H aN (zs.map V.str)) (_ : MeasOk zs) (_ : H aW = some (.lst [])) (_ : 1 ≤ t) (_ : t ≤ 1000)
    (_ : ∀ p H' g, Same H H' → GrAt K C H' p g → PG g c zs many t [] → Q (.ref p) H'), sp [.int c, .int (Nat.cast many), .ref aN, .ref aW, .int t] H Q E
theorem plainK {C : Addr} : PlainK K C (spPlain C K) := ⟨plain_k, plain0⟩
/-- what the parts of the law call -/
structure LawEnv (P : Program) (w : World) (K : PySem.W.Frag) (mg : Str → Option Value) (base : Heap) (C : Addr) (c : Cs) (fW fL : Addr) (Tb : List (Addr × Str)) : Prop where
  T : Txt K mg
  R : GrC K C
  HO : HeardFn K mg c
  J : JointOk P w K mg base fW fL (spWoven C c.G c.N c.T K Tb) (spLock C c.G c.N c.T c.B K Tb)
  gW : mg "woven" = some (.ref fW)
  gL : mg "lockstep" = some (.ref fL)
  plain : ∃ sp, DefOk P w K mg base CX0 8 "_law_plain" ["count", "many", "names", "words", "time"] sp ∧ PlainK K C sp
  pick : DefOk P w K mg base CX0 2 "_law_pick" ["pen", "some"] (spPick K)
  draw : DefOk P w K mg base CX0 1 "_law_draw" ["pen", "many"] spDraw
  woven : DefOk P w K mg base (L2.CX P w) 10 "woven" ["one", "other"] (spWoven C c.G c.N c.T K Tb)
  lockstep : DefOk P w K mg base (L2.CX P w) 10 "lockstep" ["one", "other"] (spLock C c.G c.N c.T c.B K Tb)
  events : PDef P w K mg base CX0 1 C "events" ["self"] (spEvents C K)
def spLaw (Tb : List (Addr × Str)) : Sp := fun vs H Q _ => ∃ pen n, vs = [.ref pen] ∧ n ≤ 1000 ∧ PenAt H pen n ∧ Tabs Tb H ∧ ∀ m H', m ≤ n + 10 → PenAt H' pen m → Tabs Tb H' → Q (.bl true) H'
theorem ok_names {f cA C fW fL : Addr} {c : Cs} {fd : FuncData} {Tb : List (Addr × Str)} (F : FunC K "_law_names_right" "_law_names_right" s__law_names_right f fd cA) (LE : LawEnv P w K mg base C c fW fL Tb) (LT : LamTab Tb base mg cA ("_law_names_right" ++ ".<locals>." ++ "<lambda>")) :
    FnOk P w K mg base CX0 13 f fd ["pen"] (spLaw Tb) := by
  obtain ⟨T, R, HO, J, gW, gL, ⟨spP, D__law_plain, PK⟩, D__law_pick, D__law_draw, D_woven, D_lockstep, D_events⟩ := LE
  refine F.ok sc__law_names_right (fun vs H Q E h => ?_) (fun A outer s H vs Q E hr h => ?_)
  · obtain ⟨_, _, rfl, _⟩ := h; rfl
  · obtain ⟨pen, n, rfl, hn, hp, tab, k⟩ := h
    refine ⟨_, (pss_cons (ps_asg (pe_d D__law_pick (hr.mono (by decide)) pass0 (pa_cons (pv 0) (pa_cons (pe_lst (pa_cons (pe_tup (pa_cons (pe_tup (pa_cons pe_str (pa_cons pe_str (pa_cons pe_str pa_nil)))) (pa_cons (pe_tup (pa_cons pe_str (pa_cons pe_str (pa_cons pe_str pa_nil)))) pa_nil))) (pa_cons (pe_tup (pa_cons (pe_tup (pa_cons pe_str pa_nil)) (pa_cons (pe_tup (pa_cons pe_str (pa_cons pe_str pa_nil))) pa_nil))) (pa_cons (pe_tup (pa_cons (pe_tup (pa_cons pe_str (pa_cons pe_str (pa_cons pe_str (pa_cons pe_str pa_nil))))) (pa_cons (pe_tup (pa_cons pe_str (pa_cons pe_str (pa_cons pe_str (pa_cons pe_str pa_nil))))) pa_nil))) pa_nil)))) pa_nil))) (pg_tupK K (pgs_cons (pg_name (i := 3) sc__law_names_right.nd rfl (Or.inr rfl)) (pgs_cons (pg_name (i := 4) sc__law_names_right.nd rfl (Or.inr rfl)) pgs_nil))))
  (pss_cons (ps_setLc (i := 1) (own := [("joint", 5)]) (g := gName 5) (tt := tYes) (by rfl) sc__law_names_right.nd rfl rfl (sw_true rfl rfl rfl (by decide +kernel)) ((pi_tupK K) (pe_tup (pa_cons (pe_glob (v := .ref fW) rfl gW rfl) (pa_cons (pe_glob (v := .ref fL) rfl gL rfl) pa_nil)))) (blkOk_by (N := ["pen", "heard", "wide", "one", "other", "joint"]) (sc := (defScope s__law_names_right)) (by decide +kernel)) (fun _ _ _ _ _ => (pg_name (i := 5) sc__law_names_right.nd rfl (Or.inr rfl))) (fun _ _ _ _ _ => pts_nil) (fun _ _ _ _ _ => (pe_heard HO LT (hr.mono (by decide)) (blkOk_by (N := ["pen", "heard", "wide", "one", "other", "joint"]) (sc := (relS _ (defScope s__law_names_right))) (by decide +kernel)) sc__law_names_right.nd rfl rfl rfl (fun _ _ _ _ _ => rfl) (fun A outer s H E f c' hr => (pe_joint (i := 5) J (hr.mono (by decide)) (passes_call (W := fun cls d _ H => E cls d H) (takes_of rfl rfl rfl rfl) fun _ _ _ _ h => h) (pa_cons (pe_d D__law_plain (hr.mono (by decide)) pass0 (pa_cons (pe_op op_fdiv pe_int pe_int) (pa_cons pe_int (pa_cons (pv 3) (pa_cons (pe_lst pa_nil) (pa_cons pe_int pa_nil)))))) (pa_cons (pe_d D__law_plain (hr.mono (by decide)) pass0 (pa_cons pe_int (pa_cons pe_int (pa_cons (pv 4) (pa_cons (pe_lst pa_nil) (pa_cons pe_int pa_nil)))))) pa_nil)))))))
  (pss_cons (ps_if (pt_cmpR (neDK K hr.units) (pv 1) (pe_op op_rep (pe_lst (pa_cons (pe_tup (pa_cons pe_str (pa_cons pe_str pa_nil))) pa_nil)) pe_int) (nomark _)) (pss_one (ps_ret pe_bl)) pss_nil)
  (pss_cons (ps_set (i := 2) sc__law_names_right.nd rfl (Or.inr rfl) (pe_lst (pa_cons (pe_d D__law_plain (hr.mono (by decide)) pass0 (pa_cons pe_int (pa_cons pe_int (pa_cons (pe_tup (pa_cons pe_str (pa_cons pe_str (pa_cons pe_str pa_nil)))) (pa_cons (pe_lst pa_nil) (pa_cons pe_int pa_nil)))))) (pa_cons (pe_d D__law_plain (hr.mono (by decide)) pass0 (pa_cons pe_int (pa_cons pe_int (pa_cons (pe_tup (pa_cons pe_str (pa_cons pe_str pa_nil))) (pa_cons (pe_lst pa_nil) (pa_cons pe_int pa_nil)))))) (pa_cons (pe_d D__law_plain (hr.mono (by decide)) pass0 (pa_cons pe_int (pa_cons pe_int (pa_cons (pe_tup (pa_cons pe_str pa_nil)) (pa_cons (pe_lst pa_nil) (pa_cons pe_int pa_nil)))))) pa_nil)))))
  (pss_cons (ps_setLc (i := 1) (own := [("joint", 5)]) (g := gName 5) (tt := tYes) (by rfl) sc__law_names_right.nd rfl rfl (sw_true rfl rfl rfl (by decide +kernel)) ((pi_tupK K) (pe_tup (pa_cons (pe_glob (v := .ref fW) rfl gW rfl) (pa_cons (pe_glob (v := .ref fL) rfl gL rfl) pa_nil)))) (blkOk_by (N := ["pen", "heard", "wide", "one", "other", "joint"]) (sc := (defScope s__law_names_right)) (by decide +kernel)) (fun _ _ _ _ _ => (pg_name (i := 5) sc__law_names_right.nd rfl (Or.inr rfl))) (fun _ _ _ _ _ => pts_nil) (fun _ _ _ _ _ => (pe_heard HO LT (hr.mono (by decide)) (blkOk_by (N := ["pen", "heard", "wide", "one", "other", "joint"]) (sc := (relS _ (defScope s__law_names_right))) (by decide +kernel)) sc__law_names_right.nd rfl rfl rfl (fun _ _ _ _ _ => rfl) (fun A outer s H E f c' hr => (pe_joint (i := 5) J (hr.mono (by decide)) (passes_call (W := fun cls d _ H => E cls d H) (takes_of rfl rfl rfl rfl) fun _ _ _ _ h => h) (pa_cons (pe_ix (ix_listK K) (pv 2) pe_int (fun _ _ => rfl)) (pa_cons (pe_ix (ix_listK K) (pv 2) pe_int (fun _ _ => rfl)) pa_nil)))))))
  (pss_one (ps_ret (pe_and (pe_cmpR (eqDK K hr.units) (pv 1) (pe_op op_rep (pe_lst (pa_cons (pe_tup (pa_cons pe_str (pa_cons pe_int pa_nil))) pa_nil)) pe_int) (nomark _)) (pe_one (pe_cmpR (eqDK K hr.units) (fldK K (pe_d D_woven (hr.mono (by decide)) (passes_call (W := fun _ _ _ _ => False) L2.takes0 fun _ _ _ _ h => h) (pa_cons (pe_ix (ix_listK K) (pv 2) pe_int (fun _ _ => rfl)) (pa_cons (pe_ix (ix_listK K) (pv 2) pe_int (fun _ _ => rfl)) pa_nil)))) (pe_tup (pa_cons pe_str (pa_cons pe_str (pa_cons pe_str (pa_cons pe_str pa_nil))))) (nomark _))))))))))), ?_⟩
    refine ⟨_, rfl, ?_⟩
    refine ⟨small_len (Nat.le_of_ble_eq_true rfl), fun p1 n1 => ?_⟩
    have s1 : Same H (upd H p1 (.tup [.str "b", .str "m", .str "z"])) := same_up n1
    have t1 : SqT K (upd H p1 (.tup [.str "b", .str "m", .str "z"])) p1 [.str "b", .str "m", .str "z"] := SqT.of upd_same
    generalize (upd H p1 (.tup [.str "b", .str "m", .str "z"])) = H1 at s1 t1 ⊢
    refine ⟨small_len (Nat.le_of_ble_eq_true rfl), fun p2 n2 => ?_⟩
    have s2 : Same H1 (upd H1 p2 (.tup [.str "a", .str "m", .str "z"])) := same_up n2
    have t2 : SqT K (upd H1 p2 (.tup [.str "a", .str "m", .str "z"])) p2 [.str "a", .str "m", .str "z"] := SqT.of upd_same
    generalize (upd H1 p2 (.tup [.str "a", .str "m", .str "z"])) = H2 at s2 t2 ⊢
    refine ⟨small_len (Nat.le_of_ble_eq_true rfl), fun p3 n3 => ?_⟩
    have s3 : Same H2 (upd H2 p3 (.tup [.ref p1, .ref p2])) := same_up n3
    have t3 : SqT K (upd H2 p3 (.tup [.ref p1, .ref p2])) p3 [.ref p1, .ref p2] := SqT.of upd_same
    generalize (upd H2 p3 (.tup [.ref p1, .ref p2])) = H3 at s3 t3 ⊢
    refine ⟨small_len (Nat.le_of_ble_eq_true rfl), fun p4 n4 => ?_⟩
    have s4 : Same H3 (upd H3 p4 (.tup [.str "m"])) := same_up n4
    have t4 : SqT K (upd H3 p4 (.tup [.str "m"])) p4 [.str "m"] := SqT.of upd_same
    generalize (upd H3 p4 (.tup [.str "m"])) = H4 at s4 t4 ⊢
    refine ⟨small_len (Nat.le_of_ble_eq_true rfl), fun p5 n5 => ?_⟩
    have s5 : Same H4 (upd H4 p5 (.tup [.str "a", .str "m"])) := same_up n5
    have t5 : SqT K (upd H4 p5 (.tup [.str "a", .str "m"])) p5 [.str "a", .str "m"] := SqT.of upd_same
    generalize (upd H4 p5 (.tup [.str "a", .str "m"])) = H5 at s5 t5 ⊢
    refine ⟨small_len (Nat.le_of_ble_eq_true rfl), fun p6 n6 => ?_⟩
    have s6 : Same H5 (upd H5 p6 (.tup [.ref p4, .ref p5])) := same_up n6
    have t6 : SqT K (upd H5 p6 (.tup [.ref p4, .ref p5])) p6 [.ref p4, .ref p5] := SqT.of upd_same
    generalize (upd H5 p6 (.tup [.ref p4, .ref p5])) = H6 at s6 t6 ⊢
    refine ⟨small_len (Nat.le_of_ble_eq_true rfl), fun p7 n7 => ?_⟩
    have s7 : Same H6 (upd H6 p7 (.tup [.str "m", .str "n", .str "o", .str "p"])) := same_up n7
    have t7 : SqT K (upd H6 p7 (.tup [.str "m", .str "n", .str "o", .str "p"])) p7 [.str "m", .str "n", .str "o", .str "p"] := SqT.of upd_same
    generalize (upd H6 p7 (.tup [.str "m", .str "n", .str "o", .str "p"])) = H7 at s7 t7 ⊢
    refine ⟨small_len (Nat.le_of_ble_eq_true rfl), fun p8 n8 => ?_⟩
    have s8 : Same H7 (upd H7 p8 (.tup [.str "m", .str "n", .str "o", .str "p"])) := same_up n8
    have t8 : SqT K (upd H7 p8 (.tup [.str "m", .str "n", .str "o", .str "p"])) p8 [.str "m", .str "n", .str "o", .str "p"] := SqT.of upd_same
    generalize (upd H7 p8 (.tup [.str "m", .str "n", .str "o", .str "p"])) = H8 at s8 t8 ⊢
    refine ⟨small_len (Nat.le_of_ble_eq_true rfl), fun p9 n9 => ?_⟩
    have s9 : Same H8 (upd H8 p9 (.tup [.ref p7, .ref p8])) := same_up n9
    have t9 : SqT K (upd H8 p9 (.tup [.ref p7, .ref p8])) p9 [.ref p7, .ref p8] := SqT.of upd_same
    generalize (upd H8 p9 (.tup [.ref p7, .ref p8])) = H9 at s9 t9 ⊢
    refine ⟨small_len (Nat.le_of_ble_eq_true rfl), fun pl nl => ?_⟩
    have sl : Same H9 (upd H9 pl (.lst [.ref p3, .ref p6, .ref p9])) := same_up nl
    have tl : (upd H9 pl (.lst [.ref p3, .ref p6, .ref p9])) pl = some (.lst [.ref p3, .ref p6, .ref p9]) := upd_same
    generalize (upd H9 pl (.lst [.ref p3, .ref p6, .ref p9])) = H10 at sl tl ⊢
    have u9 := sl
    have u8 := s9.trans u9
    have u7 := s8.trans u8
    have u6 := s7.trans u7
    have u5 := s6.trans u6
    have u4 := s5.trans u5
    have u3 := s4.trans u4
    have u2 := s3.trans u3
    have u1 := s2.trans u2
    have u0 := s1.trans u1
    have hp9 := hp.monoN (ExtN.of (s1.trans (s2.trans (s3.trans (s4.trans (s5.trans (s6.trans (s7.trans (s8.trans s9)))))))))
    have hp10 := hp9.monoN (ExtN.of sl)
    obtain ⟨xp9, hxp9⟩ := hp9.lst
    obtain ⟨xp10, hxp10⟩ := hp10.lst
    refine ⟨pen, pl, _, n, rfl, tl, fun e => ne_of_none hxp9 nl e.symm, Nat.le_of_ble_eq_true rfl, Nat.le_of_ble_eq_true rfl, by omega, hp10, fun d x H11 hx bt hp11 => ?_⟩
    have tab11 : Tabs Tb H11 := tabs_but (tab.ext u0) bt hxp10
    have e11 : ExtL H10 H11 := ExtL.ofB bt hxp10
    have hpick : ∃ (a p q : Addr) (ms ms' : List Str), x = .ref a ∧ SqT K H11 a [.ref p, .ref q] ∧ SqT K H11 p (ms.map V.str) ∧ SqT K H11 q (ms'.map V.str) ∧ MeasOk ms ∧ MeasOk ms' ∧ firstIn ms ms' = some "m" := by
      match d, hx with
      | 0, hx => exact ⟨p3, p1, p2, ["b", "m", "z"], ["a", "m", "z"], (Option.some.inj hx).symm, sqtL e11 (Same.sqt u3 t3), sqtL e11 (Same.sqt u1 t1), sqtL e11 (Same.sqt u2 t2), by decide +kernel, by decide +kernel, by decide +kernel⟩
      | 1, hx => exact ⟨p6, p4, p5, ["m"], ["a", "m"], (Option.some.inj hx).symm, sqtL e11 (Same.sqt u6 t6), sqtL e11 (Same.sqt u4 t4), sqtL e11 (Same.sqt u5 t5), by decide +kernel, by decide +kernel, by decide +kernel⟩
      | 2, hx => exact ⟨p9, p7, p8, ["m", "n", "o", "p"], ["m", "n", "o", "p"], (Option.some.inj hx).symm, sqtL e11 (Same.sqt u9 t9), sqtL e11 (Same.sqt u7 t7), sqtL e11 (Same.sqt u8 t8), by decide +kernel, by decide +kernel, by decide +kernel⟩
    clear hx
    clear t1 t2 t3 t4 t5 t6 t7 t8 t9
    obtain ⟨a, p, q, ms, ms', rfl, ha, hpm, hqm, mo, mo', hf⟩ := hpick
    refine ⟨a, _, rfl, ha, rfl, _, _, rfl, _, _, rfl, rfl, ?_⟩
    refine ⟨small_len (Nat.le_of_ble_eq_true rfl), fun p12 n12 => ?_⟩
    have s12 : Same H11 (upd H11 p12 (.tup [.ref fW, .ref fL])) := same_up n12
    have t12 : SqT K (upd H11 p12 (.tup [.ref fW, .ref fL])) p12 [.ref fW, .ref fL] := SqT.of upd_same
    generalize (upd H11 p12 (.tup [.ref fW, .ref fL])) = H12 at s12 t12 ⊢
    refine ⟨p12, rfl, ⟨_, t12⟩, fun D nD => ?_⟩
    refine heard2 (o := some (.name "m")) nD t12 (tab11.ext s12) (fun _ => rfl) (fun f H13 hff e13 tab13 => ?_) fun v1 v2 H13 e13 tab13 l13 g1 g2 => ?_
    · intro R E N hE hN hsay
      refine joint_k hff rfl fun sp hsp => ?_
      have e13' : ExtN H11 H13 := (ExtN.of s12).trans e13
      refine ⟨_, _, rfl, rfl, ⟨by decide, by decide⟩, _, rfl, ?_⟩
      refine ⟨small_len (Nat.le_of_ble_eq_true rfl), fun p14 n14 => ?_⟩
      have s14 : Same H13 (upd H13 p14 (.lst [])) := same_up n14
      have t14 : (upd H13 p14 (.lst [])) p14 = some (.lst []) := upd_same
      generalize (upd H13 p14 (.lst [])) = H14 at s14 t14 ⊢
      refine PK.k0 (c := 150) (many := 2) (t := 2) (by decide) (by decide) (by decide) (sqtN (e13'.trans (ExtN.of s14)) hpm) mo t14 (by decide) (by decide) fun pa H15 g sa ha1 pg => ?_
      refine ⟨_, rfl, ?_⟩
      refine ⟨small_len (Nat.le_of_ble_eq_true rfl), fun p16 n16 => ?_⟩
      have s16 : Same H15 (upd H15 p16 (.lst [])) := same_up n16
      have t16 : (upd H15 p16 (.lst [])) p16 = some (.lst []) := upd_same
      generalize (upd H15 p16 (.lst [])) = H16 at s16 t16 ⊢
      refine PK.k0 (c := 300) (many := 2) (t := 3) (by decide) (by decide) (by decide) (sqtN (e13'.trans (ExtN.of (s14.trans (sa.trans s16)))) hqm) mo' t16 (by decide) (by decide) fun pb H17 g2 sb hb1 pg2 => ?_
      have s13 := s14.trans (sa.trans (s16.trans sb))
      exact join_out hsp (tab13.ext s13) (ha1.mono (s16.trans sb)) pg.ok hb1 pg2.ok (wName (by rw [pg.meas, pg2.meas]; exact hf)) (lName (by rw [pg.meas, pg2.meas]; exact hf)) s13 hE hsay
    refine ⟨_, rfl, ?_⟩
    refine ⟨small_len (Nat.le_of_ble_eq_true rfl), fun p14 n14 => ?_⟩
    have s14 : Same H13 (upd H13 p14 (.tup [.str "name", .str "m"])) := same_up n14
    have t14 : SqT K (upd H13 p14 (.tup [.str "name", .str "m"])) p14 [.str "name", .str "m"] := SqT.of upd_same
    generalize (upd H13 p14 (.tup [.str "name", .str "m"])) = H14 at s14 t14 ⊢
    refine ⟨small_len (Nat.le_of_ble_eq_true rfl), fun p15 n15 => ?_⟩
    have s15 : Same H14 (upd H14 p15 (.lst [.ref p14])) := same_up n15
    have t15 : (upd H14 p15 (.lst [.ref p14])) p15 = some (.lst [.ref p14]) := upd_same
    generalize (upd H14 p15 (.lst [.ref p14])) = H15 at s15 t15 ⊢
    refine ⟨p15, 2, _, rfl, rfl, t15, by decide, by decide, small_len (Nat.le_of_ble_eq_true rfl), fun p16 n16 => ?_⟩
    have s16 : Same H15 (upd H15 p16 (.lst (List.replicate (2 : Int).toNat [.ref p14]).flatten)) := same_up n16
    have t16 : (upd H15 p16 (.lst (List.replicate (2 : Int).toNat [.ref p14]).flatten)) p16 = some (.lst [.ref p14, .ref p14]) := upd_same
    generalize (upd H15 p16 (.lst (List.replicate (2 : Int).toNat [.ref p14]).flatten)) = H16 at s16 t16 ⊢
    have s1316 := s14.trans (s15.trans s16)
    have tab16 := tab13.ext s1316
    refine ne_same (d := .list [odata (some (.name "m")), odata (some (.name "m"))]) (.lst (SqL.of (s1316 _ _ l13)) (.cons (Says.dp (g1.monoN (ExtN.of s1316) tab16)) (.cons (Says.dp (g2.monoN (ExtN.of s1316) tab16)) .nil)))
      (.lst (SqL.of t16) (.cons (Out.dp (o := .name "m") (Same.sqt (s15.trans s16) t14)) (.cons (Out.dp (o := .name "m") (Same.sqt (s15.trans s16) t14)) .nil))) (outs_shaped [some (.name "m"), some (.name "m")] (by decide +kernel)) ⟨_, rfl, if_f rfl ?_⟩
    have e1116 : ExtN H11 H16 := (ExtN.of s12).trans (e13.trans (ExtN.of s1316))
    have hp16 := hp11.monoN e1116
    clear g1 g2 l13 t16 t15 t14
    refine ⟨small_len (Nat.le_of_ble_eq_true rfl), fun p17 n17 => ?_⟩
    have s17 : Same H16 (upd H16 p17 (.tup [.str "a", .str "b", .str "c"])) := same_up n17
    have t17 : SqT K (upd H16 p17 (.tup [.str "a", .str "b", .str "c"])) p17 [.str "a", .str "b", .str "c"] := SqT.of upd_same
    generalize (upd H16 p17 (.tup [.str "a", .str "b", .str "c"])) = H17 at s17 t17 ⊢
    refine ⟨small_len (Nat.le_of_ble_eq_true rfl), fun p18 n18 => ?_⟩
    have s18 : Same H17 (upd H17 p18 (.lst [])) := same_up n18
    have t18 : (upd H17 p18 (.lst [])) p18 = some (.lst []) := upd_same
    generalize (upd H17 p18 (.lst [])) = H18 at s18 t18 ⊢
    refine PK.k0 (c := 150) (many := 2) (t := 1) (zs := ["a", "b", "c"]) (by decide) (by decide) (by decide) (Same.sqt s18 t17) (by decide +kernel) t18 (by decide) (by decide) fun pa H19 ga sa ha1 pga => ?_
    refine ⟨small_len (Nat.le_of_ble_eq_true rfl), fun p20 n20 => ?_⟩
    have s20 : Same H19 (upd H19 p20 (.tup [.str "d", .str "e"])) := same_up n20
    have t20 : SqT K (upd H19 p20 (.tup [.str "d", .str "e"])) p20 [.str "d", .str "e"] := SqT.of upd_same
    generalize (upd H19 p20 (.tup [.str "d", .str "e"])) = H20 at s20 t20 ⊢
    refine ⟨small_len (Nat.le_of_ble_eq_true rfl), fun p21 n21 => ?_⟩
    have s21 : Same H20 (upd H20 p21 (.lst [])) := same_up n21
    have t21 : (upd H20 p21 (.lst [])) p21 = some (.lst []) := upd_same
    generalize (upd H20 p21 (.lst [])) = H21 at s21 t21 ⊢
    refine PK.k0 (c := 300) (many := 2) (t := 1) (zs := ["d", "e"]) (by decide) (by decide) (by decide) (Same.sqt s21 t20) (by decide +kernel) t21 (by decide) (by decide) fun pb H22 gb sb hb1 pgb => ?_
    refine ⟨small_len (Nat.le_of_ble_eq_true rfl), fun p23 n23 => ?_⟩
    have s23 : Same H22 (upd H22 p23 (.tup [.str "d"])) := same_up n23
    have t23 : SqT K (upd H22 p23 (.tup [.str "d"])) p23 [.str "d"] := SqT.of upd_same
    generalize (upd H22 p23 (.tup [.str "d"])) = H23 at s23 t23 ⊢
    refine ⟨small_len (Nat.le_of_ble_eq_true rfl), fun p24 n24 => ?_⟩
    have s24 : Same H23 (upd H23 p24 (.lst [])) := same_up n24
    have t24 : (upd H23 p24 (.lst [])) p24 = some (.lst []) := upd_same
    generalize (upd H23 p24 (.lst [])) = H24 at s24 t24 ⊢
    refine PK.k0 (c := 1) (many := 2) (t := 1) (zs := ["d"]) (by decide) (by decide) (by decide) (Same.sqt s24 t23) (by decide +kernel) t24 (by decide) (by decide) fun pc H25 gc sc hc1 pgc => ?_
    refine ⟨small_len (Nat.le_of_ble_eq_true rfl), fun pw nw => ?_⟩
    have sw : Same H25 (upd H25 pw (.lst [.ref pa, .ref pb, .ref pc])) := same_up nw
    have tw : (upd H25 pw (.lst [.ref pa, .ref pb, .ref pc])) pw = some (.lst [.ref pa, .ref pb, .ref pc]) := upd_same
    generalize (upd H25 pw (.lst [.ref pa, .ref pb, .ref pc])) = H26 at sw tw ⊢
    have s1626 := s17.trans (s18.trans (sa.trans (s20.trans (s21.trans (sb.trans (s23.trans (s24.trans (sc.trans sw))))))))
    have tab26 := tab16.ext s1626
    have hp26 := hp16.monoN (ExtN.of s1626)
    have ha26 := ha1.mono (s20.trans (s21.trans (sb.trans (s23.trans (s24.trans (sc.trans sw))))))
    have hb26 := hb1.mono (s23.trans (s24.trans (sc.trans sw)))
    have hc26 := hc1.mono sw
    clear ha1 hb1 hc1 t17 t18 t20 t21 t23 t24
    refine ⟨small_len (Nat.le_of_ble_eq_true rfl), fun p27 n27 => ?_⟩
    have s27 : Same H26 (upd H26 p27 (.tup [.ref fW, .ref fL])) := same_up n27
    have t27 : SqT K (upd H26 p27 (.tup [.ref fW, .ref fL])) p27 [.ref fW, .ref fL] := SqT.of upd_same
    generalize (upd H26 p27 (.tup [.ref fW, .ref fL])) = H27 at s27 t27 ⊢
    refine ⟨p27, rfl, ⟨_, t27⟩, fun D2 nD2 => ?_⟩
    refine heard2 (o := some (.many "measures" 4)) nD2 t27 (tab26.ext s27) (fun _ => rfl) (fun f H28 hff e28 tab28 => ?_) fun v1 v2 H28 e28 tab28 l28 g1 g2 => ?_
    · intro R E N hE hN hsay
      have e2628 : ExtN H26 H28 := (ExtN.of s27).trans e28
      have tw28 := e2628 _ _ tw (fun _ z => by cases z)
      refine joint_k hff rfl fun sp hsp => ⟨_, rfl, pw, _, 0, _, rfl, rfl, SqL.of tw28, rfl, _, rfl, pw, _, 1, _, rfl, rfl, SqL.of tw28, rfl, ?_⟩
      have hfi : firstIn ga.meas gb.meas = none := by rw [pga.meas, pgb.meas]; decide +kernel
      have h5 : 4 < ga.meas.length + gb.meas.length := by rw [pga.meas, pgb.meas]; decide
      exact join_out hsp tab28 (ha26.monoN e2628) pga.ok (hb26.monoN e2628) pgb.ok ((wRes hfi).trans (rMeas h5)) ((lRes hfi (by rw [ft_pg pga pgb (by decide) (by decide)]; rfl)).trans (rMeas h5)) (Same.refl _) hE hsay
    refine ⟨_, rfl, ?_⟩
    refine ⟨small_len (Nat.le_of_ble_eq_true rfl), fun p29 n29 => ?_⟩
    have s29 : Same H28 (upd H28 p29 (.tup [.str "measures", .int 4])) := same_up n29
    have t29 : SqT K (upd H28 p29 (.tup [.str "measures", .int 4])) p29 [.str "measures", .int 4] := SqT.of upd_same
    generalize (upd H28 p29 (.tup [.str "measures", .int 4])) = H29 at s29 t29 ⊢
    refine ⟨small_len (Nat.le_of_ble_eq_true rfl), fun p30 n30 => ?_⟩
    have s30 : Same H29 (upd H29 p30 (.lst [.ref p29])) := same_up n30
    have t30 : (upd H29 p30 (.lst [.ref p29])) p30 = some (.lst [.ref p29]) := upd_same
    generalize (upd H29 p30 (.lst [.ref p29])) = H30 at s30 t30 ⊢
    refine ⟨p30, 2, _, rfl, rfl, t30, by decide, by decide, small_len (Nat.le_of_ble_eq_true rfl), fun p31 n31 => ?_⟩
    have s31 : Same H30 (upd H30 p31 (.lst (List.replicate (2 : Int).toNat [.ref p29]).flatten)) := same_up n31
    have t31 : (upd H30 p31 (.lst (List.replicate (2 : Int).toNat [.ref p29]).flatten)) p31 = some (.lst [.ref p29, .ref p29]) := upd_same
    generalize (upd H30 p31 (.lst (List.replicate (2 : Int).toNat [.ref p29]).flatten)) = H31 at s31 t31 ⊢
    have s2831 := s29.trans (s30.trans s31)
    have tab31 := tab28.ext s2831
    refine eq_same (d := .list [odata (some (.many "measures" 4)), odata (some (.many "measures" 4))]) (.lst (SqL.of (s2831 _ _ l28)) (.cons (Says.dp (g1.monoN (ExtN.of s2831) tab31)) (.cons (Says.dp (g2.monoN (ExtN.of s2831) tab31)) .nil)))
      (.lst (SqL.of t31) (.cons (Out.dp (o := .many "measures" 4) (Same.sqt (s30.trans s31) t29)) (.cons (Out.dp (o := .many "measures" 4) (Same.sqt (s30.trans s31) t29)) .nil))) (outs_shaped [some (.many "measures" 4), some (.many "measures" 4)] (by decide +kernel)) ?_
    have e2631 : ExtN H26 H31 := (ExtN.of s27).trans (e28.trans (ExtN.of s2831))
    have tw31 := e2631 _ _ tw (fun _ z => by cases z)
    refine ⟨_, rfl, if_t rfl ?_⟩
    refine ⟨_, rfl, pw, _, 0, _, rfl, rfl, SqL.of tw31, rfl, _, rfl, pw, _, 2, _, rfl, rfl, SqL.of tw31, rfl, ?_⟩
    have hfi : firstIn ga.meas gc.meas = none := by rw [pga.meas, pgc.meas]; decide +kernel
    refine woven_fit tab31 (ha26.monoN e2631) pga.ok (hc26.monoN e2631) pgc.ok ((wRes hfi).trans (rNone (by rw [pga.meas, pgc.meas]; decide) (by rw [pga.count, pgc.count]; decide) (by rw [pga.steps, pgc.steps, plS_len, plS_len, pga.count, pgc.count]; decide))) ⟨fun es q1 q2 q3 => ?_, fun p3' H32 g3 e32 tab32 hg3 go3 k1 k2 k3 k4 => ?_⟩
    · have hes : es = [] := List.eq_nil_iff_forall_not_mem.mpr fun x hx => by
        have h1 := pga.evs
        have h2 := pgc.evs
        rcases (q2 x).mp hx with z | z
        · exact absurd (h1.mem_iff.mp z) (by simp)
        · exact absurd (h2.mem_iff.mp z) (by simp)
      rw [hes] at q3
      exact absurd q3 (by decide)
    · obtain ⟨dx, aS, aT, aM, aL, aO, aR, kvs, f1, f2, f3, _⟩ := id hg3
      refine ⟨p3', C, dx, _, .ref aM, rfl, f1, R.c, R.no _ (by simp), rfl, ?_⟩
      refine ⟨small_len (Nat.le_of_ble_eq_true rfl), fun p33 n33 => ?_⟩
      have s33 : Same H32 (upd H32 p33 (.tup [.str "a", .str "b", .str "c", .str "d"])) := same_up n33
      have t33 : SqT K (upd H32 p33 (.tup [.str "a", .str "b", .str "c", .str "d"])) p33 [.str "a", .str "b", .str "c", .str "d"] := SqT.of upd_same
      generalize (upd H32 p33 (.tup [.str "a", .str "b", .str "c", .str "d"])) = H33 at s33 t33 ⊢
      have hm3 : g3.meas = (["a", "b", "c", "d"] : List Str) := meas_eq (by rw [pga.meas, pgc.meas] at k3; exact k3) go3.po.mo.2.2 (by unfold AscS; decide +kernel)
      rw [hm3] at f3
      refine eq_same (d := .tuple ((["a", "b", "c", "d"] : List Str).map PyData.str)) (.tup (Same.sqt s33 f3) (dpl_strs _)) (.tup t33 (dpl_strs ["a", "b", "c", "d"])) (strs_shaped _ (by decide +kernel)) ?_
      have e1133 : ExtN H26 H33 := e2631.trans (e32.trans (ExtN.of s33))
      exact k _ _ (by omega) (hp26.monoN e1133) (tab32.ext s33)
end
end K53
namespace K53
open PySem L2 RZ Own StX SkE LamX PySem.Spec
abbrev s__law_times_right : Stmt := top 67
theorem sc__law_times_right : FnScope ["pen", "plain", "heard", "one", "other", "first", "second"] ["pen"] (defScope s__law_times_right) := ⟨rfl, rfl, rfl, by decide +kernel, rfl, by decide +kernel, by decide +kernel⟩
abbrev s__law_events_right : Stmt := top 66
theorem sc__law_events_right : FnScope ["pen", "shared", "first", "second", "more", "joint"] ["pen"] (defScope s__law_events_right) := ⟨rfl, rfl, rfl, by decide +kernel, rfl, by decide +kernel, by decide +kernel⟩
section
variable {P : Program} {w : World} {K : PySem.W.Frag} {mg : Str → Option Value} {base : Heap}
theorem ok_time (t : Int) : OkO (some (.time t)) := by
  unfold OkO odata Out.data
  simp only [PyData.canLay0, PyData.canLayAll0, Bool.and_true]
  decide +kernel
theorem rg_eq (d : Nat) : rgV 0 (100 + (d : Int)) = (List.range (100 + d)).map fun n => V.int (Nat.cast n) := by
  unfold rgV
  rw [show (100 + (d : Int) - 0).toNat = 100 + d by omega]
  exact List.map_congr_left fun n _ => by rw [Int.zero_add]
theorem rg_eq2 (m : Nat) : rgV 100 (100 + (m : Int)) = ((List.range m).map (100 + ·)).map fun n => V.int (Nat.cast n) := by
  unfold rgV
  rw [show (100 + (m : Int) - 100).toNat = m by omega, List.map_map]
  exact List.map_congr_left fun n _ => by simp
theorem rg_nd (m : Nat) : ((List.range m).map (100 + ·)).Nodup := by
  refine List.pairwise_map.mpr (List.Pairwise.imp (fun {a b} h e => h (by omega)) List.nodup_range)
theorem words_len {es : List Str} {g g2 : Gr} {d m : Nat} (hd : d ≤ m) (hm : 100 + m ≤ 300) (h1 : (g.evs.map (·.1)).Perm ((List.range (100 + d)).map wdN)) (h2 : (g2.evs.map (·.1)).Perm (((List.range m).map (100 + ·)).map wdN)) (nd : es.Nodup) (hu : uni es g g2) : es.length = 100 + m := by
  have nd2 : ((List.range (100 + m)).map wdN).Nodup := by
    have q := wd_nd
    have e : List.range (100 + m) = (List.range 300).take (100 + m) := by rw [List.take_range, Nat.min_eq_left hm]
    rw [e, List.map_take]
    exact List.Nodup.sublist (List.take_sublist _ _) q
  have p : es.Perm ((List.range (100 + m)).map wdN) := (List.perm_ext_iff_of_nodup nd nd2).mpr fun x => by
    rw [hu x, h1.mem_iff, h2.mem_iff, List.map_map, List.mem_map, List.mem_map, List.mem_map]
    constructor
    · rintro (⟨n, hn, rfl⟩ | ⟨n, hn, rfl⟩)
      · exact ⟨n, by rw [List.mem_range] at hn ⊢; omega, rfl⟩
      · exact ⟨100 + n, by rw [List.mem_range] at hn ⊢; omega, rfl⟩
    · rintro ⟨n, hn, rfl⟩
      rw [List.mem_range] at hn
      by_cases h : n < 100 + d
      · exact .inl ⟨n, List.mem_range.mpr h, rfl⟩
      · exact .inr ⟨n - 100, List.mem_range.mpr (by omega), by show wdN (100 + (n - 100)) = wdN n; congr 1; omega⟩
  rw [p.length_eq, List.length_map, List.length_range]
theorem ok_times {f cA C fW fL : Addr} {c : Cs} {fd : FuncData} {Tb : List (Addr × Str)} (F : FunC K "_law_times_right" "_law_times_right" s__law_times_right f fd cA) (LE : LawEnv P w K mg base C c fW fL Tb) (LT : LamTab Tb base mg cA ("_law_times_right" ++ ".<locals>." ++ "<lambda>")) :
    FnOk P w K mg base CX0 13 f fd ["pen"] (spLaw Tb) := by
  obtain ⟨T, R, HO, J, gW, gL, ⟨spP, D__law_plain, PK⟩, D__law_pick, D__law_draw, D_woven, D_lockstep, D_events⟩ := LE
  refine F.ok sc__law_times_right (fun vs H Q E h => ?_) (fun A outer s H vs Q E hr h => ?_)
  · obtain ⟨_, _, rfl, _⟩ := h; rfl
  · obtain ⟨pen, n, rfl, hn, hp, tab, k⟩ := h
    refine ⟨_, (pss_cons (ps_par (i := 3) (j := 4) (by rfl) sc__law_times_right.nd rfl rfl (by decide) rfl rfl (pa_cons (pe_op op_add pe_int (pe_d D__law_draw (hr.mono (by decide)) pass0 (pa_cons (pv 0) (pa_cons pe_int pa_nil)))) (pa_cons (pe_op op_add pe_int (pe_d D__law_draw (hr.mono (by decide)) pass0 (pa_cons (pv 0) (pa_cons pe_int pa_nil)))) pa_nil)) (by rfl))
  (pss_cons (ps_asg (pe_tup (pa_cons (pe_d D__law_plain (hr.mono (by decide)) pass0 (pa_cons pe_int (pa_cons pe_int (pa_cons (pe_tup (pa_cons pe_str (pa_cons pe_str pa_nil))) (pa_cons (pe_lst pa_nil) (pa_cons (pv 3) pa_nil)))))) (pa_cons (pe_d D__law_plain (hr.mono (by decide)) pass0 (pa_cons pe_int (pa_cons pe_int (pa_cons (pe_tup (pa_cons pe_str (pa_cons pe_str (pa_cons pe_str pa_nil)))) (pa_cons (pe_lst pa_nil) (pa_cons (pv 4) pa_nil)))))) pa_nil))) (pg_tupK K (pgs_cons (pg_name (i := 5) sc__law_times_right.nd rfl (Or.inr rfl)) (pgs_cons (pg_name (i := 6) sc__law_times_right.nd rfl (Or.inr rfl)) pgs_nil))))
  (pss_cons (ps_set (i := 1) sc__law_times_right.nd rfl (Or.inr rfl) (pe_d D__law_plain (hr.mono (by decide)) pass0 (pa_cons pe_int (pa_cons pe_int (pa_cons (pe_tup (pa_cons pe_str (pa_cons pe_str pa_nil))) (pa_cons (pe_lst pa_nil) (pa_cons pe_int pa_nil)))))))
  (pss_cons (ps_set (i := 2) sc__law_times_right.nd rfl (Or.inl rfl) (pe_lst (pa_cons (pe_heard HO LT (hr.mono (by decide)) (blkOk_by (N := ["pen", "plain", "heard", "one", "other", "first", "second"]) (sc := (defScope s__law_times_right)) (by decide +kernel)) sc__law_times_right.nd rfl rfl rfl (fun _ _ _ _ _ => rfl) (fun A outer s H E f c' hr => (pe_d D_lockstep (hr.mono (by decide)) (passes_call (W := fun cls d _ H => E cls d H) (takes_of rfl rfl rfl rfl) fun _ _ _ _ h => h) (pa_cons (pv 5) (pa_cons (pv 6) pa_nil))))) (pa_cons (pe_heard HO LT (hr.mono (by decide)) (blkOk_by (N := ["pen", "plain", "heard", "one", "other", "first", "second"]) (sc := (defScope s__law_times_right)) (by decide +kernel)) sc__law_times_right.nd rfl rfl rfl (fun _ _ _ _ _ => rfl) (fun A outer s H E f c' hr => (pe_d D_lockstep (hr.mono (by decide)) (passes_call (W := fun cls d _ H => E cls d H) (takes_of rfl rfl rfl rfl) fun _ _ _ _ h => h) (pa_cons (pv 1) (pa_cons (pv 6) pa_nil))))) (pa_cons (pe_heard HO LT (hr.mono (by decide)) (blkOk_by (N := ["pen", "plain", "heard", "one", "other", "first", "second"]) (sc := (defScope s__law_times_right)) (by decide +kernel)) sc__law_times_right.nd rfl rfl rfl (fun _ _ _ _ _ => rfl) (fun A outer s H E f c' hr => (pe_d D_lockstep (hr.mono (by decide)) (passes_call (W := fun cls d _ H => E cls d H) (takes_of rfl rfl rfl rfl) fun _ _ _ _ h => h) (pa_cons (pv 1) (pa_cons (pe_d D__law_plain (hr.mono (by decide)) pass0 (pa_cons pe_int (pa_cons pe_int (pa_cons (pe_tup (pa_cons pe_str (pa_cons pe_str (pa_cons pe_str pa_nil)))) (pa_cons (pe_lst pa_nil) (pa_cons pe_int pa_nil)))))) pa_nil))))) pa_nil)))))
  (pss_one (ps_ret (pe_and (pe_cmpR (eqDK K hr.units) (pv 2) (pe_lst (pa_cons (pe_tup (pa_cons pe_str (pa_cons (pv 3) pa_nil))) (pa_cons (pe_tup (pa_cons pe_str (pa_cons (pv 4) pa_nil))) (pa_cons (pe_tup (pa_cons pe_str (pa_cons pe_int pa_nil))) pa_nil)))) (nomark _)) (pe_one (pe_cmpR (eqDK K hr.units) (pe_heard HO LT (hr.mono (by decide)) (blkOk_by (N := ["pen", "plain", "heard", "one", "other", "first", "second"]) (sc := (defScope s__law_times_right)) (by decide +kernel)) sc__law_times_right.nd rfl rfl rfl (fun _ _ _ _ _ => rfl) (fun A outer s H E f c' hr => (pe_d D_woven (hr.mono (by decide)) (passes_call (W := fun cls d _ H => E cls d H) (takes_of rfl rfl rfl rfl) fun _ _ _ _ h => h) (pa_cons (pv 5) (pa_cons (pv 6) pa_nil))))) (pe_tup (pa_cons pe_str (pa_cons pe_int pa_nil))) (nomark _)))))))))), ?_⟩
    refine ⟨_, rfl, pen, 999, n, rfl, by decide, by decide, by omega, hp, fun d1 H1 a0 a1 bt1 hp1 => ⟨_, _, rfl, rfl, _, rfl, pen, 999, n + 1, rfl, by decide, by decide, by omega, hp1, fun d2 H2 b0 b1 bt2 hp2 => ⟨_, _, rfl, rfl, _, _, rfl, ?_⟩⟩⟩
    obtain ⟨x0, hx0⟩ := hp.lst
    obtain ⟨x1, hx1⟩ := hp1.lst
    have tab2 := tabs_but (tabs_but tab bt1 hx0) bt2 hx1
    refine ⟨small_len (Nat.le_of_ble_eq_true rfl), fun p3 n3 => ?_⟩
    have s3 : Same H2 (upd H2 p3 (.tup [.str "a", .str "b"])) := same_up n3
    have t3 : SqT K (upd H2 p3 (.tup [.str "a", .str "b"])) p3 [.str "a", .str "b"] := SqT.of upd_same
    generalize (upd H2 p3 (.tup [.str "a", .str "b"])) = H3 at s3 t3 ⊢
    refine ⟨small_len (Nat.le_of_ble_eq_true rfl), fun p4 n4 => ?_⟩
    have s4 : Same H3 (upd H3 p4 (.lst [])) := same_up n4
    have t4 : (upd H3 p4 (.lst [])) p4 = some (.lst []) := upd_same
    generalize (upd H3 p4 (.lst [])) = H4 at s4 t4 ⊢
    refine ⟨_, rfl, PK.k0 (c := 300) (many := 3) (t := 2 + d1) (zs := ["a", "b"]) (by decide) (by decide) (by decide) (Same.sqt s4 t3) (by decide +kernel) t4 (by omega) (by omega) fun pa H5 ga sa ha1 pga => ?_⟩
    refine ⟨small_len (Nat.le_of_ble_eq_true rfl), fun p6 n6 => ?_⟩
    have s6 : Same H5 (upd H5 p6 (.tup [.str "c", .str "d", .str "e"])) := same_up n6
    have t6 : SqT K (upd H5 p6 (.tup [.str "c", .str "d", .str "e"])) p6 [.str "c", .str "d", .str "e"] := SqT.of upd_same
    generalize (upd H5 p6 (.tup [.str "c", .str "d", .str "e"])) = H6 at s6 t6 ⊢
    refine ⟨small_len (Nat.le_of_ble_eq_true rfl), fun p7 n7 => ?_⟩
    have s7 : Same H6 (upd H6 p7 (.lst [])) := same_up n7
    have t7 : (upd H6 p7 (.lst [])) p7 = some (.lst []) := upd_same
    generalize (upd H6 p7 (.lst [])) = H7 at s7 t7 ⊢
    refine ⟨_, rfl, PK.k0 (c := 2) (many := 700) (t := 2 + d2) (zs := ["c", "d", "e"]) (by decide) (by decide) (by decide) (Same.sqt s7 t6) (by decide +kernel) t7 (by omega) (by omega) fun pb H8 gb sb hb1 pgb => ?_⟩
    refine ⟨small_len (Nat.le_of_ble_eq_true rfl), fun p9 n9 => ?_⟩
    have s9 : Same H8 (upd H8 p9 (.tup [.ref pa, .ref pb])) := same_up n9
    have t9 : SqT K (upd H8 p9 (.tup [.ref pa, .ref pb])) p9 [.ref pa, .ref pb] := SqT.of upd_same
    generalize (upd H8 p9 (.tup [.ref pa, .ref pb])) = H9 at s9 t9 ⊢
    refine ⟨p9, _, rfl, t9, rfl, _, _, rfl, _, _, rfl, rfl, ?_⟩
    refine ⟨small_len (Nat.le_of_ble_eq_true rfl), fun p10 n10 => ?_⟩
    have s10 : Same H9 (upd H9 p10 (.tup [.str "a", .str "b"])) := same_up n10
    have t10 : SqT K (upd H9 p10 (.tup [.str "a", .str "b"])) p10 [.str "a", .str "b"] := SqT.of upd_same
    generalize (upd H9 p10 (.tup [.str "a", .str "b"])) = H10 at s10 t10 ⊢
    refine ⟨small_len (Nat.le_of_ble_eq_true rfl), fun p11 n11 => ?_⟩
    have s11 : Same H10 (upd H10 p11 (.lst [])) := same_up n11
    have t11 : (upd H10 p11 (.lst [])) p11 = some (.lst []) := upd_same
    generalize (upd H10 p11 (.lst [])) = H11 at s11 t11 ⊢
    refine PK.k0 (c := 300) (many := 3) (t := 1) (zs := ["a", "b"]) (by decide) (by decide) (by decide) (Same.sqt s11 t10) (by decide +kernel) t11 (by decide) (by decide) fun pc H12 gc sc hc1 pgc => ?_
    have s212 := s3.trans (s4.trans (sa.trans (s6.trans (s7.trans (sb.trans (s9.trans (s10.trans (s11.trans sc))))))))
    have tab12 := tab2.ext s212
    have hp12 := hp2.monoN (ExtN.of s212)
    have ha12 := ha1.mono (s6.trans (s7.trans (sb.trans (s9.trans (s10.trans (s11.trans sc))))))
    have hb12 := hb1.mono (s9.trans (s10.trans (s11.trans sc)))
    clear ha1 hb1 t3 t4 t6 t7 t9 t10 t11
    have fab : firstIn ga.meas gb.meas = none := by rw [pga.meas, pgb.meas]; decide +kernel
    have fcb : firstIn gc.meas gb.meas = none := by rw [pgc.meas, pgb.meas]; decide +kernel
    refine ⟨tab12, fun H13 e13 tab13 E N hE hN => ⟨_, rfl, _, rfl, lock_out tab13 (ha12.monoN e13) pga.ok (hb12.monoN e13) pgb.ok (lTime fab (t := 2 + d1) (by rw [ft_pg pga pgb (by decide) (by decide), if_neg (by omega)])) hE fun v1 H14 say1 => ?_⟩⟩
    have e1214 := e13.trans say1.1
    refine ⟨say1.2.1, fun H15 e15 tab15 E N hE hN => ⟨_, rfl, _, rfl, lock_out tab15 ((hc1.monoN e1214).monoN e15) pgc.ok ((hb12.monoN e1214).monoN e15) pgb.ok (lTime fcb (t := 2 + d2) (by rw [ft_pg pgc pgb (by decide) (by decide), if_pos rfl, if_neg (by omega)])) hE fun v2 H16 say2 => ?_⟩⟩
    have e1416 := e15.trans say2.1
    refine ⟨say2.2.1, fun H17 e17 tab17 E N hE hN => ⟨_, rfl, ?_⟩⟩
    refine ⟨small_len (Nat.le_of_ble_eq_true rfl), fun p18 n18 => ?_⟩
    have s18 : Same H17 (upd H17 p18 (.tup [.str "c", .str "d", .str "e"])) := same_up n18
    have t18 : SqT K (upd H17 p18 (.tup [.str "c", .str "d", .str "e"])) p18 [.str "c", .str "d", .str "e"] := SqT.of upd_same
    generalize (upd H17 p18 (.tup [.str "c", .str "d", .str "e"])) = H18 at s18 t18 ⊢
    refine ⟨small_len (Nat.le_of_ble_eq_true rfl), fun p19 n19 => ?_⟩
    have s19 : Same H18 (upd H18 p19 (.lst [])) := same_up n19
    have t19 : (upd H18 p19 (.lst [])) p19 = some (.lst []) := upd_same
    generalize (upd H18 p19 (.lst [])) = H19 at s19 t19 ⊢
    refine PK.k0 (c := 2) (many := 700) (t := 1) (zs := ["c", "d", "e"]) (by decide) (by decide) (by decide) (Same.sqt s19 t18) (by decide +kernel) t19 (by decide) (by decide) fun pd H20 gd sd hd1 pgd => ?_
    have s1720 := s18.trans (s19.trans sd)
    have e1220 : ExtN H12 H20 := e1214.trans (e1416.trans (e17.trans (ExtN.of s1720)))
    have fcd : firstIn gc.meas gd.meas = none := by rw [pgc.meas, pgd.meas]; decide +kernel
    refine lock_out (tab17.ext s1720) (hc1.monoN e1220) pgc.ok hd1 pgd.ok ((lRes fcd (by rw [ft_pg pgc pgd (by decide) (by decide)]; rfl)).trans (rMeas (by rw [pgc.meas, pgd.meas]; decide))) hE fun v3 H21 say3 => ?_
    have e1221 : ExtN H12 H21 := e1220.trans say3.1
    refine ⟨small_len (Nat.le_of_ble_eq_true rfl), fun p22 n22 => ?_⟩
    have s22 : Same H21 (upd H21 p22 (.lst [v1, v2, v3])) := same_up n22
    have t22 : (upd H21 p22 (.lst [v1, v2, v3])) p22 = some (.lst [v1, v2, v3]) := upd_same
    generalize (upd H21 p22 (.lst [v1, v2, v3])) = H22 at s22 t22 ⊢
    refine ⟨_, rfl, _, rfl, ?_⟩
    refine ⟨small_len (Nat.le_of_ble_eq_true rfl), fun p23 n23 => ?_⟩
    have s23 : Same H22 (upd H22 p23 (.tup [.str "time", .int (2 + d1)])) := same_up n23
    have t23 : SqT K (upd H22 p23 (.tup [.str "time", .int (2 + d1)])) p23 [.str "time", .int (2 + d1)] := SqT.of upd_same
    generalize (upd H22 p23 (.tup [.str "time", .int (2 + d1)])) = H23 at s23 t23 ⊢
    refine ⟨_, rfl, ?_⟩
    refine ⟨small_len (Nat.le_of_ble_eq_true rfl), fun p24 n24 => ?_⟩
    have s24 : Same H23 (upd H23 p24 (.tup [.str "time", .int (2 + d2)])) := same_up n24
    have t24 : SqT K (upd H23 p24 (.tup [.str "time", .int (2 + d2)])) p24 [.str "time", .int (2 + d2)] := SqT.of upd_same
    generalize (upd H23 p24 (.tup [.str "time", .int (2 + d2)])) = H24 at s24 t24 ⊢
    refine ⟨small_len (Nat.le_of_ble_eq_true rfl), fun p25 n25 => ?_⟩
    have s25 : Same H24 (upd H24 p25 (.tup [.str "measures", .int 4])) := same_up n25
    have t25 : SqT K (upd H24 p25 (.tup [.str "measures", .int 4])) p25 [.str "measures", .int 4] := SqT.of upd_same
    generalize (upd H24 p25 (.tup [.str "measures", .int 4])) = H25 at s25 t25 ⊢
    refine ⟨small_len (Nat.le_of_ble_eq_true rfl), fun p26 n26 => ?_⟩
    have s26 : Same H25 (upd H25 p26 (.lst [.ref p23, .ref p24, .ref p25])) := same_up n26
    have t26 : (upd H25 p26 (.lst [.ref p23, .ref p24, .ref p25])) p26 = some (.lst [.ref p23, .ref p24, .ref p25]) := upd_same
    generalize (upd H25 p26 (.lst [.ref p23, .ref p24, .ref p25])) = H26 at s26 t26 ⊢
    have s2226 := s23.trans (s24.trans (s25.trans s26))
    have s2126 := s22.trans s2226
    have tab26 := say3.2.1.ext s2126
    have e1626 : ExtN H16 H26 := (e17.trans (ExtN.of s1720)).trans (say3.1.trans (ExtN.of s2126))
    refine eq_same (d := .list ([some (.time (2 + d1)), some (.time (2 + d2)), some (.many "measures" 4)].map odata)) (.lst (SqL.of (s2226 _ _ t22)) (.cons (Says.dp (say1.monoN (e1416.trans e1626) tab26)) (.cons (Says.dp (say2.monoN e1626 tab26)) (.cons (Says.dp (say3.monoN (ExtN.of s2126) tab26)) .nil))))
      (.lst (SqL.of t26) (.cons (Out.dp (o := .time (2 + d1)) (Same.sqt (s24.trans (s25.trans s26)) t23)) (.cons (Out.dp (o := .time (2 + d2)) (Same.sqt (s25.trans s26) t24)) (.cons (Out.dp (o := .many "measures" 4) (Same.sqt s26 t25)) .nil))))
      (outs_shaped _ (fun o ho => by
        simp only [List.mem_cons, List.not_mem_nil, or_false] at ho
        rcases ho with rfl | rfl | rfl <;> first | exact ok_time _ | decide +kernel)) ⟨_, rfl, if_t rfl ?_⟩
    have e1226 : ExtN H12 H26 := e1221.trans (ExtN.of s2126)
    refine ⟨tab26, fun H27 e27 tab27 E N hE hN => ⟨_, rfl, _, rfl, woven_out tab27 ((ha12.monoN e1226).monoN e27) pga.ok ((hb12.monoN e1226).monoN e27) pgb.ok ((wRes fab).trans (rMeas (by rw [pga.meas, pgb.meas]; decide))) hE fun v4 H28 say4 => ?_⟩⟩
    refine ⟨small_len (Nat.le_of_ble_eq_true rfl), fun p29 n29 => ?_⟩
    have s29 : Same H28 (upd H28 p29 (.tup [.str "measures", .int 4])) := same_up n29
    have t29 : SqT K (upd H28 p29 (.tup [.str "measures", .int 4])) p29 [.str "measures", .int 4] := SqT.of upd_same
    generalize (upd H28 p29 (.tup [.str "measures", .int 4])) = H29 at s29 t29 ⊢
    refine eq_same (d := odata (some (.many "measures" 4))) (Says.dp (say4.monoN (ExtN.of s29) (say4.2.1.ext s29))) (Out.dp (o := .many "measures" 4) t29) (out_shaped _ (by decide +kernel)) ?_
    exact k _ _ (by omega) (hp12.monoN (e1226.trans (e27.trans (say4.1.trans (ExtN.of s29))))) (say4.2.1.ext s29)
theorem ok_evright {f cA C fW fL : Addr} {c : Cs} {fd : FuncData} {Tb : List (Addr × Str)} (F : FunC K "_law_events_right" "_law_events_right" s__law_events_right f fd cA) (LE : LawEnv P w K mg base C c fW fL Tb) (LT : LamTab Tb base mg cA ("_law_events_right" ++ ".<locals>." ++ "<lambda>")) :
    FnOk P w K mg base CX0 13 f fd ["pen"] (spLaw Tb) := by
  obtain ⟨T, R, HO, J, gW, gL, ⟨spP, D__law_plain, PK⟩, D__law_pick, D__law_draw, D_woven, D_lockstep, D_events⟩ := LE
  refine F.ok sc__law_events_right (fun vs H Q E h => ?_) (fun A outer s H vs Q E hr h => ?_)
  · obtain ⟨_, _, rfl, _⟩ := h; rfl
  · obtain ⟨pen, n, rfl, hn, hp, tab, k⟩ := h
    refine ⟨_, (pss_cons (ps_set (i := 1) sc__law_events_right.nd rfl (Or.inl rfl) (pe_d D__law_draw (hr.mono (by decide)) pass0 (pa_cons (pv 0) (pa_cons pe_int pa_nil))))
  (pss_cons (ps_set (i := 2) sc__law_events_right.nd rfl (Or.inr rfl) (pe_d D__law_plain (hr.mono (by decide)) pass0 (pa_cons pe_int (pa_cons pe_int (pa_cons (pe_tup (pa_cons pe_str pa_nil)) (pa_cons (pe_listRg rfl (by rfl) T.n_list (prg_1 (by rfl) T.n_range (pe_op op_add pe_int (pv 1)))) (pa_cons pe_int pa_nil)))))))
  (pss_cons (ps_set (i := 3) sc__law_events_right.nd rfl (Or.inl rfl) (pe_d D__law_plain (hr.mono (by decide)) pass0 (pa_cons pe_int (pa_cons pe_int (pa_cons (pe_tup (pa_cons pe_str pa_nil)) (pa_cons (pe_listRg rfl (by rfl) T.n_list (prg_2 (by rfl) T.n_range pe_int pe_int)) (pa_cons pe_int pa_nil)))))))
  (pss_cons (ps_set (i := 4) sc__law_events_right.nd rfl (Or.inr rfl) (pe_d D__law_plain (hr.mono (by decide)) pass0 (pa_cons pe_int (pa_cons pe_int (pa_cons (pe_tup (pa_cons pe_str pa_nil)) (pa_cons (pe_listRg rfl (by rfl) T.n_list (prg_2 (by rfl) T.n_range pe_int pe_int)) (pa_cons pe_int pa_nil)))))))
  (pss_cons (ps_for (passes_of rfl) rfl ((pi_tupK K) (pe_tup (pa_cons (pe_glob (v := .ref fW) rfl gW rfl) (pa_cons (pe_glob (v := .ref fL) rfl gL rfl) pa_nil)))) (pg_name (i := 5) sc__law_events_right.nd rfl (Or.inr rfl))
  (pss_one (ps_if (PW.pt (pw_or (pt_cmpR op_ne (pe_callB call_lenD (by rfl) T.n_len (by decide +kernel) (pa_cons (pe_prd D_events (pe_joint (i := 5) J (hr.mono (by decide)) (passes_call (W := fun _ _ _ _ => False) L2.takes0 fun _ _ _ _ h => h) (pa_cons (pv 2) (pa_cons (pv 3) pa_nil))) (hr.mono (by decide)) pass0) pa_nil)) pe_int (nomark _)) (pw_or1 (pt_cmpR (neDK K hr.units) (pe_heard HO LT (hr.mono (by decide)) (blkOk_by (N := ["pen", "shared", "first", "second", "more", "joint"]) (sc := (defScope s__law_events_right)) (by decide +kernel)) sc__law_events_right.nd rfl rfl rfl (fun _ _ _ _ _ => rfl) (fun A outer s H E f c' hr => (pe_joint (i := 5) J (hr.mono (by decide)) (passes_call (W := fun cls d _ H => E cls d H) (takes_of rfl rfl rfl rfl) fun _ _ _ _ h => h) (pa_cons (pv 2) (pa_cons (pv 4) pa_nil))))) (pe_tup (pa_cons pe_str (pa_cons pe_int pa_nil))) (nomark _))))) (pss_one (ps_ret pe_bl)) pss_nil)))
  (pss_one (ps_ret pe_bl))))))), ?_⟩
    refine ⟨_, rfl, pen, 60, n, rfl, by decide, by decide, by omega, hp, fun d1 H1 a0 a1 bt1 hp1 => ?_⟩
    obtain ⟨x0, hx0⟩ := hp.lst
    have tab1 := tabs_but tab bt1 hx0
    obtain ⟨d, rfl⟩ : ∃ d : Nat, d1 = (d : Int) := ⟨d1.toNat, by omega⟩
    refine ⟨small_len (Nat.le_of_ble_eq_true rfl), fun p2 n2 => ?_⟩
    have s2 : Same H1 (upd H1 p2 (.tup [.str "a"])) := same_up n2
    have t2 : SqT K (upd H1 p2 (.tup [.str "a"])) p2 [.str "a"] := SqT.of upd_same
    generalize (upd H1 p2 (.tup [.str "a"])) = H2 at s2 t2 ⊢
    refine ⟨_, rfl, _, _, rfl, rfl, _, rfl, RgOk.of_le (by decide) (by omega) (by decide) (by omega), fun l1 nl1 => ?_⟩
    have w1 : (upd H2 l1 (.lst (rgV 0 (100 + (d : Int))))) l1 = some (.lst ((List.range (100 + d)).map fun n => V.int (Nat.cast n))) := by rw [upd_same, rg_eq]
    have sw1 : Same H2 (upd H2 l1 (.lst (rgV 0 (100 + (d : Int))))) := same_up nl1
    generalize (upd H2 l1 (.lst (rgV 0 (100 + (d : Int))))) = H3 at w1 sw1 ⊢
    refine PK.k (c := 1) (many := 1) (t := 1) (zs := ["a"]) (by decide) (by decide) (by decide) (Same.sqt sw1 t2) (by decide +kernel) (SqL.of w1) (fun n hn => by rw [List.mem_range] at hn; omega) List.nodup_range (by rw [List.length_range]; omega) (.inr (by decide)) (by decide) (by decide) fun pa H4 ga sa ha1 pga => ?_
    refine ⟨small_len (Nat.le_of_ble_eq_true rfl), fun p5 n5 => ?_⟩
    have s5 : Same H4 (upd H4 p5 (.tup [.str "b"])) := same_up n5
    have t5 : SqT K (upd H4 p5 (.tup [.str "b"])) p5 [.str "b"] := SqT.of upd_same
    generalize (upd H4 p5 (.tup [.str "b"])) = H5 at s5 t5 ⊢
    refine ⟨_, _, rfl, rfl, RgOk.of_le (by decide) (by decide) (by decide) (by decide), fun l2 nl2 => ?_⟩
    have w2 : (upd H5 l2 (.lst (rgV 100 200))) l2 = some (.lst (((List.range 100).map (100 + ·)).map fun n => V.int (Nat.cast n))) := by rw [upd_same, ← rg_eq2 100]; rfl
    have sw2 : Same H5 (upd H5 l2 (.lst (rgV 100 200))) := same_up nl2
    generalize (upd H5 l2 (.lst (rgV 100 200))) = H6 at w2 sw2 ⊢
    refine PK.k (c := 1) (many := 1) (t := 1) (zs := ["b"]) (by decide) (by decide) (by decide) (Same.sqt sw2 t5) (by decide +kernel) (SqL.of w2) (fun n hn => by obtain ⟨k, hk, rfl⟩ := List.mem_map.mp hn; rw [List.mem_range] at hk; omega) (rg_nd _) (by rw [List.length_map, List.length_range]; decide) (.inr (by decide)) (by decide) (by decide) fun pb H7 gb sb hb1 pgb => ?_
    refine ⟨small_len (Nat.le_of_ble_eq_true rfl), fun p8 n8 => ?_⟩
    have s8 : Same H7 (upd H7 p8 (.tup [.str "b"])) := same_up n8
    have t8 : SqT K (upd H7 p8 (.tup [.str "b"])) p8 [.str "b"] := SqT.of upd_same
    generalize (upd H7 p8 (.tup [.str "b"])) = H8 at s8 t8 ⊢
    refine ⟨_, _, rfl, rfl, RgOk.of_le (by decide) (by decide) (by decide) (by decide), fun l3 nl3 => ?_⟩
    have w3 : (upd H8 l3 (.lst (rgV 100 201))) l3 = some (.lst (((List.range 101).map (100 + ·)).map fun n => V.int (Nat.cast n))) := by rw [upd_same, ← rg_eq2 101]; rfl
    have sw3 : Same H8 (upd H8 l3 (.lst (rgV 100 201))) := same_up nl3
    generalize (upd H8 l3 (.lst (rgV 100 201))) = H9 at w3 sw3 ⊢
    refine PK.k (c := 1) (many := 1) (t := 1) (zs := ["b"]) (by decide) (by decide) (by decide) (Same.sqt sw3 t8) (by decide +kernel) (SqL.of w3) (fun n hn => by obtain ⟨k, hk, rfl⟩ := List.mem_map.mp hn; rw [List.mem_range] at hk; omega) (rg_nd _) (by rw [List.length_map, List.length_range]; decide) (.inr (by decide)) (by decide) (by decide) fun pc H10 gc sc hc1 pgc => ?_
    have s110 := s2.trans (sw1.trans (sa.trans (s5.trans (sw2.trans (sb.trans (s8.trans (sw3.trans sc)))))))
    have tab10 := tab1.ext s110
    have hp10 := hp1.monoN (ExtN.of s110)
    have ha10 := ha1.mono (s5.trans (sw2.trans (sb.trans (s8.trans (sw3.trans sc)))))
    have hb10 := hb1.mono (s8.trans (sw3.trans sc))
    clear ha1 hb1 t2 t5 t8 w1 w2 w3
    have fab : firstIn ga.meas gb.meas = none := by rw [pga.meas, pgb.meas]; decide +kernel
    have fac : firstIn ga.meas gc.meas = none := by rw [pga.meas, pgc.meas]; decide +kernel
    refine ⟨small_len (Nat.le_of_ble_eq_true rfl), fun p11 n11 => ?_⟩
    have s11 : Same H10 (upd H10 p11 (.tup [.ref fW, .ref fL])) := same_up n11
    have t11 : SqT K (upd H10 p11 (.tup [.ref fW, .ref fL])) p11 [.ref fW, .ref fL] := SqT.of upd_same
    generalize (upd H10 p11 (.tup [.ref fW, .ref fL])) = H11 at s11 t11 ⊢
    refine ⟨p11, rfl, ⟨_, t11⟩, ?_⟩
    refine for_it (walk_tup (K := K)) (fun i σ H' => ∃ v, σ = [some (.ref pen), some (.int (d : Int)), some (.ref pa), some (.ref pb), some (.ref pc), v] ∧ ExtN H11 H' ∧ Tabs Tb H') ⟨_, rfl, ExtN.refl _, tab10.ext s11⟩ (fun i σ H' _ ⟨_, _, e, _⟩ => sqtN e t11) (fun i x σ Hx H12 hi ⟨v, es, e12, tab12⟩ ⟨e, hx⟩ => ?_) fun σ H12 ⟨v, es, e12, tab12⟩ => ?_
    · subst es e
      have hxf : ∃ f, x = .ref f ∧ (f = fW ∨ f = fL) := by
        match i, hx with
        | 0, hx => exact ⟨fW, (Option.some.inj hx).symm, .inl rfl⟩
        | 1, hx => exact ⟨fL, (Option.some.inj hx).symm, .inr rfl⟩
      obtain ⟨f, rfl, hff⟩ := hxf
      have e1012 : ExtN H10 H12 := (ExtN.of s11).trans e12
      have haX := ha10.monoN e1012
      have hbX := hb10.monoN e1012
      have hcX := hc1.monoN e1012
      have ftab : firstTime ga gb = none := by rw [ft_pg pga pgb (by decide) (by decide)]; rfl
      have ftac : firstTime ga gc = none := by rw [ft_pg pga pgc (by decide) (by decide)]; rfl
      refine joint_k hff rfl fun sp hsp => ⟨_, rfl, _, rfl, join_fit hsp tab12 haX pga.ok hbX pgb.ok ((wRes fab).trans (rNone (by rw [pga.meas, pgb.meas]; decide) (by rw [pga.count, pgb.count]; decide) (by rw [pga.steps, pgb.steps, plS_len, plS_len, pga.count, pgb.count]; decide)))
        ((lRes fab ftab).trans (rNone (by rw [pga.meas, pgb.meas]; decide) (by rw [pga.count, pgb.count]; decide) (by rw [pga.steps, pgb.steps, plS_len, plS_len]; decide))) (fun es q1 q2 q3 => ?_) fun p3 H13 g3 e13 tab13 hg3 go3 k4 => ?_⟩
      · have := words_len (d := d) (m := 100) (by omega) (by decide) pga.evs pgb.evs q1 q2
        omega
      · obtain ⟨dx, aS, aT, aM, aL, aO, aR, kvs0, f1, _⟩ := id hg3
        refine ⟨p3, dx, _, rfl, f1, p3, g3, rfl, hg3, fun q kvs nq hrel => ?_⟩
        have sq : Same H13 (upd H13 q (.dK kvs)) := same_up nq
        have tq : (upd H13 q (.dK kvs)) q = some (.dK kvs) := upd_same
        generalize (upd H13 q (.dK kvs)) = H14 at sq tq ⊢
        have hkl : (kvs.length : Int) = 200 := by
          have h1 := words_len (d := d) (m := 100) (by omega) (by decide) pga.evs pgb.evs go3.en k4
          rw [List.length_map, ← Paired.length hrel] at h1
          omega
        refine ⟨q, kvs, rfl, tq, rfl, _, rfl, if_f (show (!decide (V.int (kvs.length : Int) = V.int 200)) = false by rw [hkl]; rfl) ?_⟩
        have tab14 := tab13.ext sq
        have e1214 := e13.trans (ExtN.of sq)
        refine ⟨tab14, fun H15 e15 tab15 E N hE hN => joint_k hff rfl fun sp hsp => ⟨_, rfl, _, rfl, ?_⟩⟩
        have e1215 := e1214.trans e15
        have kk : exN E Tb c.T H15 [("most", .int 200), ("what", .str "events")] := exO.n (o := .many "events" 200) hE fun p Ha e t hp => ?_
        · refine join_fit hsp tab15 (haX.monoN e1215) pga.ok (hcX.monoN e1215) pgc.ok ((wRes fac).trans (rNone (by rw [pga.meas, pgc.meas]; decide) (by rw [pga.count, pgc.count]; decide) (by rw [pga.steps, pgc.steps, plS_len, plS_len, pga.count, pgc.count]; decide)))
            ((lRes fac ftac).trans (rNone (by rw [pga.meas, pgc.meas]; decide) (by rw [pga.count, pgc.count]; decide) (by rw [pga.steps, pgc.steps, plS_len, plS_len]; decide))) (fun es q1 q2 q3 => kk) fun p4 H16 g4 e16 tab16 hg4 go4 k5 => ?_
          have h1 := words_len (d := d) (m := 101) (by omega) (by decide) pga.evs pgc.evs go4.en k5
          rw [List.length_map] at h1
          have := go4.el
          omega
        · skip
          refine ⟨small_len (Nat.le_of_ble_eq_true rfl), fun p17 n17 => ?_⟩
          have s17 : Same Ha (upd Ha p17 (.tup [.str "events", .int 200])) := same_up n17
          have t17 : SqT K (upd Ha p17 (.tup [.str "events", .int 200])) p17 [.str "events", .int 200] := SqT.of upd_same
          generalize (upd Ha p17 (.tup [.str "events", .int 200])) = H17 at s17 t17 ⊢
          have e1217 := e1215.trans (e.trans (ExtN.of s17))
          refine ne_same (d := odata (some (.many "events" 200))) (Out.dp (o := .many "events" 200) (SqT.of (s17 _ _ hp))) (Out.dp (o := .many "events" 200) t17) (out_shaped _ (by decide +kernel)) ⟨_, rfl, if_f rfl ?_⟩
          exact ⟨_, rfl, e12.trans e1217, t.ext s17⟩
    · subst es
      exact k _ _ (by omega) (hp10.monoN ((ExtN.of s11).trans e12)) tab12
end
end K53
namespace K53
open PySem L2 RZ Own StX SkE LamX PySem.Spec
abbrev s__law_sizes_right : Stmt := top 65
theorem sc__law_sizes_right : FnScope ["pen", "heard", "many", "few", "more", "one", "other", "first", "second", "joint"] ["pen"] (defScope s__law_sizes_right) := ⟨rfl, rfl, rfl, by decide +kernel, rfl, by decide +kernel, by decide +kernel⟩
section
variable {P : Program} {w : World} {K : PySem.W.Frag} {mg : Str → Option Value} {base : Heap}
theorem few_facts {d : Int} (h0 : 0 ≤ d) (h1 : d < 3) : ∃ fe q r : Nat, 1 + d = (fe : Int) ∧ (600 : Int) / (1 + d) = (q : Int) ∧ (1200 : Int) / (1 + d) = (r : Int) ∧ 1 ≤ fe ∧ fe ≤ 3 ∧ 1 ≤ q ∧ q ≤ 600 ∧ q ≤ r ∧ r ≤ 1200 ∧ q + (r - q) * fe ≤ 1200 ∧ 1200 < q + (1201 - q) * fe := by
  have : d = 0 ∨ d = 1 ∨ d = 2 := by omega
  rcases this with rfl | rfl | rfl
  · exact ⟨1, 600, 1200, by decide⟩
  · exact ⟨2, 300, 600, by decide⟩
  · exact ⟨3, 200, 400, by decide⟩
theorem PlainK.k1 {C : Addr} {sp : Sp} (PK : PlainK K C sp) {aN aW : Addr} {c m : Int} {many : Nat} {t : Int} {zs : List Str} {H : Hp} {Q : VK} {E : XK} (e : m = (many : Int)) (c1 : 1 ≤ c) (c2 : c ≤ 300) (hm : many ≤ 1200) (hN : SqT K H aN (zs.map V.str)) (hmo : MeasOk zs) (hW : H aW = some (.lst [])) (t1 : 1 ≤ t) (t2 : t ≤ 1000)
    (k : ∀ p H' g, Same H H' → GrAt K C H' p g → PG g c zs many t [] → Q (.ref p) H') : sp [.int c, .int m, .ref aN, .ref aW, .int t] H Q E := by
  subst e
  exact PK.k0 c1 c2 hm hN hmo hW t1 t2 k
theorem no_evs {es : List Str} {g g2 : Gr} (h1 : (g.evs.map (·.1)).Perm (([] : List Nat).map wdN)) (h2 : (g2.evs.map (·.1)).Perm (([] : List Nat).map wdN)) (hu : uni es g g2) (h : 200 < es.length) : False := by
  have hes : es = [] := List.eq_nil_iff_forall_not_mem.mpr fun x hx => by
    rcases (hu x).mp hx with z | z
    · exact absurd (h1.mem_iff.mp z) (by simp)
    · exact absurd (h2.mem_iff.mp z) (by simp)
  rw [hes] at h
  exact absurd h (by decide)
theorem ok_sizes {f cA C fW fL : Addr} {c : Cs} {fd : FuncData} {Tb : List (Addr × Str)} (F : FunC K "_law_sizes_right" "_law_sizes_right" s__law_sizes_right f fd cA) (LE : LawEnv P w K mg base C c fW fL Tb) (LT : LamTab Tb base mg cA ("_law_sizes_right" ++ ".<locals>." ++ "<lambda>")) :
    FnOk P w K mg base CX0 13 f fd ["pen"] (spLaw Tb) := by
  obtain ⟨T, R, HO, J, gW, gL, ⟨spP, D__law_plain, PK⟩, D__law_pick, D__law_draw, D_woven, D_lockstep, D_events⟩ := LE
  refine F.ok sc__law_sizes_right (fun vs H Q E h => ?_) (fun A outer s H vs Q E hr h => ?_)
  · obtain ⟨_, _, rfl, _⟩ := h; rfl
  · obtain ⟨pen, n, rfl, hn, hp, tab, k⟩ := h
    refine ⟨_, (pss_cons (ps_asg (pe_d D__law_pick (hr.mono (by decide)) pass0 (pa_cons (pv 0) (pa_cons (pe_lst (pa_cons (pe_tup (pa_cons pe_int (pa_cons pe_int pa_nil))) (pa_cons (pe_tup (pa_cons pe_int (pa_cons pe_int pa_nil))) (pa_cons (pe_tup (pa_cons pe_int (pa_cons pe_int pa_nil))) (pa_cons (pe_tup (pa_cons pe_int (pa_cons pe_int pa_nil))) pa_nil))))) pa_nil))) (pg_tupK K (pgs_cons (pg_name (i := 5) sc__law_sizes_right.nd rfl (Or.inl rfl)) (pgs_cons (pg_name (i := 6) sc__law_sizes_right.nd rfl (Or.inl rfl)) pgs_nil))))
  (pss_cons (ps_asg (pe_tup (pa_cons (pe_d D__law_plain (hr.mono (by decide)) pass0 (pa_cons (pv 5) (pa_cons pe_int (pa_cons (pe_tup (pa_cons pe_str pa_nil)) (pa_cons (pe_lst pa_nil) (pa_cons pe_int pa_nil)))))) (pa_cons (pe_d D__law_plain (hr.mono (by decide)) pass0 (pa_cons (pv 6) (pa_cons pe_int (pa_cons (pe_tup (pa_cons pe_str pa_nil)) (pa_cons (pe_lst pa_nil) (pa_cons pe_int pa_nil)))))) pa_nil))) (pg_tupK K (pgs_cons (pg_name (i := 7) sc__law_sizes_right.nd rfl (Or.inr rfl)) (pgs_cons (pg_name (i := 8) sc__law_sizes_right.nd rfl (Or.inr rfl)) pgs_nil))))
  (pss_cons (ps_if (PW.pt (pw_or (pt_cmpR op_ne (fldK K (pe_d D_woven (hr.mono (by decide)) (passes_call (W := fun _ _ _ _ => False) L2.takes0 fun _ _ _ _ h => h) (pa_cons (pv 7) (pa_cons (pv 8) pa_nil)))) (pe_op op_mul (pv 5) (pv 6)) (nomark _)) (pw_or1 (pt_cmpR op_ne (fldK K (pe_d D_lockstep (hr.mono (by decide)) (passes_call (W := fun _ _ _ _ => False) L2.takes0 fun _ _ _ _ h => h) (pa_cons (pv 7) (pa_cons (pv 8) pa_nil)))) (pe_op op_mul (pv 5) (pv 6)) (nomark _))))) (pss_one (ps_ret pe_bl)) pss_nil)
  (pss_cons (ps_asg (pe_d D__law_pick (hr.mono (by decide)) pass0 (pa_cons (pv 0) (pa_cons (pe_lst (pa_cons (pe_tup (pa_cons pe_int (pa_cons pe_int pa_nil))) (pa_cons (pe_tup (pa_cons pe_int (pa_cons pe_int pa_nil))) (pa_cons (pe_tup (pa_cons pe_int (pa_cons pe_int pa_nil))) (pa_cons (pe_tup (pa_cons pe_int (pa_cons pe_int pa_nil))) pa_nil))))) pa_nil))) (pg_tupK K (pgs_cons (pg_name (i := 5) sc__law_sizes_right.nd rfl (Or.inl rfl)) (pgs_cons (pg_name (i := 6) sc__law_sizes_right.nd rfl (Or.inl rfl)) pgs_nil))))
  (pss_cons (ps_asg (pe_tup (pa_cons (pe_d D__law_plain (hr.mono (by decide)) pass0 (pa_cons (pv 5) (pa_cons pe_int (pa_cons (pe_tup (pa_cons pe_str pa_nil)) (pa_cons (pe_lst pa_nil) (pa_cons pe_int pa_nil)))))) (pa_cons (pe_d D__law_plain (hr.mono (by decide)) pass0 (pa_cons (pv 6) (pa_cons pe_int (pa_cons (pe_tup (pa_cons pe_str pa_nil)) (pa_cons (pe_lst pa_nil) (pa_cons pe_int pa_nil)))))) pa_nil))) (pg_tupK K (pgs_cons (pg_name (i := 7) sc__law_sizes_right.nd rfl (Or.inr rfl)) (pgs_cons (pg_name (i := 8) sc__law_sizes_right.nd rfl (Or.inr rfl)) pgs_nil))))
  (pss_cons (ps_setLc (i := 1) (own := [("joint", 9)]) (g := gName 9) (tt := tYes) (by rfl) sc__law_sizes_right.nd rfl rfl (sw_true rfl rfl rfl (by decide +kernel)) ((pi_tupK K) (pe_tup (pa_cons (pe_glob (v := .ref fW) rfl gW rfl) (pa_cons (pe_glob (v := .ref fL) rfl gL rfl) pa_nil)))) (blkOk_by (N := ["pen", "heard", "many", "few", "more", "one", "other", "first", "second", "joint"]) (sc := (defScope s__law_sizes_right)) (by decide +kernel)) (fun _ _ _ _ _ => (pg_name (i := 9) sc__law_sizes_right.nd rfl (Or.inr rfl))) (fun _ _ _ _ _ => pts_nil) (fun _ _ _ _ _ => (pe_heard HO LT (hr.mono (by decide)) (blkOk_by (N := ["pen", "heard", "many", "few", "more", "one", "other", "first", "second", "joint"]) (sc := (relS _ (defScope s__law_sizes_right))) (by decide +kernel)) sc__law_sizes_right.nd rfl rfl rfl (fun _ _ _ _ _ => rfl) (fun A outer s H E f c' hr => (pe_joint (i := 9) J (hr.mono (by decide)) (passes_call (W := fun cls d _ H => E cls d H) (takes_of rfl rfl rfl rfl) fun _ _ _ _ h => h) (pa_cons (pv 7) (pa_cons (pv 8) pa_nil)))))))
  (pss_cons (ps_if (pt_cmpR (neDK K hr.units) (pv 1) (pe_op op_rep (pe_lst (pa_cons (pe_tup (pa_cons pe_str (pa_cons pe_int pa_nil))) pa_nil)) pe_int) (nomark _)) (pss_one (ps_ret pe_bl)) pss_nil)
  (pss_cons (ps_set (i := 2) sc__law_sizes_right.nd rfl (Or.inr rfl) (pe_d D__law_pick (hr.mono (by decide)) pass0 (pa_cons (pv 0) (pa_cons (pe_lst (pa_cons (pe_tup (pa_cons pe_int (pa_cons pe_int pa_nil))) (pa_cons (pe_tup (pa_cons pe_int (pa_cons pe_int pa_nil))) (pa_cons (pe_tup (pa_cons pe_int (pa_cons pe_int pa_nil))) pa_nil)))) pa_nil))))
  (pss_cons (ps_asg (pe_tup (pa_cons (pe_d D__law_plain (hr.mono (by decide)) pass0 (pa_cons pe_int (pa_cons (pe_ix (ix_tupK K) (pv 2) pe_int (fun _ _ => rfl)) (pa_cons (pe_tup (pa_cons pe_str pa_nil)) (pa_cons (pe_lst pa_nil) (pa_cons pe_int pa_nil)))))) (pa_cons (pe_d D__law_plain (hr.mono (by decide)) pass0 (pa_cons pe_int (pa_cons (pe_ix (ix_tupK K) (pv 2) pe_int (fun _ _ => rfl)) (pa_cons (pe_tup (pa_cons pe_str pa_nil)) (pa_cons (pe_lst pa_nil) (pa_cons pe_int pa_nil)))))) pa_nil))) (pg_tupK K (pgs_cons (pg_name (i := 7) sc__law_sizes_right.nd rfl (Or.inr rfl)) (pgs_cons (pg_name (i := 8) sc__law_sizes_right.nd rfl (Or.inr rfl)) pgs_nil))))
  (pss_cons (ps_if (PW.pt (pw_or (pt_cmpR op_ne (pe_callB (lenK K) (by rfl) T.n_len (by decide +kernel) (pa_cons (fldK K (pe_d D_lockstep (hr.mono (by decide)) (passes_call (W := fun _ _ _ _ => False) L2.takes0 fun _ _ _ _ h => h) (pa_cons (pv 7) (pa_cons (pv 8) pa_nil)))) pa_nil)) pe_int (nomark _)) (pw_or1 (pt_cmpR (neDK K hr.units) (pe_heard HO LT (hr.mono (by decide)) (blkOk_by (N := ["pen", "heard", "many", "few", "more", "one", "other", "first", "second", "joint"]) (sc := (defScope s__law_sizes_right)) (by decide +kernel)) sc__law_sizes_right.nd rfl rfl rfl (fun _ _ _ _ _ => rfl) (fun A outer s H E f c' hr => (pe_d D_lockstep (hr.mono (by decide)) (passes_call (W := fun cls d _ H => E cls d H) (takes_of rfl rfl rfl rfl) fun _ _ _ _ h => h) (pa_cons (pe_d D__law_plain (hr.mono (by decide)) pass0 (pa_cons pe_int (pa_cons (pe_op op_add (pe_ix (ix_tupK K) (pv 2) pe_int (fun _ _ => rfl)) pe_int) (pa_cons (pe_tup pa_nil) (pa_cons (pe_lst pa_nil) (pa_cons pe_int pa_nil)))))) (pa_cons (pv 8) pa_nil))))) (pe_tup (pa_cons pe_str (pa_cons pe_int pa_nil))) (nomark _))))) (pss_one (ps_ret pe_bl)) pss_nil)
  (pss_cons (ps_set (i := 3) sc__law_sizes_right.nd rfl (Or.inr rfl) (pe_op op_add pe_int (pe_d D__law_draw (hr.mono (by decide)) pass0 (pa_cons (pv 0) (pa_cons pe_int pa_nil)))))
  (pss_cons (ps_asg (pe_tup (pa_cons (pe_d D__law_plain (hr.mono (by decide)) pass0 (pa_cons (pv 3) (pa_cons (pe_op op_fdiv pe_int (pv 3)) (pa_cons (pe_tup (pa_cons pe_str pa_nil)) (pa_cons (pe_lst pa_nil) (pa_cons pe_int pa_nil)))))) (pa_cons (pe_d D__law_plain (hr.mono (by decide)) pass0 (pa_cons pe_int (pa_cons pe_int (pa_cons (pe_tup (pa_cons pe_str pa_nil)) (pa_cons (pe_lst pa_nil) (pa_cons pe_int pa_nil)))))) pa_nil))) (pg_tupK K (pgs_cons (pg_name (i := 7) sc__law_sizes_right.nd rfl (Or.inr rfl)) (pgs_cons (pg_name (i := 8) sc__law_sizes_right.nd rfl (Or.inr rfl)) pgs_nil))))
  (pss_cons (ps_set (i := 4) sc__law_sizes_right.nd rfl (Or.inr rfl) (pe_d D__law_plain (hr.mono (by decide)) pass0 (pa_cons pe_int (pa_cons (pe_op op_sub (pe_op op_fdiv pe_int (pv 3)) (pe_op op_fdiv pe_int (pv 3))) (pa_cons (pe_tup pa_nil) (pa_cons (pe_lst pa_nil) (pa_cons pe_int pa_nil)))))))
  (pss_cons (ps_if (pt_cmpR (neDK K hr.units) (pe_lst (pa_cons (pe_heard HO LT (hr.mono (by decide)) (blkOk_by (N := ["pen", "heard", "many", "few", "more", "one", "other", "first", "second", "joint"]) (sc := (defScope s__law_sizes_right)) (by decide +kernel)) sc__law_sizes_right.nd rfl rfl rfl (fun _ _ _ _ _ => rfl) (fun A outer s H E f c' hr => (pe_d D_woven (hr.mono (by decide)) (passes_call (W := fun cls d _ H => E cls d H) (takes_of rfl rfl rfl rfl) fun _ _ _ _ h => h) (pa_cons (pv 7) (pa_cons (pv 8) pa_nil))))) (pa_cons (pe_heard HO LT (hr.mono (by decide)) (blkOk_by (N := ["pen", "heard", "many", "few", "more", "one", "other", "first", "second", "joint"]) (sc := (defScope s__law_sizes_right)) (by decide +kernel)) sc__law_sizes_right.nd rfl rfl rfl (fun _ _ _ _ _ => rfl) (fun A outer s H E f c' hr => (pe_d D_woven (hr.mono (by decide)) (passes_call (W := fun cls d _ H => E cls d H) (takes_of rfl rfl rfl rfl) fun _ _ _ _ h => h) (pa_cons (pv 7) (pa_cons (pv 4) pa_nil))))) pa_nil))) (pe_lst (pa_cons pe_non (pa_cons pe_non pa_nil))) (nomark _)) (pss_one (ps_ret pe_bl)) pss_nil)
  (pss_one (ps_ret (pe_cmpR (eqDK K hr.units) (pe_heard HO LT (hr.mono (by decide)) (blkOk_by (N := ["pen", "heard", "many", "few", "more", "one", "other", "first", "second", "joint"]) (sc := (defScope s__law_sizes_right)) (by decide +kernel)) sc__law_sizes_right.nd rfl rfl rfl (fun _ _ _ _ _ => rfl) (fun A outer s H E f c' hr => (pe_d D_woven (hr.mono (by decide)) (passes_call (W := fun cls d _ H => E cls d H) (takes_of rfl rfl rfl rfl) fun _ _ _ _ h => h) (pa_cons (pv 7) (pa_cons (pe_d D__law_plain (hr.mono (by decide)) pass0 (pa_cons pe_int (pa_cons (pe_op op_sub pe_int (pe_op op_fdiv pe_int (pv 3))) (pa_cons (pe_tup (pa_cons pe_str pa_nil)) (pa_cons (pe_lst pa_nil) (pa_cons pe_int pa_nil)))))) pa_nil))))) (pe_tup (pa_cons pe_str (pa_cons pe_int pa_nil))) (nomark _)))))))))))))))))), ?_⟩
    refine ⟨_, rfl, ?_⟩
    refine ⟨small_len (Nat.le_of_ble_eq_true rfl), fun p1 n1 => ?_⟩
    have s1 : Same H (upd H p1 (.tup [.int 20, .int 15])) := same_up n1
    have t1 : SqT K (upd H p1 (.tup [.int 20, .int 15])) p1 [.int 20, .int 15] := SqT.of upd_same
    generalize (upd H p1 (.tup [.int 20, .int 15])) = H1 at s1 t1 ⊢
    refine ⟨small_len (Nat.le_of_ble_eq_true rfl), fun p2 n2 => ?_⟩
    have s2 : Same H1 (upd H1 p2 (.tup [.int 300, .int 1])) := same_up n2
    have t2 : SqT K (upd H1 p2 (.tup [.int 300, .int 1])) p2 [.int 300, .int 1] := SqT.of upd_same
    generalize (upd H1 p2 (.tup [.int 300, .int 1])) = H2 at s2 t2 ⊢
    refine ⟨small_len (Nat.le_of_ble_eq_true rfl), fun p3 n3 => ?_⟩
    have s3 : Same H2 (upd H2 p3 (.tup [.int 2, .int 150])) := same_up n3
    have t3 : SqT K (upd H2 p3 (.tup [.int 2, .int 150])) p3 [.int 2, .int 150] := SqT.of upd_same
    generalize (upd H2 p3 (.tup [.int 2, .int 150])) = H3 at s3 t3 ⊢
    refine ⟨small_len (Nat.le_of_ble_eq_true rfl), fun p4 n4 => ?_⟩
    have s4 : Same H3 (upd H3 p4 (.tup [.int 17, .int 17])) := same_up n4
    have t4 : SqT K (upd H3 p4 (.tup [.int 17, .int 17])) p4 [.int 17, .int 17] := SqT.of upd_same
    generalize (upd H3 p4 (.tup [.int 17, .int 17])) = H4 at s4 t4 ⊢
    refine ⟨small_len (Nat.le_of_ble_eq_true rfl), fun p5 n5 => ?_⟩
    have s5 : Same H4 (upd H4 p5 (.lst [.ref p1, .ref p2, .ref p3, .ref p4])) := same_up n5
    have t5 : (upd H4 p5 (.lst [.ref p1, .ref p2, .ref p3, .ref p4])) p5 = some (.lst [.ref p1, .ref p2, .ref p3, .ref p4]) := upd_same
    generalize (upd H4 p5 (.lst [.ref p1, .ref p2, .ref p3, .ref p4])) = H5 at s5 t5 ⊢
    have hp4 := hp.monoN (ExtN.of (s1.trans (s2.trans (s3.trans s4))))
    have hp5 := hp4.monoN (ExtN.of s5)
    obtain ⟨x4, hx4⟩ := hp4.lst
    obtain ⟨x5, hx5⟩ := hp5.lst
    refine ⟨pen, p5, _, n, rfl, t5, fun e => ne_of_none hx4 n5 e.symm, Nat.le_of_ble_eq_true rfl, Nat.le_of_ble_eq_true rfl, by omega, hp5, fun d x H6 hx bt hp6 => ?_⟩
    have tab6 : Tabs Tb H6 := tabs_but (tab.ext (s1.trans (s2.trans (s3.trans (s4.trans s5))))) bt hx5
    have e6 : ExtL H5 H6 := ExtL.ofB bt hx5
    have hpick : ∃ (a : Addr) (c1 c2 : Int), x = .ref a ∧ SqT K H6 a [.int c1, .int c2] ∧ 1 ≤ c1 ∧ c1 ≤ 300 ∧ 1 ≤ c2 ∧ c2 ≤ 300 ∧ c1 * c2 ≤ 300 ∧ c1 + c2 ≤ 1200 := by
      match d, hx with
      | 0, hx => exact ⟨p1, 20, 15, (Option.some.inj hx).symm, sqtL e6 (Same.sqt (s2.trans (s3.trans (s4.trans s5))) t1), by decide⟩
      | 1, hx => exact ⟨p2, 300, 1, (Option.some.inj hx).symm, sqtL e6 (Same.sqt (s3.trans (s4.trans s5)) t2), by decide⟩
      | 2, hx => exact ⟨p3, 2, 150, (Option.some.inj hx).symm, sqtL e6 (Same.sqt (s4.trans s5) t3), by decide⟩
      | 3, hx => exact ⟨p4, 17, 17, (Option.some.inj hx).symm, sqtL e6 (Same.sqt s5 t4), by decide⟩
    clear hx t1 t2 t3 t4
    obtain ⟨a, c1, c2, rfl, ha, b1, b2, b3, b4, b5, b6⟩ := hpick
    refine ⟨a, _, rfl, ha, rfl, _, _, rfl, _, _, rfl, rfl, _, rfl, ?_⟩
    refine ⟨small_len (Nat.le_of_ble_eq_true rfl), fun p7 n7 => ?_⟩
    have s7 : Same H6 (upd H6 p7 (.tup [.str "a"])) := same_up n7
    have t7 : SqT K (upd H6 p7 (.tup [.str "a"])) p7 [.str "a"] := SqT.of upd_same
    generalize (upd H6 p7 (.tup [.str "a"])) = H7 at s7 t7 ⊢
    refine ⟨small_len (Nat.le_of_ble_eq_true rfl), fun p8 n8 => ?_⟩
    have s8 : Same H7 (upd H7 p8 (.lst [])) := same_up n8
    have t8 : (upd H7 p8 (.lst [])) p8 = some (.lst []) := upd_same
    generalize (upd H7 p8 (.lst [])) = H8 at s8 t8 ⊢
    refine PK.k0 (c := c1) (many := 1) (t := 1) (zs := ["a"]) b1 b2 (by decide) (Same.sqt s8 t7) (by decide +kernel) t8 (by decide) (by decide) fun pa H9 ga sa ha1 pga => ⟨_, rfl, ?_⟩
    refine ⟨small_len (Nat.le_of_ble_eq_true rfl), fun p10 n10 => ?_⟩
    have s10 : Same H9 (upd H9 p10 (.tup [.str "b"])) := same_up n10
    have t10 : SqT K (upd H9 p10 (.tup [.str "b"])) p10 [.str "b"] := SqT.of upd_same
    generalize (upd H9 p10 (.tup [.str "b"])) = H10 at s10 t10 ⊢
    refine ⟨small_len (Nat.le_of_ble_eq_true rfl), fun p11 n11 => ?_⟩
    have s11 : Same H10 (upd H10 p11 (.lst [])) := same_up n11
    have t11 : (upd H10 p11 (.lst [])) p11 = some (.lst []) := upd_same
    generalize (upd H10 p11 (.lst [])) = H11 at s11 t11 ⊢
    refine PK.k0 (c := c2) (many := 1) (t := 1) (zs := ["b"]) b3 b4 (by decide) (Same.sqt s11 t10) (by decide +kernel) t11 (by decide) (by decide) fun pb H12 gb sb hb1 pgb => ?_
    refine ⟨small_len (Nat.le_of_ble_eq_true rfl), fun p13 n13 => ?_⟩
    have s13 : Same H12 (upd H12 p13 (.tup [.ref pa, .ref pb])) := same_up n13
    have t13 : SqT K (upd H12 p13 (.tup [.ref pa, .ref pb])) p13 [.ref pa, .ref pb] := SqT.of upd_same
    generalize (upd H12 p13 (.tup [.ref pa, .ref pb])) = H13 at s13 t13 ⊢
    have s613 := s7.trans (s8.trans (sa.trans (s10.trans (s11.trans (sb.trans s13)))))
    have tab13 := tab6.ext s613
    have hp13 := hp6.monoN (ExtN.of s613)
    have ha13 := ha1.mono (s10.trans (s11.trans (sb.trans s13)))
    have hb13 := hb1.mono s13
    have fab : firstIn ga.meas gb.meas = none := by rw [pga.meas, pgb.meas]; decide +kernel
    have tabt : firstTime ga gb = none := by rw [ft_pg pga pgb (by decide) (by decide)]; rfl
    have hcc : c1 * c2 < 18446744073709551616 := by omega
    have hcp : 0 ≤ c1 * c2 := Int.mul_nonneg (by omega) (by omega)
    refine ⟨p13, _, rfl, t13, rfl, _, _, rfl, _, _, rfl, rfl, ?_⟩
    refine (show (_ : L2.St → Hp → Prop) [some (.ref pen), none, none, none, none, some (.int c1), some (.int c2), some (.ref pa), some (.ref pb), none] H13 from ?_)
    refine ⟨_, rfl, _, rfl, woven_fit tab13 ha13 pga.ok hb13 pgb.ok ((wRes fab).trans (rNone (by rw [pga.meas, pgb.meas]; decide) (by rw [pga.count, pgb.count]; exact b5) (by rw [pga.steps, pgb.steps, plS_len, plS_len, pga.count, pgb.count]; omega))) ⟨fun es q1 q2 q3 => (no_evs pga.evs pgb.evs q2 q3).elim, fun p3' H14 g3 e14 tab14 hg3 go3 k1 k2 k3 k4 => ?_⟩⟩
    obtain ⟨dx, aS, aT, aM, aL, aO, aR, kvs, f1, f2, f3, _⟩ := id hg3
    refine ⟨p3', C, dx, _, _, rfl, f1, R.c, R.no _ (by simp), rfl, _, rfl, _, rfl, _, _, rfl, rfl, .inl ⟨by omega, by omega⟩, rfl, _, rfl, if_f (show (!decide (V.int g3.count = V.int (c1 * c2))) = false by rw [k1, pga.count, pgb.count]; simp) ?_⟩
    refine ⟨_, rfl, _, rfl, lock_fit tab14 (ha13.monoN e14) pga.ok (hb13.monoN e14) pgb.ok ((lRes fab tabt).trans (rNone (by rw [pga.meas, pgb.meas]; decide) (by rw [pga.count, pgb.count]; exact b5) (by rw [pga.steps, pgb.steps, plS_len, plS_len]; decide))) ⟨fun es q1 q2 q3 => (no_evs pga.evs pgb.evs q2 q3).elim, fun p4' H15 g4 e15 tab15 hg4 go4 j1 j2 j3 j4 => ?_⟩⟩
    obtain ⟨dx', aS', aT', aM', aL', aO', aR', kvs', f1', f2', f3', _⟩ := id hg4
    refine ⟨p4', C, dx', _, _, rfl, f1', R.c, R.no _ (by simp), rfl, _, rfl, _, rfl, _, _, rfl, rfl, .inl ⟨by omega, by omega⟩, rfl, _, rfl, if_f (show (!decide (V.int g4.count = V.int (c1 * c2))) = false by rw [j1, pga.count, pgb.count]; simp) ?_⟩
    have hp15 := hp13.monoN (e14.trans e15)
    clear f1 f2 f3 f1' f2' f3' hg3 hg4 go3 go4 ha1 hb1 ha13 hb13 pga pgb
    refine ⟨_, rfl, ?_⟩
    refine ⟨small_len (Nat.le_of_ble_eq_true rfl), fun p16 n16 => ?_⟩
    have s16 : Same H15 (upd H15 p16 (.tup [.int 300, .int 2])) := same_up n16
    have t16 : SqT K (upd H15 p16 (.tup [.int 300, .int 2])) p16 [.int 300, .int 2] := SqT.of upd_same
    generalize (upd H15 p16 (.tup [.int 300, .int 2])) = H16 at s16 t16 ⊢
    refine ⟨small_len (Nat.le_of_ble_eq_true rfl), fun p17 n17 => ?_⟩
    have s17 : Same H16 (upd H16 p17 (.tup [.int 151, .int 2])) := same_up n17
    have t17 : SqT K (upd H16 p17 (.tup [.int 151, .int 2])) p17 [.int 151, .int 2] := SqT.of upd_same
    generalize (upd H16 p17 (.tup [.int 151, .int 2])) = H17 at s17 t17 ⊢
    refine ⟨small_len (Nat.le_of_ble_eq_true rfl), fun p18 n18 => ?_⟩
    have s18 : Same H17 (upd H17 p18 (.tup [.int 18, .int 17])) := same_up n18
    have t18 : SqT K (upd H17 p18 (.tup [.int 18, .int 17])) p18 [.int 18, .int 17] := SqT.of upd_same
    generalize (upd H17 p18 (.tup [.int 18, .int 17])) = H18 at s18 t18 ⊢
    refine ⟨small_len (Nat.le_of_ble_eq_true rfl), fun p19 n19 => ?_⟩
    have s19 : Same H18 (upd H18 p19 (.tup [.int 2, .int 151])) := same_up n19
    have t19 : SqT K (upd H18 p19 (.tup [.int 2, .int 151])) p19 [.int 2, .int 151] := SqT.of upd_same
    generalize (upd H18 p19 (.tup [.int 2, .int 151])) = H19 at s19 t19 ⊢
    refine ⟨small_len (Nat.le_of_ble_eq_true rfl), fun p20 n20 => ?_⟩
    have s20 : Same H19 (upd H19 p20 (.lst [.ref p16, .ref p17, .ref p18, .ref p19])) := same_up n20
    have t20 : (upd H19 p20 (.lst [.ref p16, .ref p17, .ref p18, .ref p19])) p20 = some (.lst [.ref p16, .ref p17, .ref p18, .ref p19]) := upd_same
    generalize (upd H19 p20 (.lst [.ref p16, .ref p17, .ref p18, .ref p19])) = H20 at s20 t20 ⊢
    have hp19 := hp15.monoN (ExtN.of (s16.trans (s17.trans (s18.trans s19))))
    have hp20 := hp19.monoN (ExtN.of s20)
    obtain ⟨x19, hx19⟩ := hp19.lst
    obtain ⟨x20, hx20⟩ := hp20.lst
    refine ⟨pen, p20, _, n + 1, rfl, t20, fun e => ne_of_none hx19 n20 e.symm, Nat.le_of_ble_eq_true rfl, Nat.le_of_ble_eq_true rfl, by omega, hp20, fun d2 x H21 hx bt2 hp21 => ?_⟩
    have tab21 : Tabs Tb H21 := tabs_but (tab15.ext (s16.trans (s17.trans (s18.trans (s19.trans s20))))) bt2 hx20
    have e21 : ExtL H20 H21 := ExtL.ofB bt2 hx20
    have hpick : ∃ (a : Addr) (c1 c2 : Int), x = .ref a ∧ SqT K H21 a [.int c1, .int c2] ∧ 1 ≤ c1 ∧ c1 ≤ 300 ∧ 1 ≤ c2 ∧ c2 ≤ 300 ∧ 300 < c1 * c2 := by
      match d2, hx with
      | 0, hx => exact ⟨p16, 300, 2, (Option.some.inj hx).symm, sqtL e21 (Same.sqt (s17.trans (s18.trans (s19.trans s20))) t16), by decide⟩
      | 1, hx => exact ⟨p17, 151, 2, (Option.some.inj hx).symm, sqtL e21 (Same.sqt (s18.trans (s19.trans s20)) t17), by decide⟩
      | 2, hx => exact ⟨p18, 18, 17, (Option.some.inj hx).symm, sqtL e21 (Same.sqt (s19.trans s20) t18), by decide⟩
      | 3, hx => exact ⟨p19, 2, 151, (Option.some.inj hx).symm, sqtL e21 (Same.sqt s20 t19), by decide⟩
    clear hx t16 t17 t18 t19
    clear hcc hcp b1 b2 b3 b4 b5 b6
    obtain ⟨a', c1', c2', rfl, ha', b1, b2, b3, b4, b5⟩ := hpick
    refine ⟨a', _, rfl, ha', rfl, _, _, rfl, _, _, rfl, rfl, _, rfl, ?_⟩
    refine ⟨small_len (Nat.le_of_ble_eq_true rfl), fun p22 n22 => ?_⟩
    have s22 : Same H21 (upd H21 p22 (.tup [.str "a"])) := same_up n22
    have t22 : SqT K (upd H21 p22 (.tup [.str "a"])) p22 [.str "a"] := SqT.of upd_same
    generalize (upd H21 p22 (.tup [.str "a"])) = H22 at s22 t22 ⊢
    refine ⟨small_len (Nat.le_of_ble_eq_true rfl), fun p23 n23 => ?_⟩
    have s23 : Same H22 (upd H22 p23 (.lst [])) := same_up n23
    have t23 : (upd H22 p23 (.lst [])) p23 = some (.lst []) := upd_same
    generalize (upd H22 p23 (.lst [])) = H23 at s23 t23 ⊢
    refine PK.k0 (c := c1') (many := 1200) (t := 1) (zs := ["a"]) b1 b2 (by decide) (Same.sqt s23 t22) (by decide +kernel) t23 (by decide) (by decide) fun pc H24 gc sc hc1 pgc => ⟨_, rfl, ?_⟩
    refine ⟨small_len (Nat.le_of_ble_eq_true rfl), fun p25 n25 => ?_⟩
    have s25 : Same H24 (upd H24 p25 (.tup [.str "b"])) := same_up n25
    have t25 : SqT K (upd H24 p25 (.tup [.str "b"])) p25 [.str "b"] := SqT.of upd_same
    generalize (upd H24 p25 (.tup [.str "b"])) = H25 at s25 t25 ⊢
    refine ⟨small_len (Nat.le_of_ble_eq_true rfl), fun p26 n26 => ?_⟩
    have s26 : Same H25 (upd H25 p26 (.lst [])) := same_up n26
    have t26 : (upd H25 p26 (.lst [])) p26 = some (.lst []) := upd_same
    generalize (upd H25 p26 (.lst [])) = H26 at s26 t26 ⊢
    refine PK.k0 (c := c2') (many := 1) (t := 1) (zs := ["b"]) b3 b4 (by decide) (Same.sqt s26 t25) (by decide +kernel) t26 (by decide) (by decide) fun pd H27 gd sd hd1 pgd => ?_
    refine ⟨small_len (Nat.le_of_ble_eq_true rfl), fun p28 n28 => ?_⟩
    have s28 : Same H27 (upd H27 p28 (.tup [.ref pc, .ref pd])) := same_up n28
    have t28 : SqT K (upd H27 p28 (.tup [.ref pc, .ref pd])) p28 [.ref pc, .ref pd] := SqT.of upd_same
    generalize (upd H27 p28 (.tup [.ref pc, .ref pd])) = H28 at s28 t28 ⊢
    refine ⟨p28, _, rfl, t28, rfl, _, _, rfl, _, _, rfl, rfl, ?_⟩
    refine (show (_ : L2.St → Hp → Prop) [some (.ref pen), none, none, none, none, some (.int c1'), some (.int c2'), some (.ref pc), some (.ref pd), none] H28 from ?_)
    have s2128 := s22.trans (s23.trans (sc.trans (s25.trans (s26.trans (sd.trans s28)))))
    have tab28 := tab21.ext s2128
    have hp28 := hp21.monoN (ExtN.of s2128)
    have hc28 := hc1.mono (s25.trans (s26.trans (sd.trans s28)))
    have hd28 := hd1.mono s28
    have fcd : firstIn gc.meas gd.meas = none := by rw [pgc.meas, pgd.meas]; decide +kernel
    have tcd : firstTime gc gd = none := by rw [ft_pg pgc pgd (by decide) (by decide)]; rfl
    have rcd : ∀ n, resOf n gc gd = some (.many "states" 300) := fun n => rStates (by rw [pgc.meas, pgd.meas]; decide) (by rw [pgc.count, pgd.count]; exact b5)
    clear hc1 hd1 t22 t23 t25 t26 t28
    refine ⟨small_len (Nat.le_of_ble_eq_true rfl), fun p29 n29 => ?_⟩
    have s29 : Same H28 (upd H28 p29 (.tup [.ref fW, .ref fL])) := same_up n29
    have t29 : SqT K (upd H28 p29 (.tup [.ref fW, .ref fL])) p29 [.ref fW, .ref fL] := SqT.of upd_same
    generalize (upd H28 p29 (.tup [.ref fW, .ref fL])) = H29 at s29 t29 ⊢
    refine ⟨p29, rfl, ⟨_, t29⟩, fun D nD => ?_⟩
    refine heard2 (o := some (.many "states" 300)) nD t29 (tab28.ext s29) (fun _ => rfl) (fun f H30 hff e30 tab30 => ?_) fun v1 v2 H30 e30 tab30 l30 g1 g2 => ?_
    · intro R E N hE hN hsay
      have e2830 : ExtN H28 H30 := (ExtN.of s29).trans e30
      exact joint_k hff rfl fun sp hsp => ⟨_, rfl, _, rfl, join_out hsp tab30 (hc28.monoN e2830) pgc.ok (hd28.monoN e2830) pgd.ok ((wRes fcd).trans (rcd _)) ((lRes fcd tcd).trans (rcd _)) (Same.refl _) hE hsay⟩
    have e2830 : ExtN H28 H30 := (ExtN.of s29).trans e30
    refine ⟨_, rfl, ?_⟩
    refine ⟨small_len (Nat.le_of_ble_eq_true rfl), fun p31 n31 => ?_⟩
    have s31 : Same H30 (upd H30 p31 (.tup [.str "states", .int 300])) := same_up n31
    have t31 : SqT K (upd H30 p31 (.tup [.str "states", .int 300])) p31 [.str "states", .int 300] := SqT.of upd_same
    generalize (upd H30 p31 (.tup [.str "states", .int 300])) = H31 at s31 t31 ⊢
    refine ⟨small_len (Nat.le_of_ble_eq_true rfl), fun p32 n32 => ?_⟩
    have s32 : Same H31 (upd H31 p32 (.lst [.ref p31])) := same_up n32
    have t32 : (upd H31 p32 (.lst [.ref p31])) p32 = some (.lst [.ref p31]) := upd_same
    generalize (upd H31 p32 (.lst [.ref p31])) = H32 at s32 t32 ⊢
    refine ⟨p32, 2, _, rfl, rfl, t32, by decide, by decide, small_len (Nat.le_of_ble_eq_true rfl), fun p33 n33 => ?_⟩
    have s33 : Same H32 (upd H32 p33 (.lst (List.replicate (2 : Int).toNat [.ref p31]).flatten)) := same_up n33
    have t33 : (upd H32 p33 (.lst (List.replicate (2 : Int).toNat [.ref p31]).flatten)) p33 = some (.lst [.ref p31, .ref p31]) := upd_same
    generalize (upd H32 p33 (.lst (List.replicate (2 : Int).toNat [.ref p31]).flatten)) = H33 at s33 t33 ⊢
    have s3033 := s31.trans (s32.trans s33)
    have tab33 := tab30.ext s3033
    refine ne_same (d := .list [odata (some (.many "states" 300)), odata (some (.many "states" 300))]) (.lst (SqL.of (s3033 _ _ l30)) (.cons (Says.dp (g1.monoN (ExtN.of s3033) tab33)) (.cons (Says.dp (g2.monoN (ExtN.of s3033) tab33)) .nil)))
      (.lst (SqL.of t33) (.cons (Out.dp (o := .many "states" 300) (Same.sqt (s32.trans s33) t31)) (.cons (Out.dp (o := .many "states" 300) (Same.sqt (s32.trans s33) t31)) .nil))) (outs_shaped [some (.many "states" 300), some (.many "states" 300)] (by decide +kernel)) ⟨_, rfl, if_f rfl ?_⟩
    have hp33 := hp28.monoN (e2830.trans (ExtN.of s3033))
    clear g1 g2 l30 t31 t32 t33 hc28 hd28 pgc pgd b1 b2 b3 b4 b5
    refine ⟨_, rfl, ?_⟩
    refine ⟨small_len (Nat.le_of_ble_eq_true rfl), fun p34 n34 => ?_⟩
    have s34 : Same H33 (upd H33 p34 (.tup [.int 40, .int 30])) := same_up n34
    have t34 : SqT K (upd H33 p34 (.tup [.int 40, .int 30])) p34 [.int 40, .int 30] := SqT.of upd_same
    generalize (upd H33 p34 (.tup [.int 40, .int 30])) = H34 at s34 t34 ⊢
    refine ⟨small_len (Nat.le_of_ble_eq_true rfl), fun p35 n35 => ?_⟩
    have s35 : Same H34 (upd H34 p35 (.tup [.int 600, .int 2])) := same_up n35
    have t35 : SqT K (upd H34 p35 (.tup [.int 600, .int 2])) p35 [.int 600, .int 2] := SqT.of upd_same
    generalize (upd H34 p35 (.tup [.int 600, .int 2])) = H35 at s35 t35 ⊢
    refine ⟨small_len (Nat.le_of_ble_eq_true rfl), fun p36 n36 => ?_⟩
    have s36 : Same H35 (upd H35 p36 (.tup [.int 24, .int 50])) := same_up n36
    have t36 : SqT K (upd H35 p36 (.tup [.int 24, .int 50])) p36 [.int 24, .int 50] := SqT.of upd_same
    generalize (upd H35 p36 (.tup [.int 24, .int 50])) = H36 at s36 t36 ⊢
    refine ⟨small_len (Nat.le_of_ble_eq_true rfl), fun p37 n37 => ?_⟩
    have s37 : Same H36 (upd H36 p37 (.lst [.ref p34, .ref p35, .ref p36])) := same_up n37
    have t37 : (upd H36 p37 (.lst [.ref p34, .ref p35, .ref p36])) p37 = some (.lst [.ref p34, .ref p35, .ref p36]) := upd_same
    generalize (upd H36 p37 (.lst [.ref p34, .ref p35, .ref p36])) = H37 at s37 t37 ⊢
    have hp36 := hp33.monoN (ExtN.of (s34.trans (s35.trans s36)))
    have hp37 := hp36.monoN (ExtN.of s37)
    obtain ⟨x36, hx36⟩ := hp36.lst
    obtain ⟨x37, hx37⟩ := hp37.lst
    refine ⟨pen, p37, _, n + 2, rfl, t37, fun e => ne_of_none hx36 n37 e.symm, Nat.le_of_ble_eq_true rfl, Nat.le_of_ble_eq_true rfl, by omega, hp37, fun d3 x H38 hx bt3 hp38 => ?_⟩
    have tab38 : Tabs Tb H38 := tabs_but (tab33.ext (s34.trans (s35.trans (s36.trans s37)))) bt3 hx37
    have e38 : ExtL H37 H38 := ExtL.ofB bt3 hx37
    have hpick : ∃ (a : Addr) (m1 m2 : Nat), x = .ref a ∧ SqT K H38 a [.int (m1 : Int), .int (m2 : Int)] ∧ 1 ≤ m1 ∧ m1 ≤ 600 ∧ 1 ≤ m2 ∧ m2 ≤ 50 ∧ m1 * m2 = 1200 := by
      match d3, hx with
      | 0, hx => exact ⟨p34, 40, 30, (Option.some.inj hx).symm, sqtL e38 (Same.sqt (s35.trans (s36.trans s37)) t34), by decide⟩
      | 1, hx => exact ⟨p35, 600, 2, (Option.some.inj hx).symm, sqtL e38 (Same.sqt (s36.trans s37) t35), by decide⟩
      | 2, hx => exact ⟨p36, 24, 50, (Option.some.inj hx).symm, sqtL e38 (Same.sqt s37 t36), by decide⟩
    clear hx t34 t35 t36
    obtain ⟨am, m1, m2, rfl, ham, b1, b2, b3, b4, b5⟩ := hpick
    refine ⟨_, rfl, am, _, 0, _, rfl, rfl, ham, rfl, ?_⟩
    refine ⟨small_len (Nat.le_of_ble_eq_true rfl), fun p39 n39 => ?_⟩
    have s39 : Same H38 (upd H38 p39 (.tup [.str "a"])) := same_up n39
    have t39 : SqT K (upd H38 p39 (.tup [.str "a"])) p39 [.str "a"] := SqT.of upd_same
    generalize (upd H38 p39 (.tup [.str "a"])) = H39 at s39 t39 ⊢
    refine ⟨small_len (Nat.le_of_ble_eq_true rfl), fun p40 n40 => ?_⟩
    have s40 : Same H39 (upd H39 p40 (.lst [])) := same_up n40
    have t40 : (upd H39 p40 (.lst [])) p40 = some (.lst []) := upd_same
    generalize (upd H39 p40 (.lst [])) = H40 at s40 t40 ⊢
    refine PK.k0 (c := 1) (many := m1) (t := 1) (zs := ["a"]) (by decide) (by decide) (by omega) (Same.sqt s40 t39) (by decide +kernel) t40 (by decide) (by decide) fun pe H41 ge se he1 pge => ?_
    refine ⟨_, rfl, am, _, 1, _, rfl, rfl, Same.sqt (s39.trans (s40.trans se)) ham, rfl, ?_⟩
    refine ⟨small_len (Nat.le_of_ble_eq_true rfl), fun p42 n42 => ?_⟩
    have s42 : Same H41 (upd H41 p42 (.tup [.str "b"])) := same_up n42
    have t42 : SqT K (upd H41 p42 (.tup [.str "b"])) p42 [.str "b"] := SqT.of upd_same
    generalize (upd H41 p42 (.tup [.str "b"])) = H42 at s42 t42 ⊢
    refine ⟨small_len (Nat.le_of_ble_eq_true rfl), fun p43 n43 => ?_⟩
    have s43 : Same H42 (upd H42 p43 (.lst [])) := same_up n43
    have t43 : (upd H42 p43 (.lst [])) p43 = some (.lst []) := upd_same
    generalize (upd H42 p43 (.lst [])) = H43 at s43 t43 ⊢
    refine PK.k0 (c := 1) (many := m2) (t := 1) (zs := ["b"]) (by decide) (by decide) (by omega) (Same.sqt s43 t42) (by decide +kernel) t43 (by decide) (by decide) fun pf H44 gf sf hf1 pgf => ?_
    refine ⟨small_len (Nat.le_of_ble_eq_true rfl), fun p45 n45 => ?_⟩
    have s45 : Same H44 (upd H44 p45 (.tup [.ref pe, .ref pf])) := same_up n45
    have t45 : SqT K (upd H44 p45 (.tup [.ref pe, .ref pf])) p45 [.ref pe, .ref pf] := SqT.of upd_same
    generalize (upd H44 p45 (.tup [.ref pe, .ref pf])) = H45 at s45 t45 ⊢
    refine ⟨p45, _, rfl, t45, rfl, _, _, rfl, _, _, rfl, rfl, ?_⟩
    refine (show (_ : L2.St → Hp → Prop) [some (.ref pen), some (.ref D), some (.ref am), none, none, some (.int c1'), some (.int c2'), some (.ref pe), some (.ref pf), none] H45 from ?_)
    have s3845 := s39.trans (s40.trans (se.trans (s42.trans (s43.trans (sf.trans s45)))))
    have tab45 := tab38.ext s3845
    have hp45 := hp38.monoN (ExtN.of s3845)
    have he45 := he1.mono (s42.trans (s43.trans (sf.trans s45)))
    have hf45 := hf1.mono s45
    have ham45 := Same.sqt s3845 ham
    have fef : firstIn ge.meas gf.meas = none := by rw [pge.meas, pgf.meas]; decide +kernel
    have tef : firstTime ge gf = none := by rw [ft_pg pge pgf b1 b3]; rfl
    clear he1 hf1 t39 t40 t42 t43 t45
    refine ⟨_, rfl, _, rfl, lock_fit tab45 he45 pge.ok hf45 pgf.ok ((lRes fef tef).trans (rNone (by rw [pge.meas, pgf.meas]; decide) (by rw [pge.count, pgf.count]; decide) (by rw [pge.steps, pgf.steps, plS_len, plS_len]; omega))) ⟨fun es q1 q2 q3 => (no_evs pge.evs pgf.evs q2 q3).elim, fun p5' H46 g5 e46 tab46 hg5 go5 j1 j2 j3 j4 => ?_⟩⟩
    obtain ⟨dx5, aS5, aT5, aM5, aL5, aO5, aR5, kvs5, f51, f52, f53, ⟨vs5, f54, f55⟩, _⟩ := id hg5
    have hl5 : (vs5.length : Int) = 1200 := by
      rw [Paired.length f55, j2, pge.steps, pgf.steps, plS_len, plS_len, b5]; rfl
    refine ⟨p5', C, dx5, _, .ref aT5, rfl, f51, R.c, R.no _ (by simp), rfl, _, _, rfl, sqt_len f54, rfl, _, rfl, if_f (show (!decide (V.int (vs5.length : Int) = V.int 1200)) = false by rw [hl5]; rfl) ?_⟩
    refine ⟨tab46, fun H47 e47 tab47 E N hE hN => ?_⟩
    have e4547 := e46.trans e47
    refine ⟨_, rfl, am, _, 0, _, rfl, rfl, sqtN e4547 ham45, rfl, _, _, rfl, rfl, ?_⟩
    refine ⟨small_len (Nat.le_of_ble_eq_true rfl), fun p48 n48 => ?_⟩
    have s48 : Same H47 (upd H47 p48 (.tup [])) := same_up n48
    have t48 : SqT K (upd H47 p48 (.tup [])) p48 [] := SqT.of upd_same
    generalize (upd H47 p48 (.tup [])) = H48 at s48 t48 ⊢
    refine ⟨small_len (Nat.le_of_ble_eq_true rfl), fun p49 n49 => ?_⟩
    have s49 : Same H48 (upd H48 p49 (.lst [])) := same_up n49
    have t49 : (upd H48 p49 (.lst [])) p49 = some (.lst []) := upd_same
    generalize (upd H48 p49 (.lst [])) = H49 at s49 t49 ⊢
    refine PK.k0 (c := 1) (many := m1 + 1) (t := 1) (zs := []) (by decide) (by decide) (by omega) (Same.sqt s49 t48) (by decide +kernel) t49 (by decide) (by decide) fun pg' H50 gg sg hg1 pgg => ⟨_, rfl, ?_⟩
    have s4750 := s48.trans (s49.trans sg)
    have fgf : firstIn gg.meas gf.meas = none := by rw [pgg.meas, pgf.meas]; decide +kernel
    have tgf : firstTime gg gf = none := by rw [ft_pg pgg pgf (by omega) b3]; rfl
    refine lock_out (tab47.ext s4750) hg1 pgg.ok (hf45.monoN (e4547.trans (ExtN.of s4750))) pgf.ok ((lRes fgf tgf).trans (rSteps (by rw [pgg.meas, pgf.meas]; decide) (by rw [pgg.count, pgf.count]; decide) (by rw [pgg.steps, pgf.steps, plS_len, plS_len, Nat.add_mul]; omega))) hE fun v5 H51 say5 => ?_
    refine ⟨small_len (Nat.le_of_ble_eq_true rfl), fun p52 n52 => ?_⟩
    have s52 : Same H51 (upd H51 p52 (.tup [.str "steps", .int 1200])) := same_up n52
    have t52 : SqT K (upd H51 p52 (.tup [.str "steps", .int 1200])) p52 [.str "steps", .int 1200] := SqT.of upd_same
    generalize (upd H51 p52 (.tup [.str "steps", .int 1200])) = H52 at s52 t52 ⊢
    refine ne_same (d := odata (some (.many "steps" 1200))) (Says.dp (say5.monoN (ExtN.of s52) (say5.2.1.ext s52))) (Out.dp (o := .many "steps" 1200) t52) (out_shaped _ (by decide +kernel)) ⟨_, rfl, if_f rfl ?_⟩
    have tab52 := say5.2.1.ext s52
    have hp52 := hp45.monoN (e4547.trans ((ExtN.of s4750).trans (say5.1.trans (ExtN.of s52))))
    clear say5 hg1 hf45 he45 hg5 f51 f52 f53 f54 f55 hE hN pge pgf pgg b1 b2 b3 b4 b5
    refine ⟨_, rfl, pen, 3, n + 3, rfl, by decide, by decide, by omega, hp52, fun df H53 a0 a1 btf hp53 => ⟨_, _, rfl, rfl, ?_⟩⟩
    obtain ⟨x52, hx52⟩ := hp52.lst
    have tab53 := tabs_but tab52 btf hx52
    obtain ⟨fe, q, r, hfe, hq, hr', b1, b2, b3, b4, b5, b6, b7, b8⟩ := few_facts a0 a1
    refine ⟨_, rfl, _, rfl, _, _, rfl, rfl, ⟨by omega, by omega⟩, ?_⟩
    refine ⟨small_len (Nat.le_of_ble_eq_true rfl), fun p54 n54 => ?_⟩
    have s54 : Same H53 (upd H53 p54 (.tup [.str "a"])) := same_up n54
    have t54 : SqT K (upd H53 p54 (.tup [.str "a"])) p54 [.str "a"] := SqT.of upd_same
    generalize (upd H53 p54 (.tup [.str "a"])) = H54 at s54 t54 ⊢
    refine ⟨small_len (Nat.le_of_ble_eq_true rfl), fun p55 n55 => ?_⟩
    have s55 : Same H54 (upd H54 p55 (.lst [])) := same_up n55
    have t55 : (upd H54 p55 (.lst [])) p55 = some (.lst []) := upd_same
    generalize (upd H54 p55 (.lst [])) = H55 at s55 t55 ⊢
    refine PK.k1 (c := 1 + df) (m := 600 / (1 + df)) (many := q) (t := 5) (zs := ["a"]) hq (by omega) (by omega) (by omega) (Same.sqt s55 t54) (by decide +kernel) t55 (by decide) (by decide) fun ph H56 gh sh hh1 pgh => ?_
    refine ⟨small_len (Nat.le_of_ble_eq_true rfl), fun p57 n57 => ?_⟩
    have s57 : Same H56 (upd H56 p57 (.tup [.str "b"])) := same_up n57
    have t57 : SqT K (upd H56 p57 (.tup [.str "b"])) p57 [.str "b"] := SqT.of upd_same
    generalize (upd H56 p57 (.tup [.str "b"])) = H57 at s57 t57 ⊢
    refine ⟨small_len (Nat.le_of_ble_eq_true rfl), fun p58 n58 => ?_⟩
    have s58 : Same H57 (upd H57 p58 (.lst [])) := same_up n58
    have t58 : (upd H57 p58 (.lst [])) p58 = some (.lst []) := upd_same
    generalize (upd H57 p58 (.lst [])) = H58 at s58 t58 ⊢
    refine PK.k0 (c := 1) (many := 0) (t := 1) (zs := ["b"]) (by decide) (by decide) (by decide) (Same.sqt s58 t57) (by decide +kernel) t58 (by decide) (by decide) fun pii H59 gi si hi1 pgii => ?_
    refine ⟨small_len (Nat.le_of_ble_eq_true rfl), fun p60 n60 => ?_⟩
    have s60 : Same H59 (upd H59 p60 (.tup [.ref ph, .ref pii])) := same_up n60
    have t60 : SqT K (upd H59 p60 (.tup [.ref ph, .ref pii])) p60 [.ref ph, .ref pii] := SqT.of upd_same
    generalize (upd H59 p60 (.tup [.ref ph, .ref pii])) = H60 at s60 t60 ⊢
    refine ⟨p60, _, rfl, t60, rfl, _, _, rfl, _, _, rfl, rfl, ?_⟩
    refine (show (_ : L2.St → Hp → Prop) [some (.ref pen), some (.ref D), some (.ref am), some (.int (1 + df)), none, some (.int c1'), some (.int c2'), some (.ref ph), some (.ref pii), none] H60 from ?_)
    refine ⟨_, rfl, _, _, rfl, rfl, ⟨by omega, by omega⟩, _, rfl, _, _, rfl, rfl, ⟨by omega, by omega⟩, _, _, rfl, rfl, ?_⟩
    refine ⟨small_len (Nat.le_of_ble_eq_true rfl), fun p61 n61 => ?_⟩
    have s61 : Same H60 (upd H60 p61 (.tup [])) := same_up n61
    have t61 : SqT K (upd H60 p61 (.tup [])) p61 [] := SqT.of upd_same
    generalize (upd H60 p61 (.tup [])) = H61 at s61 t61 ⊢
    refine ⟨small_len (Nat.le_of_ble_eq_true rfl), fun p62 n62 => ?_⟩
    have s62 : Same H61 (upd H61 p62 (.lst [])) := same_up n62
    have t62 : (upd H61 p62 (.lst [])) p62 = some (.lst []) := upd_same
    generalize (upd H61 p62 (.lst [])) = H62 at s62 t62 ⊢
    refine PK.k1 (c := 1) (m := 1200 / (1 + df) - 600 / (1 + df)) (many := r - q) (t := 4) (zs := []) (by omega) (by decide) (by decide) (by omega) (Same.sqt s62 t61) (by decide +kernel) t62 (by decide) (by decide) fun pj H63 gj sj hj1 pgj => ?_
    have s5363 := s54.trans (s55.trans (sh.trans (s57.trans (s58.trans (si.trans (s60.trans (s61.trans (s62.trans sj))))))))
    have tab63 := tab53.ext s5363
    have hp63 := hp53.monoN (ExtN.of s5363)
    have hh63 := hh1.mono (s57.trans (s58.trans (si.trans (s60.trans (s61.trans (s62.trans sj))))))
    have hi63 := hi1.mono (s60.trans (s61.trans (s62.trans sj)))
    clear hh1 hi1 t54 t55 t57 t58 t60 t61 t62
    have hft : (1 + df).toNat = fe := by omega
    have fhi : firstIn gh.meas gi.meas = none := by rw [pgh.meas, pgii.meas]; decide +kernel
    have fhj : firstIn gh.meas gj.meas = none := by rw [pgh.meas, pgj.meas]; decide +kernel
    refine ⟨tab63, fun H64 e64 tab64 E N hE hN => ⟨_, rfl, _, rfl, woven_fit tab64 (hh63.monoN e64) pgh.ok (hi63.monoN e64) pgii.ok ((wRes fhi).trans (rNone (by rw [pgh.meas, pgii.meas]; decide) (by rw [pgh.count, pgii.count]; omega) (by rw [pgh.steps, pgii.steps, plS_len, plS_len, pgii.count, Nat.zero_mul, show (1 : Int).toNat = 1 from rfl, Nat.mul_one]; omega))) ⟨fun es q1 q2 q3 => (no_evs pgh.evs pgii.evs q2 q3).elim, fun p6' H65 g6 e65 tab65 _ _ _ _ _ _ => hN _ _ ?_⟩⟩⟩
    have e6365 := e64.trans e65
    refine ⟨tab65, fun H66 e66 tab66 E N hE hN => ⟨_, rfl, _, rfl, woven_fit tab66 ((hh63.monoN e6365).monoN e66) pgh.ok ((hj1.monoN e6365).monoN e66) pgj.ok ((wRes fhj).trans (rNone (by rw [pgh.meas, pgj.meas]; decide) (by rw [pgh.count, pgj.count]; omega) (by rw [pgh.steps, pgj.steps, plS_len, plS_len, pgj.count, pgh.count, hft, show (1 : Int).toNat = 1 from rfl, Nat.mul_one]; exact b7))) ⟨fun es q1 q2 q3 => (no_evs pgh.evs pgj.evs q2 q3).elim, fun p7' H67 g7 e67 tab67 _ _ _ _ _ _ => hN _ _ ?_⟩⟩⟩
    refine ⟨small_len (Nat.le_of_ble_eq_true rfl), fun p68 n68 => ?_⟩
    have s68 : Same H67 (upd H67 p68 (.lst [.non, .non])) := same_up n68
    have t68 : (upd H67 p68 (.lst [.non, .non])) p68 = some (.lst [.non, .non]) := upd_same
    generalize (upd H67 p68 (.lst [.non, .non])) = H68 at s68 t68 ⊢
    refine ⟨small_len (Nat.le_of_ble_eq_true rfl), fun p69 n69 => ?_⟩
    have s69 : Same H68 (upd H68 p69 (.lst [.non, .non])) := same_up n69
    have t69 : (upd H68 p69 (.lst [.non, .non])) p69 = some (.lst [.non, .non]) := upd_same
    generalize (upd H68 p69 (.lst [.non, .non])) = H69 at s69 t69 ⊢
    refine ne_same (d := .list [.none, .none]) (.lst (SqL.of (s69 _ _ t68)) (.cons .non (.cons .non .nil))) (.lst (SqL.of t69) (.cons .non (.cons .non .nil))) (by decide +kernel) ⟨_, rfl, if_f rfl ?_⟩
    have tab69 := tab67.ext (s68.trans s69)
    have e6369 : ExtN H63 H69 := e6365.trans (e66.trans (e67.trans (ExtN.of (s68.trans s69))))
    refine ⟨tab69, fun H70 e70 tab70 E N hE hN => ⟨_, rfl, _, rfl, _, _, rfl, rfl, ⟨by omega, by omega⟩, _, _, rfl, rfl, ?_⟩⟩
    refine ⟨small_len (Nat.le_of_ble_eq_true rfl), fun p71 n71 => ?_⟩
    have s71 : Same H70 (upd H70 p71 (.tup [.str "b"])) := same_up n71
    have t71 : SqT K (upd H70 p71 (.tup [.str "b"])) p71 [.str "b"] := SqT.of upd_same
    generalize (upd H70 p71 (.tup [.str "b"])) = H71 at s71 t71 ⊢
    refine ⟨small_len (Nat.le_of_ble_eq_true rfl), fun p72 n72 => ?_⟩
    have s72 : Same H71 (upd H71 p72 (.lst [])) := same_up n72
    have t72 : (upd H71 p72 (.lst [])) p72 = some (.lst []) := upd_same
    generalize (upd H71 p72 (.lst [])) = H72 at s72 t72 ⊢
    refine PK.k1 (c := 1) (m := 1201 - 600 / (1 + df)) (many := 1201 - q) (t := 4) (zs := ["b"]) (by omega) (by decide) (by decide) (by omega) (Same.sqt s72 t71) (by decide +kernel) t72 (by decide) (by decide) fun pk H73 gk sk hk1 pgk => ?_
    have s7073 := s71.trans (s72.trans sk)
    have fhk : firstIn gh.meas gk.meas = none := by rw [pgh.meas, pgk.meas]; decide +kernel
    have e6373 := e6369.trans (e70.trans (ExtN.of s7073))
    refine woven_out (tab70.ext s7073) (hh63.monoN e6373) pgh.ok hk1 pgk.ok ((wRes fhk).trans (rSteps (by rw [pgh.meas, pgk.meas]; decide) (by rw [pgh.count, pgk.count]; omega) (by rw [pgh.steps, pgk.steps, plS_len, plS_len, pgk.count, pgh.count, hft, show (1 : Int).toNat = 1 from rfl, Nat.mul_one]; exact b8))) hE fun v8 H74 say8 => ?_
    refine ⟨small_len (Nat.le_of_ble_eq_true rfl), fun p75 n75 => ?_⟩
    have s75 : Same H74 (upd H74 p75 (.tup [.str "steps", .int 1200])) := same_up n75
    have t75 : SqT K (upd H74 p75 (.tup [.str "steps", .int 1200])) p75 [.str "steps", .int 1200] := SqT.of upd_same
    generalize (upd H74 p75 (.tup [.str "steps", .int 1200])) = H75 at s75 t75 ⊢
    refine eq_same (d := odata (some (.many "steps" 1200))) (Says.dp (say8.monoN (ExtN.of s75) (say8.2.1.ext s75))) (Out.dp (o := .many "steps" 1200) t75) (out_shaped _ (by decide +kernel)) ?_
    exact k _ _ (by omega) (hp63.monoN (e6373.trans (say8.1.trans (ExtN.of s75)))) (say8.2.1.ext s75)
end
end K53
namespace K53
open PySem L2 RZ Own StX SkE LamX PySem.Spec
abbrev s_law : Stmt := top 68
theorem sc_law : FnScope ["script", "pen", "graph", "joint", "odd", "heard"] ["script"] (defScope s_law) := ⟨rfl, rfl, rfl, by decide +kernel, rfl, by decide +kernel, by decide +kernel⟩
section
variable {P : Program} {w : World} {K : PySem.W.Frag} {mg : Str → Option Value} {base : Heap}
def OddOk (K : PySem.W.Frag) (H : Hp) (v : V) : Prop := v = .non ∨ (∃ i, v = .int i) ∨ (∃ z, v = .str z) ∨ (∃ b, v = .bl b) ∨ (∃ p xs, v = .ref p ∧ SqT K H p xs) ∨ ∃ p xs, v = .ref p ∧ H p = some (.lst xs)
theorem OddOk.monoN {H H' : Hp} {v : V} (h : OddOk K H v) (e : ExtN H H') : OddOk K H' v := by
  rcases h with h | h | h | h | ⟨p, xs, h1, h2⟩ | ⟨p, xs, h1, h2⟩
  · exact .inl h
  · exact .inr (.inl h)
  · exact .inr (.inr (.inl h))
  · exact .inr (.inr (.inr (.inl h)))
  · exact .inr (.inr (.inr (.inr (.inl ⟨p, xs, h1, sqtN e h2⟩))))
  · exact .inr (.inr (.inr (.inr (.inr ⟨p, xs, h1, e _ _ h2 (fun _ z => by cases z)⟩))))
theorem OddOk.is {C : Addr} {H : Hp} {v : V} (R : GrC K C) (h : OddOk K H v) : IsG K C H v false := by
  have kb := R.kb
  rcases h with rfl | ⟨i, rfl⟩ | ⟨z, rfl⟩ | ⟨b, rfl⟩ | ⟨p, xs, rfl, h⟩ | ⟨p, xs, rfl, h⟩
  · exact ⟨_, .base .non, kb _ (by simp)⟩
  · exact ⟨_, .base (.int i), kb _ (by simp)⟩
  · exact ⟨_, .base (.str z), kb _ (by simp)⟩
  · exact ⟨_, .base (.bl b), kb _ (by simp)⟩
  · rcases h with (h | ⟨o, h⟩) | ⟨o, its, n, h1, h2, _⟩
    · exact ⟨_, .base (.tup h), kb _ (by simp)⟩
    · exact ⟨_, .fTuple h, kb _ (by simp)⟩
    · exact ⟨_, .kTuple h1 h2, kb _ (by simp)⟩
  · exact ⟨_, .base (.lst h), kb _ (by simp)⟩
theorem jointK_k {i : Nat} {f0 f1 f : Addr} {sp0 sp1 : Sp} {E : XK} {ta tb : TE} {σ : L2.St} {H : Hp} {N : VK} (hf : f = f0 ∨ f = f1) (hs : σ[i]? = some (some (.ref f))) (h : ∀ sp, sp = sp0 ∨ sp = sp1 → ta σ H fun a H1 => tb σ H1 fun b H2 => sp [b, a] H2 N E) : tJointK i f0 f1 sp0 sp1 E ta tb σ H N := by
  rcases hf with rfl | rfl
  · exact .inl ⟨hs, h _ (.inl rfl)⟩
  · exact .inr ⟨hs, h _ (.inr rfl)⟩
theorem join_odd1 {c : Cs} {C : Addr} {Tb : List (Addr × Str)} {v u : V} {H : Hp} {Q N : VK} {E : XK} {sp : Sp} (hsp : sp = spWoven C c.G c.N c.T K Tb ∨ sp = spLock C c.G c.N c.T c.B K Tb) (t : Tabs Tb H) (hv : IsG K C H v false)
    (h : ∀ cls d H', exO c Q cls d H' → E cls d H') (k : ∀ v H', Says K Tb H (some (.graph "one")) v H' → Q v H') : sp [v, u] H N E := by
  have kk : exN E Tb c.G H [("part", .str "one")] := exO.n (o := .graph "one") h fun p H' e t hp => k _ H' ⟨e, t, p, rfl, SqT.of hp⟩
  rcases hsp with rfl | rfl <;> exact ⟨v, u, rfl, t, .inl ⟨hv, kk⟩⟩
theorem join_odd2 {c : Cs} {C : Addr} {Tb : List (Addr × Str)} {a : Addr} {g : Gr} {u : V} {H : Hp} {Q N : VK} {E : XK} {sp : Sp} (hsp : sp = spWoven C c.G c.N c.T K Tb ∨ sp = spLock C c.G c.N c.T c.B K Tb) (t : Tabs Tb H) (hg : GrAt K C H a g) (go : GrOk g) (hv : IsG K C H u false)
    (h : ∀ cls d H', exO c Q cls d H' → E cls d H') (k : ∀ v H', Says K Tb H (some (.graph "other")) v H' → Q v H') : sp [.ref a, u] H N E := by
  have kk : exN E Tb c.G H [("part", .str "other")] := exO.n (o := .graph "other") h fun p H' e t hp => k _ H' ⟨e, t, p, rfl, SqT.of hp⟩
  rcases hsp with rfl | rfl <;> exact ⟨_, u, rfl, t, .inr ⟨a, g, rfl, hg, go, .inl ⟨hv, kk⟩⟩⟩
def spTop (K : PySem.W.Frag) (Tb : List (Addr × Str)) : Sp := fun vs H Q _ => ∃ (a : Addr) (ns : List Int), vs = [.ref a] ∧ SqL K H a (ns.map V.int) ∧ Tabs Tb H ∧ ∀ H', Q (.bl true) H'
theorem ok_law {f cA C fW fL : Addr} {c : Cs} {fd : FuncData} {Tb : List (Addr × Str)} (F : FunC K "law" "law" s_law f fd cA) (LE : LawEnv P w K mg base C c fW fL Tb) (LT : LamTab Tb base mg cA ("law" ++ ".<locals>." ++ "<lambda>"))
    (D__law_pen : DefOk P w K mg base CX0 1 "_law_pen" ["script"] (spPen K)) (D__law_names_right : DefOk P w K mg base CX0 13 "_law_names_right" ["pen"] (spLaw Tb)) (D__law_sizes_right : DefOk P w K mg base CX0 13 "_law_sizes_right" ["pen"] (spLaw Tb))
    (D__law_events_right : DefOk P w K mg base CX0 13 "_law_events_right" ["pen"] (spLaw Tb)) (D__law_times_right : DefOk P w K mg base CX0 13 "_law_times_right" ["pen"] (spLaw Tb)) :
    FnOk P w K mg base CX0 14 f fd ["script"] (spTop K Tb) := by
  obtain ⟨T, R, HO, J, gW, gL, ⟨spP, D__law_plain, PK⟩, D__law_pick, D__law_draw, D_woven, D_lockstep, D_events⟩ := LE
  refine F.ok sc_law (fun vs H Q E h => ?_) (fun A outer s H vs Q E hr h => ?_)
  · obtain ⟨_, _, rfl, _⟩ := h; rfl
  · obtain ⟨a, ns, rfl, hS, tab, k⟩ := h
    refine ⟨_, (pss_cons (ps_set (i := 1) sc_law.nd rfl (Or.inl rfl) (pe_d D__law_pen (hr.mono (by decide)) pass0 (pa_cons (pv 0) pa_nil)))
  (pss_cons (ps_set (i := 2) sc_law.nd rfl (Or.inr rfl) (pe_d D__law_plain (hr.mono (by decide)) pass0 (pa_cons pe_int (pa_cons pe_int (pa_cons (pe_tup (pa_cons pe_str pa_nil)) (pa_cons (pe_lst pa_nil) (pa_cons pe_int pa_nil)))))))
  (pss_cons (ps_for (passes_of rfl) rfl ((pi_tupK K) (pe_tup (pa_cons (pe_glob (v := .ref fW) rfl gW rfl) (pa_cons (pe_glob (v := .ref fL) rfl gL rfl) pa_nil)))) (pg_name (i := 3) sc_law.nd rfl (Or.inr rfl))
  (pss_cons (ps_set (i := 4) sc_law.nd rfl (Or.inr rfl) (pe_d D__law_pick (hr.mono (by decide)) pass0 (pa_cons (pv 1) (pa_cons (pe_lst (pa_cons pe_non (pa_cons pe_int (pa_cons pe_str (pa_cons (pe_tup (pa_cons (pv 2) pa_nil)) (pa_cons (fldK K (pv 2)) (pa_cons pe_bl (pa_cons (pe_lst pa_nil) pa_nil)))))))) pa_nil))))
  (pss_cons (ps_set (i := 5) sc_law.nd rfl (Or.inl rfl) (pe_lst (pa_cons (pe_heard HO LT (hr.mono (by decide)) (blkOk_by (N := ["script", "pen", "graph", "joint", "odd", "heard"]) (sc := (defScope s_law)) (by decide +kernel)) sc_law.nd rfl rfl rfl (fun _ _ _ _ _ => rfl) (fun A outer s H E f c' hr => (pe_joint (i := 3) J (hr.mono (by decide)) (passes_call (W := fun cls d _ H => E cls d H) (takes_of rfl rfl rfl rfl) fun _ _ _ _ h => h) (pa_cons (pv 4) (pa_cons (pv 4) pa_nil))))) (pa_cons (pe_heard HO LT (hr.mono (by decide)) (blkOk_by (N := ["script", "pen", "graph", "joint", "odd", "heard"]) (sc := (defScope s_law)) (by decide +kernel)) sc_law.nd rfl rfl rfl (fun _ _ _ _ _ => rfl) (fun A outer s H E f c' hr => (pe_joint (i := 3) J (hr.mono (by decide)) (passes_call (W := fun cls d _ H => E cls d H) (takes_of rfl rfl rfl rfl) fun _ _ _ _ h => h) (pa_cons (pv 2) (pa_cons (pv 4) pa_nil))))) (pa_cons (pe_heard HO LT (hr.mono (by decide)) (blkOk_by (N := ["script", "pen", "graph", "joint", "odd", "heard"]) (sc := (defScope s_law)) (by decide +kernel)) sc_law.nd rfl rfl rfl (fun _ _ _ _ _ => rfl) (fun A outer s H E f c' hr => (pe_jointK (i := 3) J (hr.mono (by decide)) (passes_call (W := fun cls d _ H => E cls d H) (takes_of rfl rfl rfl rfl) fun _ _ _ _ h => h) (pv 2) (pv 4)))) (pa_cons (pe_heard HO LT (hr.mono (by decide)) (blkOk_by (N := ["script", "pen", "graph", "joint", "odd", "heard"]) (sc := (defScope s_law)) (by decide +kernel)) sc_law.nd rfl rfl rfl (fun _ _ _ _ _ => rfl) (fun A outer s H E f c' hr => (pe_joint (i := 3) J (hr.mono (by decide)) (passes_call (W := fun cls d _ H => E cls d H) (takes_of rfl rfl rfl rfl) fun _ _ _ _ h => h) (pa_cons (pv 2) (pa_cons (pv 2) pa_nil))))) pa_nil))))))
  (pss_one (ps_if (pt_cmpR (neDK K hr.units) (pv 5) (pe_lst (pa_cons (pe_tup (pa_cons pe_str (pa_cons pe_str pa_nil))) (pa_cons (pe_tup (pa_cons pe_str (pa_cons pe_str pa_nil))) (pa_cons (pe_tup (pa_cons pe_str (pa_cons pe_str pa_nil))) (pa_cons (pe_tup (pa_cons pe_str (pa_cons pe_str pa_nil))) pa_nil))))) (nomark _)) (pss_one (ps_ret pe_bl)) pss_nil)))))
  (pss_one (ps_ret (pe_and (pe_d D__law_names_right (hr.mono (by decide)) pass0 (pa_cons (pv 1) pa_nil)) (pe_and (pe_d D__law_sizes_right (hr.mono (by decide)) pass0 (pa_cons (pv 1) pa_nil)) (pe_and (pe_d D__law_events_right (hr.mono (by decide)) pass0 (pa_cons (pv 1) pa_nil)) (pe_one (pe_d D__law_times_right (hr.mono (by decide)) pass0 (pa_cons (pv 1) pa_nil))))))))))), ?_⟩
    refine ⟨_, rfl, a, ns, rfl, hS, fun pen H1 s1 np hp1 => ?_⟩
    refine ⟨small_len (Nat.le_of_ble_eq_true rfl), fun p2 n2 => ?_⟩
    have s2 : Same H1 (upd H1 p2 (.tup [.str "a"])) := same_up n2
    have t2 : SqT K (upd H1 p2 (.tup [.str "a"])) p2 [.str "a"] := SqT.of upd_same
    generalize (upd H1 p2 (.tup [.str "a"])) = H2 at s2 t2 ⊢
    refine ⟨small_len (Nat.le_of_ble_eq_true rfl), fun p3 n3 => ?_⟩
    have s3 : Same H2 (upd H2 p3 (.lst [])) := same_up n3
    have t3 : (upd H2 p3 (.lst [])) p3 = some (.lst []) := upd_same
    generalize (upd H2 p3 (.lst [])) = H3 at s3 t3 ⊢
    refine PK.k0 (c := 2) (many := 2) (t := 2) (zs := ["a"]) (by decide) (by decide) (by decide) (Same.sqt s3 t2) (by decide +kernel) t3 (by decide) (by decide) fun pg H4 g sg hg1 pgg => ?_
    have s14 := s2.trans (s3.trans sg)
    have tab4 := tab.ext (s1.trans s14)
    have hp4 := hp1.monoN (ExtN.of s14)
    refine ⟨small_len (Nat.le_of_ble_eq_true rfl), fun p5 n5 => ?_⟩
    have s5 : Same H4 (upd H4 p5 (.tup [.ref fW, .ref fL])) := same_up n5
    have t5 : SqT K (upd H4 p5 (.tup [.ref fW, .ref fL])) p5 [.ref fW, .ref fL] := SqT.of upd_same
    generalize (upd H4 p5 (.tup [.ref fW, .ref fL])) = H5 at s5 t5 ⊢
    refine ⟨p5, rfl, ⟨_, t5⟩, ?_⟩
    refine for_it (walk_tup (K := K)) (fun i σ H' => ∃ v3 v4 v5, σ = [some (.ref a), some (.ref pen), some (.ref pg), v3, v4, v5] ∧ ExtL H5 H' ∧ Tabs Tb H' ∧ PenAt H' pen i) ⟨_, _, _, rfl, ExtL.refl _, tab4.ext s5, hp4.monoN (ExtN.of s5)⟩ (fun i σ H' _ ⟨_, _, _, _, e, _⟩ => sqtL e t5) (fun i x σ Hx H6 hi ⟨v3, v4, v5, es, e6, tab6, hp6⟩ ⟨e, hx⟩ => ?_) fun σ H6 ⟨v3, v4, v5, es, e6, tab6, hp6⟩ => ?_
    · subst es e
      have hxf : ∃ f, x = .ref f ∧ (f = fW ∨ f = fL) := by
        match i, hx with
        | 0, hx => exact ⟨fW, (Option.some.inj hx).symm, .inl rfl⟩
        | 1, hx => exact ⟨fL, (Option.some.inj hx).symm, .inr rfl⟩
      obtain ⟨f, rfl, hff⟩ := hxf
      have hg6 := (hg1.mono s5).monoL e6
      have hi2 : i < 2 := hi
      obtain ⟨dx, aS, aT, aM, aL, aO, aR, kvs, f1, f2, f3, ⟨vsT, f4, f5⟩, _⟩ := id hg6
      refine ⟨_, rfl, _, rfl, ?_⟩
      refine ⟨small_len (Nat.le_of_ble_eq_true rfl), fun p7 n7 => ?_⟩
      have s7 : Same H6 (upd H6 p7 (.tup [.ref pg])) := same_up n7
      have t7 : SqT K (upd H6 p7 (.tup [.ref pg])) p7 [.ref pg] := SqT.of upd_same
      generalize (upd H6 p7 (.tup [.ref pg])) = H7 at s7 t7 ⊢
      refine ⟨_, rfl, pg, C, dx, _, .ref aT, rfl, s7 _ _ f1, R.c, R.no _ (by simp), rfl, ?_⟩
      refine ⟨small_len (Nat.le_of_ble_eq_true rfl), fun p8 n8 => ?_⟩
      have s8 : Same H7 (upd H7 p8 (.lst [])) := same_up n8
      have t8 : (upd H7 p8 (.lst [])) p8 = some (.lst []) := upd_same
      generalize (upd H7 p8 (.lst [])) = H8 at s8 t8 ⊢
      refine ⟨small_len (Nat.le_of_ble_eq_true rfl), fun p9 n9 => ?_⟩
      have s9 : Same H8 (upd H8 p9 (.lst [.non, .int 3, .str "graph", .ref p7, .ref aT, .bl true, .ref p8])) := same_up n9
      have t9 : (upd H8 p9 (.lst [.non, .int 3, .str "graph", .ref p7, .ref aT, .bl true, .ref p8])) p9 = some (.lst [.non, .int 3, .str "graph", .ref p7, .ref aT, .bl true, .ref p8]) := upd_same
      generalize (upd H8 p9 (.lst [.non, .int 3, .str "graph", .ref p7, .ref aT, .bl true, .ref p8])) = H9 at s9 t9 ⊢
      have hp7 := hp6.monoN (ExtN.of s7)
      have hp8 := hp7.monoN (ExtN.of s8)
      have hp9 := hp8.monoN (ExtN.of s9)
      obtain ⟨x7, hx7⟩ := hp7.lst
      obtain ⟨x8, hx8⟩ := hp8.lst
      obtain ⟨x9, hx9⟩ := hp9.lst
      refine ⟨pen, p9, _, i, rfl, t9, fun e => ne_of_none hx8 n9 e.symm, Nat.le_of_ble_eq_true rfl, Nat.le_of_ble_eq_true rfl, by omega, hp9, fun d odd H10 hodd bt hp10 => ?_⟩
      have tab10 : Tabs Tb H10 := tabs_but (tab6.ext (s7.trans (s8.trans s9))) bt hx9
      have e910 : ExtL H9 H10 := ExtL.ofB bt hx9
      have ok : OddOk K H10 odd := by
        match d, hodd with
        | 0, hx => exact .inl (Option.some.inj hx).symm
        | 1, hx => exact .inr (.inl ⟨3, (Option.some.inj hx).symm⟩)
        | 2, hx => exact .inr (.inr (.inl ⟨"graph", (Option.some.inj hx).symm⟩))
        | 3, hx => exact .inr (.inr (.inr (.inr (.inl ⟨p7, _, (Option.some.inj hx).symm, sqtL e910 (Same.sqt (s8.trans s9) t7)⟩))))
        | 4, hx => exact .inr (.inr (.inr (.inr (.inl ⟨aT, _, (Option.some.inj hx).symm, sqtL e910 (Same.sqt (s7.trans (s8.trans s9)) f4)⟩))))
        | 5, hx => exact .inr (.inr (.inr (.inl ⟨true, (Option.some.inj hx).symm⟩)))
        | 6, hx => exact .inr (.inr (.inr (.inr (.inr ⟨p8, _, (Option.some.inj hx).symm, bt _ _ (fun e => ne_of_none hx7 n8 e.symm) (s9 _ _ t8)⟩))))
      have hg10 : GrAt K C H10 pg g := (hg6.mono (s7.trans (s8.trans s9))).monoL e910
      have e510 : ExtL H5 H10 := e6.trans ((ExtL.ofS (s7.trans (s8.trans s9))).trans e910)
      clear hodd t7 t8 t9 f1 f2 f3 f4 f5 hg6
      refine ⟨tab10, fun H11 e11 tab11 E N hE hN => joint_k hff rfl fun sp hsp => ⟨_, rfl, _, rfl, join_odd1 hsp tab11 ((ok.monoN e11).is R) hE fun v1 H12 say1 => ?_⟩⟩
      have e1012 := e11.trans say1.1
      refine ⟨say1.2.1, fun H13 e13 tab13 E N hE hN => joint_k hff rfl fun sp hsp => ⟨_, rfl, _, rfl, join_odd2 hsp tab13 (hg10.monoN (e1012.trans e13)) pgg.ok ((ok.monoN (e1012.trans e13)).is R) hE fun v2 H14 say2 => ?_⟩⟩
      have e1214 := e13.trans say2.1
      refine ⟨say2.2.1, fun H15 e15 tab15 E N hE hN => jointK_k hff rfl fun sp hsp => ⟨_, rfl, _, rfl, join_odd1 hsp tab15 ((ok.monoN (e1012.trans (e1214.trans e15))).is R) hE fun v3' H16 say3 => ?_⟩⟩
      have e1416 := e15.trans say3.1
      have e1016 := e1012.trans (e1214.trans e1416)
      have fgg : firstIn g.meas g.meas = some "a" := by rw [pgg.meas]; decide +kernel
      refine ⟨say3.2.1, fun H17 e17 tab17 E N hE hN => joint_k hff rfl fun sp hsp => ⟨_, rfl, _, rfl, join_out hsp tab17 (hg10.monoN (e1016.trans e17)) pgg.ok (hg10.monoN (e1016.trans e17)) pgg.ok (wName fgg) (lName fgg) (Same.refl _) hE fun v4' H18 say4 => ?_⟩⟩
      have e1618 := e17.trans say4.1
      refine ⟨small_len (Nat.le_of_ble_eq_true rfl), fun p19 n19 => ?_⟩
      have s19 : Same H18 (upd H18 p19 (.lst [v1, v2, v3', v4'])) := same_up n19
      have t19 : (upd H18 p19 (.lst [v1, v2, v3', v4'])) p19 = some (.lst [v1, v2, v3', v4']) := upd_same
      generalize (upd H18 p19 (.lst [v1, v2, v3', v4'])) = H19 at s19 t19 ⊢
      refine ⟨_, rfl, ?_⟩
      refine ⟨small_len (Nat.le_of_ble_eq_true rfl), fun p20 n20 => ?_⟩
      have s20 : Same H19 (upd H19 p20 (.tup [.str "graph", .str "one"])) := same_up n20
      have t20 : SqT K (upd H19 p20 (.tup [.str "graph", .str "one"])) p20 [.str "graph", .str "one"] := SqT.of upd_same
      generalize (upd H19 p20 (.tup [.str "graph", .str "one"])) = H20 at s20 t20 ⊢
      refine ⟨small_len (Nat.le_of_ble_eq_true rfl), fun p21 n21 => ?_⟩
      have s21 : Same H20 (upd H20 p21 (.tup [.str "graph", .str "other"])) := same_up n21
      have t21 : SqT K (upd H20 p21 (.tup [.str "graph", .str "other"])) p21 [.str "graph", .str "other"] := SqT.of upd_same
      generalize (upd H20 p21 (.tup [.str "graph", .str "other"])) = H21 at s21 t21 ⊢
      refine ⟨small_len (Nat.le_of_ble_eq_true rfl), fun p22 n22 => ?_⟩
      have s22 : Same H21 (upd H21 p22 (.tup [.str "graph", .str "one"])) := same_up n22
      have t22 : SqT K (upd H21 p22 (.tup [.str "graph", .str "one"])) p22 [.str "graph", .str "one"] := SqT.of upd_same
      generalize (upd H21 p22 (.tup [.str "graph", .str "one"])) = H22 at s22 t22 ⊢
      refine ⟨small_len (Nat.le_of_ble_eq_true rfl), fun p23 n23 => ?_⟩
      have s23 : Same H22 (upd H22 p23 (.tup [.str "name", .str "a"])) := same_up n23
      have t23 : SqT K (upd H22 p23 (.tup [.str "name", .str "a"])) p23 [.str "name", .str "a"] := SqT.of upd_same
      generalize (upd H22 p23 (.tup [.str "name", .str "a"])) = H23 at s23 t23 ⊢
      refine ⟨small_len (Nat.le_of_ble_eq_true rfl), fun p24 n24 => ?_⟩
      have s24 : Same H23 (upd H23 p24 (.lst [.ref p20, .ref p21, .ref p22, .ref p23])) := same_up n24
      have t24 : (upd H23 p24 (.lst [.ref p20, .ref p21, .ref p22, .ref p23])) p24 = some (.lst [.ref p20, .ref p21, .ref p22, .ref p23]) := upd_same
      generalize (upd H23 p24 (.lst [.ref p20, .ref p21, .ref p22, .ref p23])) = H24 at s24 t24 ⊢
      have s1924 := s20.trans (s21.trans (s22.trans (s23.trans s24)))
      have s1824 := s19.trans s1924
      have tab24 := say4.2.1.ext s1824
      have e1824 : ExtN H18 H24 := ExtN.of s1824
      refine ne_same (d := .list [odata (some (.graph "one")), odata (some (.graph "other")), odata (some (.graph "one")), odata (some (.name "a"))])
        (.lst (SqL.of (s1924 _ _ t19)) (.cons (Says.dp (say1.monoN (e1214.trans (e1416.trans (e1618.trans e1824))) tab24)) (.cons (Says.dp (say2.monoN (e1416.trans (e1618.trans e1824)) tab24)) (.cons (Says.dp (say3.monoN (e1618.trans e1824) tab24)) (.cons (Says.dp (say4.monoN e1824 tab24)) .nil)))))
        (.lst (SqL.of t24) (.cons (Out.dp (o := .graph "one") (Same.sqt (s21.trans (s22.trans (s23.trans s24))) t20)) (.cons (Out.dp (o := .graph "other") (Same.sqt (s22.trans (s23.trans s24)) t21)) (.cons (Out.dp (o := .graph "one") (Same.sqt (s23.trans s24) t22)) (.cons (Out.dp (o := .name "a") (Same.sqt s24 t23)) .nil)))))
        (outs_shaped [some (.graph "one"), some (.graph "other"), some (.graph "one"), some (.name "a")] (by decide +kernel)) ⟨_, rfl, if_f rfl ?_⟩
      exact ⟨_, _, _, rfl, e510.trans (ExtL.ofN (e1016.trans (e1618.trans e1824))), tab24, hp10.monoN (e1016.trans (e1618.trans e1824))⟩
    · subst es
      refine ⟨_, rfl, pen, 2, rfl, by decide, hp6, tab6, fun m1 H7 l1 hp7 tab7 => ⟨_, rfl, if_t rfl ?_⟩⟩
      refine ⟨_, rfl, pen, m1, rfl, by omega, hp7, tab7, fun m2 H8 l2 hp8 tab8 => ⟨_, rfl, if_t rfl ?_⟩⟩
      refine ⟨_, rfl, pen, m2, rfl, by omega, hp8, tab8, fun m3 H9 l3 hp9 tab9 => ⟨_, rfl, if_t rfl ?_⟩⟩
      exact ⟨_, rfl, pen, m3, rfl, by omega, hp9, tab9, fun m4 H10 _ _ _ => k H10⟩
end
end K53
namespace K53
open PySem L2 RZ Own StX SkE LamX PySem.Spec
theorem kit_self {K : PySem.W.Frag} {C : Addr} : PySem.W.kitOne K (.ref C) (.ref C) = some (decide (C = C)) := by
  rw [decide_eq_true rfl]
  unfold PySem.W.kitOne
  rw [if_pos (beq_self_eq_true _)]
theorem kit_of {K : PySem.W.Frag} {t : Value} {C : Addr} {b : Bool} (h1 : PySem.W.isClsIn K C = true) (h2 : PySem.W.typeIn K (.ref C) = some (.type "type")) (h3 : PySem.W.subIn K t (.ref C) = some b) (n : (t == .ref C) = false) : PySem.W.kitOne K t (.ref C) = some b := by
  have h1' : (PySem.W.clsIn K C).isSome = true := h1
  unfold PySem.W.kitOne PySem.W.kitCls
  rw [if_neg (by rw [n]; exact Bool.false_ne_true)]
  simp only [h1', h2, beq_self_eq_true, Bool.and_self, if_true, h3]
theorem exm_of {K : PySem.W.Frag} {S D : Addr} (h1 : PySem.W.isClsIn K S = true) (h2 : PySem.W.typeIn K (.ref S) = some (.type "type")) (h3 : PySem.W.subIn K (.ref S) (.type "BaseException") = some true) (h4 : PySem.W.subIn K (.ref D) (.ref S) = some true) : PySem.W.exmOne K (.ref D) (.ref S) = some true := by
  have h1' : (PySem.W.clsIn K S).isSome = true := h1
  unfold PySem.W.exmOne PySem.W.kitCls
  simp only [h1', h2, h3, beq_self_eq_true, Bool.and_self, if_true, h4]
theorem kit_other {K : PySem.W.Frag} {C D : Addr} (h1 : PySem.W.isClsIn K D = true) (h2 : PySem.W.typeIn K (.ref D) = some (.type "type")) (h : PySem.W.subIn K (.ref C) (.ref D) = some false) (n : C ≠ D) : PySem.W.kitOne K (.ref C) (.ref D) = some (decide (C = D)) := by
  rw [decide_eq_false n]
  exact kit_of h1 h2 h (by rw [beq_eq_false_iff_ne]; exact fun z => n (Value.ref.inj z))
theorem nodup_fst {α β : Type} : ∀ {l : List (α × β)} {a : α} {b b' : β}, (l.map (·.1)).Nodup → (a, b) ∈ l → (a, b') ∈ l → b' = b
  | [], _, _, _, _, h, _ => nomatch h
  | x :: l, a, b, b', nd, h1, h2 => by
    rw [List.map_cons, List.nodup_cons] at nd
    rcases List.mem_cons.mp h1 with e1 | h1 <;> rcases List.mem_cons.mp h2 with e2 | h2
    · rw [← e1] at e2; exact (Prod.mk.inj e2).2
    · exact absurd (List.mem_map.mpr ⟨_, h2, by rw [← e1]⟩) nd.1
    · exact absurd (List.mem_map.mpr ⟨_, h1, by rw [← e2]⟩) nd.1
    · exact nodup_fst nd.2 h1 h2
theorem lamTab_mk {Tb : List (Addr × Str)} {base : Heap} {mg : Str → Option Value} {c P : Addr} {q : Str} (TB : TabB base mg c P) (h : (P, q) ∈ Tb) (nd : (Tb.map (·.1)).Nodup) : LamTab Tb base mg c q :=
  ⟨P, TB, h, fun p hp e => nodup_fst nd h (by obtain ⟨a, b⟩ := p; cases e; exact hp)⟩
theorem kb_of {K : PySem.W.Frag} {f : Addr} {fd : FuncData} (F : Fun K "woven" "woven" s_woven f fd) : KBinds K fd ["one", "other"] ["other", "one"] (fun us ws => match us, ws with | [], [a, b] => [b, a] | _, _ => []) (fun us ws => match us, ws with | [], [a, b] => [b, a] | _, _ => []) := by
  obtain ⟨oc, od, kV, doc, pm, an, cdv, ct, osl, rfl, _, _⟩ := F.ex
  refine ⟨fun s us ws _ hl => ?_, fun {vs us zs ws} r1 r2 => ?_⟩
  · match us, ws, hl with
    | [], [a, b], _ => exact .of_eq rfl
  · match vs, us, zs, ws, r1, r2 with
    | [], [], [a, b], [c, d], .nil, .cons h1 (.cons h2 .nil) => exact .cons h2 (.cons h1 .nil)
    | [], [], [], [], .nil, .nil => exact .nil
    | [], [], [_], [_], .nil, .cons _ .nil => exact .nil
    | [], [], _ :: _ :: _ :: _, _ :: _ :: _ :: _, .nil, .cons _ (.cons _ (.cons _ _)) => exact .nil
    | _ :: _, _ :: _, _, _, .cons _ _, _ => exact .nil
theorem kb_of2 {K : PySem.W.Frag} {f : Addr} {fd : FuncData} (F : Fun K "lockstep" "lockstep" s_lockstep f fd) : KBinds K fd ["one", "other"] ["other", "one"] (fun us ws => match us, ws with | [], [a, b] => [b, a] | _, _ => []) (fun us ws => match us, ws with | [], [a, b] => [b, a] | _, _ => []) := by
  obtain ⟨oc, od, kV, doc, pm, an, cdv, ct, osl, rfl, _, _⟩ := F.ex
  refine ⟨fun s us ws _ hl => ?_, fun {vs us zs ws} r1 r2 => ?_⟩
  · match us, ws, hl with
    | [], [a, b], _ => exact .of_eq rfl
  · match vs, us, zs, ws, r1, r2 with
    | [], [], [a, b], [c, d], .nil, .cons h1 (.cons h2 .nil) => exact .cons h2 (.cons h1 .nil)
    | [], [], [], [], .nil, .nil => exact .nil
    | [], [], [_], [_], .nil, .cons _ .nil => exact .nil
    | [], [], _ :: _ :: _ :: _, _ :: _ :: _ :: _, .nil, .cons _ (.cons _ (.cons _ _)) => exact .nil
    | _ :: _, _ :: _, _, _, .cons _ _, _ => exact .nil
theorem gi_binds {K : PySem.W.Frag} {f eD : Addr} {fd : FuncData} (F : FunD K "__init__" "Graph.__init__" (defArgs s_Graph___init__) (defBody s_Graph___init__) (defScope s_Graph___init__) [.ref eD, .non] [] f fd) : Binds K fd ["self", "count", "starts", "steps", "measures", "events"] [] := by
  obtain ⟨ds, hd, hb⟩ := F.binds1 (ps := ["self", "count", "starts", "steps", "measures", "events"]) 6 2 (by simp) rfl fun T kV doc pm an cdv ct us its h1 h2 => match us, h1, its, h2 with | [_, _, _, _, _, _], _, [_, _], _ => ⟨_, rfl, rfl⟩
  have hd : Vals [] ds := hd
  cases hd
  exact hb
theorem all_mk {l : PySem.W.OpenLaw} {w : World} {K : PySem.W.Frag} {h : Heap} {mg : Str → Option Value} {fa : Addr} {P : Program} (hP : l.prog = P) (X : K.In h) (G : h.Ns mainGlobals mg) (hfa : mg "law" = some (.ref fa))
    {t_c_LETTERS : Tok}
    {t_c_SIGNS : Tok}
    {t_c_MOST_LETTERS : Tok}
    {t_c_MOST_SIGNS : Tok}
    {t_c_MOST_STATES_graphs : Tok}
    {t_c_MOST_STEPS_graphs : Tok}
    {t_c_MOST_TIME : Tok}
    {t_c_MOST_PAY : Tok}
    {t_c_MOST_MEASURES_graphs : Tok}
    {t_c_MOST_EVENTS : Tok}
    {t_c_MOST_MEASURES_joins : Tok}
    {t_c_MOST_STATES_joins : Tok}
    {t_c_MOST_STEPS_joins : Tok}
    {C CS CG CN CT CB : Addr}
    {nm_BadGraph q_BadGraph : Str} {N_BadGraph : Addr} {bs_BadGraph bm_BadGraph sub_BadGraph : List Value} {sn_BadGraph : List Str} {ab_BadGraph : Bool} {col_BadGraph : Option Bool} {dd_BadGraph : Option Addr} {m0_BadGraph m1_BadGraph m2_BadGraph m3_BadGraph m5_BadGraph : Option Value}
    {f_iBadGraph : Addr} {oc_iBadGraph kV_iBadGraph dc_iBadGraph pm_iBadGraph cd_iBadGraph ct_iBadGraph : Value} {od_iBadGraph an_iBadGraph : Option Addr} {sl_iBadGraph : Array (Option Value)}
    {nm_BadName q_BadName : Str} {N_BadName : Addr} {bs_BadName bm_BadName sub_BadName : List Value} {sn_BadName : List Str} {ab_BadName : Bool} {col_BadName : Option Bool} {dd_BadName : Option Addr} {m0_BadName m1_BadName m2_BadName m3_BadName m5_BadName : Option Value}
    {f_iBadName : Addr} {oc_iBadName kV_iBadName dc_iBadName pm_iBadName cd_iBadName ct_iBadName : Value} {od_iBadName an_iBadName : Option Addr} {sl_iBadName : Array (Option Value)}
    {nm_BadNumber q_BadNumber : Str} {N_BadNumber : Addr} {bs_BadNumber bm_BadNumber sub_BadNumber : List Value} {sn_BadNumber : List Str} {ab_BadNumber : Bool} {col_BadNumber : Option Bool} {dd_BadNumber : Option Addr} {m0_BadNumber m1_BadNumber m2_BadNumber m3_BadNumber m5_BadNumber : Option Value}
    {f_iBadNumber : Addr} {oc_iBadNumber kV_iBadNumber dc_iBadNumber pm_iBadNumber cd_iBadNumber ct_iBadNumber : Value} {od_iBadNumber an_iBadNumber : Option Addr} {sl_iBadNumber : Array (Option Value)}
    {nm_TooMany q_TooMany : Str} {N_TooMany : Addr} {bs_TooMany bm_TooMany sub_TooMany : List Value} {sn_TooMany : List Str} {ab_TooMany : Bool} {col_TooMany : Option Bool} {dd_TooMany : Option Addr} {m0_TooMany m1_TooMany m2_TooMany m3_TooMany m5_TooMany : Option Value}
    {f_iTooMany : Addr} {oc_iTooMany kV_iTooMany dc_iTooMany pm_iTooMany cd_iTooMany ct_iTooMany : Value} {od_iTooMany an_iTooMany : Option Addr} {sl_iTooMany : Array (Option Value)}
    {PW PL PN PS PE PT PA cdPW cdPL cdPN cdPS cdPE cdPT cdPA : Addr}
    {f_is_integer : Addr} {oc_is_integer kV_is_integer dc_is_integer pm_is_integer cd_is_integer ct_is_integer : Value} {od_is_integer an_is_integer : Option Addr} {sl_is_integer : Array (Option Value)}
    {f_is_within : Addr} {oc_is_within kV_is_within dc_is_within pm_is_within cd_is_within ct_is_within : Value} {od_is_within an_is_within : Option Addr} {sl_is_within : Array (Option Value)}
    {f_is_name : Addr} {oc_is_name kV_is_name dc_is_name pm_is_name cd_is_name ct_is_name : Value} {od_is_name an_is_name : Option Addr} {sl_is_name : Array (Option Value)}
    {f_is_event : Addr} {oc_is_event kV_is_event dc_is_event pm_is_event cd_is_event ct_is_event : Value} {od_is_event an_is_event : Option Addr} {sl_is_event : Array (Option Value)}
    {f_is_lot : Addr} {oc_is_lot kV_is_lot dc_is_lot pm_is_lot cd_is_lot ct_is_lot : Value} {od_is_lot an_is_lot : Option Addr} {sl_is_lot : Array (Option Value)}
    {f_is_lot_of : Addr} {oc_is_lot_of kV_is_lot_of dc_is_lot_of pm_is_lot_of cd_is_lot_of ct_is_lot_of : Value} {od_is_lot_of an_is_lot_of : Option Addr} {sl_is_lot_of : Array (Option Value)}
    {f_is_starts : Addr} {oc_is_starts kV_is_starts dc_is_starts pm_is_starts cd_is_starts ct_is_starts : Value} {od_is_starts an_is_starts : Option Addr} {sl_is_starts : Array (Option Value)}
    {f_is_pay : Addr} {oc_is_pay kV_is_pay dc_is_pay pm_is_pay cd_is_pay ct_is_pay : Value} {od_is_pay an_is_pay : Option Addr} {sl_is_pay : Array (Option Value)}
    {f_is_measures : Addr} {oc_is_measures kV_is_measures dc_is_measures pm_is_measures cd_is_measures ct_is_measures : Value} {od_is_measures an_is_measures : Option Addr} {sl_is_measures : Array (Option Value)}
    {f_is_step : Addr} {oc_is_step kV_is_step dc_is_step pm_is_step cd_is_step ct_is_step : Value} {od_is_step an_is_step : Option Addr} {sl_is_step : Array (Option Value)}
    {f_is_events : Addr} {oc_is_events kV_is_events dc_is_events pm_is_events cd_is_events ct_is_events : Value} {od_is_events an_is_events : Option Addr} {sl_is_events : Array (Option Value)}
    {f_need_parts : Addr} {oc_need_parts kV_need_parts dc_need_parts pm_need_parts cd_need_parts ct_need_parts : Value} {od_need_parts an_need_parts : Option Addr} {sl_need_parts : Array (Option Value)}
    {f_outs_of : Addr} {oc_outs_of kV_outs_of dc_outs_of pm_outs_of cd_outs_of ct_outs_of : Value} {od_outs_of an_outs_of : Option Addr} {sl_outs_of : Array (Option Value)}
    {f_reached_from : Addr} {oc_reached_from kV_reached_from dc_reached_from pm_reached_from cd_reached_from ct_reached_from : Value} {od_reached_from an_reached_from : Option Addr} {sl_reached_from : Array (Option Value)}
    {f_need_state : Addr} {oc_need_state kV_need_state dc_need_state pm_need_state cd_need_state ct_need_state : Value} {od_need_state an_need_state : Option Addr} {sl_need_state : Array (Option Value)}
    {f_need_both : Addr} {oc_need_both kV_need_both dc_need_both pm_need_both cd_need_both ct_need_both : Value} {od_need_both an_need_both : Option Addr} {sl_need_both : Array (Option Value)}
    {f_need_room : Addr} {oc_need_room kV_need_room dc_need_room pm_need_room cd_need_room ct_need_room : Value} {od_need_room an_need_room : Option Addr} {sl_need_room : Array (Option Value)}
    {f_target_of : Addr} {oc_target_of kV_target_of dc_target_of pm_target_of cd_target_of ct_target_of : Value} {od_target_of an_target_of : Option Addr} {sl_target_of : Array (Option Value)}
    {f_time_of : Addr} {oc_time_of kV_time_of dc_time_of pm_time_of cd_time_of ct_time_of : Value} {od_time_of an_time_of : Option Addr} {sl_time_of : Array (Option Value)}
    {f_pays_of : Addr} {oc_pays_of kV_pays_of dc_pays_of pm_pays_of cd_pays_of ct_pays_of : Value} {od_pays_of an_pays_of : Option Addr} {sl_pays_of : Array (Option Value)}
    {f_events_of : Addr} {oc_events_of kV_events_of dc_events_of pm_events_of cd_events_of ct_events_of : Value} {od_events_of an_events_of : Option Addr} {sl_events_of : Array (Option Value)}
    {f_woven : Addr} {oc_woven kV_woven dc_woven pm_woven ct_woven : Value} {od_woven an_woven : Option Addr} {sl_woven : Array (Option Value)}
    {f_lockstep : Addr} {oc_lockstep kV_lockstep dc_lockstep pm_lockstep ct_lockstep : Value} {od_lockstep an_lockstep : Option Addr} {sl_lockstep : Array (Option Value)}
    {f__law_plain : Addr} {oc__law_plain kV__law_plain dc__law_plain pm__law_plain cd__law_plain ct__law_plain : Value} {od__law_plain an__law_plain : Option Addr} {sl__law_plain : Array (Option Value)}
    {f__law_pen : Addr} {oc__law_pen kV__law_pen dc__law_pen pm__law_pen cd__law_pen ct__law_pen : Value} {od__law_pen an__law_pen : Option Addr} {sl__law_pen : Array (Option Value)}
    {f__law_draw : Addr} {oc__law_draw kV__law_draw dc__law_draw pm__law_draw cd__law_draw ct__law_draw : Value} {od__law_draw an__law_draw : Option Addr} {sl__law_draw : Array (Option Value)}
    {f__law_pick : Addr} {oc__law_pick kV__law_pick dc__law_pick pm__law_pick cd__law_pick ct__law_pick : Value} {od__law_pick an__law_pick : Option Addr} {sl__law_pick : Array (Option Value)}
    {f__law_names_right : Addr} {oc__law_names_right kV__law_names_right dc__law_names_right pm__law_names_right ct__law_names_right : Value} {od__law_names_right an__law_names_right : Option Addr} {sl__law_names_right : Array (Option Value)}
    {f__law_times_right : Addr} {oc__law_times_right kV__law_times_right dc__law_times_right pm__law_times_right ct__law_times_right : Value} {od__law_times_right an__law_times_right : Option Addr} {sl__law_times_right : Array (Option Value)}
    {f__law_events_right : Addr} {oc__law_events_right kV__law_events_right dc__law_events_right pm__law_events_right ct__law_events_right : Value} {od__law_events_right an__law_events_right : Option Addr} {sl__law_events_right : Array (Option Value)}
    {f__law_sizes_right : Addr} {oc__law_sizes_right kV__law_sizes_right dc__law_sizes_right pm__law_sizes_right ct__law_sizes_right : Value} {od__law_sizes_right an__law_sizes_right : Option Addr} {sl__law_sizes_right : Array (Option Value)}
    {f_law : Addr} {oc_law kV_law dc_law pm_law ct_law : Value} {od_law an_law : Option Addr} {sl_law : Array (Option Value)}
    {f_made : Addr} {oc_made kV_made dc_made pm_made cd_made ct_made : Value} {od_made an_made : Option Addr} {sl_made : Array (Option Value)}
    {f__law_heard : Addr} {oc__law_heard kV__law_heard dc__law_heard pm__law_heard cd__law_heard ct__law_heard : Value} {od__law_heard an__law_heard : Option Addr} {sl__law_heard : Array (Option Value)}
    {f_out : Addr} {oc_out kV_out dc_out pm_out cd_out ct_out : Value} {od_out an_out : Option Addr} {sl_out : Array (Option Value)}
    {f_ev : Addr} {oc_ev kV_ev dc_ev pm_ev cd_ev ct_ev : Value} {od_ev an_ev : Option Addr} {sl_ev : Array (Option Value)}
    {pE : Addr} {restE : List Value}
    {f_gi TD eD : Addr} {oc_gi kV_gi dc_gi pm_gi cd_gi ct_gi ocT : Value} {od_gi an_gi odT : Option Addr} {sl_gi slT : Array (Option Value)} {nT : Nat}
    (n_isinstance : PySem.W.nsIn K mainGlobals "isinstance" = some none)
    (n_int : PySem.W.nsIn K mainGlobals "int" = some none)
    (n_bool : PySem.W.nsIn K mainGlobals "bool" = some none)
    (n_str : PySem.W.nsIn K mainGlobals "str" = some none)
    (n_tuple : PySem.W.nsIn K mainGlobals "tuple" = some none)
    (n_dict : PySem.W.nsIn K mainGlobals "dict" = some none)
    (n_list : PySem.W.nsIn K mainGlobals "list" = some none)
    (n_set : PySem.W.nsIn K mainGlobals "set" = some none)
    (n_len : PySem.W.nsIn K mainGlobals "len" = some none)
    (n_all : PySem.W.nsIn K mainGlobals "all" = some none)
    (n_zip : PySem.W.nsIn K mainGlobals "zip" = some none)
    (n_range : PySem.W.nsIn K mainGlobals "range" = some none)
    (n_enumerate : PySem.W.nsIn K mainGlobals "enumerate" = some none)
    (n_sorted : PySem.W.nsIn K mainGlobals "sorted" = some none)
    (n_abs : PySem.W.nsIn K mainGlobals "abs" = some none)
    (c_LETTERS : PySem.W.nsIn K mainGlobals "LETTERS" = some (some (.str letters t_c_LETTERS)))
    (c_SIGNS : PySem.W.nsIn K mainGlobals "SIGNS" = some (some (.str signs t_c_SIGNS)))
    (c_MOST_LETTERS : PySem.W.nsIn K mainGlobals "MOST_LETTERS" = some (some (.int 8 t_c_MOST_LETTERS)))
    (c_MOST_SIGNS : PySem.W.nsIn K mainGlobals "MOST_SIGNS" = some (some (.int 24 t_c_MOST_SIGNS)))
    (c_MOST_STATES_graphs : PySem.W.nsIn K mainGlobals "MOST_STATES_graphs" = some (some (.int 300 t_c_MOST_STATES_graphs)))
    (c_MOST_STEPS_graphs : PySem.W.nsIn K mainGlobals "MOST_STEPS_graphs" = some (some (.int 1200 t_c_MOST_STEPS_graphs)))
    (c_MOST_TIME : PySem.W.nsIn K mainGlobals "MOST_TIME" = some (some (.int 1000 t_c_MOST_TIME)))
    (c_MOST_PAY : PySem.W.nsIn K mainGlobals "MOST_PAY" = some (some (.int 999999999999 t_c_MOST_PAY)))
    (c_MOST_MEASURES_graphs : PySem.W.nsIn K mainGlobals "MOST_MEASURES_graphs" = some (some (.int 4 t_c_MOST_MEASURES_graphs)))
    (c_MOST_EVENTS : PySem.W.nsIn K mainGlobals "MOST_EVENTS" = some (some (.int 200 t_c_MOST_EVENTS)))
    (c_MOST_MEASURES_joins : PySem.W.nsIn K mainGlobals "MOST_MEASURES_joins" = some (some (.int 4 t_c_MOST_MEASURES_joins)))
    (c_MOST_STATES_joins : PySem.W.nsIn K mainGlobals "MOST_STATES_joins" = some (some (.int 300 t_c_MOST_STATES_joins)))
    (c_MOST_STEPS_joins : PySem.W.nsIn K mainGlobals "MOST_STEPS_joins" = some (some (.int 1200 t_c_MOST_STEPS_joins)))
    (gC : PySem.W.nsIn K mainGlobals "Graph" = some (some (.ref C)))
    (cl1 : PySem.W.plainGet K C Str.empty = true)
    (cl2 : PySem.W.hasDictIn K C = true)
    (cl3 : PySem.W.plainOver K C = true)
    (cl4 : PySem.W.findIn K (.ref C) "__setattr__" = some (some (.builtin "object.__setattr__")))
    (gr1 : PySem.W.findIn K (.ref C) "__class__" = some (some (.builtin "object.__class__")))
    (gr2 : PySem.W.specialIn K (.builtin "object.__class__") "__get__" = some (some (.builtin "getset_descriptor.__get__")))
    (gr3 : PySem.W.takesIn K (.builtin "object.__class__") = some true)
    (gr4 : PySem.W.mroIn K C (.type "object") = some true)
    (gt1 : PySem.W.isClsIn K C = true)
    (gt2 : PySem.W.typeIn K (.ref C) = some (.type "type"))
    (kb_NoneType : PySem.W.subIn K (.type "NoneType") (.ref C) = some false)
    (kb_int : PySem.W.subIn K (.type "int") (.ref C) = some false)
    (kb_str : PySem.W.subIn K (.type "str") (.ref C) = some false)
    (kb_tuple : PySem.W.subIn K (.type "tuple") (.ref C) = some false)
    (kb_bool : PySem.W.subIn K (.type "bool") (.ref C) = some false)
    (kb_list : PySem.W.subIn K (.type "list") (.ref C) = some false)
    (no_count : PySem.W.findIn K (.ref C) "count" = some none)
    (no_starts : PySem.W.findIn K (.ref C) "starts" = some none)
    (no_steps : PySem.W.findIn K (.ref C) "steps" = some none)
    (no_measures : PySem.W.findIn K (.ref C) "measures" = some none)
    (no_lots : PySem.W.findIn K (.ref C) "lots" = some none)
    (no_outs : PySem.W.findIn K (.ref C) "outs" = some none)
    (no_reached : PySem.W.findIn K (.ref C) "reached" = some none)
    (gS : PySem.W.nsIn K mainGlobals "ShareError" = some (some (.ref CS)))
    (cs1 : PySem.W.isClsIn K CS = true)
    (cs2 : PySem.W.typeIn K (.ref CS) = some (.type "type"))
    (cs3 : PySem.W.subIn K (.ref CS) (.type "BaseException") = some true)
    (gBadGraph : PySem.W.nsIn K mainGlobals "BadGraph" = some (some (.ref CG)))
    (xBadGraph : K.lookup CG = some (excClassObj nm_BadGraph q_BadGraph CG N_BadGraph bs_BadGraph bm_BadGraph true sn_BadGraph sub_BadGraph ab_BadGraph col_BadGraph dd_BadGraph m0_BadGraph m1_BadGraph m2_BadGraph m3_BadGraph m5_BadGraph "ValueError.__new__"))
    (vBadGraph : PySem.HandSPX.refsVE bm_BadGraph = true)
    (sBadGraph : PySem.W.findIn K (.ref CG) "__setattr__" = some (some (.builtin "object.__setattr__")))
    (eBadGraph : PySem.W.subIn K (.ref CG) (.type "BaseException") = some true)
    (tBadGraph : PySem.W.typeIn K (.ref CG) = some (.type "type"))
    (kpBadGraph : PySem.W.keepIn K (.ref CG) = true)
    (inBadGraph : PySem.W.findIn K (.ref CG) "__init__" = some (some (.ref f_iBadGraph)))
    (nfBadGraph_part : PySem.W.findIn K (.ref CG) "part" = some none)
    (l_iBadGraph : K.lookup f_iBadGraph = some ⟨oc_iBadGraph, od_iBadGraph, .func (PySem.W.fnOf "__init__" "BadGraph.__init__" (defArgs s_BadGraph___init__) (defBody s_BadGraph___init__) (defScope s_BadGraph___init__) .none kV_iBadGraph dc_iBadGraph pm_iBadGraph an_iBadGraph cd_iBadGraph ct_iBadGraph), sl_iBadGraph⟩)
    (c_iBadGraph : PySem.W.codeIn K cd_iBadGraph "BadGraph.__init__" = true)
    (k_iBadGraph : PySem.W.keepIn K (.ref f_iBadGraph) = true)
    (tiBadGraph : PySem.W.typeIn K (.ref f_iBadGraph) = some (.type "function"))
    (h1BadGraph : PySem.W.isClsIn K CG = true)
    (h2BadGraph : PySem.W.findIn K (.ref CG) "__getattribute__" = some (some (.builtin "BaseException.__getattribute__")))
    (h3BadGraph : PySem.W.findIn K (.ref CG) "__getattr__" = some none)
    (h4BadGraph : PySem.W.hasDictIn K CG = true)
    (h5BadGraph : PySem.W.findIn K (.ref CG) "__class__" = some (some (.builtin "object.__class__")))
    (h6BadGraph : PySem.W.mroIn K CG (.type "object") = some true)
    (h7BadGraph : PySem.W.subIn K (.ref CG) (.ref CS) = some true)
    (h8BadGraph : PySem.W.subIn K (.type "NoneType") (.ref CG) = some false)
    (kkBadGraph_BadName : PySem.W.subIn K (.ref CG) (.ref CN) = some false)
    (kkBadGraph_BadNumber : PySem.W.subIn K (.ref CG) (.ref CB) = some false)
    (kkBadGraph_TooMany : PySem.W.subIn K (.ref CG) (.ref CT) = some false)
    (gBadName : PySem.W.nsIn K mainGlobals "BadName" = some (some (.ref CN)))
    (xBadName : K.lookup CN = some (excClassObj nm_BadName q_BadName CN N_BadName bs_BadName bm_BadName true sn_BadName sub_BadName ab_BadName col_BadName dd_BadName m0_BadName m1_BadName m2_BadName m3_BadName m5_BadName "ValueError.__new__"))
    (vBadName : PySem.HandSPX.refsVE bm_BadName = true)
    (sBadName : PySem.W.findIn K (.ref CN) "__setattr__" = some (some (.builtin "object.__setattr__")))
    (eBadName : PySem.W.subIn K (.ref CN) (.type "BaseException") = some true)
    (tBadName : PySem.W.typeIn K (.ref CN) = some (.type "type"))
    (kpBadName : PySem.W.keepIn K (.ref CN) = true)
    (inBadName : PySem.W.findIn K (.ref CN) "__init__" = some (some (.ref f_iBadName)))
    (nfBadName_value : PySem.W.findIn K (.ref CN) "value" = some none)
    (l_iBadName : K.lookup f_iBadName = some ⟨oc_iBadName, od_iBadName, .func (PySem.W.fnOf "__init__" "BadName.__init__" (defArgs s_BadName___init__) (defBody s_BadName___init__) (defScope s_BadName___init__) .none kV_iBadName dc_iBadName pm_iBadName an_iBadName cd_iBadName ct_iBadName), sl_iBadName⟩)
    (c_iBadName : PySem.W.codeIn K cd_iBadName "BadName.__init__" = true)
    (k_iBadName : PySem.W.keepIn K (.ref f_iBadName) = true)
    (tiBadName : PySem.W.typeIn K (.ref f_iBadName) = some (.type "function"))
    (h1BadName : PySem.W.isClsIn K CN = true)
    (h2BadName : PySem.W.findIn K (.ref CN) "__getattribute__" = some (some (.builtin "BaseException.__getattribute__")))
    (h3BadName : PySem.W.findIn K (.ref CN) "__getattr__" = some none)
    (h4BadName : PySem.W.hasDictIn K CN = true)
    (h5BadName : PySem.W.findIn K (.ref CN) "__class__" = some (some (.builtin "object.__class__")))
    (h6BadName : PySem.W.mroIn K CN (.type "object") = some true)
    (h7BadName : PySem.W.subIn K (.ref CN) (.ref CS) = some true)
    (h8BadName : PySem.W.subIn K (.type "NoneType") (.ref CN) = some false)
    (kkBadName_BadGraph : PySem.W.subIn K (.ref CN) (.ref CG) = some false)
    (kkBadName_BadNumber : PySem.W.subIn K (.ref CN) (.ref CB) = some false)
    (kkBadName_TooMany : PySem.W.subIn K (.ref CN) (.ref CT) = some false)
    (gBadNumber : PySem.W.nsIn K mainGlobals "BadNumber" = some (some (.ref CB)))
    (xBadNumber : K.lookup CB = some (excClassObj nm_BadNumber q_BadNumber CB N_BadNumber bs_BadNumber bm_BadNumber true sn_BadNumber sub_BadNumber ab_BadNumber col_BadNumber dd_BadNumber m0_BadNumber m1_BadNumber m2_BadNumber m3_BadNumber m5_BadNumber "ValueError.__new__"))
    (vBadNumber : PySem.HandSPX.refsVE bm_BadNumber = true)
    (sBadNumber : PySem.W.findIn K (.ref CB) "__setattr__" = some (some (.builtin "object.__setattr__")))
    (eBadNumber : PySem.W.subIn K (.ref CB) (.type "BaseException") = some true)
    (tBadNumber : PySem.W.typeIn K (.ref CB) = some (.type "type"))
    (kpBadNumber : PySem.W.keepIn K (.ref CB) = true)
    (inBadNumber : PySem.W.findIn K (.ref CB) "__init__" = some (some (.ref f_iBadNumber)))
    (nfBadNumber_value : PySem.W.findIn K (.ref CB) "value" = some none)
    (l_iBadNumber : K.lookup f_iBadNumber = some ⟨oc_iBadNumber, od_iBadNumber, .func (PySem.W.fnOf "__init__" "BadNumber.__init__" (defArgs s_BadNumber___init__) (defBody s_BadNumber___init__) (defScope s_BadNumber___init__) .none kV_iBadNumber dc_iBadNumber pm_iBadNumber an_iBadNumber cd_iBadNumber ct_iBadNumber), sl_iBadNumber⟩)
    (c_iBadNumber : PySem.W.codeIn K cd_iBadNumber "BadNumber.__init__" = true)
    (k_iBadNumber : PySem.W.keepIn K (.ref f_iBadNumber) = true)
    (tiBadNumber : PySem.W.typeIn K (.ref f_iBadNumber) = some (.type "function"))
    (h1BadNumber : PySem.W.isClsIn K CB = true)
    (h2BadNumber : PySem.W.findIn K (.ref CB) "__getattribute__" = some (some (.builtin "BaseException.__getattribute__")))
    (h3BadNumber : PySem.W.findIn K (.ref CB) "__getattr__" = some none)
    (h4BadNumber : PySem.W.hasDictIn K CB = true)
    (h5BadNumber : PySem.W.findIn K (.ref CB) "__class__" = some (some (.builtin "object.__class__")))
    (h6BadNumber : PySem.W.mroIn K CB (.type "object") = some true)
    (h7BadNumber : PySem.W.subIn K (.ref CB) (.ref CS) = some true)
    (h8BadNumber : PySem.W.subIn K (.type "NoneType") (.ref CB) = some false)
    (kkBadNumber_BadGraph : PySem.W.subIn K (.ref CB) (.ref CG) = some false)
    (kkBadNumber_BadName : PySem.W.subIn K (.ref CB) (.ref CN) = some false)
    (kkBadNumber_TooMany : PySem.W.subIn K (.ref CB) (.ref CT) = some false)
    (gTooMany : PySem.W.nsIn K mainGlobals "TooMany" = some (some (.ref CT)))
    (xTooMany : K.lookup CT = some (excClassObj nm_TooMany q_TooMany CT N_TooMany bs_TooMany bm_TooMany true sn_TooMany sub_TooMany ab_TooMany col_TooMany dd_TooMany m0_TooMany m1_TooMany m2_TooMany m3_TooMany m5_TooMany "ValueError.__new__"))
    (vTooMany : PySem.HandSPX.refsVE bm_TooMany = true)
    (sTooMany : PySem.W.findIn K (.ref CT) "__setattr__" = some (some (.builtin "object.__setattr__")))
    (eTooMany : PySem.W.subIn K (.ref CT) (.type "BaseException") = some true)
    (tTooMany : PySem.W.typeIn K (.ref CT) = some (.type "type"))
    (kpTooMany : PySem.W.keepIn K (.ref CT) = true)
    (inTooMany : PySem.W.findIn K (.ref CT) "__init__" = some (some (.ref f_iTooMany)))
    (nfTooMany_what : PySem.W.findIn K (.ref CT) "what" = some none)
    (nfTooMany_most : PySem.W.findIn K (.ref CT) "most" = some none)
    (l_iTooMany : K.lookup f_iTooMany = some ⟨oc_iTooMany, od_iTooMany, .func (PySem.W.fnOf "__init__" "TooMany.__init__" (defArgs s_TooMany___init__) (defBody s_TooMany___init__) (defScope s_TooMany___init__) .none kV_iTooMany dc_iTooMany pm_iTooMany an_iTooMany cd_iTooMany ct_iTooMany), sl_iTooMany⟩)
    (c_iTooMany : PySem.W.codeIn K cd_iTooMany "TooMany.__init__" = true)
    (k_iTooMany : PySem.W.keepIn K (.ref f_iTooMany) = true)
    (tiTooMany : PySem.W.typeIn K (.ref f_iTooMany) = some (.type "function"))
    (h1TooMany : PySem.W.isClsIn K CT = true)
    (h2TooMany : PySem.W.findIn K (.ref CT) "__getattribute__" = some (some (.builtin "BaseException.__getattribute__")))
    (h3TooMany : PySem.W.findIn K (.ref CT) "__getattr__" = some none)
    (h4TooMany : PySem.W.hasDictIn K CT = true)
    (h5TooMany : PySem.W.findIn K (.ref CT) "__class__" = some (some (.builtin "object.__class__")))
    (h6TooMany : PySem.W.mroIn K CT (.type "object") = some true)
    (h7TooMany : PySem.W.subIn K (.ref CT) (.ref CS) = some true)
    (h8TooMany : PySem.W.subIn K (.type "NoneType") (.ref CT) = some false)
    (kkTooMany_BadGraph : PySem.W.subIn K (.ref CT) (.ref CG) = some false)
    (kkTooMany_BadName : PySem.W.subIn K (.ref CT) (.ref CN) = some false)
    (kkTooMany_BadNumber : PySem.W.subIn K (.ref CT) (.ref CB) = some false)
    (nd : CT ≠ CG ∧ CT ≠ CN ∧ CT ≠ CB ∧ CG ≠ CN ∧ CG ≠ CB ∧ CN ≠ CB)
    (l_is_integer : K.lookup f_is_integer = some ⟨oc_is_integer, od_is_integer, .func (PySem.W.fnOf "is_integer" "is_integer" (defArgs s_is_integer) (defBody s_is_integer) (defScope s_is_integer) .none kV_is_integer dc_is_integer pm_is_integer an_is_integer cd_is_integer ct_is_integer), sl_is_integer⟩)
    (c_is_integer : PySem.W.codeIn K cd_is_integer "is_integer" = true)
    (k_is_integer : PySem.W.keepIn K (.ref f_is_integer) = true)
    (a_is_integer : PySem.W.nsIn K mainGlobals "is_integer" = some (some (.ref f_is_integer)))
    (l_is_within : K.lookup f_is_within = some ⟨oc_is_within, od_is_within, .func (PySem.W.fnOf "is_within" "is_within" (defArgs s_is_within) (defBody s_is_within) (defScope s_is_within) .none kV_is_within dc_is_within pm_is_within an_is_within cd_is_within ct_is_within), sl_is_within⟩)
    (c_is_within : PySem.W.codeIn K cd_is_within "is_within" = true)
    (k_is_within : PySem.W.keepIn K (.ref f_is_within) = true)
    (a_is_within : PySem.W.nsIn K mainGlobals "is_within" = some (some (.ref f_is_within)))
    (l_is_name : K.lookup f_is_name = some ⟨oc_is_name, od_is_name, .func (PySem.W.fnOf "is_name" "is_name" (defArgs s_is_name) (defBody s_is_name) (defScope s_is_name) .none kV_is_name dc_is_name pm_is_name an_is_name cd_is_name ct_is_name), sl_is_name⟩)
    (c_is_name : PySem.W.codeIn K cd_is_name "is_name" = true)
    (k_is_name : PySem.W.keepIn K (.ref f_is_name) = true)
    (a_is_name : PySem.W.nsIn K mainGlobals "is_name" = some (some (.ref f_is_name)))
    (l_is_event : K.lookup f_is_event = some ⟨oc_is_event, od_is_event, .func (PySem.W.fnOf "is_event" "is_event" (defArgs s_is_event) (defBody s_is_event) (defScope s_is_event) .none kV_is_event dc_is_event pm_is_event an_is_event cd_is_event ct_is_event), sl_is_event⟩)
    (c_is_event : PySem.W.codeIn K cd_is_event "is_event" = true)
    (k_is_event : PySem.W.keepIn K (.ref f_is_event) = true)
    (a_is_event : PySem.W.nsIn K mainGlobals "is_event" = some (some (.ref f_is_event)))
    (l_is_lot : K.lookup f_is_lot = some ⟨oc_is_lot, od_is_lot, .func (PySem.W.fnOf "is_lot" "is_lot" (defArgs s_is_lot) (defBody s_is_lot) (defScope s_is_lot) .none kV_is_lot dc_is_lot pm_is_lot an_is_lot cd_is_lot ct_is_lot), sl_is_lot⟩)
    (c_is_lot : PySem.W.codeIn K cd_is_lot "is_lot" = true)
    (k_is_lot : PySem.W.keepIn K (.ref f_is_lot) = true)
    (a_is_lot : PySem.W.nsIn K mainGlobals "is_lot" = some (some (.ref f_is_lot)))
    (l_is_lot_of : K.lookup f_is_lot_of = some ⟨oc_is_lot_of, od_is_lot_of, .func (PySem.W.fnOf "is_lot_of" "is_lot_of" (defArgs s_is_lot_of) (defBody s_is_lot_of) (defScope s_is_lot_of) .none kV_is_lot_of dc_is_lot_of pm_is_lot_of an_is_lot_of cd_is_lot_of ct_is_lot_of), sl_is_lot_of⟩)
    (c_is_lot_of : PySem.W.codeIn K cd_is_lot_of "is_lot_of" = true)
    (k_is_lot_of : PySem.W.keepIn K (.ref f_is_lot_of) = true)
    (a_is_lot_of : PySem.W.nsIn K mainGlobals "is_lot_of" = some (some (.ref f_is_lot_of)))
    (l_is_starts : K.lookup f_is_starts = some ⟨oc_is_starts, od_is_starts, .func (PySem.W.fnOf "is_starts" "is_starts" (defArgs s_is_starts) (defBody s_is_starts) (defScope s_is_starts) .none kV_is_starts dc_is_starts pm_is_starts an_is_starts cd_is_starts ct_is_starts), sl_is_starts⟩)
    (c_is_starts : PySem.W.codeIn K cd_is_starts "is_starts" = true)
    (k_is_starts : PySem.W.keepIn K (.ref f_is_starts) = true)
    (a_is_starts : PySem.W.nsIn K mainGlobals "is_starts" = some (some (.ref f_is_starts)))
    (l_is_pay : K.lookup f_is_pay = some ⟨oc_is_pay, od_is_pay, .func (PySem.W.fnOf "is_pay" "is_pay" (defArgs s_is_pay) (defBody s_is_pay) (defScope s_is_pay) .none kV_is_pay dc_is_pay pm_is_pay an_is_pay cd_is_pay ct_is_pay), sl_is_pay⟩)
    (c_is_pay : PySem.W.codeIn K cd_is_pay "is_pay" = true)
    (k_is_pay : PySem.W.keepIn K (.ref f_is_pay) = true)
    (a_is_pay : PySem.W.nsIn K mainGlobals "is_pay" = some (some (.ref f_is_pay)))
    (l_is_measures : K.lookup f_is_measures = some ⟨oc_is_measures, od_is_measures, .func (PySem.W.fnOf "is_measures" "is_measures" (defArgs s_is_measures) (defBody s_is_measures) (defScope s_is_measures) .none kV_is_measures dc_is_measures pm_is_measures an_is_measures cd_is_measures ct_is_measures), sl_is_measures⟩)
    (c_is_measures : PySem.W.codeIn K cd_is_measures "is_measures" = true)
    (k_is_measures : PySem.W.keepIn K (.ref f_is_measures) = true)
    (a_is_measures : PySem.W.nsIn K mainGlobals "is_measures" = some (some (.ref f_is_measures)))
    (l_is_step : K.lookup f_is_step = some ⟨oc_is_step, od_is_step, .func (PySem.W.fnOf "is_step" "is_step" (defArgs s_is_step) (defBody s_is_step) (defScope s_is_step) .none kV_is_step dc_is_step pm_is_step an_is_step cd_is_step ct_is_step), sl_is_step⟩)
    (c_is_step : PySem.W.codeIn K cd_is_step "is_step" = true)
    (k_is_step : PySem.W.keepIn K (.ref f_is_step) = true)
    (a_is_step : PySem.W.nsIn K mainGlobals "is_step" = some (some (.ref f_is_step)))
    (l_is_events : K.lookup f_is_events = some ⟨oc_is_events, od_is_events, .func (PySem.W.fnOf "is_events" "is_events" (defArgs s_is_events) (defBody s_is_events) (defScope s_is_events) .none kV_is_events dc_is_events pm_is_events an_is_events cd_is_events ct_is_events), sl_is_events⟩)
    (c_is_events : PySem.W.codeIn K cd_is_events "is_events" = true)
    (k_is_events : PySem.W.keepIn K (.ref f_is_events) = true)
    (a_is_events : PySem.W.nsIn K mainGlobals "is_events" = some (some (.ref f_is_events)))
    (l_need_parts : K.lookup f_need_parts = some ⟨oc_need_parts, od_need_parts, .func (PySem.W.fnOf "need_parts" "need_parts" (defArgs s_need_parts) (defBody s_need_parts) (defScope s_need_parts) .none kV_need_parts dc_need_parts pm_need_parts an_need_parts cd_need_parts ct_need_parts), sl_need_parts⟩)
    (c_need_parts : PySem.W.codeIn K cd_need_parts "need_parts" = true)
    (k_need_parts : PySem.W.keepIn K (.ref f_need_parts) = true)
    (a_need_parts : PySem.W.nsIn K mainGlobals "need_parts" = some (some (.ref f_need_parts)))
    (l_outs_of : K.lookup f_outs_of = some ⟨oc_outs_of, od_outs_of, .func (PySem.W.fnOf "outs_of" "outs_of" (defArgs s_outs_of) (defBody s_outs_of) (defScope s_outs_of) .none kV_outs_of dc_outs_of pm_outs_of an_outs_of cd_outs_of ct_outs_of), sl_outs_of⟩)
    (c_outs_of : PySem.W.codeIn K cd_outs_of "outs_of" = true)
    (k_outs_of : PySem.W.keepIn K (.ref f_outs_of) = true)
    (a_outs_of : PySem.W.nsIn K mainGlobals "outs_of" = some (some (.ref f_outs_of)))
    (l_reached_from : K.lookup f_reached_from = some ⟨oc_reached_from, od_reached_from, .func (PySem.W.fnOf "reached_from" "reached_from" (defArgs s_reached_from) (defBody s_reached_from) (defScope s_reached_from) .none kV_reached_from dc_reached_from pm_reached_from an_reached_from cd_reached_from ct_reached_from), sl_reached_from⟩)
    (c_reached_from : PySem.W.codeIn K cd_reached_from "reached_from" = true)
    (k_reached_from : PySem.W.keepIn K (.ref f_reached_from) = true)
    (a_reached_from : PySem.W.nsIn K mainGlobals "reached_from" = some (some (.ref f_reached_from)))
    (l_need_state : K.lookup f_need_state = some ⟨oc_need_state, od_need_state, .func (PySem.W.fnOf "need_state" "need_state" (defArgs s_need_state) (defBody s_need_state) (defScope s_need_state) .none kV_need_state dc_need_state pm_need_state an_need_state cd_need_state ct_need_state), sl_need_state⟩)
    (c_need_state : PySem.W.codeIn K cd_need_state "need_state" = true)
    (k_need_state : PySem.W.keepIn K (.ref f_need_state) = true)
    (a_need_state : PySem.W.nsIn K mainGlobals "need_state" = some (some (.ref f_need_state)))
    (l_need_both : K.lookup f_need_both = some ⟨oc_need_both, od_need_both, .func (PySem.W.fnOf "need_both" "need_both" (defArgs s_need_both) (defBody s_need_both) (defScope s_need_both) .none kV_need_both dc_need_both pm_need_both an_need_both cd_need_both ct_need_both), sl_need_both⟩)
    (c_need_both : PySem.W.codeIn K cd_need_both "need_both" = true)
    (k_need_both : PySem.W.keepIn K (.ref f_need_both) = true)
    (a_need_both : PySem.W.nsIn K mainGlobals "need_both" = some (some (.ref f_need_both)))
    (l_need_room : K.lookup f_need_room = some ⟨oc_need_room, od_need_room, .func (PySem.W.fnOf "need_room" "need_room" (defArgs s_need_room) (defBody s_need_room) (defScope s_need_room) .none kV_need_room dc_need_room pm_need_room an_need_room cd_need_room ct_need_room), sl_need_room⟩)
    (c_need_room : PySem.W.codeIn K cd_need_room "need_room" = true)
    (k_need_room : PySem.W.keepIn K (.ref f_need_room) = true)
    (a_need_room : PySem.W.nsIn K mainGlobals "need_room" = some (some (.ref f_need_room)))
    (l_target_of : K.lookup f_target_of = some ⟨oc_target_of, od_target_of, .func (PySem.W.fnOf "target_of" "target_of" (defArgs s_target_of) (defBody s_target_of) (defScope s_target_of) .none kV_target_of dc_target_of pm_target_of an_target_of cd_target_of ct_target_of), sl_target_of⟩)
    (c_target_of : PySem.W.codeIn K cd_target_of "target_of" = true)
    (k_target_of : PySem.W.keepIn K (.ref f_target_of) = true)
    (a_target_of : PySem.W.nsIn K mainGlobals "target_of" = some (some (.ref f_target_of)))
    (l_time_of : K.lookup f_time_of = some ⟨oc_time_of, od_time_of, .func (PySem.W.fnOf "time_of" "time_of" (defArgs s_time_of) (defBody s_time_of) (defScope s_time_of) .none kV_time_of dc_time_of pm_time_of an_time_of cd_time_of ct_time_of), sl_time_of⟩)
    (c_time_of : PySem.W.codeIn K cd_time_of "time_of" = true)
    (k_time_of : PySem.W.keepIn K (.ref f_time_of) = true)
    (a_time_of : PySem.W.nsIn K mainGlobals "time_of" = some (some (.ref f_time_of)))
    (l_pays_of : K.lookup f_pays_of = some ⟨oc_pays_of, od_pays_of, .func (PySem.W.fnOf "pays_of" "pays_of" (defArgs s_pays_of) (defBody s_pays_of) (defScope s_pays_of) .none kV_pays_of dc_pays_of pm_pays_of an_pays_of cd_pays_of ct_pays_of), sl_pays_of⟩)
    (c_pays_of : PySem.W.codeIn K cd_pays_of "pays_of" = true)
    (k_pays_of : PySem.W.keepIn K (.ref f_pays_of) = true)
    (a_pays_of : PySem.W.nsIn K mainGlobals "pays_of" = some (some (.ref f_pays_of)))
    (l_events_of : K.lookup f_events_of = some ⟨oc_events_of, od_events_of, .func (PySem.W.fnOf "events_of" "events_of" (defArgs s_events_of) (defBody s_events_of) (defScope s_events_of) .none kV_events_of dc_events_of pm_events_of an_events_of cd_events_of ct_events_of), sl_events_of⟩)
    (c_events_of : PySem.W.codeIn K cd_events_of "events_of" = true)
    (k_events_of : PySem.W.keepIn K (.ref f_events_of) = true)
    (a_events_of : PySem.W.nsIn K mainGlobals "events_of" = some (some (.ref f_events_of)))
    (l_woven : K.lookup f_woven = some ⟨oc_woven, od_woven, .func (PySem.W.fnOf "woven" "woven" (defArgs s_woven) (defBody s_woven) (defScope s_woven) .none kV_woven dc_woven pm_woven an_woven (.ref cdPW) ct_woven), sl_woven⟩)
    (c_woven : PySem.W.codeIn K (.ref cdPW) "woven" = true)
    (k_woven : PySem.W.keepIn K (.ref f_woven) = true)
    (a_woven : PySem.W.nsIn K mainGlobals "woven" = some (some (.ref f_woven)))
    (l_lockstep : K.lookup f_lockstep = some ⟨oc_lockstep, od_lockstep, .func (PySem.W.fnOf "lockstep" "lockstep" (defArgs s_lockstep) (defBody s_lockstep) (defScope s_lockstep) .none kV_lockstep dc_lockstep pm_lockstep an_lockstep (.ref cdPL) ct_lockstep), sl_lockstep⟩)
    (c_lockstep : PySem.W.codeIn K (.ref cdPL) "lockstep" = true)
    (k_lockstep : PySem.W.keepIn K (.ref f_lockstep) = true)
    (a_lockstep : PySem.W.nsIn K mainGlobals "lockstep" = some (some (.ref f_lockstep)))
    (l__law_plain : K.lookup f__law_plain = some ⟨oc__law_plain, od__law_plain, .func (PySem.W.fnOf "_law_plain" "_law_plain" (defArgs s__law_plain) (defBody s__law_plain) (defScope s__law_plain) .none kV__law_plain dc__law_plain pm__law_plain an__law_plain cd__law_plain ct__law_plain), sl__law_plain⟩)
    (c__law_plain : PySem.W.codeIn K cd__law_plain "_law_plain" = true)
    (k__law_plain : PySem.W.keepIn K (.ref f__law_plain) = true)
    (a__law_plain : PySem.W.nsIn K mainGlobals "_law_plain" = some (some (.ref f__law_plain)))
    (l__law_pen : K.lookup f__law_pen = some ⟨oc__law_pen, od__law_pen, .func (PySem.W.fnOf "_law_pen" "_law_pen" (defArgs s__law_pen) (defBody s__law_pen) (defScope s__law_pen) .none kV__law_pen dc__law_pen pm__law_pen an__law_pen cd__law_pen ct__law_pen), sl__law_pen⟩)
    (c__law_pen : PySem.W.codeIn K cd__law_pen "_law_pen" = true)
    (k__law_pen : PySem.W.keepIn K (.ref f__law_pen) = true)
    (a__law_pen : PySem.W.nsIn K mainGlobals "_law_pen" = some (some (.ref f__law_pen)))
    (l__law_draw : K.lookup f__law_draw = some ⟨oc__law_draw, od__law_draw, .func (PySem.W.fnOf "_law_draw" "_law_draw" (defArgs s__law_draw) (defBody s__law_draw) (defScope s__law_draw) .none kV__law_draw dc__law_draw pm__law_draw an__law_draw cd__law_draw ct__law_draw), sl__law_draw⟩)
    (c__law_draw : PySem.W.codeIn K cd__law_draw "_law_draw" = true)
    (k__law_draw : PySem.W.keepIn K (.ref f__law_draw) = true)
    (a__law_draw : PySem.W.nsIn K mainGlobals "_law_draw" = some (some (.ref f__law_draw)))
    (l__law_pick : K.lookup f__law_pick = some ⟨oc__law_pick, od__law_pick, .func (PySem.W.fnOf "_law_pick" "_law_pick" (defArgs s__law_pick) (defBody s__law_pick) (defScope s__law_pick) .none kV__law_pick dc__law_pick pm__law_pick an__law_pick cd__law_pick ct__law_pick), sl__law_pick⟩)
    (c__law_pick : PySem.W.codeIn K cd__law_pick "_law_pick" = true)
    (k__law_pick : PySem.W.keepIn K (.ref f__law_pick) = true)
    (a__law_pick : PySem.W.nsIn K mainGlobals "_law_pick" = some (some (.ref f__law_pick)))
    (l__law_names_right : K.lookup f__law_names_right = some ⟨oc__law_names_right, od__law_names_right, .func (PySem.W.fnOf "_law_names_right" "_law_names_right" (defArgs s__law_names_right) (defBody s__law_names_right) (defScope s__law_names_right) .none kV__law_names_right dc__law_names_right pm__law_names_right an__law_names_right (.ref cdPN) ct__law_names_right), sl__law_names_right⟩)
    (c__law_names_right : PySem.W.codeIn K (.ref cdPN) "_law_names_right" = true)
    (k__law_names_right : PySem.W.keepIn K (.ref f__law_names_right) = true)
    (a__law_names_right : PySem.W.nsIn K mainGlobals "_law_names_right" = some (some (.ref f__law_names_right)))
    (l__law_times_right : K.lookup f__law_times_right = some ⟨oc__law_times_right, od__law_times_right, .func (PySem.W.fnOf "_law_times_right" "_law_times_right" (defArgs s__law_times_right) (defBody s__law_times_right) (defScope s__law_times_right) .none kV__law_times_right dc__law_times_right pm__law_times_right an__law_times_right (.ref cdPT) ct__law_times_right), sl__law_times_right⟩)
    (c__law_times_right : PySem.W.codeIn K (.ref cdPT) "_law_times_right" = true)
    (k__law_times_right : PySem.W.keepIn K (.ref f__law_times_right) = true)
    (a__law_times_right : PySem.W.nsIn K mainGlobals "_law_times_right" = some (some (.ref f__law_times_right)))
    (l__law_events_right : K.lookup f__law_events_right = some ⟨oc__law_events_right, od__law_events_right, .func (PySem.W.fnOf "_law_events_right" "_law_events_right" (defArgs s__law_events_right) (defBody s__law_events_right) (defScope s__law_events_right) .none kV__law_events_right dc__law_events_right pm__law_events_right an__law_events_right (.ref cdPE) ct__law_events_right), sl__law_events_right⟩)
    (c__law_events_right : PySem.W.codeIn K (.ref cdPE) "_law_events_right" = true)
    (k__law_events_right : PySem.W.keepIn K (.ref f__law_events_right) = true)
    (a__law_events_right : PySem.W.nsIn K mainGlobals "_law_events_right" = some (some (.ref f__law_events_right)))
    (l__law_sizes_right : K.lookup f__law_sizes_right = some ⟨oc__law_sizes_right, od__law_sizes_right, .func (PySem.W.fnOf "_law_sizes_right" "_law_sizes_right" (defArgs s__law_sizes_right) (defBody s__law_sizes_right) (defScope s__law_sizes_right) .none kV__law_sizes_right dc__law_sizes_right pm__law_sizes_right an__law_sizes_right (.ref cdPS) ct__law_sizes_right), sl__law_sizes_right⟩)
    (c__law_sizes_right : PySem.W.codeIn K (.ref cdPS) "_law_sizes_right" = true)
    (k__law_sizes_right : PySem.W.keepIn K (.ref f__law_sizes_right) = true)
    (a__law_sizes_right : PySem.W.nsIn K mainGlobals "_law_sizes_right" = some (some (.ref f__law_sizes_right)))
    (l_law : K.lookup f_law = some ⟨oc_law, od_law, .func (PySem.W.fnOf "law" "law" (defArgs s_law) (defBody s_law) (defScope s_law) .none kV_law dc_law pm_law an_law (.ref cdPA) ct_law), sl_law⟩)
    (c_law : PySem.W.codeIn K (.ref cdPA) "law" = true)
    (k_law : PySem.W.keepIn K (.ref f_law) = true)
    (a_law : PySem.W.nsIn K mainGlobals "law" = some (some (.ref f_law)))
    (l_made : K.lookup f_made = some ⟨oc_made, od_made, .func (PySem.W.fnOf "made" "made" (defArgs s_made) (defBody s_made) (defScope s_made) .none kV_made dc_made pm_made an_made cd_made ct_made), sl_made⟩)
    (c_made : PySem.W.codeIn K cd_made "made" = true)
    (k_made : PySem.W.keepIn K (.ref f_made) = true)
    (a_made : PySem.W.nsIn K mainGlobals "made" = some (some (.ref f_made)))
    (l__law_heard : K.lookup f__law_heard = some ⟨oc__law_heard, od__law_heard, .func (PySem.W.fnOf "_law_heard" "_law_heard" (defArgs s__law_heard) (defBody s__law_heard) (defScope s__law_heard) .none kV__law_heard dc__law_heard pm__law_heard an__law_heard cd__law_heard ct__law_heard), sl__law_heard⟩)
    (c__law_heard : PySem.W.codeIn K cd__law_heard "_law_heard" = true)
    (k__law_heard : PySem.W.keepIn K (.ref f__law_heard) = true)
    (a__law_heard : PySem.W.nsIn K mainGlobals "_law_heard" = some (some (.ref f__law_heard)))
    (l_out : K.lookup f_out = some ⟨oc_out, od_out, .func (PySem.W.fnOf "out" "Graph.out" (defArgs s_Graph_out) (defBody s_Graph_out) (defScope s_Graph_out) .none kV_out dc_out pm_out an_out cd_out ct_out), sl_out⟩)
    (c_out : PySem.W.codeIn K cd_out "Graph.out" = true)
    (k_out : PySem.W.keepIn K (.ref f_out) = true)
    (m_out : PySem.W.findIn K (.ref C) "out" = some (some (.ref f_out)))
    (mf_out : PySem.W.isFn K (.ref f_out) = true)
    (l_ev : K.lookup f_ev = some ⟨oc_ev, od_ev, .func (PySem.W.fnOf "events" "Graph.events" (defArgs s_Graph_events) (defBody s_Graph_events) (defScope s_Graph_events) .none kV_ev dc_ev pm_ev an_ev cd_ev ct_ev), sl_ev⟩)
    (c_ev : PySem.W.codeIn K cd_ev "Graph.events" = true)
    (k_ev : PySem.W.keepIn K (.ref f_ev) = true)
    (p1 : PySem.W.findIn K (.ref C) "events" = some (some (.ref pE)))
    (p2 : PySem.W.specialIn K (.ref pE) "__get__" = some (some (.builtin "property.__get__")))
    (p3 : PySem.W.takesIn K (.ref pE) = some true)
    (p4 : PySem.W.recIn K pE "property" = some (.ref f_ev :: restE))
    (l_gi : K.lookup f_gi = some ⟨oc_gi, od_gi, .func (PySem.W.fnOf "__init__" "Graph.__init__" (defArgs s_Graph___init__) (defBody s_Graph___init__) (defScope s_Graph___init__) (.ref TD) kV_gi dc_gi pm_gi an_gi cd_gi ct_gi), sl_gi⟩)
    (l_TD : K.lookup TD = some ⟨ocT, odT, .seq #[.ref eD, .none] nT, slT⟩)
    (c_gi : PySem.W.codeIn K cd_gi "Graph.__init__" = true)
    (k_gi : PySem.W.keepIn K (.ref f_gi) = true)
    (mk1 : PySem.W.makesIn K C = true)
    (mk2 : PySem.W.findIn K (.ref C) "__init__" = some (some (.ref f_gi)))
    (mk3 : PySem.W.isFn K (.ref f_gi) = true)
    (mk4 : PySem.W.keepIn K (.ref C) = true)
    (tt_PW : h.get? PW = some { cls := .none, data := .fields #[] })
    (tn_PW : K.lookup PW = none)
    (tc_PW : PySem.W.codeHdIn K cdPW PW = true)
    (tt_PL : h.get? PL = some { cls := .none, data := .fields #[] })
    (tn_PL : K.lookup PL = none)
    (tc_PL : PySem.W.codeHdIn K cdPL PL = true)
    (tt_PN : h.get? PN = some { cls := .none, data := .fields #[] })
    (tn_PN : K.lookup PN = none)
    (tc_PN : PySem.W.codeHdIn K cdPN PN = true)
    (tt_PS : h.get? PS = some { cls := .none, data := .fields #[] })
    (tn_PS : K.lookup PS = none)
    (tc_PS : PySem.W.codeHdIn K cdPS PS = true)
    (tt_PE : h.get? PE = some { cls := .none, data := .fields #[] })
    (tn_PE : K.lookup PE = none)
    (tc_PE : PySem.W.codeHdIn K cdPE PE = true)
    (tt_PT : h.get? PT = some { cls := .none, data := .fields #[] })
    (tn_PT : K.lookup PT = none)
    (tc_PT : PySem.W.codeHdIn K cdPT PT = true)
    (tt_PA : h.get? PA = some { cls := .none, data := .fields #[] })
    (tn_PA : K.lookup PA = none)
    (tc_PA : PySem.W.codeHdIn K cdPA PA = true)
    (hnd : ([PW, PL, PN, PS, PE, PT, PA] : List Addr).Nodup) :
    LawAtS l w K L2.CX0 14 63 "script" mg fa h := by
  subst hP
  have hg0 : f_law = fa := (Value.ref.inj (Option.some.inj (hfa.symm.trans (PySem.W.mg_of X G a_law)))).symm
  subst hg0
  have T : Txt K mg := { n_isinstance := PySem.W.mg_none_of X G n_isinstance, n_int := PySem.W.mg_none_of X G n_int, n_bool := PySem.W.mg_none_of X G n_bool, n_str := PySem.W.mg_none_of X G n_str, n_tuple := PySem.W.mg_none_of X G n_tuple, n_dict := PySem.W.mg_none_of X G n_dict, n_list := PySem.W.mg_none_of X G n_list, n_set := PySem.W.mg_none_of X G n_set, n_len := PySem.W.mg_none_of X G n_len, n_all := PySem.W.mg_none_of X G n_all, n_zip := PySem.W.mg_none_of X G n_zip, n_range := PySem.W.mg_none_of X G n_range, n_enumerate := PySem.W.mg_none_of X G n_enumerate, n_sorted := PySem.W.mg_none_of X G n_sorted, n_abs := PySem.W.mg_none_of X G n_abs, c_LETTERS := ⟨_, PySem.W.mg_of X G c_LETTERS⟩, c_SIGNS := ⟨_, PySem.W.mg_of X G c_SIGNS⟩, c_MOST_LETTERS := ⟨_, PySem.W.mg_of X G c_MOST_LETTERS⟩, c_MOST_SIGNS := ⟨_, PySem.W.mg_of X G c_MOST_SIGNS⟩, c_MOST_STATES_graphs := ⟨_, PySem.W.mg_of X G c_MOST_STATES_graphs⟩, c_MOST_STEPS_graphs := ⟨_, PySem.W.mg_of X G c_MOST_STEPS_graphs⟩, c_MOST_TIME := ⟨_, PySem.W.mg_of X G c_MOST_TIME⟩, c_MOST_PAY := ⟨_, PySem.W.mg_of X G c_MOST_PAY⟩, c_MOST_MEASURES_graphs := ⟨_, PySem.W.mg_of X G c_MOST_MEASURES_graphs⟩, c_MOST_EVENTS := ⟨_, PySem.W.mg_of X G c_MOST_EVENTS⟩, c_MOST_MEASURES_joins := ⟨_, PySem.W.mg_of X G c_MOST_MEASURES_joins⟩, c_MOST_STATES_joins := ⟨_, PySem.W.mg_of X G c_MOST_STATES_joins⟩, c_MOST_STEPS_joins := ⟨_, PySem.W.mg_of X G c_MOST_STEPS_joins⟩ }
  have G_Graph := PySem.W.mg_of X G gC
  have R : GrC K C := { c := ⟨cl1, cl2, cl3, cl4⟩, ha := gr1, hn := gr2, ht := gr3, hm := gr4, kb := (List.forall_mem_cons.mpr ⟨(kit_of gt1 gt2 kb_NoneType rfl), (List.forall_mem_cons.mpr ⟨(kit_of gt1 gt2 kb_int rfl), (List.forall_mem_cons.mpr ⟨(kit_of gt1 gt2 kb_str rfl), (List.forall_mem_cons.mpr ⟨(kit_of gt1 gt2 kb_tuple rfl), (List.forall_mem_cons.mpr ⟨(kit_of gt1 gt2 kb_bool rfl), (List.forall_mem_cons.mpr ⟨(kit_of gt1 gt2 kb_list rfl), fun _ h => nomatch h⟩)⟩)⟩)⟩)⟩)⟩), no := (List.forall_mem_cons.mpr ⟨no_count, (List.forall_mem_cons.mpr ⟨no_starts, (List.forall_mem_cons.mpr ⟨no_steps, (List.forall_mem_cons.mpr ⟨no_measures, (List.forall_mem_cons.mpr ⟨no_lots, (List.forall_mem_cons.mpr ⟨no_outs, (List.forall_mem_cons.mpr ⟨no_reached, fun _ h => nomatch h⟩)⟩)⟩)⟩)⟩)⟩)⟩) }
  have F_iBadGraph := fun_mk (st := s_BadGraph___init__) l_iBadGraph c_iBadGraph k_iBadGraph
  have b_iBadGraph : Binds K _ ["self", "part"] [] := F_iBadGraph.binds (ps := ["self", "part"]) fun _ _ _ _ _ _ us hl => match us, hl with | [_, _], _ => rfl
  have X_BadGraph : Ex1 l.prog w K mg "BadGraph" CG "part" := ⟨⟨f_iBadGraph, _, _, ⟨PySem.W.mg_of X G gBadGraph, ⟨⟨_, _, _, _, _, _, _, _, _, _, _, _, _, _, _, xBadGraph, vBadGraph⟩, sBadGraph, eBadGraph, tBadGraph, kpBadGraph⟩, inBadGraph, tiBadGraph, (List.forall_mem_cons.mpr ⟨nfBadGraph_part, fun _ h => nomatch h⟩)⟩, fun base => ok_init_BadGraph F_iBadGraph, b_iBadGraph⟩⟩
  have XC_BadGraph : XC K CG := ⟨h1BadGraph, h2BadGraph, h3BadGraph, eBadGraph, h4BadGraph, h5BadGraph, gr2, gr3, h6BadGraph⟩
  have F_iBadName := fun_mk (st := s_BadName___init__) l_iBadName c_iBadName k_iBadName
  have b_iBadName : Binds K _ ["self", "value"] [] := F_iBadName.binds (ps := ["self", "value"]) fun _ _ _ _ _ _ us hl => match us, hl with | [_, _], _ => rfl
  have X_BadName : Ex1 l.prog w K mg "BadName" CN "value" := ⟨⟨f_iBadName, _, _, ⟨PySem.W.mg_of X G gBadName, ⟨⟨_, _, _, _, _, _, _, _, _, _, _, _, _, _, _, xBadName, vBadName⟩, sBadName, eBadName, tBadName, kpBadName⟩, inBadName, tiBadName, (List.forall_mem_cons.mpr ⟨nfBadName_value, fun _ h => nomatch h⟩)⟩, fun base => ok_init_BadName F_iBadName, b_iBadName⟩⟩
  have XC_BadName : XC K CN := ⟨h1BadName, h2BadName, h3BadName, eBadName, h4BadName, h5BadName, gr2, gr3, h6BadName⟩
  have F_iBadNumber := fun_mk (st := s_BadNumber___init__) l_iBadNumber c_iBadNumber k_iBadNumber
  have b_iBadNumber : Binds K _ ["self", "value"] [] := F_iBadNumber.binds (ps := ["self", "value"]) fun _ _ _ _ _ _ us hl => match us, hl with | [_, _], _ => rfl
  have X_BadNumber : Ex1 l.prog w K mg "BadNumber" CB "value" := ⟨⟨f_iBadNumber, _, _, ⟨PySem.W.mg_of X G gBadNumber, ⟨⟨_, _, _, _, _, _, _, _, _, _, _, _, _, _, _, xBadNumber, vBadNumber⟩, sBadNumber, eBadNumber, tBadNumber, kpBadNumber⟩, inBadNumber, tiBadNumber, (List.forall_mem_cons.mpr ⟨nfBadNumber_value, fun _ h => nomatch h⟩)⟩, fun base => ok_init_BadNumber F_iBadNumber, b_iBadNumber⟩⟩
  have XC_BadNumber : XC K CB := ⟨h1BadNumber, h2BadNumber, h3BadNumber, eBadNumber, h4BadNumber, h5BadNumber, gr2, gr3, h6BadNumber⟩
  have F_iTooMany := fun_mk (st := s_TooMany___init__) l_iTooMany c_iTooMany k_iTooMany
  have b_iTooMany : Binds K _ ["self", "what", "most"] [] := F_iTooMany.binds (ps := ["self", "what", "most"]) fun _ _ _ _ _ _ us hl => match us, hl with | [_, _, _], _ => rfl
  have X_TooMany : Ex2 l.prog w K mg "TooMany" CT "what" "most" := ⟨⟨f_iTooMany, _, _, ⟨PySem.W.mg_of X G gTooMany, ⟨⟨_, _, _, _, _, _, _, _, _, _, _, _, _, _, _, xTooMany, vTooMany⟩, sTooMany, eTooMany, tTooMany, kpTooMany⟩, inTooMany, tiTooMany, (List.forall_mem_cons.mpr ⟨nfTooMany_what, (List.forall_mem_cons.mpr ⟨nfTooMany_most, fun _ h => nomatch h⟩)⟩)⟩, fun base => ok_init_TooMany F_iTooMany, b_iTooMany⟩⟩
  have XC_TooMany : XC K CT := ⟨h1TooMany, h2TooMany, h3TooMany, eTooMany, h4TooMany, h5TooMany, gr2, gr3, h6TooMany⟩
  have HC : HeardC K mg ⟨CS, CG, CN, CT, CB⟩ := { T := T, gS := PySem.W.mg_of X G gS, gT := PySem.W.mg_of X G gTooMany, gG := PySem.W.mg_of X G gBadGraph, gN := PySem.W.mg_of X G gBadName, gB := PySem.W.mg_of X G gBadNumber, ex := (List.forall_mem_cons.mpr ⟨⟨exm_of cs1 cs2 cs3 h7BadGraph, XC_BadGraph⟩, (List.forall_mem_cons.mpr ⟨⟨exm_of cs1 cs2 cs3 h7BadName, XC_BadName⟩, (List.forall_mem_cons.mpr ⟨⟨exm_of cs1 cs2 cs3 h7TooMany, XC_TooMany⟩, (List.forall_mem_cons.mpr ⟨⟨exm_of cs1 cs2 cs3 h7BadNumber, XC_BadNumber⟩, fun _ h => nomatch h⟩)⟩)⟩)⟩), nk := (List.forall_mem_cons.mpr ⟨(kit_of h1BadGraph tBadGraph h8BadGraph rfl), (List.forall_mem_cons.mpr ⟨(kit_of h1BadName tBadName h8BadName rfl), (List.forall_mem_cons.mpr ⟨(kit_of h1TooMany tTooMany h8TooMany rfl), (List.forall_mem_cons.mpr ⟨(kit_of h1BadNumber tBadNumber h8BadNumber rfl), fun _ h => nomatch h⟩)⟩)⟩)⟩), kk := (List.forall_mem_cons.mpr ⟨(List.forall_mem_cons.mpr ⟨kit_self, (List.forall_mem_cons.mpr ⟨(kit_other h1BadName tBadName kkBadGraph_BadName (nd.2.2.2.1)), (List.forall_mem_cons.mpr ⟨(kit_other h1TooMany tTooMany kkBadGraph_TooMany (nd.1).symm), (List.forall_mem_cons.mpr ⟨(kit_other h1BadNumber tBadNumber kkBadGraph_BadNumber (nd.2.2.2.2.1)), fun _ h => nomatch h⟩)⟩)⟩)⟩), (List.forall_mem_cons.mpr ⟨(List.forall_mem_cons.mpr ⟨(kit_other h1BadGraph tBadGraph kkBadName_BadGraph (nd.2.2.2.1).symm), (List.forall_mem_cons.mpr ⟨kit_self, (List.forall_mem_cons.mpr ⟨(kit_other h1TooMany tTooMany kkBadName_TooMany (nd.2.1).symm), (List.forall_mem_cons.mpr ⟨(kit_other h1BadNumber tBadNumber kkBadName_BadNumber (nd.2.2.2.2.2)), fun _ h => nomatch h⟩)⟩)⟩)⟩), (List.forall_mem_cons.mpr ⟨(List.forall_mem_cons.mpr ⟨(kit_other h1BadGraph tBadGraph kkTooMany_BadGraph (nd.1)), (List.forall_mem_cons.mpr ⟨(kit_other h1BadName tBadName kkTooMany_BadName (nd.2.1)), (List.forall_mem_cons.mpr ⟨kit_self, (List.forall_mem_cons.mpr ⟨(kit_other h1BadNumber tBadNumber kkTooMany_BadNumber (nd.2.2.1)), fun _ h => nomatch h⟩)⟩)⟩)⟩), (List.forall_mem_cons.mpr ⟨(List.forall_mem_cons.mpr ⟨(kit_other h1BadGraph tBadGraph kkBadNumber_BadGraph (nd.2.2.2.2.1).symm), (List.forall_mem_cons.mpr ⟨(kit_other h1BadName tBadName kkBadNumber_BadName (nd.2.2.2.2.2).symm), (List.forall_mem_cons.mpr ⟨(kit_other h1TooMany tTooMany kkBadNumber_TooMany (nd.2.2.1).symm), (List.forall_mem_cons.mpr ⟨kit_self, fun _ h => nomatch h⟩)⟩)⟩)⟩), fun _ h => nomatch h⟩)⟩)⟩)⟩), nd := nd, f1 := nfTooMany_what, f2 := nfTooMany_most, f3 := nfBadGraph_part, f4 := nfBadName_value, f5 := nfBadNumber_value }
  have F_is_integer := fun_mk (st := s_is_integer) l_is_integer c_is_integer k_is_integer
  have b_is_integer : Binds K _ ["value"] [] := F_is_integer.binds (ps := ["value"]) fun _ _ _ _ _ _ us hl => match us, hl with | [_], _ => rfl
  have g_is_integer := PySem.W.mg_of X G a_is_integer
  have F_is_within := fun_mk (st := s_is_within) l_is_within c_is_within k_is_within
  have b_is_within : Binds K _ ["value", "least", "most"] [] := F_is_within.binds (ps := ["value", "least", "most"]) fun _ _ _ _ _ _ us hl => match us, hl with | [_, _, _], _ => rfl
  have g_is_within := PySem.W.mg_of X G a_is_within
  have F_is_name := fun_mk (st := s_is_name) l_is_name c_is_name k_is_name
  have b_is_name : Binds K _ ["value"] [] := F_is_name.binds (ps := ["value"]) fun _ _ _ _ _ _ us hl => match us, hl with | [_], _ => rfl
  have g_is_name := PySem.W.mg_of X G a_is_name
  have F_is_event := fun_mk (st := s_is_event) l_is_event c_is_event k_is_event
  have b_is_event : Binds K _ ["value"] [] := F_is_event.binds (ps := ["value"]) fun _ _ _ _ _ _ us hl => match us, hl with | [_], _ => rfl
  have g_is_event := PySem.W.mg_of X G a_is_event
  have F_is_lot := fun_mk (st := s_is_lot) l_is_lot c_is_lot k_is_lot
  have b_is_lot : Binds K _ ["value"] [] := F_is_lot.binds (ps := ["value"]) fun _ _ _ _ _ _ us hl => match us, hl with | [_], _ => rfl
  have g_is_lot := PySem.W.mg_of X G a_is_lot
  have F_is_lot_of := fun_mk (st := s_is_lot_of) l_is_lot_of c_is_lot_of k_is_lot_of
  have b_is_lot_of : Binds K _ ["many", "value"] [] := F_is_lot_of.binds (ps := ["many", "value"]) fun _ _ _ _ _ _ us hl => match us, hl with | [_, _], _ => rfl
  have g_is_lot_of := PySem.W.mg_of X G a_is_lot_of
  have F_is_starts := fun_mk (st := s_is_starts) l_is_starts c_is_starts k_is_starts
  have b_is_starts : Binds K _ ["count", "value"] [] := F_is_starts.binds (ps := ["count", "value"]) fun _ _ _ _ _ _ us hl => match us, hl with | [_, _], _ => rfl
  have g_is_starts := PySem.W.mg_of X G a_is_starts
  have F_is_pay := fun_mk (st := s_is_pay) l_is_pay c_is_pay k_is_pay
  have b_is_pay : Binds K _ ["value"] [] := F_is_pay.binds (ps := ["value"]) fun _ _ _ _ _ _ us hl => match us, hl with | [_], _ => rfl
  have g_is_pay := PySem.W.mg_of X G a_is_pay
  have F_is_measures := fun_mk (st := s_is_measures) l_is_measures c_is_measures k_is_measures
  have b_is_measures : Binds K _ ["value"] [] := F_is_measures.binds (ps := ["value"]) fun _ _ _ _ _ _ us hl => match us, hl with | [_], _ => rfl
  have g_is_measures := PySem.W.mg_of X G a_is_measures
  have F_is_step := fun_mk (st := s_is_step) l_is_step c_is_step k_is_step
  have b_is_step : Binds K _ ["count", "many", "value"] [] := F_is_step.binds (ps := ["count", "many", "value"]) fun _ _ _ _ _ _ us hl => match us, hl with | [_, _, _], _ => rfl
  have g_is_step := PySem.W.mg_of X G a_is_step
  have F_is_events := fun_mk (st := s_is_events) l_is_events c_is_events k_is_events
  have b_is_events : Binds K _ ["many", "value"] [] := F_is_events.binds (ps := ["many", "value"]) fun _ _ _ _ _ _ us hl => match us, hl with | [_, _], _ => rfl
  have g_is_events := PySem.W.mg_of X G a_is_events
  have F_need_parts := fun_mk (st := s_need_parts) l_need_parts c_need_parts k_need_parts
  have b_need_parts : Binds K _ ["count", "starts", "measures", "steps"] [] := F_need_parts.binds (ps := ["count", "starts", "measures", "steps"]) fun _ _ _ _ _ _ us hl => match us, hl with | [_, _, _, _], _ => rfl
  have g_need_parts := PySem.W.mg_of X G a_need_parts
  have F_outs_of := fun_mk (st := s_outs_of) l_outs_of c_outs_of k_outs_of
  have b_outs_of : Binds K _ ["count", "steps"] [] := F_outs_of.binds (ps := ["count", "steps"]) fun _ _ _ _ _ _ us hl => match us, hl with | [_, _], _ => rfl
  have g_outs_of := PySem.W.mg_of X G a_outs_of
  have F_reached_from := fun_mk (st := s_reached_from) l_reached_from c_reached_from k_reached_from
  have b_reached_from : Binds K _ ["starts", "steps", "outs"] [] := F_reached_from.binds (ps := ["starts", "steps", "outs"]) fun _ _ _ _ _ _ us hl => match us, hl with | [_, _, _], _ => rfl
  have g_reached_from := PySem.W.mg_of X G a_reached_from
  have F_need_state := fun_mk (st := s_need_state) l_need_state c_need_state k_need_state
  have b_need_state : Binds K _ ["graph", "value"] [] := F_need_state.binds (ps := ["graph", "value"]) fun _ _ _ _ _ _ us hl => match us, hl with | [_, _], _ => rfl
  have g_need_state := PySem.W.mg_of X G a_need_state
  have F_need_both := fun_mk (st := s_need_both) l_need_both c_need_both k_need_both
  have b_need_both : Binds K _ ["one", "other"] [] := F_need_both.binds (ps := ["one", "other"]) fun _ _ _ _ _ _ us hl => match us, hl with | [_, _], _ => rfl
  have g_need_both := PySem.W.mg_of X G a_need_both
  have F_need_room := fun_mk (st := s_need_room) l_need_room c_need_room k_need_room
  have b_need_room : Binds K _ ["one", "other", "steps"] [] := F_need_room.binds (ps := ["one", "other", "steps"]) fun _ _ _ _ _ _ us hl => match us, hl with | [_, _, _], _ => rfl
  have g_need_room := PySem.W.mg_of X G a_need_room
  have F_target_of := fun_mk (st := s_target_of) l_target_of c_target_of k_target_of
  have b_target_of : Binds K _ ["graph", "state", "step"] [] := F_target_of.binds (ps := ["graph", "state", "step"]) fun _ _ _ _ _ _ us hl => match us, hl with | [_, _, _], _ => rfl
  have g_target_of := PySem.W.mg_of X G a_target_of
  have F_time_of := fun_mk (st := s_time_of) l_time_of c_time_of k_time_of
  have b_time_of : Binds K _ ["one", "other", "move"] [] := F_time_of.binds (ps := ["one", "other", "move"]) fun _ _ _ _ _ _ us hl => match us, hl with | [_, _, _], _ => rfl
  have g_time_of := PySem.W.mg_of X G a_time_of
  have F_pays_of := fun_mk (st := s_pays_of) l_pays_of c_pays_of k_pays_of
  have b_pays_of : Binds K _ ["one", "other", "move"] [] := F_pays_of.binds (ps := ["one", "other", "move"]) fun _ _ _ _ _ _ us hl => match us, hl with | [_, _, _], _ => rfl
  have g_pays_of := PySem.W.mg_of X G a_pays_of
  have F_events_of := fun_mk (st := s_events_of) l_events_of c_events_of k_events_of
  have b_events_of : Binds K _ ["one", "other", "moves"] [] := F_events_of.binds (ps := ["one", "other", "moves"]) fun _ _ _ _ _ _ us hl => match us, hl with | [_, _, _], _ => rfl
  have g_events_of := PySem.W.mg_of X G a_events_of
  have F_woven := fun_mk (st := s_woven) l_woven c_woven k_woven
  have b_woven : Binds K _ ["one", "other"] [] := F_woven.binds (ps := ["one", "other"]) fun _ _ _ _ _ _ us hl => match us, hl with | [_, _], _ => rfl
  have FC_woven : FunC K "woven" "woven" s_woven f_woven _ cdPW := ⟨⟨_, _, _, _, _, _, _, _, rfl, l_woven, c_woven⟩, k_woven⟩
  have g_woven := PySem.W.mg_of X G a_woven
  have F_lockstep := fun_mk (st := s_lockstep) l_lockstep c_lockstep k_lockstep
  have b_lockstep : Binds K _ ["one", "other"] [] := F_lockstep.binds (ps := ["one", "other"]) fun _ _ _ _ _ _ us hl => match us, hl with | [_, _], _ => rfl
  have FC_lockstep : FunC K "lockstep" "lockstep" s_lockstep f_lockstep _ cdPL := ⟨⟨_, _, _, _, _, _, _, _, rfl, l_lockstep, c_lockstep⟩, k_lockstep⟩
  have g_lockstep := PySem.W.mg_of X G a_lockstep
  have F__law_plain := fun_mk (st := s__law_plain) l__law_plain c__law_plain k__law_plain
  have b__law_plain : Binds K _ ["count", "many", "names", "words", "time"] [] := F__law_plain.binds (ps := ["count", "many", "names", "words", "time"]) fun _ _ _ _ _ _ us hl => match us, hl with | [_, _, _, _, _], _ => rfl
  have g__law_plain := PySem.W.mg_of X G a__law_plain
  have F__law_pen := fun_mk (st := s__law_pen) l__law_pen c__law_pen k__law_pen
  have b__law_pen : Binds K _ ["script"] [] := F__law_pen.binds (ps := ["script"]) fun _ _ _ _ _ _ us hl => match us, hl with | [_], _ => rfl
  have g__law_pen := PySem.W.mg_of X G a__law_pen
  have F__law_draw := fun_mk (st := s__law_draw) l__law_draw c__law_draw k__law_draw
  have b__law_draw : Binds K _ ["pen", "many"] [] := F__law_draw.binds (ps := ["pen", "many"]) fun _ _ _ _ _ _ us hl => match us, hl with | [_, _], _ => rfl
  have g__law_draw := PySem.W.mg_of X G a__law_draw
  have F__law_pick := fun_mk (st := s__law_pick) l__law_pick c__law_pick k__law_pick
  have b__law_pick : Binds K _ ["pen", "some"] [] := F__law_pick.binds (ps := ["pen", "some"]) fun _ _ _ _ _ _ us hl => match us, hl with | [_, _], _ => rfl
  have g__law_pick := PySem.W.mg_of X G a__law_pick
  have F__law_names_right := fun_mk (st := s__law_names_right) l__law_names_right c__law_names_right k__law_names_right
  have b__law_names_right : Binds K _ ["pen"] [] := F__law_names_right.binds (ps := ["pen"]) fun _ _ _ _ _ _ us hl => match us, hl with | [_], _ => rfl
  have FC__law_names_right : FunC K "_law_names_right" "_law_names_right" s__law_names_right f__law_names_right _ cdPN := ⟨⟨_, _, _, _, _, _, _, _, rfl, l__law_names_right, c__law_names_right⟩, k__law_names_right⟩
  have g__law_names_right := PySem.W.mg_of X G a__law_names_right
  have F__law_times_right := fun_mk (st := s__law_times_right) l__law_times_right c__law_times_right k__law_times_right
  have b__law_times_right : Binds K _ ["pen"] [] := F__law_times_right.binds (ps := ["pen"]) fun _ _ _ _ _ _ us hl => match us, hl with | [_], _ => rfl
  have FC__law_times_right : FunC K "_law_times_right" "_law_times_right" s__law_times_right f__law_times_right _ cdPT := ⟨⟨_, _, _, _, _, _, _, _, rfl, l__law_times_right, c__law_times_right⟩, k__law_times_right⟩
  have g__law_times_right := PySem.W.mg_of X G a__law_times_right
  have F__law_events_right := fun_mk (st := s__law_events_right) l__law_events_right c__law_events_right k__law_events_right
  have b__law_events_right : Binds K _ ["pen"] [] := F__law_events_right.binds (ps := ["pen"]) fun _ _ _ _ _ _ us hl => match us, hl with | [_], _ => rfl
  have FC__law_events_right : FunC K "_law_events_right" "_law_events_right" s__law_events_right f__law_events_right _ cdPE := ⟨⟨_, _, _, _, _, _, _, _, rfl, l__law_events_right, c__law_events_right⟩, k__law_events_right⟩
  have g__law_events_right := PySem.W.mg_of X G a__law_events_right
  have F__law_sizes_right := fun_mk (st := s__law_sizes_right) l__law_sizes_right c__law_sizes_right k__law_sizes_right
  have b__law_sizes_right : Binds K _ ["pen"] [] := F__law_sizes_right.binds (ps := ["pen"]) fun _ _ _ _ _ _ us hl => match us, hl with | [_], _ => rfl
  have FC__law_sizes_right : FunC K "_law_sizes_right" "_law_sizes_right" s__law_sizes_right f__law_sizes_right _ cdPS := ⟨⟨_, _, _, _, _, _, _, _, rfl, l__law_sizes_right, c__law_sizes_right⟩, k__law_sizes_right⟩
  have g__law_sizes_right := PySem.W.mg_of X G a__law_sizes_right
  have F_law := fun_mk (st := s_law) l_law c_law k_law
  have b_law : Binds K _ ["script"] [] := F_law.binds (ps := ["script"]) fun _ _ _ _ _ _ us hl => match us, hl with | [_], _ => rfl
  have FC_law : FunC K "law" "law" s_law f_law _ cdPA := ⟨⟨_, _, _, _, _, _, _, _, rfl, l_law, c_law⟩, k_law⟩
  have g_law := PySem.W.mg_of X G a_law
  have F_made := fun_mk (st := s_made) l_made c_made k_made
  have b_made : Binds K _ ["one", "other", "moves_at"] [] := F_made.binds (ps := ["one", "other", "moves_at"]) fun _ _ _ _ _ _ us hl => match us, hl with | [_, _, _], _ => rfl
  have g_made := PySem.W.mg_of X G a_made
  have F__law_heard := fun_mk (st := s__law_heard) l__law_heard c__law_heard k__law_heard
  have b__law_heard : Binds K _ ["ask"] [] := F__law_heard.binds (ps := ["ask"]) fun _ _ _ _ _ _ us hl => match us, hl with | [_], _ => rfl
  have g__law_heard := PySem.W.mg_of X G a__law_heard
  have F_out := fun_mk (st := s_Graph_out) l_out c_out k_out
  have b_out : Binds K _ ["self", "state"] [] := F_out.binds (ps := ["self", "state"]) fun _ _ _ _ _ _ us hl => match us, hl with | [_, _], _ => rfl
  have F_ev := fun_mk (st := s_Graph_events) l_ev c_ev k_ev
  have b_ev : Binds K _ ["self"] [] := F_ev.binds (ps := ["self"]) fun _ _ _ _ _ _ us hl => match us, hl with | [_], _ => rfl
  have F_gi : FunD K "__init__" "Graph.__init__" (defArgs s_Graph___init__) (defBody s_Graph___init__) (defScope s_Graph___init__) [.ref eD, .non] [] f_gi _ := ⟨⟨_, _, _, _, _, _, _, _, _, _, rfl, l_gi, c_gi, .inr ⟨by simp, TD, _, [.ref eD, .none], _, rfl, l_TD, rfl, .cons rfl (.cons rfl .nil)⟩, .inl rfl⟩, k_gi⟩
  have b_gi := gi_binds F_gi
  let Tb : List (Addr × Str) := [(PW, "woven.<locals>.<lambda>"), (PL, "lockstep.<locals>.<lambda>"), (PN, "_law_names_right" ++ ".<locals>." ++ "<lambda>"), (PS, "_law_sizes_right" ++ ".<locals>." ++ "<lambda>"), (PE, "_law_events_right" ++ ".<locals>." ++ "<lambda>"), (PT, "_law_times_right" ++ ".<locals>." ++ "<lambda>"), (PA, "law" ++ ".<locals>." ++ "<lambda>")]
  refine ⟨PySem.W.fnOf "law" "law" (defArgs s_law) (defBody s_law) (defScope s_law) .none kV_law dc_law pm_law an_law (.ref cdPA) ct_law, [(cdPW, PW), (cdPL, PL), (cdPN, PN), (cdPS, PS), (cdPE, PE), (cdPT, PT), (cdPA, PA)], spTop K Tb, (List.forall_mem_cons.mpr ⟨tt_PW, (List.forall_mem_cons.mpr ⟨tt_PL, (List.forall_mem_cons.mpr ⟨tt_PN, (List.forall_mem_cons.mpr ⟨tt_PS, (List.forall_mem_cons.mpr ⟨tt_PE, (List.forall_mem_cons.mpr ⟨tt_PT, (List.forall_mem_cons.mpr ⟨tt_PA, fun _ h => nomatch h⟩)⟩)⟩)⟩)⟩)⟩)⟩), (List.forall_mem_cons.mpr ⟨tn_PW, (List.forall_mem_cons.mpr ⟨tn_PL, (List.forall_mem_cons.mpr ⟨tn_PN, (List.forall_mem_cons.mpr ⟨tn_PS, (List.forall_mem_cons.mpr ⟨tn_PE, (List.forall_mem_cons.mpr ⟨tn_PT, (List.forall_mem_cons.mpr ⟨tn_PA, fun _ h => nomatch h⟩)⟩)⟩)⟩)⟩)⟩)⟩), (List.forall_mem_cons.mpr ⟨PySem.W.codeHd_of_K X tc_PW, (List.forall_mem_cons.mpr ⟨PySem.W.codeHd_of_K X tc_PL, (List.forall_mem_cons.mpr ⟨PySem.W.codeHd_of_K X tc_PN, (List.forall_mem_cons.mpr ⟨PySem.W.codeHd_of_K X tc_PS, (List.forall_mem_cons.mpr ⟨PySem.W.codeHd_of_K X tc_PE, (List.forall_mem_cons.mpr ⟨PySem.W.codeHd_of_K X tc_PT, (List.forall_mem_cons.mpr ⟨PySem.W.codeHd_of_K X tc_PA, fun _ h => nomatch h⟩)⟩)⟩)⟩)⟩)⟩)⟩), fun s u => .of_eq rfl, fun H a ns _ _ hT hS => ⟨a, ns, rfl, hS, (List.forall_mem_cons.mpr ⟨TabS.nil (hT (cdPW, PW) (by simp)), (List.forall_mem_cons.mpr ⟨TabS.nil (hT (cdPL, PL) (by simp)), (List.forall_mem_cons.mpr ⟨TabS.nil (hT (cdPN, PN) (by simp)), (List.forall_mem_cons.mpr ⟨TabS.nil (hT (cdPS, PS) (by simp)), (List.forall_mem_cons.mpr ⟨TabS.nil (hT (cdPE, PE) (by simp)), (List.forall_mem_cons.mpr ⟨TabS.nil (hT (cdPT, PT) (by simp)), (List.forall_mem_cons.mpr ⟨TabS.nil (hT (cdPA, PA) (by simp)), fun _ h => nomatch h⟩)⟩)⟩)⟩)⟩)⟩)⟩), fun _ => rfl⟩, fun base KB GB TB => ?_⟩
  have LT_woven := lamTab_mk (Tb := Tb) (q := "woven.<locals>.<lambda>") (TB (cdPW, PW) (by simp)) (by simp [Tb]) hnd
  have LT_lockstep := lamTab_mk (Tb := Tb) (q := "lockstep.<locals>.<lambda>") (TB (cdPL, PL) (by simp)) (by simp [Tb]) hnd
  have LT__law_names_right := lamTab_mk (Tb := Tb) (q := "_law_names_right" ++ ".<locals>." ++ "<lambda>") (TB (cdPN, PN) (by simp)) (by simp [Tb]) hnd
  have LT__law_sizes_right := lamTab_mk (Tb := Tb) (q := "_law_sizes_right" ++ ".<locals>." ++ "<lambda>") (TB (cdPS, PS) (by simp)) (by simp [Tb]) hnd
  have LT__law_events_right := lamTab_mk (Tb := Tb) (q := "_law_events_right" ++ ".<locals>." ++ "<lambda>") (TB (cdPE, PE) (by simp)) (by simp [Tb]) hnd
  have LT__law_times_right := lamTab_mk (Tb := Tb) (q := "_law_times_right" ++ ".<locals>." ++ "<lambda>") (TB (cdPT, PT) (by simp)) (by simp [Tb]) hnd
  have LT_law := lamTab_mk (Tb := Tb) (q := "law" ++ ".<locals>." ++ "<lambda>") (TB (cdPA, PA) (by simp)) (by simp [Tb]) hnd
  have D_is_integer : DefOk l.prog w K mg base CX0 1 "is_integer" ["value"] spIsInteger := ⟨⟨_, _, g_is_integer, k_is_integer, b_is_integer, ok_is_integer F_is_integer T⟩⟩
  have D_is_within : DefOk l.prog w K mg base CX0 2 "is_within" ["value", "least", "most"] spIsWithin := ⟨⟨_, _, g_is_within, k_is_within, b_is_within, ok_is_within F_is_within T D_is_integer⟩⟩
  have D_is_name : DefOk l.prog w K mg base CX0 1 "is_name" ["value"] spIsName := ⟨⟨_, _, g_is_name, k_is_name, b_is_name, ok_is_name F_is_name T⟩⟩
  have D_is_event : DefOk l.prog w K mg base CX0 1 "is_event" ["value"] spIsEvent := ⟨⟨_, _, g_is_event, k_is_event, b_is_event, ok_is_event F_is_event T⟩⟩
  have D_is_lot : DefOk l.prog w K mg base CX0 2 "is_lot" ["value"] (spIsLot K) := ⟨⟨_, _, g_is_lot, k_is_lot, b_is_lot, ok_is_lot F_is_lot T D_is_integer⟩⟩
  have D_is_lot_of : DefOk l.prog w K mg base CX0 3 "is_lot_of" ["many", "value"] (spIsLotOf K) := ⟨⟨_, _, g_is_lot_of, k_is_lot_of, b_is_lot_of, ok_is_lot_of F_is_lot_of T D_is_lot⟩⟩
  have D_is_starts : DefOk l.prog w K mg base CX0 3 "is_starts" ["count", "value"] (spIsStarts K) := ⟨⟨_, _, g_is_starts, k_is_starts, b_is_starts, ok_is_starts F_is_starts T D_is_lot⟩⟩
  have D_is_pay : DefOk l.prog w K mg base CX0 3 "is_pay" ["value"] spIsPay := ⟨⟨_, _, g_is_pay, k_is_pay, b_is_pay, ok_is_pay F_is_pay T D_is_within⟩⟩
  have D_is_measures : DefOk l.prog w K mg base CX0 2 "is_measures" ["value"] (spIsMeasures K) := ⟨⟨_, _, g_is_measures, k_is_measures, b_is_measures, ok_is_measures F_is_measures T D_is_name⟩⟩
  have D_is_step : DefOk l.prog w K mg base CX0 4 "is_step" ["count", "many", "value"] (spIsStep K) := ⟨⟨_, _, g_is_step, k_is_step, b_is_step, ok_is_step F_is_step T D_is_within D_is_pay⟩⟩
  have D_is_events : DefOk l.prog w K mg base CX0 4 "is_events" ["many", "value"] (spIsEvents K) := ⟨⟨_, _, g_is_events, k_is_events, b_is_events, ok_is_events F_is_events T D_is_event D_is_lot_of⟩⟩
  have D_need_parts : DefOk l.prog w K mg base CX0 5 "need_parts" ["count", "starts", "measures", "steps"] (spNeedParts K) := ⟨⟨_, _, g_need_parts, k_need_parts, b_need_parts, ok_need_parts F_need_parts T D_is_within D_is_starts D_is_measures D_is_step⟩⟩
  have D_outs_of : DefOk l.prog w K mg base CX0 1 "outs_of" ["count", "steps"] (spOutsOf K) := ⟨⟨_, _, g_outs_of, k_outs_of, b_outs_of, ok_outs_of F_outs_of T⟩⟩
  have D_reached_from : DefOk l.prog w K mg base CX0 1 "reached_from" ["starts", "steps", "outs"] (spReached K) := ⟨⟨_, _, g_reached_from, k_reached_from, b_reached_from, ok_reached_from F_reached_from T⟩⟩
  have D_need_state : DefOk l.prog w K mg base CX0 3 "need_state" ["graph", "value"] (spNeedState C K) := ⟨⟨_, _, g_need_state, k_need_state, b_need_state, ok_need_state F_need_state T R D_is_within⟩⟩
  have D_need_both : DefOk l.prog w K mg base (L2.CX l.prog w) 3 "need_both" ["one", "other"] (spNeedBoth C CG CN K) := ⟨⟨_, _, g_need_both, k_need_both, b_need_both, ok_need_both F_need_both T R G_Graph X_BadGraph X_BadName⟩⟩
  have D_need_room : DefOk l.prog w K mg base (L2.CX l.prog w) 3 "need_room" ["one", "other", "steps"] (spNeedRoom C CT K) := ⟨⟨_, _, g_need_room, k_need_room, b_need_room, ok_need_room F_need_room T R X_TooMany⟩⟩
  have D_target_of : DefOk l.prog w K mg base CX0 1 "target_of" ["graph", "state", "step"] (spTargetOf C K) := ⟨⟨_, _, g_target_of, k_target_of, b_target_of, ok_target_of F_target_of R⟩⟩
  have D_time_of : DefOk l.prog w K mg base CX0 1 "time_of" ["one", "other", "move"] (spTimeOf C K) := ⟨⟨_, _, g_time_of, k_time_of, b_time_of, ok_time_of F_time_of R⟩⟩
  have D_pays_of : DefOk l.prog w K mg base CX0 1 "pays_of" ["one", "other", "move"] (spPaysOf C K) := ⟨⟨_, _, g_pays_of, k_pays_of, b_pays_of, ok_pays_of F_pays_of T R⟩⟩
  have D_events : PDef l.prog w K mg base CX0 1 C "events" ["self"] (spEvents C K) := ⟨R.c, pE, f_ev, _, ⟨p1, p2, p3, ⟨_, p4⟩⟩, b_ev, ok_events F_ev T R⟩
  have D_events_of : DefOk l.prog w K mg base CX0 3 "events_of" ["one", "other", "moves"] (spEventsOf C K) := ⟨⟨_, _, g_events_of, k_events_of, b_events_of, ok_events_of F_events_of T R D_events⟩⟩
  have D_out : MDef l.prog w K mg base CX0 4 C "out" ["self", "state"] (spOut C K) := ⟨R.c, f_out, _, ⟨m_out, mf_out, k_out⟩, b_out, ok_out F_out T R D_need_state⟩
  have M_Graph : CDef l.prog w K mg base (L2.CX l.prog w) 6 "Graph" C ["self", "count", "starts", "steps", "measures", "events"] (spGraph C CT K) := ⟨G_Graph, f_gi, _, ⟨mk1, mk2, mk3, mk4⟩, b_gi, ok_Graph F_gi T R X_TooMany D_need_parts D_is_events D_outs_of D_reached_from⟩
  have M : MadeOk l.prog w K mg base C CT := ⟨T, R, ⟨_, _, g_made, F_made, b_made⟩, D_target_of, D_time_of, D_pays_of, D_events_of, M_Graph⟩
  have D_woven : DefOk l.prog w K mg base (L2.CX l.prog w) 10 "woven" ["one", "other"] (spWoven C CG CN CT K Tb) := ⟨⟨_, _, g_woven, k_woven, b_woven, ok_woven FC_woven M LT_woven D_need_both D_need_room D_out⟩⟩
  have D_lockstep : DefOk l.prog w K mg base (L2.CX l.prog w) 10 "lockstep" ["one", "other"] (spLock C CG CN CT CB K Tb) := ⟨⟨_, _, g_lockstep, k_lockstep, b_lockstep, ok_lockstep FC_lockstep M LT_lockstep X_BadNumber D_need_both D_need_room D_out⟩⟩
  have D__law_plain : DefOk l.prog w K mg base CX0 8 "_law_plain" ["count", "many", "names", "words", "time"] (spPlain C K) := ⟨⟨_, _, g__law_plain, k__law_plain, b__law_plain, ok_plain F__law_plain T M_Graph⟩⟩
  have D__law_pen : DefOk l.prog w K mg base CX0 1 "_law_pen" ["script"] (spPen K) := ⟨⟨_, _, g__law_pen, k__law_pen, b__law_pen, ok_pen F__law_pen T⟩⟩
  have D__law_draw : DefOk l.prog w K mg base CX0 1 "_law_draw" ["pen", "many"] spDraw := ⟨⟨_, _, g__law_draw, k__law_draw, b__law_draw, ok_draw F__law_draw T⟩⟩
  have D__law_pick : DefOk l.prog w K mg base CX0 2 "_law_pick" ["pen", "some"] (spPick K) := ⟨⟨_, _, g__law_pick, k__law_pick, b__law_pick, ok_pick F__law_pick T D__law_draw⟩⟩
  have kbW := kb_of F_woven
  have kbL := kb_of2 F_lockstep
  have LE : LawEnv l.prog w K mg base C ⟨CS, CG, CN, CT, CB⟩ f_woven f_lockstep Tb := { T := T, R := R, HO := ⟨HC, _, _, g__law_heard, F__law_heard, b__law_heard⟩, J := ⟨k_woven, k_lockstep, ⟨_, b_woven, kbW, ok_woven FC_woven M LT_woven D_need_both D_need_room D_out⟩, ⟨_, b_lockstep, kbL, ok_lockstep FC_lockstep M LT_lockstep X_BadNumber D_need_both D_need_room D_out⟩⟩, gW := g_woven, gL := g_lockstep, plain := ⟨_, D__law_plain, plainK⟩, pick := D__law_pick, draw := D__law_draw, woven := D_woven, lockstep := D_lockstep, events := D_events }
  have D__law_names_right : DefOk l.prog w K mg base CX0 13 "_law_names_right" ["pen"] (spLaw Tb) := ⟨⟨_, _, g__law_names_right, k__law_names_right, b__law_names_right, ok_names FC__law_names_right LE LT__law_names_right⟩⟩
  have D__law_times_right : DefOk l.prog w K mg base CX0 13 "_law_times_right" ["pen"] (spLaw Tb) := ⟨⟨_, _, g__law_times_right, k__law_times_right, b__law_times_right, ok_times FC__law_times_right LE LT__law_times_right⟩⟩
  have D__law_events_right : DefOk l.prog w K mg base CX0 13 "_law_events_right" ["pen"] (spLaw Tb) := ⟨⟨_, _, g__law_events_right, k__law_events_right, b__law_events_right, ok_evright FC__law_events_right LE LT__law_events_right⟩⟩
  have D__law_sizes_right : DefOk l.prog w K mg base CX0 13 "_law_sizes_right" ["pen"] (spLaw Tb) := ⟨⟨_, _, g__law_sizes_right, k__law_sizes_right, b__law_sizes_right, ok_sizes FC__law_sizes_right LE LT__law_sizes_right⟩⟩
  exact ok_law FC_law LE LT_law D__law_pen D__law_names_right D__law_sizes_right D__law_events_right D__law_times_right
end K53
open PySem PySem.W PyProof.Rows
set_option maxRecDepth 100000 in
set_option maxHeartbeats 0 in
theorem PySem.Challenge.cw_longshares_k53_joins_refused_holds : PySem.Challenge.rw_longshares_k53_joins_refused.Holds := by
  w_on; o_law; k_head; (case hw => w_witness2)
  k_fill
  refine LamX.walk_ofTs (l := PySem.Challenge.rw_longshares_k53_joins_refused) (n := 63) (k := 14) (x := "script") (CX := fun _ => L2.CX0) rfl (by decide) (by kernel_rfl) ⟨rfl, by decide, by decide⟩ (fun w h Y => km_in_of Y) ?F (fun _ _ _ _ _ z => z)
  case F =>
    intro w mg fa h Y KX G hmg
    have TT := km_tabs_of Y
    refine' K53.all_mk (PW := 448) (PL := 455) (PN := 495) (PS := 500) (PE := 505) (PT := 512) (PA := 519) rfl KX G hmg ?n_isinstance ?n_int ?n_bool ?n_str ?n_tuple ?n_dict ?n_list ?n_set ?n_len ?n_all ?n_zip ?n_range ?n_enumerate ?n_sorted ?n_abs ?c_LETTERS ?c_SIGNS ?c_MOST_LETTERS ?c_MOST_SIGNS ?c_MOST_STATES_graphs ?c_MOST_STEPS_graphs ?c_MOST_TIME ?c_MOST_PAY ?c_MOST_MEASURES_graphs ?c_MOST_EVENTS ?c_MOST_MEASURES_joins ?c_MOST_STATES_joins ?c_MOST_STEPS_joins ?gC ?cl1 ?cl2 ?cl3 ?cl4 ?gr1 ?gr2 ?gr3 ?gr4 ?gt1 ?gt2 ?kb_NoneType ?kb_int ?kb_str ?kb_tuple ?kb_bool ?kb_list ?no_count ?no_starts ?no_steps ?no_measures ?no_lots ?no_outs ?no_reached ?gS ?cs1 ?cs2 ?cs3 ?gBadGraph ?xBadGraph ?vBadGraph ?sBadGraph ?eBadGraph ?tBadGraph ?kpBadGraph ?inBadGraph ?nfBadGraph_part ?l_iBadGraph ?c_iBadGraph ?k_iBadGraph ?tiBadGraph ?h1BadGraph ?h2BadGraph ?h3BadGraph ?h4BadGraph ?h5BadGraph ?h6BadGraph ?h7BadGraph ?h8BadGraph ?kkBadGraph_BadName ?kkBadGraph_BadNumber ?kkBadGraph_TooMany ?gBadName ?xBadName ?vBadName ?sBadName ?eBadName ?tBadName ?kpBadName ?inBadName ?nfBadName_value ?l_iBadName ?c_iBadName ?k_iBadName ?tiBadName ?h1BadName ?h2BadName ?h3BadName ?h4BadName ?h5BadName ?h6BadName ?h7BadName ?h8BadName ?kkBadName_BadGraph ?kkBadName_BadNumber ?kkBadName_TooMany ?gBadNumber ?xBadNumber ?vBadNumber ?sBadNumber ?eBadNumber ?tBadNumber ?kpBadNumber ?inBadNumber ?nfBadNumber_value ?l_iBadNumber ?c_iBadNumber ?k_iBadNumber ?tiBadNumber ?h1BadNumber ?h2BadNumber ?h3BadNumber ?h4BadNumber ?h5BadNumber ?h6BadNumber ?h7BadNumber ?h8BadNumber ?kkBadNumber_BadGraph ?kkBadNumber_BadName ?kkBadNumber_TooMany ?gTooMany ?xTooMany ?vTooMany ?sTooMany ?eTooMany ?tTooMany ?kpTooMany ?inTooMany ?nfTooMany_what ?nfTooMany_most ?l_iTooMany ?c_iTooMany ?k_iTooMany ?tiTooMany ?h1TooMany ?h2TooMany ?h3TooMany ?h4TooMany ?h5TooMany ?h6TooMany ?h7TooMany ?h8TooMany ?kkTooMany_BadGraph ?kkTooMany_BadName ?kkTooMany_BadNumber ?nd ?l_is_integer ?c_is_integer ?k_is_integer ?a_is_integer ?l_is_within ?c_is_within ?k_is_within ?a_is_within ?l_is_name ?c_is_name ?k_is_name ?a_is_name ?l_is_event ?c_is_event ?k_is_event ?a_is_event ?l_is_lot ?c_is_lot ?k_is_lot ?a_is_lot ?l_is_lot_of ?c_is_lot_of ?k_is_lot_of ?a_is_lot_of ?l_is_starts ?c_is_starts ?k_is_starts ?a_is_starts ?l_is_pay ?c_is_pay ?k_is_pay ?a_is_pay ?l_is_measures ?c_is_measures ?k_is_measures ?a_is_measures ?l_is_step ?c_is_step ?k_is_step ?a_is_step ?l_is_events ?c_is_events ?k_is_events ?a_is_events ?l_need_parts ?c_need_parts ?k_need_parts ?a_need_parts ?l_outs_of ?c_outs_of ?k_outs_of ?a_outs_of ?l_reached_from ?c_reached_from ?k_reached_from ?a_reached_from ?l_need_state ?c_need_state ?k_need_state ?a_need_state ?l_need_both ?c_need_both ?k_need_both ?a_need_both ?l_need_room ?c_need_room ?k_need_room ?a_need_room ?l_target_of ?c_target_of ?k_target_of ?a_target_of ?l_time_of ?c_time_of ?k_time_of ?a_time_of ?l_pays_of ?c_pays_of ?k_pays_of ?a_pays_of ?l_events_of ?c_events_of ?k_events_of ?a_events_of ?l_woven ?c_woven ?k_woven ?a_woven ?l_lockstep ?c_lockstep ?k_lockstep ?a_lockstep ?l__law_plain ?c__law_plain ?k__law_plain ?a__law_plain ?l__law_pen ?c__law_pen ?k__law_pen ?a__law_pen ?l__law_draw ?c__law_draw ?k__law_draw ?a__law_draw ?l__law_pick ?c__law_pick ?k__law_pick ?a__law_pick ?l__law_names_right ?c__law_names_right ?k__law_names_right ?a__law_names_right ?l__law_times_right ?c__law_times_right ?k__law_times_right ?a__law_times_right ?l__law_events_right ?c__law_events_right ?k__law_events_right ?a__law_events_right ?l__law_sizes_right ?c__law_sizes_right ?k__law_sizes_right ?a__law_sizes_right ?l_law ?c_law ?k_law ?a_law ?l_made ?c_made ?k_made ?a_made ?l__law_heard ?c__law_heard ?k__law_heard ?a__law_heard ?l_out ?c_out ?k_out ?m_out ?mf_out ?l_ev ?c_ev ?k_ev ?p1 ?p2 ?p3 ?p4 ?l_gi ?l_TD ?c_gi ?k_gi ?mk1 ?mk2 ?mk3 ?mk4 ?tt_PW ?tn_PW ?tc_PW ?tt_PL ?tn_PL ?tc_PL ?tt_PN ?tn_PN ?tc_PN ?tt_PS ?tn_PS ?tc_PS ?tt_PE ?tn_PE ?tc_PE ?tt_PT ?tn_PT ?tc_PT ?tt_PA ?tn_PA ?tc_PA ?hnd
    (case n_isinstance => k_is)
    (case n_int => k_is)
    (case n_bool => k_is)
    (case n_str => k_is)
    (case n_tuple => k_is)
    (case n_dict => k_is)
    (case n_list => k_is)
    (case n_set => k_is)
    (case n_len => k_is)
    (case n_all => k_is)
    (case n_zip => k_is)
    (case n_range => k_is)
    (case n_enumerate => k_is)
    (case n_sorted => k_is)
    (case n_abs => k_is)
    (case gC => k_is)
    (case gS => k_is)
    (case gBadGraph => k_is)
    (case gBadName => k_is)
    (case gBadNumber => k_is)
    (case gTooMany => k_is)
    (case a_is_integer => k_is)
    (case a_is_within => k_is)
    (case a_is_name => k_is)
    (case a_is_event => k_is)
    (case a_is_lot => k_is)
    (case a_is_lot_of => k_is)
    (case a_is_starts => k_is)
    (case a_is_pay => k_is)
    (case a_is_measures => k_is)
    (case a_is_step => k_is)
    (case a_is_events => k_is)
    (case a_need_parts => k_is)
    (case a_outs_of => k_is)
    (case a_reached_from => k_is)
    (case a_need_state => k_is)
    (case a_need_both => k_is)
    (case a_need_room => k_is)
    (case a_target_of => k_is)
    (case a_time_of => k_is)
    (case a_pays_of => k_is)
    (case a_events_of => k_is)
    (case a_woven => k_is)
    (case a_lockstep => k_is)
    (case a__law_plain => k_is)
    (case a__law_pen => k_is)
    (case a__law_draw => k_is)
    (case a__law_pick => k_is)
    (case a__law_names_right => k_is)
    (case a__law_times_right => k_is)
    (case a__law_events_right => k_is)
    (case a__law_sizes_right => k_is)
    (case a_law => k_is)
    (case a_made => k_is)
    (case a__law_heard => k_is)
    (case inBadGraph => k_is)
    (case inBadName => k_is)
    (case inBadNumber => k_is)
    (case inTooMany => k_is)
    (case m_out => k_is)
    (case p1 => k_is)
    (case p4 => k_is)
    (case mk2 => k_is)
    (case xBadGraph => k_is)
    (case l_iBadGraph => k_is)
    (case xBadName => k_is)
    (case l_iBadName => k_is)
    (case xBadNumber => k_is)
    (case l_iBadNumber => k_is)
    (case xTooMany => k_is)
    (case l_iTooMany => k_is)
    (case l_is_integer => k_is)
    (case l_is_within => k_is)
    (case l_is_name => k_is)
    (case l_is_event => k_is)
    (case l_is_lot => k_is)
    (case l_is_lot_of => k_is)
    (case l_is_starts => k_is)
    (case l_is_pay => k_is)
    (case l_is_measures => k_is)
    (case l_is_step => k_is)
    (case l_is_events => k_is)
    (case l_need_parts => k_is)
    (case l_outs_of => k_is)
    (case l_reached_from => k_is)
    (case l_need_state => k_is)
    (case l_need_both => k_is)
    (case l_need_room => k_is)
    (case l_target_of => k_is)
    (case l_time_of => k_is)
    (case l_pays_of => k_is)
    (case l_events_of => k_is)
    (case l_woven => k_is)
    (case l_lockstep => k_is)
    (case l__law_plain => k_is)
    (case l__law_pen => k_is)
    (case l__law_draw => k_is)
    (case l__law_pick => k_is)
    (case l__law_names_right => k_is)
    (case l__law_times_right => k_is)
    (case l__law_events_right => k_is)
    (case l__law_sizes_right => k_is)
    (case l_law => k_is)
    (case l_made => k_is)
    (case l__law_heard => k_is)
    (case l_out => k_is)
    (case l_ev => k_is)
    (case l_gi => k_is)
    (case l_TD => k_is)
    (case c_LETTERS => k_is)
    (case c_SIGNS => k_is)
    (case c_MOST_LETTERS => k_is)
    (case c_MOST_SIGNS => k_is)
    (case c_MOST_STATES_graphs => k_is)
    (case c_MOST_STEPS_graphs => k_is)
    (case c_MOST_TIME => k_is)
    (case c_MOST_PAY => k_is)
    (case c_MOST_MEASURES_graphs => k_is)
    (case c_MOST_EVENTS => k_is)
    (case c_MOST_MEASURES_joins => k_is)
    (case c_MOST_STATES_joins => k_is)
    (case c_MOST_STEPS_joins => k_is)
    (case cl1 => k_is)
    (case cl2 => k_is)
    (case cl3 => k_is)
    (case cl4 => k_is)
    (case gr1 => k_is)
    (case gr2 => k_is)
    (case gr3 => k_is)
    (case gr4 => k_is)
    (case gt1 => k_is)
    (case gt2 => k_is)
    (case kb_NoneType => k_is)
    (case kb_int => k_is)
    (case kb_str => k_is)
    (case kb_tuple => k_is)
    (case kb_bool => k_is)
    (case kb_list => k_is)
    (case no_count => k_is)
    (case no_starts => k_is)
    (case no_steps => k_is)
    (case no_measures => k_is)
    (case no_lots => k_is)
    (case no_outs => k_is)
    (case no_reached => k_is)
    (case cs1 => k_is)
    (case cs2 => k_is)
    (case cs3 => k_is)
    (case vBadGraph => decide +kernel)
    (case sBadGraph => k_is)
    (case eBadGraph => k_is)
    (case tBadGraph => k_is)
    (case kpBadGraph => k_is)
    (case nfBadGraph_part => k_is)
    (case c_iBadGraph => k_is)
    (case k_iBadGraph => k_is)
    (case tiBadGraph => k_is)
    (case h1BadGraph => k_is)
    (case h2BadGraph => k_is)
    (case h3BadGraph => k_is)
    (case h4BadGraph => k_is)
    (case h5BadGraph => k_is)
    (case h6BadGraph => k_is)
    (case h7BadGraph => k_is)
    (case h8BadGraph => k_is)
    (case kkBadGraph_BadName => k_is)
    (case kkBadGraph_BadNumber => k_is)
    (case kkBadGraph_TooMany => k_is)
    (case vBadName => decide +kernel)
    (case sBadName => k_is)
    (case eBadName => k_is)
    (case tBadName => k_is)
    (case kpBadName => k_is)
    (case nfBadName_value => k_is)
    (case c_iBadName => k_is)
    (case k_iBadName => k_is)
    (case tiBadName => k_is)
    (case h1BadName => k_is)
    (case h2BadName => k_is)
    (case h3BadName => k_is)
    (case h4BadName => k_is)
    (case h5BadName => k_is)
    (case h6BadName => k_is)
    (case h7BadName => k_is)
    (case h8BadName => k_is)
    (case kkBadName_BadGraph => k_is)
    (case kkBadName_BadNumber => k_is)
    (case kkBadName_TooMany => k_is)
    (case vBadNumber => decide +kernel)
    (case sBadNumber => k_is)
    (case eBadNumber => k_is)
    (case tBadNumber => k_is)
    (case kpBadNumber => k_is)
    (case nfBadNumber_value => k_is)
    (case c_iBadNumber => k_is)
    (case k_iBadNumber => k_is)
    (case tiBadNumber => k_is)
    (case h1BadNumber => k_is)
    (case h2BadNumber => k_is)
    (case h3BadNumber => k_is)
    (case h4BadNumber => k_is)
    (case h5BadNumber => k_is)
    (case h6BadNumber => k_is)
    (case h7BadNumber => k_is)
    (case h8BadNumber => k_is)
    (case kkBadNumber_BadGraph => k_is)
    (case kkBadNumber_BadName => k_is)
    (case kkBadNumber_TooMany => k_is)
    (case vTooMany => decide +kernel)
    (case sTooMany => k_is)
    (case eTooMany => k_is)
    (case tTooMany => k_is)
    (case kpTooMany => k_is)
    (case nfTooMany_what => k_is)
    (case nfTooMany_most => k_is)
    (case c_iTooMany => k_is)
    (case k_iTooMany => k_is)
    (case tiTooMany => k_is)
    (case h1TooMany => k_is)
    (case h2TooMany => k_is)
    (case h3TooMany => k_is)
    (case h4TooMany => k_is)
    (case h5TooMany => k_is)
    (case h6TooMany => k_is)
    (case h7TooMany => k_is)
    (case h8TooMany => k_is)
    (case kkTooMany_BadGraph => k_is)
    (case kkTooMany_BadName => k_is)
    (case kkTooMany_BadNumber => k_is)
    (case nd => decide)
    (case c_is_integer => k_is)
    (case k_is_integer => k_is)
    (case c_is_within => k_is)
    (case k_is_within => k_is)
    (case c_is_name => k_is)
    (case k_is_name => k_is)
    (case c_is_event => k_is)
    (case k_is_event => k_is)
    (case c_is_lot => k_is)
    (case k_is_lot => k_is)
    (case c_is_lot_of => k_is)
    (case k_is_lot_of => k_is)
    (case c_is_starts => k_is)
    (case k_is_starts => k_is)
    (case c_is_pay => k_is)
    (case k_is_pay => k_is)
    (case c_is_measures => k_is)
    (case k_is_measures => k_is)
    (case c_is_step => k_is)
    (case k_is_step => k_is)
    (case c_is_events => k_is)
    (case k_is_events => k_is)
    (case c_need_parts => k_is)
    (case k_need_parts => k_is)
    (case c_outs_of => k_is)
    (case k_outs_of => k_is)
    (case c_reached_from => k_is)
    (case k_reached_from => k_is)
    (case c_need_state => k_is)
    (case k_need_state => k_is)
    (case c_need_both => k_is)
    (case k_need_both => k_is)
    (case c_need_room => k_is)
    (case k_need_room => k_is)
    (case c_target_of => k_is)
    (case k_target_of => k_is)
    (case c_time_of => k_is)
    (case k_time_of => k_is)
    (case c_pays_of => k_is)
    (case k_pays_of => k_is)
    (case c_events_of => k_is)
    (case k_events_of => k_is)
    (case c_woven => k_is)
    (case k_woven => k_is)
    (case c_lockstep => k_is)
    (case k_lockstep => k_is)
    (case c__law_plain => k_is)
    (case k__law_plain => k_is)
    (case c__law_pen => k_is)
    (case k__law_pen => k_is)
    (case c__law_draw => k_is)
    (case k__law_draw => k_is)
    (case c__law_pick => k_is)
    (case k__law_pick => k_is)
    (case c__law_names_right => k_is)
    (case k__law_names_right => k_is)
    (case c__law_times_right => k_is)
    (case k__law_times_right => k_is)
    (case c__law_events_right => k_is)
    (case k__law_events_right => k_is)
    (case c__law_sizes_right => k_is)
    (case k__law_sizes_right => k_is)
    (case c_law => k_is)
    (case k_law => k_is)
    (case c_made => k_is)
    (case k_made => k_is)
    (case c__law_heard => k_is)
    (case k__law_heard => k_is)
    (case c_out => k_is)
    (case k_out => k_is)
    (case mf_out => k_is)
    (case c_ev => k_is)
    (case k_ev => k_is)
    (case p2 => k_is)
    (case p3 => k_is)
    (case c_gi => k_is)
    (case k_gi => k_is)
    (case mk1 => k_is)
    (case mk3 => k_is)
    (case mk4 => k_is)
    (case tt_PW => exact TT _ (by decide))
    (case tn_PW => first | k_is | kernel_rfl)
    (case tc_PW => first | k_is | kernel_rfl)
    (case tt_PL => exact TT _ (by decide))
    (case tn_PL => first | k_is | kernel_rfl)
    (case tc_PL => first | k_is | kernel_rfl)
    (case tt_PN => exact TT _ (by decide))
    (case tn_PN => first | k_is | kernel_rfl)
    (case tc_PN => first | k_is | kernel_rfl)
    (case tt_PS => exact TT _ (by decide))
    (case tn_PS => first | k_is | kernel_rfl)
    (case tc_PS => first | k_is | kernel_rfl)
    (case tt_PE => exact TT _ (by decide))
    (case tn_PE => first | k_is | kernel_rfl)
    (case tc_PE => first | k_is | kernel_rfl)
    (case tt_PT => exact TT _ (by decide))
    (case tn_PT => first | k_is | kernel_rfl)
    (case tc_PT => first | k_is | kernel_rfl)
    (case tt_PA => exact TT _ (by decide))
    (case tn_PA => first | k_is | kernel_rfl)
    (case tc_PA => first | k_is | kernel_rfl)
    (case hnd => decide)

