import PyProof.Rows.All
import Wide.All
import OpenK.AllK
import Wide.FinOn
import HandS.ForMost
import HandS.ForExc
import HandS.TupAny
import HandS.TupMul
import HandS.Zip
import HandS.Style
import HandS.More
import HandS.Conv
import HandS.IsInst
import HandS.SortKw
import HandS.SortRule
import HandS.Wide
import HandS.Walk
import HandS.Defaults
import KE.KDictWalk
import KE.DataMinMax
import KE.SortData
import KE.GoesMore
import KE.GoesEnum
import HandS.Head0
import HandS.Head1
import HandS.Head2
import HandS.HeadEnd
import HandS.HeadHook1
import HandS.HeadHook2
import KE.KDictCopyH
import KE.KDictDisplayH
import HandS.TupSets
import KE.KRevSl
import PyProof.TupleOfSeq
import PySem.Challenge.RW_anyspan_k11_whole_laid_place_by_place
import HandS.HotCalls
import HandS.Zip0
import HandS.ExcIs
import KE.KExcIs
import HandS.ExcField
import HandS.ExcCtx
import HandS.Lambda
import HandS.ExcInitHot
import HandS.OwnEq
import HandS.HeadHook4
import HandS.HeadHook3
import HandS.HeadWalk
import HandS.EndTab
import HandS.NestedK
set_option Elab.async false
set_option linter.all false
set_option maxRecDepth 100000
set_option maxHeartbeats 4000000
/-! ### B0: words over the hand layer: what stays, rows, rules, calls of own defs -/
namespace An
open PySem PySem.Spec PyProof.Rows L2

abbrev Rule := Int × Int × Int
abbrev Row := List Int

/-! #### tuples stay -/
def TS (H H' : Hp) : Prop := ∀ b xs, H b = some (.tup xs) → H' b = some (.tup xs)
theorem TS.refl (H : Hp) : TS H H := fun _ _ h => h
theorem TS.trans {H H1 H2 : Hp} (a : TS H H1) (b : TS H1 H2) : TS H H2 := fun c xs h => b c xs (a c xs h)
theorem TS.of {H H' : Hp} (e : Same H H') : TS H H' := fun b xs h => e b _ h
theorem TS.updA {H : Hp} {p : Addr} {o : HO} (h : ∀ xs, H p ≠ some (.tup xs)) : TS H (L2.upd H p o) := fun b xs e => by
  have nb : b ≠ p := fun z => h xs (by rw [← z]; exact e)
  rw [upd_ne nb]; exact e
theorem TS.new {H : Hp} {p : Addr} {o : HO} (h : H p = none) : TS H (L2.upd H p o) := TS.updA fun xs e => by rw [h] at e; cases e
theorem TS.mut {H : Hp} {p : Addr} {o u : HO} (h : H p = some u) (hu : ∀ xs, u ≠ .tup xs) : TS H (L2.upd H p o) := TS.updA fun xs e => by
  rw [h] at e; exact hu xs (Option.some.inj e)
theorem TS.lst {H : Hp} {p : Addr} {o : HO} {ys : List V} (h : H p = some (.lst ys)) : TS H (L2.upd H p o) := TS.mut h fun _ e => nomatch e
theorem TS.dT {H : Hp} {p : Addr} {o : HO} {ys} (h : H p = some (.dT ys)) : TS H (L2.upd H p o) := TS.mut h fun _ e => nomatch e
theorem TS.dK {H : Hp} {p : Addr} {o : HO} {ys} (h : H p = some (.dK ys)) : TS H (L2.upd H p o) := TS.mut h fun _ e => nomatch e
theorem Same.new {H : Hp} {p : Addr} {o : HO} (h : H p = none) : Same H (L2.upd H p o) := fun b u e => by
  rw [upd_ne (ne_of_none e h)]; exact e
/-- all but the objects at as stands as before -/
def SameX (as : List Addr) (H H' : Hp) : Prop := ∀ b o, b ∉ as → H b = some o → H' b = some o
theorem SameX.refl {as : List Addr} {H : Hp} : SameX as H H := fun _ _ _ h => h
theorem SameX.trans {as : List Addr} {H H1 H2 : Hp} (a : SameX as H H1) (b : SameX as H1 H2) : SameX as H H2 := fun c o n h => b c o n (a c o n h)
theorem SameX.of {as : List Addr} {H H' : Hp} (e : Same H H') : SameX as H H' := fun b o _ h => e b o h
theorem SameX.updA {as : List Addr} {H : Hp} {p : Addr} {o : HO} (h : p ∈ as) : SameX as H (L2.upd H p o) := fun b u n e => by
  rw [upd_ne (fun z : b = p => n (by rw [z]; exact h))]; exact e
theorem SameX.mono {as bs : List Addr} {H H' : Hp} (e : SameX as H H') (h : ∀ a ∈ as, a ∈ bs) : SameX bs H H' := fun b o n q => e b o (fun z => n (h b z)) q

/-! #### rows, rules -/
def TupI (H : Hp) (v : V) (r : List Int) : Prop := ∃ a, v = .ref a ∧ H a = some (.tup (r.map V.int))
theorem TupI.mono {H H' : Hp} {v : V} {r : List Int} (t : TS H H') (h : TupI H v r) : TupI H' v r := let ⟨a, e, q⟩ := h; ⟨a, e, t a _ q⟩
def tri (r : Rule) : List Int := [r.1, r.2.1, r.2.2]
def RuleAt (H : Hp) (v : V) (r : Rule) : Prop := TupI H v (tri r)
def RulesAt (H : Hp) (v : V) (rs : List Rule) : Prop := ∃ a vs, v = .ref a ∧ H a = some (.tup vs) ∧ Paired (RuleAt H) vs rs
theorem Paired.mp {α β : Type} {F G : α → β → Prop} : ∀ {l : List α} {m : List β}, Paired F l m → (∀ a b, F a b → G a b) → Paired G l m
  | _, _, .nil, _ => .nil
  | _, _, .cons r t, f => .cons (f _ _ r) (Paired.mp t f)
theorem RulesAt.mono {H H' : Hp} {v : V} {rs : List Rule} (t : TS H H') (h : RulesAt H v rs) : RulesAt H' v rs :=
  let ⟨a, vs, e, q, p⟩ := h; ⟨a, vs, e, t a _ q, Paired.mp p fun _ _ z => TupI.mono t z⟩
theorem Paired.get {α β : Type} {F : α → β → Prop} : ∀ {l : List α} {m : List β} {i : Nat} {a : α}, Paired F l m → l[i]? = some a → ∃ b, m[i]? = some b ∧ F a b
  | _, _, _, _, .nil, e => by cases e
  | _, _, 0, _, .cons r _, e => by cases e; exact ⟨_, rfl, r⟩
  | _, _, i + 1, _, .cons _ t, e => by
    obtain ⟨b, h1, h2⟩ := Paired.get (i := i) t (by simpa using e)
    exact ⟨b, by simpa using h1, h2⟩
theorem Paired.get' {α β : Type} {F : α → β → Prop} : ∀ {l : List α} {m : List β} {i : Nat} {b : β}, Paired F l m → m[i]? = some b → ∃ a, l[i]? = some a ∧ F a b
  | _, _, _, _, .nil, e => by cases e
  | _, _, 0, _, .cons r _, e => by cases e; exact ⟨_, rfl, r⟩
  | _, _, i + 1, _, .cons _ t, e => by
    obtain ⟨b, h1, h2⟩ := Paired.get' (i := i) t (by simpa using e)
    exact ⟨b, by simpa using h1, h2⟩
theorem Paired.len {α β : Type} {F : α → β → Prop} : ∀ {l : List α} {m : List β}, Paired F l m → l.length = m.length
  | _, _, .nil => rfl
  | _, _, .cons _ t => by rw [List.length_cons, List.length_cons, Paired.len t]
theorem Paired.app {α β : Type} {F : α → β → Prop} : ∀ {l l' : List α} {m m' : List β}, Paired F l m → Paired F l' m' → Paired F (l ++ l') (m ++ m')
  | _, _, _, _, .nil, q => q
  | _, _, _, _, .cons r t, q => .cons r (Paired.app t q)
theorem Paired.one {α β : Type} {F : α → β → Prop} {a : α} {b : β} (h : F a b) : Paired F [a] [b] := .cons h .nil
theorem Paired.snoc1 {α β : Type} {F : α → β → Prop} {l : List α} {m : List β} {a : α} {b : β} (p : Paired F l m) (h : F a b) : Paired F (l ++ [a]) (m ++ [b]) := Paired.app p (Paired.one h)
theorem Paired.drop {α β : Type} {F : α → β → Prop} : ∀ {l : List α} {m : List β} (n : Nat), Paired F l m → Paired F (l.drop n) (m.drop n)
  | _, _, 0, p => p
  | _, _, _ + 1, .nil => .nil
  | _, _, n + 1, .cons _ t => Paired.drop n t
theorem Paired.take {α β : Type} {F : α → β → Prop} : ∀ {l : List α} {m : List β} (n : Nat), Paired F l m → Paired F (l.take n) (m.take n)
  | _, _, 0, _ => .nil
  | _, _, _ + 1, .nil => .nil
  | _, _, n + 1, .cons r t => .cons r (Paired.take n t)
theorem Paired.rev {α β : Type} {F : α → β → Prop} : ∀ {l : List α} {m : List β}, Paired F l m → Paired F l.reverse m.reverse
  | _, _, .nil => .nil
  | _, _, .cons r t => by rw [List.reverse_cons, List.reverse_cons]; exact Paired.snoc1 (Paired.rev t) r
theorem Paired.mapR {α β γ : Type} {F : α → β → Prop} {G : α → γ → Prop} (f : β → γ) (h : ∀ a b, F a b → G a (f b)) : ∀ {l : List α} {m : List β}, Paired F l m → Paired G l (m.map f)
  | _, _, .nil => .nil
  | _, _, .cons r t => .cons (h _ _ r) (Paired.mapR f h t)
/-- rules as the document says -/
structure RulesOk (rs : List Rule) : Prop where
  some : rs ≠ []
  few : rs.length ≤ 5
  one : ∀ r ∈ rs, 1 ≤ r.1 ∧ r.1 ≤ 8 ∧ 0 ≤ r.2.1 ∧ r.2.1 ≤ r.2.2 ∧ r.2.2 ≤ r.1
  up : rs.Pairwise fun a b => a.1 < b.1
/-- the widest span -/
def wd (rs : List Rule) : Int := (rs.getLast?.map (·.1)).getD 0
theorem wd_mem {rs : List Rule} (h : rs ≠ []) : ∃ r ∈ rs, wd rs = r.1 ∧ rs.getLast? = some r := by
  refine ⟨rs.getLast h, List.getLast_mem h, ?_, List.getLast?_eq_some_getLast h⟩
  unfold wd
  rw [List.getLast?_eq_some_getLast h]; rfl
theorem RulesOk.wide {rs : List Rule} (h : RulesOk rs) : 1 ≤ wd rs ∧ wd rs ≤ 8 := by
  obtain ⟨r, hr, e, _⟩ := wd_mem h.some
  have := h.one r hr
  omega

/-! #### lists of such things -/
def LstAt {α : Type} (H : Hp) (R : V → α → Prop) (a : Addr) (ds : List α) : Prop := ∃ xs, H a = some (.lst xs) ∧ Paired R xs ds

/-! #### a def that stands, a def that keeps its promise -/
section
variable {P : Program} {w : World} {K : PySem.W.Frag} {mg : Str → Option Value} {base : Heap}
structure Dn (K : PySem.W.Frag) (mg : Str → Option Value) (x : Str) (st : Stmt) : Prop where
  ex : ∃ f fd, FunD K x x (defArgs st) (defBody st) (defScope st) [] [] f fd ∧ mg x = some (.ref f)
structure Cl (P : Program) (w : World) (K : PySem.W.Frag) (mg : Str → Option Value) (base : Heap) (k : Nat) (x : Str) (sp : Sp) : Prop where
  ex : ∃ f fd ps, FnOk P w K mg base CX0 k f fd ps sp ∧ mg x = some (.ref f) ∧ PySem.W.keepIn K (.ref f) = true ∧ Binds K fd ps []
theorem Cl.imp {k : Nat} {x : Str} {sp sp' : Sp} (C : Cl P w K mg base k x sp) (h : ∀ vs H Q E, sp' vs H Q E → sp vs H Q E) : Cl P w K mg base k x sp' :=
  let ⟨f, fd, ps, a, b, c, d⟩ := C.ex; ⟨f, fd, ps, a.imp h, b, c, d⟩
theorem Dn.ok {x : Str} {st : Stmt} {N ps : List Str} {k : Nat} {sp : Sp} (D : Dn K mg x st) (S : FnScope N ps (defScope st)) (len : ∀ vs H Q E, sp vs H Q E → vs.length = ps.length)
    (hb : ∀ (kV doc pm : Value) (an : Option Addr) (cdv ct : Value) (us : List Value), us.length = ps.length → bindArgs (PySem.W.fnOf x x (defArgs st) (defBody st) (defScope st) .none kV doc pm an cdv ct) ⟨us, []⟩ = pure (ps.zip us))
    (hbody : ∀ (f : Addr) (cdv : Value) (A : Around) (outer : List Env) (s : Shared) (H : Hp) (vs : List V) (Q : VK) (E : XK), Room k (A.deeper (envOfC x (defScope st) s.heap.objs.size f cdv)) → sp vs H Q E →
      ∃ t, PSs (cxOf CX0 P w K mg base N x (defScope st) f cdv A outer s H E).nox (defBody st) t ∧ t { nx := fun _ H' => Q .non H', rt := Q } (start N vs) H) : Cl P w K mg base (k + 1) x sp := by
  obtain ⟨f, fd, F, m⟩ := D.ex
  refine ⟨f, fd, ps, F.ok S len (fun cdv A outer s H vs Q E hr h => ?_), m, F.kp, F.bindsN hb⟩
  obtain ⟨t, h1, h2⟩ := hbody f cdv A outer s H vs Q E hr h
  exact ⟨t, h1.nox, h2⟩
end
section
variable {X : Cx}
theorem pe_callC {k : Nat} {x : Str} {sp : Sp} {e : Expr} {es : List Expr} {t : TA} {p pos : Pos} (C : Cl X.prog X.w X.K X.mg X.base k x sp) (hr : Room k X.A) (hg : Gl X x) (ha : PA X (e :: es) t)
    (hdb : (x == ("__debug__" : Str)) = false := by decide) (h2 : starEach (e :: es) X.env = (false, eval e X.env) :: starEach es X.env := by rfl) (h3 : (backTo pos (starEach es X.env)).any (fun z => z.1) = false := by rfl) :
    PE X (.Call (.Name x p) (e :: es) [] pos) (tCall sp [] E0 t) := by
  obtain ⟨f, fd, ps, F, m, kp, b⟩ := C.ex
  exact pe_call F hr hg m kp b .nil pass0 ha hdb h2 h3
theorem pe_gint {x : Str} {i : Int} {pos : Pos} (hg : Gl X x) (hm : ∃ t, X.mg x = some (.int i t)) (hd : (x == ("__debug__" : Str)) = false := by decide) : PE X (.Name x pos) (tC (.int i)) :=
  let ⟨t, e⟩ := hm; pe_glob (v := .int i) hg e ⟨t, rfl⟩ hd
theorem ip_of {op : Operator} {r : R2} (h : OpR X (inplaceOp op) r) : PIp X op r := h
end

/-! #### built-in names that stand for themselves -/
structure Bf (mg : Str → Option Value) : Prop where
  len : mg "len" = none
  sum : mg "sum" = none
  max : mg "max" = none
  min : mg "min" = none
  range : mg "range" = none
  zip : mg "zip" = none
  all : mg "all" = none
  isinstance : mg "isinstance" = none
  tuple : mg "tuple" = none
  list : mg "list" = none
  int : mg "int" = none
  bool : mg "bool" = none
  str : mg "str" = none
  sorted : mg "sorted" = none
  enumerate : mg "enumerate" = none
  dict : mg "dict" = none
theorem bt_len : bootBuiltins "len" = some (.builtin "len") := by decide +kernel
theorem bt_sum : bootBuiltins "sum" = some (.builtin "sum") := by decide +kernel
theorem bt_max : bootBuiltins "max" = some (.builtin "max") := by decide +kernel
theorem bt_min : bootBuiltins "min" = some (.builtin "min") := by decide +kernel
theorem bt_all : bootBuiltins "all" = some (.builtin "all") := by decide +kernel
theorem bt_isinstance : bootBuiltins "isinstance" = some (.builtin "isinstance") := by decide +kernel
theorem bt_sorted : bootBuiltins "sorted" = some (.builtin "sorted") := by decide +kernel
theorem bt_tuple : bootBuiltins "tuple" = some (.type "tuple") := by decide +kernel
theorem bt_list : bootBuiltins "list" = some (.type "list") := by decide +kernel
theorem bt_int : bootBuiltins "int" = some (.type "int") := by decide +kernel
theorem bt_bool : bootBuiltins "bool" = some (.type "bool") := by decide +kernel
theorem bt_str : bootBuiltins "str" = some (.type "str") := by decide +kernel
theorem bt_dict : bootBuiltins "dict" = some (.type "dict") := by decide +kernel
end An
-- imports: B0
/-! ### B1: rules that the layer lacks: sum of a tuple, t += u, max(.., default=..), items of a dict with tuple keys, enumerate(tuple) -/
namespace An
open PySem PySem.Spec PyProof.Rows L2
section
variable {X : Cx}
/-! #### sum of a tuple of ints -/
theorem sumT_raw {prog : Program} {w : World} {A : Around} {E : Value → Shared → Prop} {s : Shared} {l : Addr} {its : List Value} {ns : List Int} {Q : Value → Shared → Prop} (hh : A.handled = none) (hl : s.heap.IsTuple l its.toArray) (hi : IntsAre its ns)
    (h : ∀ h' tk t', (∀ b o, s.heap.get? b = some o → h'.get? b = some o) → Q (.int ns.sum t') { s with heap := h', toks := tk }) : wpAny (model prog w) A (call (.builtin "sum") [.ref l]) Q E s := by
  obtain ⟨xs, e⟩ := hi.allInts.items
  have hn : numsOf (intItems xs).toList = ns := by rw [← e]; exact hi.numsOf
  rw [nums_intItems] at hn
  rw [e] at hl
  have hlt : l < s.heap.objs.size := by obtain ⟨_, q, _⟩ := hl; exact Heap.lt_size q
  refine call_sum_walkG (wpAny_pyIter_tuple hl ?_)
  refine ⟨_, _, _, _, _, _, numAt xs, rfl, Walks.tuple (A := A.in1) hh s.heap.objs.size l (Nat.ne_of_lt hlt) (intItems xs), ⟨⟨_, Heap.get?_push_size _ rfl, rfl, rfl⟩, hl.push _⟩, fun b hb => ?_, (fun _ _ => intItems_at), fun h' tk t' hk => ?_⟩
  · rw [show (s.heap.push _).objs.size = s.heap.objs.size + 1 from Heap.size_push _ _]
    rcases List.mem_cons.mp hb with z | z
    · rw [z]; exact Nat.lt_succ_self _
    · rw [List.mem_singleton.mp z]; exact Nat.lt_succ_of_lt hlt
  · have q := h h' tk t' fun b o e => hk b o (fun hm => absurd (List.mem_singleton.mp hm ▸ Heap.lt_size e) (Nat.lt_irrefl _)) (Heap.get?_push_of_some _ e)
    have sz : (intItems xs).size = xs.size := by simp [intItems]
    rw [sz, preSum_eq, List.take_of_length_le (by simp), hn]
    exact q
def rSumT (K : PySem.W.Frag) : List V → Hp → VK → Prop := fun vs H Q => ∃ (a : Addr) (ns : List Int), vs = [V.ref a] ∧ SqT K H a (ns.map V.int) ∧ Q (.int ns.sum) H
theorem cr_sumT (hc : X.calm = true) : CallR X (.builtin "sum") (rSumT X.K) := by
  intro pins s σ H vs us Q I r h
  obtain ⟨a, ns, rfl, hs, q⟩ := h
  obtain ⟨its, rv, hl, _⟩ := I.tuple hs
  rw [Vals.ref1 r]
  exact sumT_raw (I.ok.hd hc) hl rv.ints fun h' tk t' hk => ⟨.int _, H, I.kept hk, ⟨_, rfl⟩, q⟩
/-! #### t += u -/
theorem noI_tuple : typeLookup (.type "tuple") (dunderI "add") = pure none := by rfl
/-- any way the library has of making the sum, for t += u too -/
theorem icat_tup {prog : Program} {w : World} {A : Around} {E : Value → Shared → Prop} {s : Shared} {t b : Addr} {vs ws : List Value} {Q : Value → Shared → Prop} (ht : IsTup s.heap t vs.toArray) (hb : IsTup s.heap b ws.toArray)
    (h0 : vs = [] → Q (.ref b) s) (h1 : vs ≠ [] → ws = [] → Q (.ref t) s) (h2 : vs ≠ [] → ws ≠ [] → Q (.ref s.heap.objs.size) { s with heap := s.heap.push { cls := .type "tuple", data := .seq (vs ++ ws).toArray } })
    (hsz : vs.length + ws.length ≤ sizeLine) : wpAny (model prog w) A (inplaceOp .Add (.ref t) (.ref b)) Q E s := by
  obtain ⟨⟨c1, d1, x1, sl1⟩, ho1, hc1, n1, hd1⟩ := id ht
  obtain ⟨⟨c2, d2, x2, sl2⟩, ho2, hc2, n2, hd2⟩ := id hb
  simp only at hc1 hd1 hc2 hd2
  subst hc1 hd1 hc2 hd2
  have cat : vs.toArray ++ ws.toArray = (vs ++ ws).toArray := by simp
  refine wpAny_inplaceOp_concat ⟨_, ho1, rfl⟩ ⟨_, ho2, rfl⟩ noI_tuple noFill_tuple_add seq_tuple_add ?_
  by_cases hv : vs = []
  · subst hv
    exact call_meets PySem.F.slot_tuple_add ⟨_, ho1, rfl⟩ PySem.F.entry_tuple_add (PySem.F.args_tuple_add_2 _ _) (tuple_addW0 t b ([] : List Value).toArray ws.toArray n1 n2 d1 d2 sl1 sl2 (by simp)) ⟨ho1, ho2, h0 rfl⟩
  · by_cases hw : ws = []
    · exact call_meets PySem.F.slot_tuple_add ⟨_, ho1, rfl⟩ PySem.F.entry_tuple_add (PySem.F.args_tuple_add_2 _ _) (tuple_addW1 t b vs.toArray ws.toArray n1 n2 d1 d2 sl1 sl2 (by simpa using hv) (by simp [hw])) ⟨ho1, ho2, h1 hv hw⟩
    · refine call_meets PySem.F.slot_tuple_add ⟨_, ho1, rfl⟩ PySem.F.entry_tuple_add (PySem.F.args_tuple_add_2 _ _) (tuple_addW2 t b vs.toArray ws.toArray n1 n2 d1 d2 sl1 sl2 (by simpa using hv) (by simpa using hw) (by rw [List.size_toArray, List.size_toArray]; exact hsz)) ⟨ho1, ho2, ?_⟩
      rw [cat]
      exact h2 hv hw
theorem iop_catA : OpR X (inplaceOp .Add) (rCatA X.K) := by
  intro pins s σ H x y v u Q I rx ry h
  obtain ⟨a, b, xs, ys, rfl, rfl, ha, hb, hz, q0, q1, q2⟩ := h
  cases rx
  cases ry
  obtain ⟨its, r1, p1, _⟩ := I.tuple ha
  obtain ⟨jts, r2, p2, _⟩ := I.tuple hb
  refine icat_tup p1 p2 (fun z => ⟨.ref b, H, I, rfl, q0 (r1.nil_iff.mp z)⟩) (fun z z' => ⟨.ref a, H, I, rfl, q1 (fun q => z (r1.nil_iff.mpr q)) (r2.nil_iff.mp z')⟩) (fun z z' => ?_) (by rw [← r1.length, ← r2.length]; exact hz)
  refine ⟨.ref s.heap.objs.size, _, I.laid (t' := s.toks) (o := .tup (xs ++ ys)) (fun b ob q => Heap.get?_push_of_some _ q) (Nat.le_refl _) ?_, rfl, q2 (fun w => z (r1.nil_iff.mpr w)) (fun w => z' (r2.nil_iff.mpr w)) _ (I.hok.fresh (Nat.le_refl _))⟩
  exact ⟨by rw [List.length_append]; exact hz, _, r1.append r2, IsTup.new _ _⟩
/-! #### max(list of ints, default=d) -/
theorem maxD_mem : ∀ (ns : List Int) (n : Int), ns.foldl max n ∈ n :: ns ∧ ∀ y ∈ n :: ns, y ≤ ns.foldl max n
  | [], n => ⟨List.mem_cons_self, fun y h => by rw [List.mem_singleton.mp h]; exact Int.le_refl _⟩
  | k :: r, n => by
    obtain ⟨h1, h2⟩ := maxD_mem r (max n k)
    rw [List.foldl_cons]
    have m1 := h2 (max n k) List.mem_cons_self
    refine ⟨?_, fun y hy => ?_⟩
    · rcases List.mem_cons.mp h1 with z | z
      · rw [z]
        by_cases hk : n ≤ k
        · rw [Int.max_eq_right hk]; exact List.mem_cons_of_mem _ List.mem_cons_self
        · rw [Int.max_eq_left (by omega)]; exact List.mem_cons_self
      · exact List.mem_cons_of_mem _ (List.mem_cons_of_mem _ z)
    · rcases List.mem_cons.mp hy with z | z
      · have := Int.le_max_left n k; omega
      · rcases List.mem_cons.mp z with z | z
        · have := Int.le_max_right n k; omega
        · exact h2 y (List.mem_cons_of_mem _ z)
theorem reads_ints {h : Heap} : ∀ {vs : List Value} {ns : List Int}, IntsAre vs ns → ∃ as, ReadsAll h vs (ns.map PyData.int) as := by
  intro vs ns hi
  induction ns generalizing vs with
  | nil => cases vs with
    | nil => exact ⟨[], .nil⟩
    | cons v r => exact absurd hi.length (by simp)
  | cons n ns ih => cases vs with
    | nil => exact absurd hi.length (by simp)
    | cons v r =>
      cases hi with
      | cons rest => obtain ⟨as, q⟩ := ih (by assumption); exact ⟨_, .cons (.int _ _) q⟩
def rMaxD (K : PySem.W.Frag) : List V → List V → Hp → VK → Prop := fun vs zs H Q => ∃ (a : Addr) (ns : List Int) (d : V), vs = [V.ref a] ∧ zs = [d] ∧ SqL K H a (ns.map V.int) ∧
  (ns = [] → Q d H) ∧ ∀ m, m ∈ ns → (∀ y ∈ ns, y ≤ m) → Q (.int m) H
theorem alike_int : ∀ ns : List Int, PySem.W.AlikeAll (ns.map PyData.int) := fun ns => by
  refine ⟨fun x hx y hy => ?_, fun x hx e => ?_⟩
  · obtain ⟨i, _, rfl⟩ := List.mem_map.mp hx
    obtain ⟨j, _, rfl⟩ := List.mem_map.mp hy
    simp [PySem.W.alike]
  · obtain ⟨i, _, rfl⟩ := List.mem_map.mp hx
    cases e
theorem cr_maxD (hc : X.calm = true) (hu : X.A.units + 64 < cLine) : CallRK X (.builtin "max") [Str.ofString "default"] (rMaxD X.K) := by
  intro pins s σ H vs zs us ws Q I r r' h
  obtain ⟨a, ns, d, rfl, rfl, hs, q0, q1⟩ := h
  obtain ⟨its, rv, hl, _⟩ := I.list hs
  rw [Vals.ref1 r]
  obtain ⟨u, rfl, ru⟩ := vals1 r'
  obtain ⟨as, hr⟩ := reads_ints rv.ints
  have hd : PyData.depthAll (ns.map PyData.int) = 0 := PySem.W.depth_ints ns
  refine PySem.W.max_list_default (I.ok.hd hc) hl.isList (as := as) (xs := ns.map PyData.int) (by simpa using hr) (alike_int ns) (by rw [hd]; omega) (fun e h' tk hk => ?_) fun y ys i v h' tk bs e hi hrd hk => ?_
  · exact ⟨d, H, I.kept hk, ru, q0 (List.map_eq_nil_iff.mp e)⟩
  · cases ns with
    | nil => cases e
    | cons n ns =>
      rw [List.map_cons] at e
      injection e with e1 e2
      subst e1 e2
      rw [PySem.W.maxD_ints] at hrd
      obtain ⟨h1, h2⟩ := maxD_mem ns n
      cases hrd with
      | int _ t => exact ⟨.int _, H, I.kept hk, ⟨_, rfl⟩, q1 _ h1 h2⟩
end
end An
-- imports: B1
/-! ### B2: enumerate(tuple), the items of a dict with tuple keys -/
namespace An
open PySem PySem.Spec PyProof.Rows L2
/-! #### enumerate of a tuple -/
set_option maxHeartbeats 1000000 in
theorem enum_new1 {v : Value} {o : Obj} {G : Heap → Prop} (B : Begins v o G) :
    Meets (Builtin.«enumerate.__new__» ⟨[.type "enumerate", v], []⟩) (fun _ R s => G s.heap ∧
      R (.ok (.ret (.ref (s.heap.push o).objs.size))) { s with heap := (s.heap.push o).push { cls := .type "enumerate", data := .fields #[.none, .bool false, .ref s.heap.objs.size, rawInt 0, .none, .none] } }) :=
  .of_wp fun prog w A R s h => by
    obtain ⟨hp, g, d, tk, os⟩ := s
    obtain ⟨h1, h⟩ := h
    have hsub := sub_enumerate
    have q1 : ∀ {B' : Around} {E : Value → Shared → Prop} {Q : Value → Shared → Prop}, Q (.ref hp.objs.size) ⟨hp.push o, g, d, tk, os⟩ → wpAny (model prog w) B' (pyIter v) Q E ⟨hp, g, d, tk, os⟩ :=
      fun q => B.iter prog w _ _ ⟨hp, g, d, tk, os⟩ _ h1 q
    wp_walk using q1
    refine wpAny_stack_any fun st => wpAny_pure ?_
    split
    · rename_i c _ _ _ _ _
      cases (c == Value.type "enumerate")
      · wp_walk using q1
        exact ⟨_, rfl, h⟩
      · wp_walk using q1
        exact ⟨_, rfl, h⟩
    · wp_walk using q1
      exact ⟨_, rfl, h⟩
theorem enum_call1 {prog : Program} {w : World} {A : Around} {E : Value → Shared → Prop} {s : Shared} {v : Value} {o : Obj} {G : Heap → Prop} {Q : Value → Shared → Prop} (B : Begins v o G) (h1 : G s.heap)
    (h : ∀ h', IsEnum h' (s.heap.objs.size + 1) s.heap.objs.size 0 .none → h'.get? s.heap.objs.size = some o → h'.objs.size = s.heap.objs.size + 2 → (∀ b u, s.heap.get? b = some u → h'.get? b = some u) → Q (.ref (s.heap.objs.size + 1)) { s with heap := h' }) :
    wpAny (model prog w) A (call (.type "enumerate") [v]) Q E s := by
  refine callType_new F.called_enumerate (by decide) (F.typeCall_enumerate_1 _) (F.newCall_enumerate_1 _) (fun obj => F.args_object_init_2 obj _) F.entry_enumerate_new (enum_new1 B) ⟨h1, ?_⟩
  have z1 : (s.heap.push o).objs.size = s.heap.objs.size + 1 := Heap.size_push _ _
  show _ ∧ _
  rw [z1]
  have he : IsEnum ((s.heap.push o).push { cls := .type "enumerate", data := .fields #[.none, .bool false, .ref s.heap.objs.size, rawInt 0, .none, .none] }) (s.heap.objs.size + 1) s.heap.objs.size 0 .none := by
    have q := Heap.get?_push_size (s.heap.push o) (o := { cls := .type "enumerate", data := .fields #[.none, .bool false, .ref s.heap.objs.size, rawInt 0, .none, .none] }) rfl
    rw [z1] at q
    exact q
  exact ⟨⟨_, he, rfl⟩, h _ he (Heap.get?_push_of_some _ (Heap.get?_push_size _ B.free)) (by rw [Heap.size_push, z1]) fun b u x => Heap.get?_push_of_some _ (Heap.get?_push_of_some _ x)⟩
def IteT (K : PySem.W.Frag) (a : Addr) : It where
  go := fun i H => ∃ (xs : List V) (x : V), SqT K H a xs ∧ xs[i]? = some x
  yld := fun i H v H' => ∃ T x, v = .ref T ∧ H T = none ∧ H' = upd H T (.tup [.int (i : Nat), x]) ∧ ∀ xs, SqT K H a xs → xs[i]? = some x
  stop := fun i H => ∃ xs : List V, SqT K H a xs ∧ xs.length = i
theorem turn_enumT {P : Program} {w : World} {K : PySem.W.Frag} {elts : List Expr} {kk : Nat} {tpos : Pos} (a e it : Addr) :
    Turn P w K (.Tuple elts kk tpos) (IteT K a) [e, it] e (fun i h => (∃ old, IsEnum h e it ((i : Nat) : Int) old) ∧ h.IsTupleIter it a i ∧ e ≠ it) where
  mem := by simp
  obj := fun i h st b hb => by
    obtain ⟨⟨old, he⟩, ⟨o, ho, _, hd⟩, _⟩ := st
    rcases (show b = e ∨ b = it by simpa using hb) with z | z
    · rw [z]; exact ⟨_, he, fun v q => nomatch q⟩
    · rw [z]; exact ⟨o, ho, fun v q => by rw [hd] at q; cases q⟩
  keep := fun i h h' st k => by
    obtain ⟨⟨old, he⟩, hi, hne⟩ := st
    exact ⟨⟨old, k e (by simp) _ he⟩, hi.at fun o q => k it (by simp) o q, hne⟩
  item := by
    intro X hP hw hK hc i pins s σ H E I hf st hg
    subst hP hw hK
    obtain ⟨⟨old, he⟩, hit, hne⟩ := st
    obtain ⟨xs, x, hq, hx⟩ := hg
    obtain ⟨its, rv, p, hz⟩ := I.tuple hq
    obtain ⟨u, hu, ru⟩ := rv.get hx
    have p' : s.heap.IsTuple a its.toArray := p
    have hel : e < s.heap.objs.size := Heap.lt_size he
    have hil : it < s.heap.objs.size := by obtain ⟨_, q, _⟩ := hit; exact Heap.lt_size q
    have tne : ∀ {b : Addr} {o : Obj} {n : String}, s.heap.get? b = some o → o.cls = .type n → n ≠ "tuple" → a ≠ b := fun {b o n} q1 q2 q3 z => by
      obtain ⟨oa, q4, q5, _⟩ := p'
      rw [z, q1] at q4; cases q4
      rw [q2] at q5; injection q5 with q6; exact q3 q6
    have hae : a ≠ e := tne he rfl (by decide)
    have hai : a ≠ it := by obtain ⟨o, q1, q2, _⟩ := hit; exact tne q1 q2 (by decide)
    have D := Draws.tuple (prog := X.prog) (w := X.w) (A := X.A.in1) (I.ok.hd hc) it a hai its.toArray
    have hi : i < its.toArray.size := by
      have := (List.getElem?_eq_some_iff.mp hu).1
      simpa using this
    refine wpAny_pyNext_enum_itemD D he ⟨hit, p'⟩ hi hne (fun m => ?_) fun x' h' tk hx' ho hst hT hsz hk => ?_
    · rcases (show e = it ∨ e = a by simpa using m) with z | z
      · exact hne z
      · exact hae z.symm
    have ex : x' = u := by
      have q : its.toArray[i]? = some x' := hx'
      rw [List.getElem?_toArray] at q
      rw [hu] at q; exact (Option.some.inj q).symm
    subst ex
    refine ⟨_, rfl, wpAny_letOwnedTupleGo_enum (s := { s with heap := h', toks := tk + 1 }) ho fun h'' he' sb => ?_⟩
    have hT2 : h''.get? s.heap.objs.size = some { cls := .type "tuple", data := .seq #[.int i tk, x'] } := (sb.2 _ (Nat.ne_of_gt hel)).trans hT
    have new : ObjOk X.prog X.w (upd H s.heap.objs.size (.tup [.int (i : Nat), x])) h'' s.heap.objs.size (.tup [.int (i : Nat), x]) :=
      ⟨by show 2 ≤ sizeLine; decide, [.int i tk, x'], .cons ⟨_, rfl⟩ (.cons ru .nil), ⟨_, hT2, rfl, _, rfl⟩⟩
    have I1 : Inv X pins σ (upd H s.heap.objs.size (.tup [.int (i : Nat), x])) { s with heap := h'', toks := tk + 1 } :=
      I.turnedNew (ch := [e, it]) (fun b ob hb q => (sb.2 b (fun z => hb (by simp [z]))).trans (hk b ob (fun z => hb (by simp [z])) (fun z => hb (by simp [z])) q)) hf (Nat.le_refl _) new
    refine ⟨.ref s.heap.objs.size, _, I1, rfl, ⟨_, x, rfl, I.hok.fresh (Nat.le_refl _), rfl, fun ys hy => by rw [I.tuple_inj hy hq]; exact hx⟩, ⟨⟨x', ?_⟩, hst.1.at fun o q => (sb.2 it (Ne.symm hne)).trans q, hne⟩, fun b hb => ?_⟩
    · have e1 : ((i + 1 : Nat) : Int) = (i : Int) + 1 := by omega
      rw [e1]; exact he'
    · have hb' : b < s.heap.objs.size := by
        rcases (show b = e ∨ b = it by simpa using hb) with z | z
        · rw [z]; exact hel
        · rw [z]; exact hil
      rw [upd_ne (Nat.ne_of_lt hb')]
      exact (hf b hb).1
  done := by
    intro X hP hw hK hc i pins s σ H E I hf st hg
    subst hP hw hK
    obtain ⟨⟨old, he⟩, hit, hne⟩ := st
    obtain ⟨xs, hq, hx⟩ := hg
    obtain ⟨its, rv, p, hz⟩ := I.tuple hq
    obtain ⟨f0, f1, f2, f3, f4, f5⟩ := hf it (by simp)
    have p' : s.heap.IsTuple a its.toArray := p
    have hl := rv.length
    have hai : a ≠ it := fun z => by
      obtain ⟨o, q1, q2, _⟩ := hit
      obtain ⟨oa, q4, q5, _⟩ := p'
      rw [z, q1] at q4; cases q4
      rw [q2] at q5; injection q5 with q6; exact absurd q6 (by decide)
    have D := Draws.tuple (prog := X.prog) (w := X.w) (A := X.A.in1) (I.ok.hd hc) it a hai its.toArray
    have en : i = its.toArray.size := by
      rw [List.size_toArray, ← hl]
      exact hx.symm
    subst en
    exact wpAny_pyNext_enum_endD D he ⟨hit, p'⟩ fun h' eb => ⟨rfl, I.turned (t' := s.toks) (fun b o hb q => eb b o hb q) f0 f1 f3 f4 f5⟩
  self := fun A i s Q E st h => let ⟨⟨_, he⟩, _⟩ := st; wpAny_pyIter_enum he h
def iEnumT (K : PySem.W.Frag) (ta : TA) : TI := fun σ H R => ta σ H fun vs H1 => ∃ a xs, vs = [.ref a] ∧ SqT K H1 a xs ∧ R (IteT K a) H1
theorem pi_enumT {X : Cx} {e : Expr} {ta : TA} {p pos tpos : Pos} {elts : List Expr} {kk : Nat} (hg : Gl X "enumerate") (hm : X.mg "enumerate" = none) (ha : PA X [e] ta) (hs : starEach [e] X.env = [(false, eval e X.env)] := by rfl) :
    PI X (.Tuple elts kk tpos) (.Call (.Name "enumerate" p) [e] [] pos) (iEnumT X.K ta) := by
  refine ⟨fun pins s σ H R I h => ?_⟩
  refine Call_ (ld_blt I hg hm boot_enumerate (PyProof.Rows.callWith_type1 (thn (ha.run pos pins s σ H _ I h) fun us s1 ⟨vs, H1, I1, r1, q1⟩ => ?_) hs rfl))
  obtain ⟨a, xs, ex, hq, q⟩ := q1
  subst ex
  rw [Vals.ref1 r1]
  obtain ⟨its, rv, p', hz⟩ := I1.tuple hq
  refine enum_call1 (begins_tuple a its.toArray) p' fun h' he hit hsz hk => wpAny_pyIter_enum he ?_
  have I2 : Inv X pins σ H1 { s1 with heap := h' } := I1.kept (t' := s1.toks) hk
  refine ⟨s1.heap.objs.size + 1, [s1.heap.objs.size + 1, s1.heap.objs.size], _, _, H1, rfl, I2, turn_enumT a (s1.heap.objs.size + 1) s1.heap.objs.size, ⟨⟨.none, he⟩, ⟨_, hit, rfl, rfl⟩, Nat.succ_ne_self _⟩, fun b hb => ?_, q⟩
  have hle : s1.heap.objs.size ≤ b := by
    rcases (show b = s1.heap.objs.size + 1 ∨ b = s1.heap.objs.size by simpa using hb) with z | z
    · rw [z]; exact Nat.le_add_right _ _
    · rw [z]; exact Nat.le_refl _
  exact I1.fpOk hle (I1.hok.fresh hle)
theorem walk_enumT {K : PySem.W.Frag} {a : Addr} {xs : List V} : Walk (IteT K a) xs.length (fun H => SqT K H a xs) (YPair (fun i => some (.int (i : Nat))) (fun i => xs[i]?)) := by
  refine ⟨fun i _ hi q => ⟨xs, xs[i], q, by simp [hi]⟩, fun _ q => ⟨xs, q, rfl⟩, fun i H v H' _ q y => ?_⟩
  obtain ⟨T, x, h1, h2, h3, h4⟩ := y
  exact ⟨T, .int (i : Nat), x, h1, h2, h3, rfl, h4 xs q⟩

/-! #### the items of a locked dict whose keys are tuples: each a new pair of the key's own tuple and the value -/
theorem frzT_val {X : Cx} {pins : List (Addr × Obj)} {σ : L2.St} {H : Hp} {s : Shared} {d : Addr} {o : Obj} {kvs : List (List Key × V)} (I : Inv X pins σ H s) (h : H d = some (.frz o (.dT kvs))) :
    (d == sysModules) = false ∧ s.heap.get? d = some o ∧ o.ExactDict ∧ ∃ (es : Array DictEntry) (ep : Nat), o.data = .dict es ep ∧ es.size = kvs.length ∧
      ∀ (i : Nat) (k : List Key) (v : V), kvs[i]? = some (k, v) → ∃ (en : DictEntry) (q : Addr), es[i]? = some en ∧ en.key = .ref q ∧ H q = some (.tup (k.map kV)) ∧ RelV v en.val := by
  obtain ⟨hd, z, hs, xs, pr, o', es, ep, ho, hx, hdt, he, _⟩ := I.hok d _ h
  rw [hd] at ho
  cases ho
  refine ⟨hs, hd, hx, es, ep, hdt, ?_, fun i k v e => ?_⟩
  · have l1 : es.size = xs.length := size_of_entries he
    have l2 : kvs.length = xs.length := Paired.len pr
    omega
  · obtain ⟨b, hb, e1, e2, e3⟩ := Paired.get pr e
    have q := entry_at he i
    rw [hb] at q
    exact ⟨_, b.2.1, q, rfl, e2, e3⟩
def ItiT (d : Addr) (o : Obj) (kvs : List (List Key × V)) : It where
  go := fun i H => H d = some (.frz o (.dT kvs)) ∧ i < kvs.length
  yld := fun i H x H' => ∃ T q k v, kvs[i]? = some (k, v) ∧ x = .ref T ∧ H T = none ∧ H q = some (.tup (k.map kV)) ∧ H' = upd H T (.tup [.ref q, v])
  stop := fun i H => H d = some (.frz o (.dT kvs)) ∧ kvs.length ≤ i
theorem turn_itemsT {P : Program} {w : World} {K : PySem.W.Frag} {d : Addr} {o : Obj} {es : Array DictEntry} {ep : Nat} {kvs : List (List Key × V)} {elts : List Expr} {kk : Nat} {tpos : Pos} (it : Addr) (hod : o.data = .dict es ep) :
    Turn P w K (.Tuple elts kk tpos) (ItiT d o kvs) [it] it (fun i h => ∃ ok ov, IsItemIter h it d i es.size ep ok ov) where
  mem := by simp
  obj := fun i h st b hb => by
    obtain ⟨ok, ov, e⟩ := st
    rw [show b = it by simpa using hb]
    exact ⟨_, e, fun v z => nomatch z⟩
  keep := fun i h h' st k => let ⟨ok, ov, e⟩ := st; ⟨ok, ov, k it (by simp) _ e⟩
  item := by
    intro X hP hw hK hc i pins s σ H E I hf st hg
    subst hP hw hK
    obtain ⟨hd, hi⟩ := hg
    obtain ⟨hs, hgd, hx, es', ep', hdt, hsz, ent⟩ := frzT_val I hd
    obtain ⟨rfl, rfl⟩ := dict_ep hod hdt
    obtain ⟨⟨k, v⟩, hkv⟩ : ∃ p, kvs[i]? = some p := ⟨kvs[i], List.getElem?_eq_getElem hi⟩
    obtain ⟨en, q, hen, hkey, hq, rv⟩ := ent i k v hkv
    obtain ⟨hlt0, ee⟩ := Array.getElem?_eq_some_iff.mp hen
    obtain ⟨ok, ov, he⟩ := st
    have hlt : it < s.heap.objs.size := Heap.lt_size he
    refine wpAny_pyNext_items_item_raw he ⟨_, hgd, hx, hdt⟩ hlt0 fun h' ho hT hz hk => ?_
    rw [ee, hkey] at ho hT
    refine ⟨_, rfl, wpAny_letOwnedTupleGo_items (s := { s with heap := h' }) ho fun h'' he' sb => ?_⟩
    have hT2 : h''.get? s.heap.objs.size = some { cls := .type "tuple", data := .seq #[.ref q, en.val] } := (sb.2 _ (Nat.ne_of_gt hlt)).trans hT
    have new : ObjOk X.prog X.w (upd H s.heap.objs.size (.tup [.ref q, v])) h'' s.heap.objs.size (.tup [.ref q, v]) :=
      ⟨by show 2 ≤ sizeLine; decide, [.ref q, en.val], .cons rfl (.cons rv .nil), ⟨_, hT2, rfl, _, rfl⟩⟩
    have I1 : Inv X pins σ (upd H s.heap.objs.size (.tup [.ref q, v])) { s with heap := h'' } :=
      I.turnedNew (t' := s.toks) (ch := [it]) (fun b ob hb e => (sb.2 b (by simpa using hb)).trans (hk b ob (by simpa using hb) e)) hf (Nat.le_refl _) new
    refine ⟨.ref s.heap.objs.size, _, I1, rfl, ⟨_, q, k, v, hkv, rfl, I.hok.fresh (Nat.le_refl _), hq, rfl⟩, ⟨_, _, he'⟩, fun b hb => ?_⟩
    rw [show b = it by simpa using hb, upd_ne (Nat.ne_of_lt hlt)]
    exact (hf it (by simp)).1
  done := by
    intro X hP hw hK hc i pins s σ H E I hf st hg
    subst hP hw hK
    obtain ⟨hd, hi⟩ := hg
    obtain ⟨f0, f1, f2, f3, f4, f5⟩ := hf it (by simp)
    obtain ⟨hs, hgd, hx, es', ep', hdt, hsz, ent⟩ := frzT_val I hd
    obtain ⟨rfl, rfl⟩ := dict_ep hod hdt
    obtain ⟨ok, ov, he⟩ := st
    exact wpAny_pyNext_items_end_raw (I.ok.hd hc) he ⟨_, hgd, hx, hdt⟩ (by omega) fun h' eb => ⟨rfl, I.turned (t' := s.toks) (fun b ob hb e => eb b ob hb e) f0 f1 f3 f4 f5⟩
  self := fun A i s Q E st h => let ⟨_, _, e⟩ := st; wpAny_pyIter_itemiter e h
def iItemsT (td : TE) : TI := fun σ H R => td σ H fun x H1 => ∃ d o kvs, x = .ref d ∧ H1 d = some (.frz o (.dT kvs)) ∧ R (ItiT d o kvs) H1
theorem pi_itemsT {X : Cx} {e : Expr} {td : TE} {apos cpos tpos : Pos} {elts : List Expr} {kk : Nat} (he : PE X e td) (h1 : attributeBase e "items" X.env (eval e X.env) = eval e X.env := by rfl) (h2 : (apos.endLine == cpos.line) = true := by rfl) :
    PI X (.Tuple elts kk tpos) (.Call (.Attribute e "items" apos) [] [] cpos) (iItemsT td) := by
  refine ⟨fun pins s σ H R I h => ?_⟩
  refine wpAny_Call_method (T := "dict") (id := "dict.items") h1 rfl h2 F.plainAttrs_dict F.slot_dict_items F.type_dict_items (thn (he.run pins s σ H _ I h) fun u s1 ⟨x, H1, I1, rx, d, o, kvs, ex, hd, q⟩ => ?_)
  subst ex
  obtain rfl : u = Value.ref d := rx
  obtain ⟨hs, hgd, hx, es, ep, hdt, hsz, ent⟩ := frzT_val I1 hd
  have hr : s1.heap.DictRaw d es ep := ⟨_, hgd, hx, hdt⟩
  refine ⟨hr.typeIs, fun a ea => ⟨o, by cases ea; exact hgd, hx.2.1⟩, ?_⟩
  have I2 : Inv X pins σ H1 { s1 with heap := s1.heap.push { cls := .type "dict_items", data := .fields #[.ref d] } } := I1.kept (t' := s1.toks) fun b ob q => Heap.get?_push_of_some _ q
  have fin : wpAny (model X.prog X.w) X.A (pyIter (.ref s1.heap.objs.size)) (PIE X pins σ (.Tuple elts kk tpos) R) X.xe { s1 with heap := s1.heap.push { cls := .type "dict_items", data := .fields #[.ref d] } } := by
    refine wpAny_pyIter_items_raw (d := d) ⟨_, Heap.get?_push_size _ rfl, rfl, rfl⟩ (hr.at fun o e => Heap.get?_push_of_some _ e) (pi_one (tk := s1.toks) I2 _ (turn_itemsT _ hdt) ⟨.none, .none, ?_⟩ q)
    exact Heap.get?_push_size _ rfl
  show wpAny _ _ (callWith cpos (.builtin "dict.items") [.ref d] [] []) _ X.xe s1
  exact method_meetsIn F.slot_dict_items F.entry_dict_items rfl (PySem.evalArgs_none ⟨rfl, hr.typeIs, F.args_dict_items_1 _, _, meets_dict_items_raw d hs, ⟨es, ep, hr⟩, fin⟩)
theorem walk_itemsT {d : Addr} {o : Obj} {kvs : List (List Key × V)} : Walk (ItiT d o kvs) kvs.length (fun H => H d = some (.frz o (.dT kvs)))
    (fun i H x H' => ∃ T q k v, kvs[i]? = some (k, v) ∧ x = .ref T ∧ H T = none ∧ H q = some (.tup (k.map kV)) ∧ H' = upd H T (.tup [.ref q, v])) :=
  ⟨fun _ _ hi q => ⟨q, hi⟩, fun _ q => ⟨q, Nat.le_refl _⟩, fun _ _ _ _ _ _ y => y⟩
/-! #### zip of two tuples -/
theorem walk_zipT {K : PySem.W.Frag} {a b : Addr} {xs ys : List V} {n : Nat} (hn : n = min xs.length ys.length) : Walk (RZ.ItzT K a b) n (fun H => SqT K H a xs ∧ SqT K H b ys) (YPair (fun i => xs[i]?) (fun i => ys[i]?)) := by
  subst hn
  refine ⟨fun i _ hi q => ?_, fun _ q => ⟨xs, ys, q.1, q.2, by omega⟩, fun i H v H' _ q y => ?_⟩
  · have h1 : i < xs.length := by omega
    have h2 : i < ys.length := by omega
    exact ⟨xs, ys, xs[i], ys[i], q.1, q.2, by simp [h1], by simp [h2]⟩
  · obtain ⟨T, x, z, h1, h2, h3, h4, h5⟩ := y
    exact ⟨T, x, z, h1, h2, h3, h4 xs q.1, h5 ys q.2⟩
end An
-- imports: B2
/-! ### B3: readings in short: slices, sums of tuples -/
namespace An
open PySem PySem.Spec PyProof.Rows L2
section
variable {K : PySem.W.Frag} {H : Hp} {Q : VK}
theorem cut_from (xs : List V) (k : Nat) : cutV xs (some (k : Int)) none = xs.drop k := by
  unfold cutV
  rw [HT.sIx_nat, HT.sIx_none]
  by_cases h : k ≤ xs.length
  · rw [Nat.min_eq_left h, List.take_of_length_le (by rw [List.length_drop]; omega)]
  · rw [Nat.min_eq_right (show xs.length ≤ k by omega), List.drop_of_length_le (Nat.le_refl _), List.drop_of_length_le (show xs.length ≤ k by omega), List.take_nil]
theorem cut_mid (xs : List V) (k j : Nat) : cutV xs (some (k : Int)) (some (j : Int)) = (xs.take j).drop k := by
  unfold cutV
  rw [HT.sIx_nat, HT.sIx_nat, List.drop_take]
  by_cases h : k ≤ xs.length
  · rw [Nat.min_eq_left h]
    by_cases h2 : j ≤ xs.length
    · rw [Nat.min_eq_left h2]
    · rw [Nat.min_eq_right (show xs.length ≤ j by omega), List.take_of_length_le (by rw [List.length_drop]; omega), List.take_of_length_le (by rw [List.length_drop]; omega)]
  · rw [Nat.min_eq_right (show xs.length ≤ k by omega), List.drop_of_length_le (Nat.le_refl _), List.drop_of_length_le (show xs.length ≤ k by omega), List.take_nil, List.take_nil]
theorem cut_to (xs : List V) (j : Nat) : cutV xs none (some (j : Int)) = xs.take j := by
  unfold cutV
  rw [HT.sIx_none, HT.sIx_nat, List.drop_zero, Nat.sub_zero]
  by_cases h2 : j ≤ xs.length
  · rw [Nat.min_eq_left h2]
  · rw [Nat.min_eq_right (by omega), List.take_of_length_le (Nat.le_refl _), List.take_of_length_le (by omega)]
theorem cut_whole (xs : List V) (lo hi : Option Int) (h : HT.sIx xs.length 0 lo = 0 ∧ HT.sIx xs.length xs.length hi = xs.length) : cutV xs lo hi = xs := by
  unfold cutV
  rw [h.1, h.2, List.drop_zero, Nat.sub_zero, List.take_of_length_le (Nat.le_refl _)]
/-- a slice of a tuple: it stands somewhere, old or new -/
theorem sl_any {c : Addr} {xs : List V} {lo hi : Option Int} (hc : H c = some (.tup xs)) (h : ∀ q H', Same H H' → H' q = some (.tup (cutV xs lo hi)) → Q (.ref q) H') : rSlA K (.ref c) lo hi H Q :=
  ⟨c, xs, rfl, SqT.of hc, fun e => h c H (Same.refl H) (by rw [cut_whole xs lo hi e]; exact hc), fun _ p hp => h p _ (Same.new hp) upd_same⟩
theorem sl_from {c : Addr} {xs : List V} {i : Int} {k : Nat} (e : i = (k : Int)) (hc : H c = some (.tup xs)) (h : ∀ q H', Same H H' → H' q = some (.tup (xs.drop k)) → Q (.ref q) H') : rSlA K (.ref c) (some i) none H Q := by
  subst e
  exact sl_any hc fun q H' s e => h q H' s (by rw [← cut_from]; exact e)
theorem sl_fromN {σ : L2.St} {c : Addr} {xs : List V} {i : Int} {k : Nat} (e : i = (k : Int)) (hc : H c = some (.tup xs)) (h : ∀ q H', Same H H' → H' q = some (.tup (xs.drop k)) → Q (.ref q) H') : tNoPart σ H fun u H3 => rSlA K (.ref c) (some i) u H3 Q := sl_from e hc h
/-- a slice of a list: a new list -/
theorem sll_fromN {σ : L2.St} {c : Addr} {xs : List V} {i : Int} {k : Nat} (e : i = (k : Int)) (hc : SqL K H c xs) (h : ∀ q, H q = none → Q (.ref q) (upd H q (.lst (xs.drop k)))) : tNoPart σ H fun u H3 => rSlL K (.ref c) (some i) u H3 Q := by
  subst e
  exact ⟨c, xs, rfl, hc, fun q hq => by rw [cut_from]; exact h q hq⟩
theorem sll_to {c : Addr} {xs : List V} {j : Nat} (hc : SqL K H c xs) (h : ∀ q, H q = none → Q (.ref q) (upd H q (.lst (xs.take j)))) : rSlL K (.ref c) none (some (j : Int)) H Q :=
  ⟨c, xs, rfl, hc, fun q hq => by rw [cut_to]; exact h q hq⟩
theorem slt_to {c : Addr} {xs : List V} {i : Int} {j : Nat} (e : i = (j : Int)) (hc : H c = some (.tup xs)) (h : ∀ q H', Same H H' → H' q = some (.tup (xs.take j)) → Q (.ref q) H') : rSlA K (.ref c) none (some i) H Q := by
  subst e
  exact sl_any hc fun q H' s e => h q H' s (by rw [← cut_to]; exact e)
theorem slt_mid {c : Addr} {xs : List V} {i1 i2 : Int} {k j : Nat} (e1 : i1 = (k : Int)) (e2 : i2 = (j : Int)) (hc : H c = some (.tup xs)) (h : ∀ q H', Same H H' → H' q = some (.tup ((xs.take j).drop k)) → Q (.ref q) H') : rSlA K (.ref c) (some i1) (some i2) H Q := by
  subst e1 e2
  exact sl_any hc fun q H' s e => h q H' s (by rw [← cut_mid]; exact e)
/-- t + u of tuples: it stands somewhere -/
theorem cat_any {a b : Addr} {xs ys : List V} (ha : H a = some (.tup xs)) (hb : H b = some (.tup ys)) (hz : xs.length + ys.length ≤ 100000) (h : ∀ q H', Same H H' → H' q = some (.tup (xs ++ ys)) → Q (.ref q) H') : rCatA K (.ref a) (.ref b) H Q := by
  refine ⟨a, b, xs, ys, rfl, rfl, SqT.of ha, SqT.of hb, Nat.le_trans hz (by decide), fun e => h b H (Same.refl H) (by rw [e]; exact hb), fun _ e => h a H (Same.refl H) (by rw [e, List.append_nil]; exact ha), fun _ _ p hp => h p _ (Same.new hp) upd_same⟩
theorem sz {n : Nat} (h : n ≤ 100000) : n ≤ sizeLine := Nat.le_trans h (by decide)
theorem szl {n : Nat} (h : n < 100000) : n < sizeLine := Nat.lt_of_lt_of_le h (by decide)
end
/-! #### lists and tuples stay -/
def LTS (H H' : Hp) : Prop := ∀ b o, ((∃ xs, o = .lst xs) ∨ ∃ xs, o = .tup xs) → H b = some o → H' b = some o
theorem LTS.refl (H : Hp) : LTS H H := fun _ _ _ h => h
theorem LTS.trans {H H1 H2 : Hp} (a : LTS H H1) (b : LTS H1 H2) : LTS H H2 := fun c o k h => b c o k (a c o k h)
theorem LTS.of {H H' : Hp} (e : Same H H') : LTS H H' := fun b o _ h => e b o h
theorem LTS.ts {H H' : Hp} (e : LTS H H') : TS H H' := fun b xs h => e b _ (.inr ⟨xs, rfl⟩) h
theorem LTS.updA {H : Hp} {p : Addr} {o u : HO} (h : H p = some u) (hu : ∀ xs, u ≠ .lst xs ∧ u ≠ .tup xs) : LTS H (upd H p o) := fun b v k e => by
  have nb : b ≠ p := fun z => by
    rw [z, h] at e
    cases e
    rcases k with ⟨xs, e⟩ | ⟨xs, e⟩
    · exact (hu xs).1 e
    · exact (hu xs).2 e
  rw [upd_ne nb]; exact e
theorem LTS.dT {H : Hp} {p : Addr} {o : HO} {ys} (h : H p = some (.dT ys)) : LTS H (upd H p o) := LTS.updA h fun _ => ⟨(fun e => by cases e), (fun e => by cases e)⟩
theorem LTS.dK {H : Hp} {p : Addr} {o : HO} {ys} (h : H p = some (.dK ys)) : LTS H (upd H p o) := LTS.updA h fun _ => ⟨(fun e => by cases e), (fun e => by cases e)⟩
theorem LTS.frz {H : Hp} {p : Addr} {o u : HO} {od} (h : H p = some (.frz od u)) : LTS H (upd H p o) := LTS.updA h fun _ => ⟨(fun e => by cases e), (fun e => by cases e)⟩
theorem LTS.new {H : Hp} {p : Addr} {o : HO} (h : H p = none) : LTS H (upd H p o) := LTS.of (Same.new h)
theorem LstAt.mono {α : Type} {R : Hp → V → α → Prop} {H H' : Hp} {l : Addr} {ds : List α} (e : LTS H H') (m : ∀ v d, R H v d → R H' v d) (h : LstAt H (R H) l ds) : LstAt H' (R H') l ds :=
  let ⟨xs, h1, h2⟩ := h; ⟨xs, e _ _ (.inl ⟨xs, rfl⟩) h1, Paired.mp h2 m⟩
/-! #### a comprehension that changes nothing: what it makes, told by the turn -/
theorem lc_go {J : It} {n : Nat} {G : Hp → Prop} {Y : Nat → Hp → V → Hp → Prop} (wk : Walk J n G Y) {g : TG} {tt : TT} {te : TE} {vs : List Nat} {σ : L2.St} {H1 : Hp} {D : Addr} {Qd : Hp → Prop} {β : Type} (S : Hp → V → β → Prop) (ac : Nat → List β)
    (hD : H1 D = none) (h0 : ac 0 = []) (hz : ∀ i, i ≤ n → (ac i).length < 100000) (mono : ∀ H H' v b, Same H H' → S H v b → S H' v b) (mD : ∀ H v b ys zs, H D = some (.lst ys) → S H v b → S (upd H D (.lst zs)) v b) (hG : ∀ H', Same H1 H' → G H')
    (hs : ∀ i x H H' (NT : V → Hp → Prop) (NF : Hp → Prop), i < n → Same H1 H → Y i H x H' → (∀ y H4 b, Same H H4 → S H4 y b → ac (i + 1) = ac i ++ [b] → NT y H4) → (∀ H4, Same H H4 → ac (i + 1) = ac i → NF H4) →
      g x (wipe σ vs) H' fun σ2 H2 => wipe σ2 vs = wipe σ vs ∧ tt σ2 H2 fun b H3 => if b = true then te σ2 H3 NT else NF H3)
    (hd : ∀ H' ys, Same H1 H' → H' D = some (.lst ys) → Paired (S H') ys (ac n) → Qd H') :
    ∃ W : Nat → Nat → Hp → Prop, (∃ m, W 0 m (upd H1 D (.lst []))) ∧ ∀ i m H, W i m H →
      (J.stop i H ∧ Qd H) ∨ (J.go i H ∧ ∃ Nx : Hp → Prop, (∀ H', Nx H' → ∃ m', m' < m ∧ W (i + 1) m' H') ∧ ∀ x H', J.yld i H x H' → g x (wipe σ vs) H' fun σ2 H2 => wipe σ2 vs = wipe σ vs ∧ tt σ2 H2 fun b H3 =>
        if b = true then te σ2 H3 fun y H4 => ∃ acc, H4 D = some (.lst acc) ∧ acc.length < sizeLine ∧ Nx (upd H4 D (.lst (acc ++ [y]))) else Nx H3) := by
  have pres : ∀ {H4 : Hp} {ys : List V}, Same H1 H4 → Same H1 (upd H4 D (.lst ys)) := fun {H4 ys} s b o e => by
    rw [upd_ne (ne_of_none e hD)]; exact s b o e
  refine lc_it wk (fun i H => Same H1 H ∧ ∃ ys, H D = some (.lst ys) ∧ Paired (S H) ys (ac i)) ⟨Same.new hD, [], upd_same, by rw [h0]; exact .nil⟩ (fun i H _ h => hG H h.1) ?_ ?_
  · rintro i x H H' hi ⟨sm, ys, hy, pr⟩ y
    have len : ys.length < sizeLine := szl (by rw [Paired.len pr]; exact hz i (Nat.le_of_lt hi))
    refine hs i x H H' _ _ hi sm y (fun y H4 b s4 sb e => ⟨ys, s4 _ _ hy, len, pres (sm.trans s4), ys ++ [y], upd_same, ?_⟩) fun H4 s4 e => ⟨sm.trans s4, ys, s4 _ _ hy, by rw [e]; exact Paired.mp pr fun _ _ z => mono _ _ _ _ s4 z⟩
    rw [e]
    exact Paired.snoc1 (Paired.mp pr fun _ _ z => mD _ _ _ _ _ (s4 _ _ hy) (mono _ _ _ _ s4 z)) (mD _ _ _ _ _ (s4 _ _ hy) sb)
  · rintro H ⟨sm, ys, hy, pr⟩
    exact hd H ys sm hy pr
/-- no test: a map -/
theorem lc_map {J : It} {n : Nat} {G : Hp → Prop} {Y : Nat → Hp → V → Hp → Prop} (wk : Walk J n G Y) {g : TG} {te : TE} {vs : List Nat} {σ : L2.St} {H1 : Hp} {D : Addr} {Qd : Hp → Prop} {β : Type} (S : Hp → V → β → Prop) (ms : List β)
    (hD : H1 D = none) (hn : ms.length = n) (hz : n < 100000) (mono : ∀ H H' v b, Same H H' → S H v b → S H' v b) (mD : ∀ H v b ys zs, H D = some (.lst ys) → S H v b → S (upd H D (.lst zs)) v b) (hG : ∀ H', Same H1 H' → G H')
    (hs : ∀ i x H H' (NT : V → Hp → Prop), i < n → Same H1 H → Y i H x H' → (∀ y H4 b, Same H H4 → ms[i]? = some b → S H4 y b → NT y H4) → g x (wipe σ vs) H' fun σ2 H2 => wipe σ2 vs = wipe σ vs ∧ te σ2 H2 NT)
    (gm : ∀ x σ H Q Q', (∀ σ2 H2, Q σ2 H2 → Q' σ2 H2) → g x σ H Q → g x σ H Q')
    (hd : ∀ H' ys, Same H1 H' → H' D = some (.lst ys) → Paired (S H') ys ms → Qd H') :
    ∃ W : Nat → Nat → Hp → Prop, (∃ m, W 0 m (upd H1 D (.lst []))) ∧ ∀ i m H, W i m H →
      (J.stop i H ∧ Qd H) ∨ (J.go i H ∧ ∃ Nx : Hp → Prop, (∀ H', Nx H' → ∃ m', m' < m ∧ W (i + 1) m' H') ∧ ∀ x H', J.yld i H x H' → g x (wipe σ vs) H' fun σ2 H2 => wipe σ2 vs = wipe σ vs ∧ tYes σ2 H2 fun b H3 =>
        if b = true then te σ2 H3 fun y H4 => ∃ acc, H4 D = some (.lst acc) ∧ acc.length < sizeLine ∧ Nx (upd H4 D (.lst (acc ++ [y]))) else Nx H3) := by
  refine lc_go wk S (fun i => ms.take i) hD rfl (fun i hi => by rw [List.length_take, hn]; omega) mono mD hG (fun i x H H' NT NF hi sm y ht _ => ?_) fun H' ys sm hy pr => hd H' ys sm hy (by rw [← hn, List.take_of_length_le (Nat.le_refl _)] at pr; exact pr)
  refine gm _ _ _ _ _ (fun σ2 H2 h => ⟨h.1, (iteT h.2 : if true = true then te σ2 H2 NT else NF H2)⟩) (hs i x H H' NT hi sm y fun y H4 b s4 hb sb => ht y H4 b s4 sb ?_)
  show ms.take (i + 1) = ms.take i ++ [b]
  rw [List.take_add_one, hb]; rfl
theorem gm_name (j : Nat) : ∀ x σ H (Q Q' : L2.St → Hp → Prop), (∀ σ2 H2, Q σ2 H2 → Q' σ2 H2) → gName j x σ H Q → gName j x σ H Q' := fun _ _ _ _ _ f h => f _ _ h
theorem gm_two {K : PySem.W.Frag} (j k : Nat) : ∀ x σ H (Q Q' : L2.St → Hp → Prop), (∀ σ2 H2, Q σ2 H2 → Q' σ2 H2) → gTup K 2 (gCons (gName j) (gCons (gName k) gNil)) x σ H Q → gTup K 2 (gCons (gName j) (gCons (gName k) gNil)) x σ H Q' := fun _ _ _ _ _ f h => by
  obtain ⟨a, xs, e1, e2, e3, v, r, e4, v2, r2, e5, e6, q⟩ := h
  exact ⟨a, xs, e1, e2, e3, v, r, e4, v2, r2, e5, e6, f _ _ q⟩
theorem gm_tri {K : PySem.W.Frag} (j k l : Nat) : ∀ x σ H (Q Q' : L2.St → Hp → Prop), (∀ σ2 H2, Q σ2 H2 → Q' σ2 H2) → gTup K 3 (gCons (gName j) (gCons (gName k) (gCons (gName l) gNil))) x σ H Q → gTup K 3 (gCons (gName j) (gCons (gName k) (gCons (gName l) gNil))) x σ H Q' := fun _ _ _ _ _ f h => by
  obtain ⟨a, xs, e1, e2, e3, v, r, e4, v2, r2, e5, v3, r3, e7, e6, q⟩ := h
  exact ⟨a, xs, e1, e2, e3, v, r, e4, v2, r2, e5, v3, r3, e7, e6, f _ _ q⟩
theorem tYes_ {σ : L2.St} {H : Hp} {A B : Hp → Prop} (h : A H) : tYes σ H fun b H3 => if b = true then A H3 else B H3 := (iteT h : if true = true then A H else B H)
/-! #### the same rules, the written part told by its name (within a comprehension) -/
section
variable {X : Cx} {K : PySem.W.Frag}
theorem ix_tupK (h : X.K = K) : IxR X (rIxT K) := h ▸ ix_tup
theorem ix_listK (h : X.K = K) : IxR X (rIxL K) := h ▸ ix_list
theorem sl_tupK (h : X.K = K) : SlR X (rSlA K) := h ▸ sl_tupA
theorem sl_listK (h : X.K = K) : SlR X (rSlL K) := h ▸ sl_list
theorem op_catK (h : X.K = K) : OpR X (binaryOp .Add) (rCatA K) := h ▸ op_catA
theorem op_inK (h : X.K = K) : OpR X (compareOp .In) (rIn K false) := h ▸ op_in_seq
theorem op_notInK (h : X.K = K) : OpR X (compareOp .NotIn) (rIn K true) := h ▸ op_notIn_seq
theorem op_eqDK (h : X.K = K) (hu : X.A.units + 64 < cLine) : OpR X (compareOp .Eq) (rEqD K) := h ▸ op_eqD hu
theorem op_neDK (h : X.K = K) (hu : X.A.units + 64 < cLine) : OpR X (compareOp .NotEq) (rNeD K) := h ▸ op_neD hu
theorem pg_tupK {es : List Expr} {k : Nat} {pos : Pos} {t : TGs} {n : Nat} (hK : X.K = K) (hc : X.calm = true) (h : PGs X es t)
    (hn : (assignEach es X.env).length = n := by rfl) (hst : (assignEach es X.env).findIdx? (fun z => z.1) = none := by rfl) : PG X (.Tuple es k pos) (gTup K n t) := hK ▸ pg_tup hc h hn hst
end
end An
-- imports: B3
/-! ### B4: list + a list that is read -/
namespace An
open PySem PySem.Spec PyProof.Rows L2
section
variable {X : Cx}
def rCatS (K : PySem.W.Frag) : R2 := fun x y H Q => ∃ l b xs zs, x = .ref l ∧ y = .ref b ∧ SqL K H l xs ∧ SqL K H b zs ∧ xs.length + zs.length ≤ sizeLine ∧ ∀ p, H p = none → Q (.ref p) (upd H p (.lst (xs ++ zs)))
theorem op_catS : OpR X (binaryOp .Add) (rCatS X.K) := by
  intro pins s σ H x y v u Q I rx ry h
  obtain ⟨l, b, xs, zs, rfl, rfl, hH, hB, hz, q⟩ := h
  cases rx
  cases ry
  obtain ⟨its, r, ⟨⟨c1, d1, x1, sl1⟩, n1, ho1, hc1, _, hd1⟩, _⟩ := I.list hH
  obtain ⟨its2, r2, ⟨⟨c2, d2, x2, sl2⟩, n2, ho2, hc2, _, hd2⟩, _⟩ := I.list hB
  simp only at hc1 hd1 hc2 hd2
  subst hc1 hd1 hc2 hd2
  have hl : xs.length = its.length := r.length
  have hl2 : zs.length = its2.length := r2.length
  refine concat_meets ⟨_, ho1, rfl⟩ ⟨_, ho2, rfl⟩ noFill_list_add seq_list_add F.slot_list_add F.entry_list_add (F.args_list_add_2 _ _) (list_addW l b its.toArray its2.toArray n1 n2 d1 d2 sl1 sl2 (by rw [List.size_toArray, List.size_toArray]; omega)) ⟨ho1, ho2, ?_⟩
  have ea : its.toArray ++ its2.toArray = (its ++ its2).toArray := by simp
  rw [ea]
  exact ⟨.ref _, _, I.lnew (t' := s.toks) (r.append r2) (by rw [List.length_append]; omega), rfl, q _ I.fresh⟩
end
section
variable {P : Program} {w : World} {K : PySem.W.Frag} {mg : Str → Option Value} {base : Heap}
theorem fun_ok {x : Str} {st : Stmt} {N ps : List Str} {k : Nat} {sp : Sp} {f : Addr} {fd : FuncData} (F : FunD K x x (defArgs st) (defBody st) (defScope st) [] [] f fd) (S : FnScope N ps (defScope st)) (len : ∀ vs H Q E, sp vs H Q E → vs.length = ps.length)
    (hbody : ∀ (f : Addr) (cdv : Value) (A : Around) (outer : List Env) (s : Shared) (H : Hp) (vs : List V) (Q : VK) (E : XK), Room k (A.deeper (envOfC x (defScope st) s.heap.objs.size f cdv)) → sp vs H Q E →
      ∃ t, PSs (cxOf CX0 P w K mg base N x (defScope st) f cdv A outer s H E).nox (defBody st) t ∧ t { nx := fun _ H' => Q .non H', rt := Q } (start N vs) H) : FnOk P w K mg base CX0 (k + 1) f fd ps sp :=
  F.ok S len fun cdv A outer s H vs Q E hr h => by
    obtain ⟨t, h1, h2⟩ := hbody f cdv A outer s H vs Q E hr h
    exact ⟨t, h1.nox, h2⟩
theorem dn_of {x : Str} {st : Stmt} {f : Addr} {fd : FuncData} (F : FunD K x x (defArgs st) (defBody st) (defScope st) [] [] f fd) (m : mg x = some (.ref f)) : Dn K mg x st := ⟨f, fd, F, m⟩
end
theorem SameX.fresh {a : Addr} {H H' : Hp} (h : H a = none) (e : SameX [a] H H') : Same H H' := fun b o z => e b o (by simpa using fun q : b = a => by subst q; rw [h] at z; cases z) z
theorem SqL_same {K : PySem.W.Frag} {H H' : Hp} {a : Addr} {xs : List V} (h : SqL K H a xs) (e : Same H H') : SqL K H' a xs := by
  rcases h with (h | ⟨o, h⟩) | h
  · exact .inl (.inl (e _ _ h))
  · exact .inl (.inr ⟨o, e _ _ h⟩)
  · exact .inr h
end An
namespace An
open PySem L2
def topS (i : Nat) : Stmt := PySem.Challenge.pw_anyspan_k11_whole_laid_place_by_place.main.body.getD i (.Pass ⟨0, 0, 0, 0⟩)
abbrev S_SpanError : Stmt := topS 1
abbrev S_NoRules : Stmt := topS 2
abbrev S_NoRow : Stmt := topS 3
abbrev S_NoTold : Stmt := topS 4
abbrev S_NoPart : Stmt := topS 5
abbrev S_NoNumber : Stmt := topS 6
abbrev S_NoPlace : Stmt := topS 7
abbrev S_Full : Stmt := topS 8
abbrev S_NoneLeft : Stmt := topS 9
abbrev S_Breaks : Stmt := topS 10
abbrev S_is_from : Stmt := topS 15
abbrev S_is_rule : Stmt := topS 16
abbrev S_are_rules : Stmt := topS 17
abbrev S_need_rules : Stmt := topS 18
abbrev S_is_row : Stmt := topS 19
abbrev S_widest : Stmt := topS 20
abbrev S_broken_by : Stmt := topS 21
abbrev S_next_tail : Stmt := topS 22
abbrev S_tail_of : Stmt := topS 23
abbrev S_keeping : Stmt := topS 24
abbrev S_need_begun : Stmt := topS 25
abbrev S_ways_on : Stmt := topS 27
abbrev S_ranks_from : Stmt := topS 28
abbrev S_most_on : Stmt := topS 29
abbrev S_goes_on : Stmt := topS 30
abbrev S_Laid : Stmt := topS 32
abbrev S__law_deck : Stmt := topS 34
abbrev S__law_pick : Stmt := topS 35
abbrev S__law_whole : Stmt := topS 36
abbrev S__law_one : Stmt := topS 37
abbrev S__law_kin : Stmt := topS 38
abbrev S__law_try : Stmt := topS 39
abbrev S__law_sort : Stmt := topS 40
abbrev S__law_same : Stmt := topS 41
abbrev S__law_odd : Stmt := topS 42
abbrev S__law_rules : Stmt := topS 43
abbrev S__law_fits : Stmt := topS 44
abbrev S__law_due : Stmt := topS 45
abbrev S__law_do : Stmt := topS 46
abbrev S__law_right : Stmt := topS 47
abbrev S_law : Stmt := topS 48
end An
-- imports: X0 B3
/-! ### D1: widest, broken_by, next_tail -/
namespace An
open PySem L2
section
variable {P : Program} {w : World} {K : PySem.W.Frag} {mg : Str → Option Value} {base : Heap}
/-! #### widest -/
def N_widest : List Str := ["rules"]
theorem sc_widest : FnScope N_widest ["rules"] (defScope S_widest) := ⟨rfl, rfl, rfl, by decide +kernel, rfl, by decide +kernel, by decide +kernel⟩
def spWidest : Sp := fun vs H Q _ => ∃ rv rs, vs = [rv] ∧ RulesAt H rv rs ∧ RulesOk rs ∧ Q (.int (wd rs)) H
theorem ok_widest (D : Dn K mg "widest" S_widest) : Cl P w K mg base 1 "widest" spWidest := by
  refine D.ok sc_widest (fun vs H Q E h => ?_) (fun _ _ _ _ _ _ us hl => match us, hl with | [_], _ => rfl) (fun f cdv A outer s H vs Q E hr h => ?_)
  · obtain ⟨rv, rs, rfl, _⟩ := h; rfl
  · obtain ⟨rv, rs, rfl, ⟨a, xs, rfl, ha, pr⟩, ok, k⟩ := h
    have nd := sc_widest.nd
    refine ⟨_, (pss_one (ps_ret (pe_ix ix_tup (pe_ix ix_tup (pv 0) (pe_un un_neg pe_int) (fun _ _ => rfl)) pe_int (fun _ _ => rfl)))), ?_⟩
    obtain ⟨r, hr, e, hl⟩ := wd_mem ok.some
    have hlen := Paired.len pr
    have hne : 0 < rs.length := List.length_pos_iff.mpr ok.some
    have hrl : rs[rs.length - 1]? = some r := by rw [← hl, List.getLast?_eq_getElem?]
    obtain ⟨v, hv, ⟨b, rfl, hb⟩⟩ := Paired.get' pr hrl
    refine ⟨_, rfl, _, rfl, a, xs, -1, .ref b, rfl, rfl, SqT.of ha, ?_, ?_⟩
    · rw [← hlen] at hv
      show (ixN xs.length (-1)).bind _ = _
      have : ixN xs.length (-1) = some (xs.length - 1) := by
        unfold ixN
        rw [if_neg (by decide), if_pos (by omega)]
        congr 1; omega
      rw [this]
      exact hv
    · refine ⟨b, _, 0, .int r.1, rfl, rfl, SqT.of hb, rfl, ?_⟩
      show Q (.int r.1) H
      rw [← e]; exact k
/-! #### broken_by -/
/-- the marks of the window that a place behind the last ones ends -/
def cnt (t : Row) (p s : Int) : Int := (t.drop (t.length + 1 - s.toNat)).sum + p
def bad (t : Row) (p : Int) (r : Rule) : Bool := decide (r.1 ≤ (t.length : Int) + 1) && !(decide (r.2.1 ≤ cnt t p r.1) && decide (cnt t p r.1 ≤ r.2.2))
def brokenBy (rs : List Rule) (t : Row) (p : Int) : Option Rule := rs.find? (bad t p)
def OptRule (H : Hp) (v : V) : Option Rule → Prop
  | none => v = .non
  | some r => RuleAt H v r
theorem find_at {α : Type} {f : α → Bool} : ∀ {l : List α} {i : Nat} {x : α}, l[i]? = some x → f x = true → (∀ (j : Nat) (y : α), j < i → l[j]? = some y → f y = false) → l.find? f = some x
  | [], _, _, h, _, _ => by cases h
  | a :: l, 0, x, h, hx, _ => by cases h; rw [List.find?_cons_of_pos hx]
  | a :: l, i + 1, x, h, hx, hb => by
    rw [List.find?_cons_of_neg (by rw [hb 0 a (Nat.succ_pos _) rfl]; exact Bool.false_ne_true)]
    exact find_at (i := i) (by simpa using h) hx fun j y hj hy => hb (j + 1) y (Nat.succ_lt_succ hj) (by simpa using hy)
def N_broken_by : List Str := ["rules", "tail", "place", "span", "least", "most", "count"]
theorem sc_broken_by : FnScope N_broken_by ["rules", "tail", "place"] (defScope S_broken_by) := ⟨rfl, rfl, rfl, by decide +kernel, rfl, by decide +kernel, by decide +kernel⟩
def spBroken : Sp := fun vs H Q _ => ∃ rv tv rs t p, vs = [rv, tv, .int p] ∧ RulesAt H rv rs ∧ RulesOk rs ∧ TupI H tv t ∧ ∀ v H', Same H H' → OptRule H' v (brokenBy rs t p) → Q v H'
def PvBroken (rs : List Rule) (a c : Addr) (t : Row) (p : Int) (H : Hp) (i : Nat) (σ : L2.St) (H' : Hp) : Prop :=
  Same H H' ∧ (∃ x3 x4 x5 x6, σ = [some (.ref a), some (.ref c), some (.int p), x3, x4, x5, x6]) ∧ ∀ (j : Nat) (r : Rule), j < i → rs[j]? = some r → bad t p r = false
theorem PvBroken.next {rs : List Rule} {a c : Addr} {t : Row} {p : Int} {H : Hp} {i : Nat} {H' : Hp} {r : Rule} {x3 x4 x5 x6 : Option V} (sm : Same H H') (bd : ∀ (j : Nat) (r : Rule), j < i → rs[j]? = some r → bad t p r = false) (hr : rs[i]? = some r) (hb : bad t p r = false) :
    PvBroken rs a c t p H (i + 1) [some (.ref a), some (.ref c), some (.int p), x3, x4, x5, x6] H' := by
  refine ⟨sm, ⟨_, _, _, _, rfl⟩, fun j r' hj hr' => ?_⟩
  by_cases e : j = i
  · subst e; rw [hr] at hr'; cases hr'; exact hb
  · exact bd j r' (by omega) hr'
theorem ok_broken_by (D : Dn K mg "broken_by" S_broken_by) (bf : Bf mg) : Cl P w K mg base 1 "broken_by" spBroken := by
  refine D.ok sc_broken_by (fun vs H Q E h => ?_) (fun _ _ _ _ _ _ us hl => match us, hl with | [_, _, _], _ => rfl) (fun f cdv A outer s H vs Q E hr h => ?_)
  · obtain ⟨rv, tv, rs, t, p, rfl, _⟩ := h; rfl
  · obtain ⟨rv, tv, rs, t, p, rfl, ⟨a, xs, rfl, ha, pr⟩, ok, ⟨c, rfl, hc⟩, k⟩ := h
    have nd := sc_broken_by.nd
    refine ⟨_, (pss_cons (ps_for PassesOwn.never rfl (pi_tup (pv 0)) (pg_tup rfl (pgs_cons (pg_name (i := 3) nd rfl (Or.inl rfl)) (pgs_cons (pg_name (i := 4) nd rfl (Or.inl rfl)) (pgs_cons (pg_name (i := 5) nd rfl (Or.inl rfl)) pgs_nil))))
    (pss_one (ps_if (pt_cmpR op_ge (pe_op op_add (pe_callB call_len_seq rfl bf.len bt_len (pa_cons (pv 1) pa_nil)) pe_int) (pv 3) (nomark _))
    (pss_cons (ps_set (i := 6) nd rfl (Or.inl rfl) (pe_op op_add (pe_callB (cr_sumT rfl) rfl bf.sum bt_sum (pa_cons (pe_slice sl_tupA (pv 1) (po_some (pe_op op_sub (pe_op op_add (pe_callB call_len_seq rfl bf.len bt_len (pa_cons (pv 1) pa_nil)) pe_int) (pv 3))) po_none) pa_nil)) (pv 2)))
    (pss_one (ps_if (pt_not (pt_chain op_le op_le (pv 4) (pv 6) (pv 5)))
    (pss_one (ps_ret (pe_tup (pa_cons (pv 3) (pa_cons (pv 4) (pa_cons (pv 5) pa_nil))))))
    pss_nil)))
    pss_nil)))
    (pss_one (ps_ret pe_non))), ?_⟩
    refine ⟨_, rfl, a, rfl, ⟨_, SqT.of ha⟩, for_tup (xs := xs) (PvBroken rs a c t p H) ⟨Same.refl H, ⟨none, none, none, none, rfl⟩, fun j r hj => absurd hj (Nat.not_lt_zero _)⟩ (fun i σ H' _ h => SqT.of (h.1 _ _ ha)) ?_ ?_⟩
    · rintro i x σ H' hi ⟨sm, ⟨x3, x4, x5, x6, rfl⟩, bd⟩
      obtain ⟨r, hri, ⟨b, rfl, hb⟩⟩ := Paired.get pr hi
      have hc' := sm _ _ hc
      have ro := ok.one r (List.mem_of_getElem? hri)
      refine ⟨b, _, rfl, SqT.of (sm _ _ hb), rfl, _, _, rfl, _, _, rfl, _, _, rfl, rfl, ?_⟩
      refine ⟨_, rfl, c, _, rfl, .inr (SqT.of hc'), _, _, rfl, rfl, _, rfl, _, _, rfl, rfl, _, rfl, ?_⟩
      refine ite2 (fun hge => ?_) (fun hlt => ?_)
      · rw [List.length_map, decide_eq_true_eq] at hge
        refine ⟨_, rfl, _, rfl, c, _, rfl, .inr (SqT.of hc'), _, _, rfl, rfl, _, rfl, _, _, rfl, rfl, _, rfl, ?_⟩
        refine sl_fromN (k := t.length + 1 - r.1.toNat) ?e hc' fun q H2 sm2 hq => ?_
        case e => rw [List.length_map]; omega
        rw [← List.map_drop] at hq
        refine ⟨q, _, rfl, SqT.of hq, _, rfl, _, _, rfl, rfl, ?_⟩
        have sm3 := sm.trans sm2
        have eb : bad t p r = !(decide (r.2.1 ≤ cnt t p r.1) && decide (cnt t p r.1 ≤ r.2.2)) := by
          unfold bad
          rw [decide_eq_true hge, Bool.true_and]
        have give : bad t p r = true → ∀ q, H2 q = none → Q (.ref q) (upd H2 q (.tup [.int r.1, .int r.2.1, .int r.2.2])) := fun hb q hq => by
          refine k _ _ (sm3.trans (Same.new hq)) ?_
          rw [show brokenBy rs t p = some r from find_at hri hb bd]
          exact ⟨q, rfl, upd_same⟩
        refine ⟨_, rfl, _, rfl, _, _, rfl, rfl, _, rfl, ?_⟩
        show if decide (r.2.1 ≤ cnt t p r.1) = true then _ else _
        refine ite2 (fun h1 => ?_) (fun h1 => ?_)
        · refine ⟨_, rfl, _, _, rfl, rfl, _, rfl, ?_⟩
          show if (!decide (cnt t p r.1 ≤ r.2.2)) = true then _ else _
          refine ite2 (fun h2 => ?_) (fun h2 => ?_)
          · refine ⟨_, rfl, _, rfl, _, rfl, sz (by show 3 ≤ 100000; decide), give ?_⟩
            rw [eb, h1, Bool.true_and]; exact h2
          · exact PvBroken.next sm3 bd hri (by rw [eb, h1]; simpa using h2)
        · refine ⟨_, rfl, iteT ⟨_, rfl, _, rfl, _, rfl, sz (by show 3 ≤ 100000; decide), give ?_⟩⟩
          rw [eb, Bool.not_eq_true] at *
          rw [h1]; rfl
      · rw [List.length_map, decide_eq_true_eq] at hlt
        refine PvBroken.next sm bd hri ?_
        unfold bad
        rw [decide_eq_false (by omega)]; rfl
    · rintro σ H' ⟨sm, _, bd⟩
      refine k _ _ sm ?_
      have : brokenBy rs t p = none := by
        unfold brokenBy
        rw [List.find?_eq_none]
        intro r hr
        obtain ⟨j, hj, e⟩ := List.getElem_of_mem hr
        rw [bd j r (by rw [Paired.len pr]; exact hj) (by rw [List.getElem?_eq_getElem hj, e])]; exact Bool.false_ne_true
      rw [this]; rfl
/-! #### next_tail -/
def nextTail (wide : Int) (t : Row) (p : Int) : Row := (t ++ [p]).drop (t.length + 2 - wide.toNat)
def N_next_tail : List Str := ["wide", "tail", "place", "more"]
theorem sc_next_tail : FnScope N_next_tail ["wide", "tail", "place"] (defScope S_next_tail) := ⟨rfl, rfl, rfl, by decide +kernel, rfl, by decide +kernel, by decide +kernel⟩
def spNext : Sp := fun vs H Q _ => ∃ tv wide t p, vs = [.int wide, tv, .int p] ∧ TupI H tv t ∧ t.length ≤ 1000 ∧ 1 ≤ wide ∧ wide ≤ 8 ∧ ∀ v H', Same H H' → TupI H' v (nextTail wide t p) → Q v H'
theorem ok_next_tail (D : Dn K mg "next_tail" S_next_tail) (bf : Bf mg) : Cl P w K mg base 1 "next_tail" spNext := by
  refine D.ok sc_next_tail (fun vs H Q E h => ?_) (fun _ _ _ _ _ _ us hl => match us, hl with | [_, _, _], _ => rfl) (fun f cdv A outer s H vs Q E hr h => ?_)
  · obtain ⟨tv, wide, t, p, rfl, _⟩ := h; rfl
  · obtain ⟨tv, wide, t, p, rfl, ⟨c, rfl, hc⟩, hz, h1, h8, k⟩ := h
    have nd := sc_next_tail.nd
    refine ⟨_, (pss_cons (ps_set (i := 3) nd rfl (Or.inl rfl) (pe_op op_catA (pv 1) (pe_tup (pa_cons (pv 2) pa_nil))))
    (pss_one (ps_ret (pe_slice sl_tupA (pv 3) (po_some (pe_callB (call_max2 rfl) rfl bf.max bt_max (pa_cons pe_int (pa_cons (pe_op op_add (pe_op op_sub (pe_callB call_len_seq rfl bf.len bt_len (pa_cons (pv 3) pa_nil)) (pv 0)) pe_int) pa_nil)))) po_none)))), ?_⟩
    refine ⟨_, rfl, _, rfl, sz (by show 1 ≤ 100000; decide), fun q hq => ?_⟩
    have sm := Same.new (o := .tup [.int p]) hq
    refine cat_any (sm _ _ hc) upd_same (by rw [List.length_map, List.length_singleton]; omega) fun q2 H2 sm2 h2 => ?_
    have h2 : H2 q2 = some (.tup ((t ++ [p]).map V.int)) := by rw [List.map_append]; exact h2
    refine ⟨_, rfl, _, rfl, q2, _, rfl, .inr (SqT.of h2), _, rfl, _, _, rfl, rfl, _, _, rfl, rfl, _, _, rfl, _, rfl, ?_⟩
    refine sl_fromN (k := t.length + 2 - wide.toNat) ?e h2 fun q3 H3 sm3 h3 => ?_
    case e =>
      rw [List.length_map, List.length_append, List.length_singleton]
      split <;> omega
    refine k _ _ ((sm.trans sm2).trans sm3) ⟨q3, rfl, ?_⟩
    rw [h3]; unfold nextTail; rw [List.map_drop]
end
end An
-- imports: D1
/-! ### D2: is_from, is_rule, are_rules, need_rules -/
namespace An
open PySem L2
/-! #### the kinds that are asked for -/
inductive Kd (H : Hp) : V → String → Prop where
  | non : Kd H .non "NoneType"
  | bl (b : Bool) : Kd H (.bl b) "bool"
  | int (i : Int) : Kd H (.int i) "int"
  | str (x : Str) : Kd H (.str x) "str"
  | lst {a : Addr} {xs : List V} (e : H a = some (.lst xs)) : Kd H (.ref a) "list"
  | tup {a : Addr} {xs : List V} (e : H a = some (.tup xs)) : Kd H (.ref a) "tuple"
theorem Kd.ty {K : PySem.W.Frag} {H : Hp} {x : V} {t : String} (k : Kd H x t) : TyX K H x (.type t) := by
  cases k with
  | non => exact .base .non
  | bl b => exact .base (.bl b)
  | int i => exact .base (.int i)
  | str s => exact .base (.str s)
  | lst e => exact .base (.lst e)
  | tup e => exact .base (.tup e)
theorem isi_of {K : PySem.W.Frag} {σ : L2.St} {H : Hp} {x : V} {t c : String} {b : Bool} {Q : VK} (k : Kd H x t) (h : kitB t c = some b) (q : Q (.bl b) H) : tCons (tC (.ty c)) tNil σ H fun xs H2 => rIsi K (x :: xs) H2 Q :=
  ⟨x, .ty c, .type t, .type c, b, rfl, .ty c, k.ty, kit_ty h, q⟩
section
variable {P : Program} {w : World} {K : PySem.W.Frag} {mg : Str → Option Value} {base : Heap}
/-! #### is_from -/
def isFrom (x : V) (lo hi : Int) : Bool := match x with
  | .int n => decide (lo ≤ n) && decide (n ≤ hi)
  | _ => false
def N_is_from : List Str := ["thing", "low", "high"]
theorem sc_is_from : FnScope N_is_from ["thing", "low", "high"] (defScope S_is_from) := ⟨rfl, rfl, rfl, by decide +kernel, rfl, by decide +kernel, by decide +kernel⟩
def spIsFrom : Sp := fun vs H Q _ => ∃ x t lo hi, vs = [x, .int lo, .int hi] ∧ Kd H x t ∧ Q (.bl (isFrom x lo hi)) H
theorem ok_is_from (D : Dn K mg "is_from" S_is_from) (bf : Bf mg) : Cl P w K mg base 1 "is_from" spIsFrom := by
  refine D.ok sc_is_from (fun vs H Q E h => ?_) (fun _ _ _ _ _ _ us hl => match us, hl with | [_, _, _], _ => rfl) (fun f cdv A outer s H vs Q E hr h => ?_)
  · obtain ⟨x, t, lo, hi, rfl, _⟩ := h; rfl
  · obtain ⟨x, t, lo, hi, rfl, kd, k⟩ := h
    have nd := sc_is_from.nd
    refine ⟨_, (pss_one (ps_ret (pe_and (pe_callB call_isi rfl bf.isinstance bt_isinstance (pa_cons (pv 0) (pa_cons (pe_bltn (v := .ty "int") rfl bf.int bt_int rfl) pa_nil))) (pe_and (pe_not (pe_callB call_isi rfl bf.isinstance bt_isinstance (pa_cons (pv 0) (pa_cons (pe_bltn (v := .ty "bool") rfl bf.bool bt_bool rfl) pa_nil)))) (pe_one (pe_chain op_le op_le (pv 1) (pv 0) (pv 2))))))), ?_⟩
    cases kd with
    | non => exact ⟨_, rfl, isi_of .non (b := false) (by decide +kernel) ⟨_, rfl, k⟩⟩
    | str z => exact ⟨_, rfl, isi_of (.str z) (b := false) (by decide +kernel) ⟨_, rfl, k⟩⟩
    | lst e => exact ⟨_, rfl, isi_of (.lst e) (b := false) (by decide +kernel) ⟨_, rfl, k⟩⟩
    | tup e => exact ⟨_, rfl, isi_of (.tup e) (b := false) (by decide +kernel) ⟨_, rfl, k⟩⟩
    | bl b => exact ⟨_, rfl, isi_of (.bl b) (b := true) (by decide +kernel) ⟨_, rfl, iteT ⟨_, rfl, isi_of (.bl b) (b := true) (by decide +kernel) ⟨_, rfl, _, rfl, iteF k⟩⟩⟩⟩
    | int n =>
      refine ⟨_, rfl, isi_of (.int n) (b := true) (by decide +kernel) ⟨_, rfl, iteT ⟨_, rfl, isi_of (.int n) (b := false) (by decide +kernel) ⟨_, rfl, _, rfl, iteT ?_⟩⟩⟩⟩
      refine ⟨_, rfl, _, rfl, _, _, rfl, rfl, _, rfl, ?_⟩
      have k : Q (.bl (decide (lo ≤ n) && decide (n ≤ hi))) H := k
      refine ite2 (fun h1 => ?_) (fun h1 => ?_)
      · rw [h1, Bool.true_and] at k
        exact ⟨_, rfl, _, _, rfl, rfl, k⟩
      · rw [Bool.not_eq_true] at h1
        rw [h1, Bool.false_and] at k
        exact k
/-! #### is_rule -/
def N_is_rule : List Str := ["thing"]
theorem sc_is_rule : FnScope N_is_rule ["thing"] (defScope S_is_rule) := ⟨rfl, rfl, rfl, by decide +kernel, rfl, by decide +kernel, by decide +kernel⟩
def spIsRule : Sp := fun vs H Q _ => ∃ v r, vs = [v] ∧ RuleAt H v r ∧ (1 ≤ r.1 ∧ r.1 ≤ 8 ∧ 0 ≤ r.2.1 ∧ r.2.1 ≤ r.2.2 ∧ r.2.2 ≤ r.1) ∧ ∀ H', Same H H' → Q (.bl true) H'
theorem ok_is_rule (D : Dn K mg "is_rule" S_is_rule) (bf : Bf mg) (c_MOST_SPAN : ∃ t, mg "MOST_SPAN" = some (.int 8 t)) (C_is_from : Cl P w K mg base 1 "is_from" spIsFrom) : Cl P w K mg base 2 "is_rule" spIsRule := by
  refine D.ok sc_is_rule (fun vs H Q E h => ?_) (fun _ _ _ _ _ _ us hl => match us, hl with | [_], _ => rfl) (fun f cdv A outer s H vs Q E hr h => ?_)
  · obtain ⟨v, r, rfl, _⟩ := h; rfl
  · obtain ⟨v, r, rfl, ⟨a, rfl, ha⟩, ⟨r1, r2, r3, r4, r5⟩, k⟩ := h
    have nd := sc_is_rule.nd
    have hr_is_from := hr
    refine ⟨_, (pss_cons (ps_if (PW.pt (pw_or (pt_not (pt_val (pe_callB call_isi rfl bf.isinstance bt_isinstance (pa_cons (pv 0) (pa_cons (pe_bltn (v := .ty "tuple") rfl bf.tuple bt_tuple rfl) pa_nil))))) (pw_or (pt_cmpR op_ne (pe_callB call_len_seq rfl bf.len bt_len (pa_cons (pv 0) pa_nil)) pe_int (nomark _)) (pw_or1 (pt_not (pt_val (pe_callC C_is_from hr_is_from rfl (pa_cons (pe_ix ix_tup (pv 0) pe_int (fun _ _ => rfl)) (pa_cons pe_int (pa_cons (pe_gint rfl c_MOST_SPAN) pa_nil))))))))))
    (pss_one (ps_ret pe_bl))
    pss_nil)
    (pss_one (ps_ret (pe_and (pe_callC C_is_from hr_is_from rfl (pa_cons (pe_ix ix_tup (pv 0) pe_int (fun _ _ => rfl)) (pa_cons pe_int (pa_cons (pe_ix ix_tup (pv 0) pe_int (fun _ _ => rfl)) pa_nil)))) (pe_one (pe_callC C_is_from hr_is_from rfl (pa_cons (pe_ix ix_tup (pv 0) pe_int (fun _ _ => rfl)) (pa_cons pe_int (pa_cons (pe_ix ix_tup (pv 0) pe_int (fun _ _ => rfl)) pa_nil))))))))), ?_⟩
    have yes : ∀ {n lo hi : Int}, lo ≤ n → n ≤ hi → isFrom (.int n) lo hi = true := fun h1 h2 => by
      show (decide _ && decide _) = true
      rw [decide_eq_true h1, decide_eq_true h2]; rfl
    refine ⟨_, rfl, isi_of (.tup ha) (b := true) (by decide +kernel) ⟨_, rfl, iteF ?_⟩⟩
    refine ⟨_, rfl, a, _, rfl, .inr (SqT.of ha), rfl, _, rfl, iteNS rfl ?_⟩
    refine ⟨_, rfl, a, _, 0, .int r.1, rfl, rfl, SqT.of ha, rfl, _, _, _, _, rfl, .int _, _, rfl, ?_⟩
    rw [yes r1 r2]
    refine iteF ?_
    refine ⟨_, rfl, a, _, 2, .int r.2.2, rfl, rfl, SqT.of ha, rfl, _, rfl, a, _, 0, .int r.1, rfl, rfl, SqT.of ha, rfl, _, _, _, _, rfl, .int _, _, rfl, ?_⟩
    rw [yes (Int.le_trans r3 r4) r5]
    refine iteT ?_
    refine ⟨_, rfl, a, _, 1, .int r.2.1, rfl, rfl, SqT.of ha, rfl, _, rfl, a, _, 2, .int r.2.2, rfl, rfl, SqT.of ha, rfl, _, _, _, _, rfl, .int _, ?_⟩
    rw [yes r3 r4]
    exact k H (Same.refl H)
/-! #### are_rules -/
def N_are_rules : List Str := ["thing", "one", "other"]
theorem sc_are_rules : FnScope N_are_rules ["thing"] (defScope S_are_rules) := ⟨rfl, rfl, rfl, by decide +kernel, rfl, by decide +kernel, by decide +kernel⟩
def spAreRules : Sp := fun vs H Q _ => ∃ v rs, vs = [v] ∧ RulesAt H v rs ∧ RulesOk rs ∧ ∀ H', Same H H' → Q (.bl true) H'
theorem ok_are_rules (D : Dn K mg "are_rules" S_are_rules) (bf : Bf mg) (c_MOST_RULES : ∃ t, mg "MOST_RULES" = some (.int 5 t)) (C_is_rule : Cl P w K mg base 2 "is_rule" spIsRule) : Cl P w K mg base 3 "are_rules" spAreRules := by
  refine D.ok sc_are_rules (fun vs H Q E h => ?_) (fun _ _ _ _ _ _ us hl => match us, hl with | [_], _ => rfl) (fun f cdv A outer s H vs Q E hr h => ?_)
  · obtain ⟨v, rs, rfl, _⟩ := h; rfl
  · obtain ⟨v, rs, rfl, ⟨a, xs, rfl, ha, pr⟩, ok, k⟩ := h
    have nd := sc_are_rules.nd
    have hr_is_rule := hr
    refine ⟨_, (pss_cons (ps_if (PW.pt (pw_or (pt_not (pt_val (pe_callB call_isi rfl bf.isinstance bt_isinstance (pa_cons (pv 0) (pa_cons (pe_bltn (v := .ty "tuple") rfl bf.tuple bt_tuple rfl) pa_nil))))) (pw_or (pt_not (pt_chain op_le op_le pe_int (pe_callB call_len_seq rfl bf.len bt_len (pa_cons (pv 0) pa_nil)) (pe_gint rfl c_MOST_RULES))) (pw_or1 (pt_not (pt_val (pe_callB (cr_all rfl) rfl bf.all bt_all (pa_cons (pe_lc (own := [("one", 1)]) rfl nd (pi_tup (pv 0)) (blkOk_by (own := [("one", 1)]) (N := N_are_rules) (sc := defScope S_are_rules) (by decide +kernel)) (fun _ _ _ _ _ => (pg_name (i := 1) nd rfl (Or.inl rfl) (Or.inr rfl))) (fun _ _ _ _ _ => pts_nil) (fun _ _ _ _ _ => (pe_callC C_is_rule hr_is_rule rfl (pa_cons (pv 1) pa_nil)))) pa_nil))))))))
    (pss_one (ps_ret pe_bl))
    pss_nil)
    (pss_one (ps_ret (pe_callB (cr_all rfl) rfl bf.all bt_all (pa_cons (pe_lc (own := [("one", 1), ("other", 2)]) rfl nd (RZ.pi_zipA rfl bf.zip (pa_cons (pv 0) (pa_cons (pe_slice sl_tupA (pv 0) (po_some pe_int) po_none) pa_nil))) (blkOk_by (own := [("one", 1), ("other", 2)]) (N := N_are_rules) (sc := defScope S_are_rules) (by decide +kernel)) (fun _ _ _ _ _ => (pg_tupK (K := K) (n := 2) rfl rfl (pgs_cons (pg_name (i := 1) nd rfl (Or.inl rfl) (Or.inr rfl)) (pgs_cons (pg_name (i := 2) nd rfl (Or.inl rfl) (Or.inr rfl)) pgs_nil)))) (fun _ _ _ _ _ => pts_nil) (fun _ _ _ _ _ => (pe_cmpR op_lt (pe_ix (ix_tupK (K := K) rfl) (pv 1) pe_int (fun _ _ => rfl)) (pe_ix (ix_tupK (K := K) rfl) (pv 2) pe_int (fun _ _ => rfl)) (nomark _)))) pa_nil))))), ?_⟩
    have hl := Paired.len pr
    have h1 := List.length_pos_iff.mpr ok.some
    have h5 := ok.few
    refine ⟨_, rfl, isi_of (.tup ha) (b := true) (by decide +kernel) ⟨_, rfl, iteF ?_⟩⟩
    refine ⟨_, rfl, a, _, rfl, .inr (SqT.of ha), _, _, rfl, rfl, _, rfl, ?_⟩
    rw [decide_eq_true (show (1 : Int) ≤ (xs.length : Nat) by omega)]
    refine iteT ⟨_, _, rfl, rfl, _, rfl, ?_⟩
    rw [decide_eq_true (show ((xs.length : Nat) : Int) ≤ 5 by omega)]
    refine iteF ?_
    refine ⟨_, rfl, a, rfl, ⟨_, SqT.of ha⟩, fun L hL => lc_it (walk_tup (xs := xs)) (fun i H' => Same H H' ∧ H L = none ∧ H' L = some (.lst (List.replicate i (V.bl true)))) ⟨Same.new hL, hL, upd_same⟩ (fun i H' _ h => SqT.of (h.1 _ _ ha)) ?_ ?_⟩
    · rintro i x H1 H' hi ⟨sm, n0, hD⟩ ⟨rfl, hx⟩
      obtain ⟨r, hri, hrule⟩ := Paired.get pr hx
      refine ⟨rfl, tYes_ ?_⟩
      refine ⟨_, rfl, x, r, rfl, TupI.mono (TS.of sm) hrule, ok.one r (List.mem_of_getElem? hri), fun H2 sm2 => ?_⟩
      refine ⟨_, sm2 _ _ hD, szl (by rw [List.length_replicate]; omega), fun b o e => ?_, n0, ?_⟩
      · rw [upd_ne (ne_of_none e n0)]; exact sm2 _ _ (sm _ _ e)
      · rw [upd_same, ← List.replicate_succ']
    · rintro H' ⟨sm, n0, hD⟩
      refine ⟨L, List.replicate xs.length true, rfl, SqL.of (by rw [List.map_replicate]; exact hD), _, rfl, ?_⟩
      rw [show (List.replicate xs.length true).all id = true by rw [List.all_replicate]; simp]
      refine iteF ?_
      refine ⟨_, rfl, _, rfl, _, rfl, ?_⟩
      refine sl_fromN (k := 1) rfl (sm _ _ ha) fun q H2 sm2 hq => ?_
      have sm3 := sm.trans sm2
      refine ⟨a, q, xs, xs.drop 1, rfl, .inr ⟨SqT.of (sm3 _ _ ha), SqT.of hq, fun M hM => lc_it (walk_zipT rfl) (fun i H' => Same H2 H' ∧ H2 M = none ∧ H' M = some (.lst (List.replicate i (V.bl true)))) ⟨Same.new hM, hM, upd_same⟩ (fun i H' _ h => ⟨SqT.of (h.1 _ _ (sm3 _ _ ha)), SqT.of (h.1 _ _ hq)⟩) ?_ ?_⟩⟩
      · rintro i x H1 H4 hi ⟨s4, n4, hD4⟩ ⟨T, x1, x2, rfl, nT, rfl, e1, e2⟩
        have sT : Same H1 (upd H1 T (.tup [x1, x2])) := Same.new nT
        obtain ⟨r1, g1, b1, rfl, p1⟩ := Paired.get pr e1
        obtain ⟨r2, g2, b2, rfl, p2⟩ := Paired.get pr (show xs[1 + i]? = some x2 by rw [← List.getElem?_drop]; exact e2)
        have up : r1.1 < r2.1 := by
          have h1 := List.getElem?_eq_some_iff.mp g1
          have h2 := List.getElem?_eq_some_iff.mp g2
          obtain ⟨l1, rfl⟩ := h1
          obtain ⟨l2, rfl⟩ := h2
          exact List.pairwise_iff_getElem.mp ok.up i (1 + i) l1 l2 (by omega)
        refine ⟨T, _, rfl, SqT.of upd_same, rfl, _, _, rfl, _, _, rfl, rfl, rfl, tYes_ ?_⟩
        refine ⟨_, rfl, b1, _, 0, .int r1.1, rfl, rfl, SqT.of (sT _ _ (s4 _ _ (sm3 _ _ p1))), rfl, _, rfl, b2, _, 0, .int r2.1, rfl, rfl, SqT.of (sT _ _ (s4 _ _ (sm3 _ _ p2))), rfl, _, _, rfl, rfl, ?_⟩
        dsimp only
        rw [decide_eq_true up]
        refine ⟨_, sT _ _ hD4, szl (by rw [List.length_replicate]; have := Nat.min_le_left xs.length (xs.drop 1).length; omega), fun b o e => ?_, n4, ?_⟩
        · rw [upd_ne (ne_of_none e n4)]; exact sT _ _ (s4 _ _ e)
        · rw [upd_same, ← List.replicate_succ']
      · rintro H4 ⟨s4, n4, hD4⟩
        refine ⟨M, List.replicate _ true, rfl, SqL.of (by rw [List.map_replicate]; exact hD4), ?_⟩
        rw [List.all_replicate]
        have e : (if min xs.length (xs.drop 1).length = 0 then true else id true) = true := by split <;> rfl
        rw [e]
        exact k H4 (sm3.trans s4)
/-! #### need_rules -/
def N_need_rules : List Str := ["rules"]
theorem sc_need_rules : FnScope N_need_rules ["rules"] (defScope S_need_rules) := ⟨rfl, rfl, rfl, by decide +kernel, rfl, by decide +kernel, by decide +kernel⟩
def spNeedRules : Sp := fun vs H Q _ => ∃ v rs, vs = [v] ∧ RulesAt H v rs ∧ RulesOk rs ∧ ∀ H', Same H H' → Q .non H'
theorem ok_need_rules (D : Dn K mg "need_rules" S_need_rules) (C_are_rules : Cl P w K mg base 3 "are_rules" spAreRules) : Cl P w K mg base 4 "need_rules" spNeedRules := by
  refine D.ok sc_need_rules (fun vs H Q E h => ?_) (fun _ _ _ _ _ _ us hl => match us, hl with | [_], _ => rfl) (fun f cdv A outer s H vs Q E hr h => ?_)
  · obtain ⟨v, rs, rfl, _⟩ := h; rfl
  · obtain ⟨v, rs, rfl, hv, ok, k⟩ := h
    have nd := sc_need_rules.nd
    have hr_are_rules := hr
    refine ⟨_, (pss_one (ps_if (pt_not (pt_val (pe_callC C_are_rules hr_are_rules rfl (pa_cons (pv 0) pa_nil))))
    (pss_one ps_never)
    pss_nil)), ?_⟩
    exact ⟨_, rfl, v, rs, rfl, hv, ok, fun H' sm => ⟨_, rfl, iteF (k H' sm)⟩⟩
end
end An
-- imports: D2
/-! ### D3: ways_on -/
namespace An
open PySem L2
def freeP (rs : List Rule) (t : Row) (p : Int) : Bool := (brokenBy rs t p).isNone
def waysOn (rs : List Rule) (t : Row) : List (Int × Row) := (([0, 1] : List Int).filter (freeP rs t)).map fun p => (p, nextTail (wd rs) t p)
def WayAt (H : Hp) (v : V) (e : Int × Row) : Prop := ∃ a b, v = .ref a ∧ H a = some (.tup [.int e.1, .ref b]) ∧ H b = some (.tup (e.2.map V.int))
theorem WayAt.mono {H H' : Hp} {v : V} {e : Int × Row} (t : TS H H') (h : WayAt H v e) : WayAt H' v e := let ⟨a, b, e1, h1, h2⟩ := h; ⟨a, b, e1, t _ _ h1, t _ _ h2⟩
theorem OptRule.isN {H : Hp} {v : V} {o : Option Rule} (h : OptRule H v o) : decide (v = .non) = o.isNone := by
  cases o with
  | none => have e : v = .non := h; subst e; exact decide_eq_true rfl
  | some r => obtain ⟨a, e, _⟩ := h; subst e; exact decide_eq_false fun z => nomatch z
theorem filter_take {α : Type} (f : α → Bool) (l : List α) (i : Nat) (x : α) (h : l[i]? = some x) : (l.take (i + 1)).filter f = (l.take i).filter f ++ (if f x then [x] else []) := by
  rw [List.take_add_one, h, List.filter_append]
  congr 1
  cases e : f x
  · simp [e]
  · simp [e]
section
variable {P : Program} {w : World} {K : PySem.W.Frag} {mg : Str → Option Value} {base : Heap}
def N_ways_on : List Str := ["rules", "tail", "found", "place"]
theorem sc_ways_on : FnScope N_ways_on ["rules", "tail"] (defScope S_ways_on) := ⟨rfl, rfl, rfl, by decide +kernel, rfl, by decide +kernel, by decide +kernel⟩
def spWays : Sp := fun vs H Q _ => ∃ rv tv rs t, vs = [rv, tv] ∧ RulesAt H rv rs ∧ RulesOk rs ∧ TupI H tv t ∧ t.length ≤ 1000 ∧
  ∀ p H' xs, H p = none → Same H H' → H' p = some (.lst xs) → Paired (WayAt H') xs (waysOn rs t) → Q (.ref p) H'
def PvWays (rs : List Rule) (t : Row) (rv tv : V) (L c : Addr) (H : Hp) (i : Nat) (σ : L2.St) (H' : Hp) : Prop :=
  ∃ xs x3, Same H H' ∧ H L = none ∧ σ = [some rv, some tv, some (.ref L), x3] ∧ H' c = some (.tup [.int 0, .int 1]) ∧ H' L = some (.lst xs) ∧ Paired (WayAt H') xs (((([0, 1] : List Int).take i).filter (freeP rs t)).map fun p => (p, nextTail (wd rs) t p))
theorem ok_ways_on (D : Dn K mg "ways_on" S_ways_on) (bf : Bf mg) (C_broken_by : Cl P w K mg base 1 "broken_by" spBroken) (C_next_tail : Cl P w K mg base 1 "next_tail" spNext) (C_widest : Cl P w K mg base 1 "widest" spWidest) :
    Cl P w K mg base 2 "ways_on" spWays := by
  refine D.ok sc_ways_on (fun vs H Q E h => ?_) (fun _ _ _ _ _ _ us hl => match us, hl with | [_, _], _ => rfl) (fun f cdv A outer s H vs Q E hr h => ?_)
  · obtain ⟨rv, tv, rs, t, rfl, _⟩ := h; rfl
  · obtain ⟨rv, tv, rs, t, rfl, hR, ok, hT, hz, k⟩ := h
    have nd := sc_ways_on.nd
    have hr_broken_by := hr
    have hr_next_tail := hr
    have hr_widest := hr
    refine ⟨_, (pss_cons (ps_set (i := 2) nd rfl (Or.inl rfl) (pe_lst pa_nil))
    (pss_cons (ps_for PassesOwn.never rfl (pi_tup (pe_tup (pa_cons pe_int (pa_cons pe_int pa_nil)))) (pg_name (i := 3) nd rfl (Or.inl rfl))
    (pss_one (ps_if (pt_cmpR op_isN (pe_callC C_broken_by hr_broken_by rfl (pa_cons (pv 0) (pa_cons (pv 1) (pa_cons (pv 3) pa_nil)))) pe_non (nomark _))
    (pss_one (ps_expr (pe_bm PySem.F.plainAttrs_list PySem.F.slot_list_append PySem.F.type_list_append mt_append (pv 2) (pa_cons (pe_tup (pa_cons (pv 3) (pa_cons (pe_callC C_next_tail hr_next_tail rfl (pa_cons (pe_callC C_widest hr_widest rfl (pa_cons (pv 0) pa_nil)) (pa_cons (pv 1) (pa_cons (pv 3) pa_nil)))) pa_nil))) pa_nil))))
    pss_nil)))
    (pss_one (ps_ret (pv 2))))), ?_⟩
    refine ⟨sz (by show 0 ≤ 100000; decide), fun L hL => ?_⟩
    have s1 : Same H (upd H L (.lst [])) := Same.new hL
    refine ⟨sz (by show 2 ≤ 100000; decide), fun c hc => ?_⟩
    have s2 := s1.trans (Same.new (o := .tup [.int 0, .int 1]) hc)
    have hL2 : upd (upd H L (.lst [])) c (.tup [.int 0, .int 1]) L = some (.lst []) := by
      rw [upd_ne (ne_of_none upd_same hc)]; exact upd_same
    refine ⟨c, rfl, ⟨_, SqT.of upd_same⟩, for_tup (xs := [.int 0, .int 1]) (PvWays rs t rv tv L c H) ⟨[], none, s2, hL, rfl, upd_same, hL2, .nil⟩ (fun i σ H' _ ⟨_, _, _, _, _, h, _⟩ => SqT.of h) ?_ ?_⟩
    · rintro i x σ H' hi ⟨xs, x3, sm, hL0, rfl, hc', hL', pr⟩
      obtain ⟨p, hp, rfl⟩ : ∃ p : Int, ([0, 1] : List Int)[i]? = some p ∧ x = .int p := by
        match i, hi with
        | 0, h => cases h; exact ⟨0, rfl, rfl⟩
        | 1, h => cases h; exact ⟨1, rfl, rfl⟩
      have hl2 : i < 2 := (List.getElem?_eq_some_iff.mp hp).1
      have hxl : xs.length ≤ 2 := by
        rw [Paired.len pr, List.length_map]
        exact Nat.le_trans (List.length_filter_le _ _) (by rw [List.length_take]; exact Nat.min_le_right _ _)
      have hR' := RulesAt.mono (TS.of sm) hR
      have hT' := TupI.mono (TS.of sm) hT
      have ft := filter_take (freeP rs t) _ i p hp
      refine ⟨_, rfl, _, rfl, _, rfl, rv, tv, rs, t, p, rfl, hR', ok, hT', fun v H2 sm2 ov => ⟨rfl, _, rfl, ?_⟩⟩
      rw [OptRule.isN ov]
      have sm3 := sm.trans sm2
      refine ite2 (fun hf => ?_) (fun hf => ?_)
      · have hf' : freeP rs t p = true := hf
        have wide := ok.wide
        refine ⟨_, rfl, .inl ⟨rfl, _, SqL.of (sm2 _ _ hL')⟩, _, rfl, _, rfl, rv, rs, rfl, RulesAt.mono (TS.of sm2) hR', ok, _, rfl, _, rfl, tv, wd rs, t, p, rfl, TupI.mono (TS.of sm2) hT', hz, wide.1, wide.2, fun v3 H3 sm4 hv3 => ?_⟩
        obtain ⟨b, rfl, hb⟩ := hv3
        refine ⟨sz (by show 2 ≤ 100000; decide), fun q hq => ?_⟩
        have sq : Same H3 (upd H3 q (.tup [.int p, .ref b])) := Same.new hq
        have hL3 := sq _ _ (sm4 _ _ (sm2 _ _ hL'))
        have tq : TS (upd H3 q (.tup [.int p, .ref b])) (upd (upd H3 q (.tup [.int p, .ref b])) L (.lst (xs ++ [.ref q]))) := TS.lst hL3
        refine ⟨L, xs, _, rfl, rfl, hL3, szl (by omega), xs ++ [.ref q], _, fun z o e => ?_, hL0, rfl, tq _ _ (sq _ _ (sm4 _ _ (sm2 _ _ hc'))), upd_same, ?_⟩
        · rw [upd_ne (ne_of_none e hL0)]; exact sq _ _ (sm4 _ _ (sm3 _ _ e))
        · rw [ft, hf', if_pos rfl, List.map_append]
          refine Paired.snoc1 (Paired.mp pr fun _ _ z => WayAt.mono (TS.trans (TS.of (sm2.trans (sm4.trans sq))) tq) z) ⟨q, b, rfl, tq _ _ upd_same, tq _ _ (sq _ _ hb)⟩
      · have hf' : freeP rs t p = false := by rw [Bool.not_eq_true] at hf; exact hf
        refine ⟨xs, _, sm3, hL0, rfl, sm2 _ _ hc', sm2 _ _ hL', ?_⟩
        rw [ft, hf', if_neg Bool.false_ne_true, List.append_nil]
        exact Paired.mp pr fun _ _ z => WayAt.mono (TS.of sm2) z
    · rintro σ H' ⟨xs, x3, sm, hL0, rfl, hc', hL', pr⟩
      exact ⟨_, rfl, k L H' xs hL0 sm hL' pr⟩
end
end An
-- imports: D3
/-! ### M1: what can follow some last places, in plain Lean -/
namespace An
open PySem L2
def succs (rs : List Rule) (t : Row) : List Row := (waysOn rs t).map (fun e => e.2)
/-- whether n places can follow -/
def ext (rs : List Rule) : Nat → Row → Bool
  | 0, _ => true
  | n + 1, t => (succs rs t).any (ext rs n)
theorem ext_pred (rs : List Rule) : ∀ (n : Nat) (t : Row), ext rs (n + 1) t = true → ext rs n t = true
  | 0, _, _ => rfl
  | n + 1, t, h => by
    obtain ⟨u, hu, e⟩ := List.any_eq_true.mp (show (succs rs t).any (ext rs (n + 1)) = true from h)
    exact List.any_eq_true.mpr ⟨u, hu, ext_pred rs n u e⟩
theorem ext_le (rs : List Rule) {n : Nat} (t : Row) (h : ext rs n t = true) : ∀ {m : Nat}, m ≤ n → ext rs m t = true := by
  induction n with
  | zero => intro m hm; rw [Nat.le_zero.mp hm]; rfl
  | succ n ih =>
    intro m hm
    rcases Nat.lt_or_ge m (n + 1) with z | z
    · exact ih (ext_pred rs n t h) (Nat.le_of_lt_succ z)
    · rw [Nat.le_antisymm hm z]; exact h
def IsRk (rs : List Rule) (t : Row) (n : Nat) : Prop := ext rs n t = true ∧ ext rs (n + 1) t = false
theorem IsRk.uniq {rs : List Rule} {t : Row} {n m : Nat} (a : IsRk rs t n) (b : IsRk rs t m) : n = m := by
  rcases Nat.lt_trichotomy n m with z | z | z
  · have := ext_le rs t b.1 z
    rw [a.2] at this; cases this
  · exact z
  · have := ext_le rs t a.1 z
    rw [b.2] at this; cases this
theorem IsRk.not_inf {rs : List Rule} {t : Row} {n : Nat} (a : IsRk rs t n) (h : ∀ n, ext rs n t = true) : False := by
  have := h (n + 1)
  rw [a.2] at this; cases this
/-- the rank by those of what comes -/
theorem IsRk.of_succs {rs : List Rule} {t : Row} {r : Row → Nat} {m : Nat} (h : ∀ u ∈ succs rs t, IsRk rs u (r u)) (h0 : succs rs t = [] → m = 0) (h1 : ∀ u ∈ succs rs t, r u + 1 ≤ m) (h2 : succs rs t ≠ [] → ∃ u ∈ succs rs t, m = r u + 1) : IsRk rs t m := by
  by_cases e : succs rs t = []
  · rw [h0 e]
    exact ⟨rfl, by show (succs rs t).any _ = false; rw [e]; rfl⟩
  · obtain ⟨u, hu, rfl⟩ := h2 e
    refine ⟨List.any_eq_true.mpr ⟨u, hu, (h u hu).1⟩, ?_⟩
    show (succs rs t).any _ = false
    rw [List.any_eq_false]
    intro v hv hx
    have l := h1 v hv
    have q := ext_le rs v hx (show r v + 1 ≤ r u + 1 by omega)
    rw [(h v hv).2] at q; cases q
theorem ext_inf {rs : List Rule} (S : Row → Prop) (h : ∀ t, S t → ∃ u ∈ succs rs t, S u) : ∀ (n : Nat) (t : Row), S t → ext rs n t = true
  | 0, _, _ => rfl
  | n + 1, t, ht => by
    obtain ⟨u, hu, su⟩ := h t ht
    exact List.any_eq_true.mpr ⟨u, hu, ext_inf S h n u su⟩
inductive Reach (rs : List Rule) (t0 : Row) : Row → Prop where
  | refl : Reach rs t0 t0
  | step {u v : Row} : Reach rs t0 u → v ∈ succs rs u → Reach rs t0 v
theorem Reach.trans {rs : List Rule} {a b c : Row} (h : Reach rs a b) (k : Reach rs b c) : Reach rs a c := by
  induction k with
  | refl => exact h
  | step _ hv ih => exact .step ih hv
/-- last places that count -/
def TailOk (rs : List Rule) (t : Row) : Prop := (∀ x ∈ t, x = 0 ∨ x = 1) ∧ (t.length : Int) + 1 ≤ wd rs
theorem mem_ways {rs : List Rule} {t : Row} {e : Int × Row} : e ∈ waysOn rs t ↔ (e.1 = 0 ∨ e.1 = 1) ∧ freeP rs t e.1 = true ∧ e.2 = nextTail (wd rs) t e.1 := by
  unfold waysOn
  constructor
  · intro h
    obtain ⟨p, hp, rfl⟩ := List.mem_map.mp h
    obtain ⟨h1, h2⟩ := List.mem_filter.mp hp
    exact ⟨by simpa using h1, h2, rfl⟩
  · rintro ⟨h1, h2, h3⟩
    exact List.mem_map.mpr ⟨e.1, List.mem_filter.mpr ⟨by simpa using h1, h2⟩, by rw [← h3]⟩
theorem mem_succs {rs : List Rule} {t u : Row} : u ∈ succs rs t ↔ ∃ p : Int, (p = 0 ∨ p = 1) ∧ freeP rs t p = true ∧ u = nextTail (wd rs) t p := by
  unfold succs
  constructor
  · intro h
    obtain ⟨e, he, rfl⟩ := List.mem_map.mp h
    exact ⟨e.1, mem_ways.mp he⟩
  · rintro ⟨p, h⟩
    exact List.mem_map.mpr ⟨(p, u), mem_ways.mpr h, rfl⟩
theorem nextTail_ok {rs : List Rule} {t : Row} {p : Int} (ok : RulesOk rs) (h : TailOk rs t) (hp : p = 0 ∨ p = 1) : TailOk rs (nextTail (wd rs) t p) := by
  have w := ok.wide
  unfold nextTail
  refine ⟨fun x hx => ?_, ?_⟩
  · have hx := List.mem_of_mem_drop hx
    rcases List.mem_append.mp hx with z | z
    · exact h.1 x z
    · rw [List.mem_singleton.mp z]; exact hp
  · rw [List.length_drop, List.length_append, List.length_singleton]
    have := h.2
    omega
theorem Reach.ok {rs : List Rule} {t0 u : Row} (ok : RulesOk rs) (h0 : TailOk rs t0) (h : Reach rs t0 u) : TailOk rs u := by
  induction h with
  | refl => exact h0
  | step _ hv ih =>
    obtain ⟨p, hp, _, rfl⟩ := mem_succs.mp hv
    exact nextTail_ok ok ih hp
theorem succs_len (rs : List Rule) (t : Row) : (succs rs t).length ≤ 2 := by
  unfold succs waysOn
  rw [List.length_map, List.length_map]
  exact Nat.le_trans (List.length_filter_le _ _) (Nat.le_refl _)
/-! #### how many there are -/
def bitRows : Nat → List Row
  | 0 => [[]]
  | n + 1 => (bitRows n).flatMap fun r => [0 :: r, 1 :: r]
theorem mem_bitRows : ∀ (t : Row), (∀ x ∈ t, x = 0 ∨ x = 1) → t ∈ bitRows t.length
  | [], _ => List.mem_singleton.mpr rfl
  | x :: t, h => by
    show x :: t ∈ (bitRows t.length).flatMap _
    refine List.mem_flatMap.mpr ⟨t, mem_bitRows t fun y hy => h y (List.mem_cons_of_mem _ hy), ?_⟩
    rcases h x List.mem_cons_self with z | z
    · rw [z]; exact List.mem_cons_self
    · rw [z]; exact List.mem_cons_of_mem _ List.mem_cons_self
def allTails : List Row := (List.range 8).flatMap bitRows
theorem allTails_len : allTails.length = 255 := by decide +kernel
theorem mem_allTails {rs : List Rule} {t : Row} (ok : RulesOk rs) (h : TailOk rs t) : t ∈ allTails := by
  have w := ok.wide
  have := h.2
  exact List.mem_flatMap.mpr ⟨t.length, List.mem_range.mpr (by omega), mem_bitRows t h.1⟩
theorem nodup_le {α : Type} [DecidableEq α] : ∀ (l m : List α), l.Nodup → (∀ x ∈ l, x ∈ m) → l.length ≤ m.length
  | [], _, _, _ => Nat.zero_le _
  | a :: l, m, h, hs => by
    obtain ⟨h1, h2⟩ := List.nodup_cons.mp h
    have ha := hs a List.mem_cons_self
    have q := nodup_le l (m.erase a) h2 fun x hx => by
      have ne : x ≠ a := fun e => h1 (e ▸ hx)
      exact (List.mem_erase_of_ne ne).mpr (hs x (List.mem_cons_of_mem _ hx))
    rw [List.length_erase_of_mem ha] at q
    have : 0 < m.length := List.length_pos_of_mem ha
    rw [List.length_cons]; omega
/-! #### tables by last places -/
def key (u : Row) : List Key := u.map Sum.inl
theorem key_map (u : Row) : (key u).map kV = u.map V.int := by
  unfold key; rw [List.map_map]; rfl
theorem key_inj : ∀ {u v : Row}, key u = key v → u = v
  | [], [], _ => rfl
  | [], _ :: _, h => by cases h
  | _ :: _, [], h => by cases h
  | a :: u, b :: v, h => by
    injection h with h1 h2
    injection h1 with h1
    rw [h1, key_inj h2]
end An
-- imports: M1
/-! ### M2: all that comes, and the ranks: the states of both loops, in plain Lean -/
namespace An
open PySem L2
abbrev Lt := List (Row × List Row)
abbrev ks {α : Type} (l : List (Row × α)) : List Row := l.map (fun e => e.1)
theorem ks_snoc {α : Type} (l : List (Row × α)) (e : Row × α) : ks (l ++ [e]) = ks l ++ [e.1] := by simp [ks]
theorem nodup_snoc {α : Type} {l : List α} {a : α} (h : l.Nodup) (n : a ∉ l) : (l ++ [a]).Nodup := by
  rw [List.nodup_append]
  exact ⟨h, List.nodup_cons.mpr ⟨List.not_mem_nil, List.nodup_nil⟩, fun x hx y hy e => n (by rw [List.mem_singleton.mp hy] at e; rw [← e]; exact hx)⟩
structure Bfs (rs : List Rule) (t0 : Row) (ln : List Row) (i : Nat) (lat : Lt) : Prop where
  le : i ≤ ln.length
  nd : (ks lat).Nodup
  val : ∀ e ∈ lat, e.2 = succs rs e.1
  inl : ∀ u ∈ ks lat, u ∈ ln
  reach : ∀ u ∈ ln, Reach rs t0 u
  done : ∀ (j : Nat) (u : Row), j < i → ln[j]? = some u → u ∈ ks lat
  sub : ∀ e ∈ lat, ∀ u ∈ e.2, u ∈ ln
  beg : ln[0]? = some t0
  len : ln.length ≤ 1 + 2 * lat.length
theorem Bfs.start (rs : List Rule) (t0 : Row) : Bfs rs t0 [t0] 0 [] := by
  refine ⟨Nat.zero_le _, List.nodup_nil, fun e h => (by cases h), fun u h => (by cases h), fun u h => ?_, fun j u h => absurd h (Nat.not_lt_zero _), fun e h => (by cases h), rfl, Nat.le_refl _⟩
  rw [List.mem_singleton.mp h]; exact .refl
section
variable {rs : List Rule} {t0 u : Row} {ln : List Row} {i : Nat} {lat : Lt}
theorem Bfs.old (b : Bfs rs t0 ln i lat) (h : ln[i]? = some u) (m : u ∈ ks lat) : Bfs rs t0 ln (i + 1) lat := by
  have hi := (List.getElem?_eq_some_iff.mp h).1
  refine ⟨hi, b.nd, b.val, b.inl, b.reach, fun j v hj hv => ?_, b.sub, b.beg, b.len⟩
  by_cases e : j = i
  · subst e; rw [h] at hv; cases hv; exact m
  · exact b.done j v (by omega) hv
theorem Bfs.new (b : Bfs rs t0 ln i lat) (h : ln[i]? = some u) (m : u ∉ ks lat) : Bfs rs t0 (ln ++ succs rs u) (i + 1) (lat ++ [(u, succs rs u)]) := by
  have hi := (List.getElem?_eq_some_iff.mp h).1
  have hu : u ∈ ln := List.mem_of_getElem? h
  refine ⟨by rw [List.length_append]; omega, ?_, fun e he => ?_, fun v hv => ?_, fun v hv => ?_, fun j v hj hv => ?_, fun e he v hv => ?_, ?_, ?_⟩
  · rw [ks_snoc]; exact nodup_snoc b.nd m
  · rcases List.mem_append.mp he with z | z
    · exact b.val e z
    · rw [List.mem_singleton.mp z]
  · rw [ks_snoc] at hv
    rcases List.mem_append.mp hv with z | z
    · exact List.mem_append_left _ (b.inl v z)
    · rw [List.mem_singleton.mp z]; exact List.mem_append_left _ hu
  · rcases List.mem_append.mp hv with z | z
    · exact b.reach v z
    · exact .step (b.reach u hu) z
  · rw [List.getElem?_append_left (by omega)] at hv
    rw [ks_snoc]
    by_cases e : j = i
    · subst e; rw [h] at hv; cases hv; exact List.mem_append_right _ (List.mem_singleton.mpr rfl)
    · exact List.mem_append_left _ (b.done j v (by omega) hv)
  · rcases List.mem_append.mp he with z | z
    · exact List.mem_append_left _ (b.sub e z v hv)
    · rw [List.mem_singleton.mp z] at hv; exact List.mem_append_right _ hv
  · rw [List.getElem?_append_left (by omega)]; exact b.beg
  · have := b.len
    have := succs_len rs u
    rw [List.length_append, List.length_append, List.length_singleton]; omega
theorem Bfs.few (b : Bfs rs t0 ln i lat) (ok : RulesOk rs) (h0 : TailOk rs t0) : lat.length ≤ 255 := by
  have q := nodup_le (ks lat) allTails b.nd fun x hx => mem_allTails ok (Reach.ok ok h0 (b.reach x (b.inl x hx)))
  rw [allTails_len, List.length_map] at q
  exact q
end
/-- all that comes, each with what comes next -/
structure Closed (rs : List Rule) (t0 : Row) (lat : Lt) : Prop where
  nd : (ks lat).Nodup
  val : ∀ e ∈ lat, e.2 = succs rs e.1
  beg : t0 ∈ ks lat
  sub : ∀ e ∈ lat, ∀ u ∈ e.2, u ∈ ks lat
  few : lat.length ≤ 255
theorem Bfs.closed {rs : List Rule} {t0 : Row} {ln : List Row} {lat : Lt} (b : Bfs rs t0 ln ln.length lat) (ok : RulesOk rs) (h0 : TailOk rs t0) : Closed rs t0 lat := by
  have all : ∀ u ∈ ln, u ∈ ks lat := fun u hu => by
    obtain ⟨j, hj, e⟩ := List.getElem_of_mem hu
    exact b.done j u hj (by rw [List.getElem?_eq_getElem hj, e])
  exact ⟨b.nd, b.val, all _ (List.mem_of_getElem? b.beg), fun e he u hu => all u (b.sub e he u hu), b.few ok h0⟩
theorem Closed.reach {rs : List Rule} {t0 u : Row} {lat : Lt} (c : Closed rs t0 lat) (h : Reach rs t0 u) : u ∈ ks lat := by
  induction h with
  | refl => exact c.beg
  | step _ hv ih =>
    obtain ⟨e, he, rfl⟩ := List.mem_map.mp ih
    exact c.sub e he _ (by rw [c.val e he]; exact hv)
/-! #### ranks -/
abbrev Rk := List (Row × Nat)
structure RkOk (rs : List Rule) (lat : Lt) (rk : Rk) : Prop where
  nd : (ks rk).Nodup
  sub : ∀ u ∈ ks rk, u ∈ ks lat
  val : ∀ e ∈ rk, IsRk rs e.1 e.2
  lt : ∀ e ∈ rk, e.2 < rk.length
theorem RkOk.start (rs : List Rule) (lat : Lt) : RkOk rs lat [] :=
  ⟨List.nodup_nil, fun u h => (by cases h), fun e h => (by cases h), fun e h => (by cases h)⟩
def rkOf (rk : Rk) (u : Row) : Nat := ((rk.find? fun e => decide (e.1 = u)).map (fun e => e.2)).getD 0
theorem rkOf_mem : ∀ {rk : Rk} {u : Row}, u ∈ ks rk → (u, rkOf rk u) ∈ rk
  | [], _, h => by cases h
  | e :: r, u, h => by
    unfold rkOf
    by_cases q : e.1 = u
    · rw [List.find?_cons_of_pos (by simpa using q)]
      show (u, e.2) ∈ e :: r
      rw [← q]; exact List.mem_cons_self
    · rw [List.find?_cons_of_neg (by simpa using q)]
      have hm : u ∈ ks r := by
        rcases List.mem_cons.mp h with z | z
        · exact absurd z.symm q
        · exact z
      exact List.mem_cons_of_mem _ (rkOf_mem hm)
section
variable {rs : List Rule} {t0 u : Row} {lat : Lt} {rk : Rk}
theorem RkOk.at (r : RkOk rs lat rk) (h : u ∈ ks rk) : IsRk rs u (rkOf rk u) ∧ rkOf rk u < rk.length := ⟨r.val _ (rkOf_mem h), r.lt _ (rkOf_mem h)⟩
theorem RkOk.le (r : RkOk rs lat rk) : rk.length ≤ lat.length := by
  have q := nodup_le (ks rk) (ks lat) r.nd r.sub
  rw [List.length_map, List.length_map] at q; exact q
theorem RkOk.new {m : Nat} (r : RkOk rs lat rk) (hl : u ∈ ks lat) (hn : u ∉ ks rk) (hs : ∀ v ∈ succs rs u, v ∈ ks rk) (h0 : succs rs u = [] → m = 0) (h1 : ∀ v ∈ succs rs u, rkOf rk v + 1 ≤ m) (h2 : succs rs u ≠ [] → ∃ v ∈ succs rs u, m = rkOf rk v + 1) :
    RkOk rs lat (rk ++ [(u, m)]) := by
  have hm : m ≤ rk.length := by
    by_cases e : succs rs u = []
    · rw [h0 e]; exact Nat.zero_le _
    · obtain ⟨v, hv, rfl⟩ := h2 e
      exact (r.at (hs v hv)).2
  refine ⟨by rw [ks_snoc]; exact nodup_snoc r.nd hn, fun v hv => ?_, fun e he => ?_, fun e he => ?_⟩
  · rw [ks_snoc] at hv
    rcases List.mem_append.mp hv with z | z
    · exact r.sub v z
    · rw [List.mem_singleton.mp z]; exact hl
  · rcases List.mem_append.mp he with z | z
    · exact r.val e z
    · rw [List.mem_singleton.mp z]
      exact IsRk.of_succs (r := rkOf rk) (fun v hv => (r.at (hs v hv)).1) h0 h1 h2
  · rw [List.length_append, List.length_singleton]
    rcases List.mem_append.mp he with z | z
    · have := r.lt e z; omega
    · rw [List.mem_singleton.mp z]
      show m < _
      omega
/-- where a whole turn told nothing new, what is left out goes on for ever -/
theorem RkOk.inf (r : RkOk rs lat rk) (c : Closed rs t0 lat) (h : ∀ e ∈ lat, e.1 ∈ ks rk ∨ ∃ v ∈ e.2, v ∉ ks rk) {u : Row} (hu : u ∈ ks lat) (hn : u ∉ ks rk) : ∀ n, ext rs n u = true := fun n => by
  refine ext_inf (fun t => t ∈ ks lat ∧ t ∉ ks rk) (fun t ht => ?_) n u ⟨hu, hn⟩
  obtain ⟨e, he, rfl⟩ := List.mem_map.mp ht.1
  rcases h e he with z | ⟨v, hv, nv⟩
  · exact absurd z ht.2
  · exact ⟨v, by rw [← c.val e he]; exact hv, c.sub e he v hv, nv⟩
end
/-- what the ranks tell -/
structure RanksOk (rs : List Rule) (t0 : Row) (rk : Rk) : Prop where
  nd : (ks rk).Nodup
  val : ∀ e ∈ rk, IsRk rs e.1 e.2
  lt : ∀ e ∈ rk, e.2 < 255
  inf : ∀ u, Reach rs t0 u → u ∉ ks rk → ∀ n, ext rs n u = true
  few : rk.length ≤ 255
theorem RkOk.fin {rs : List Rule} {t0 : Row} {lat : Lt} {rk : Rk} (r : RkOk rs lat rk) (c : Closed rs t0 lat) (h : ∀ e ∈ lat, e.1 ∈ ks rk ∨ ∃ v ∈ e.2, v ∉ ks rk) : RanksOk rs t0 rk :=
  ⟨r.nd, r.val, fun e he => by have := r.lt e he; have := r.le; have := c.few; omega, fun u hu hn => r.inf c h (c.reach hu) hn, by have := r.le; have := c.few; omega⟩
/-! #### as dicts -/
def encR (rk : Rk) : List (List Key × V) := rk.map fun e => (key e.1, V.int (e.2 : Nat))
theorem valV_enc {α : Type} (f : α → V) : ∀ (l : List (Row × α)) (u : Row), valV (l.map fun e => (key e.1, f e.2)) (key u) = (l.find? fun e => decide (e.1 = u)).map fun e => f e.2
  | [], _ => rfl
  | e :: r, u => by
    rw [List.map_cons]
    by_cases q : e.1 = u
    · rw [valV_pos (by show key e.1 = key u; rw [q]), List.find?_cons_of_pos (by simpa using q)]; rfl
    · rw [valV_neg (fun z => q (key_inj z)), List.find?_cons_of_neg (by simpa using q)]; exact valV_enc f r u
theorem encR_some {rk : Rk} {u : Row} (h : u ∈ ks rk) : valV (encR rk) (key u) = some (.int (rkOf rk u : Nat)) := by
  unfold encR
  rw [valV_enc fun n : Nat => V.int n]
  unfold rkOf
  cases q : rk.find? fun e => decide (e.1 = u) with
  | none =>
    obtain ⟨e, he, rfl⟩ := List.mem_map.mp h
    have := List.find?_eq_none.mp q e he
    simp at this
  | some e => rfl
theorem encR_none {rk : Rk} {u : Row} (h : u ∉ ks rk) : valV (encR rk) (key u) = none := by
  unfold encR
  rw [valV_enc fun n : Nat => V.int n]
  have : rk.find? (fun e => decide (e.1 = u)) = none := List.find?_eq_none.mpr fun e he q => h (by
    rw [← of_decide_eq_true q]; exact List.mem_map.mpr ⟨e, he, rfl⟩)
  rw [this]; rfl
theorem encR_isSome (rk : Rk) (u : Row) : (valV (encR rk) (key u)).isSome = decide (u ∈ ks rk) := by
  by_cases h : u ∈ ks rk
  · rw [encR_some h, decide_eq_true h]; rfl
  · rw [encR_none h, decide_eq_false h]; rfl
/-- a dict from last places to lists of such -/
def LatE (H : Hp) (L : Addr) (kv : List Key × V) (e : Row × List Row) : Prop := kv.1 = key e.1 ∧ ∃ l, kv.2 = .ref l ∧ l ≠ L ∧ LstAt H (TupI H) l e.2
theorem latV {H : Hp} {L : Addr} : ∀ {kvs : List (List Key × V)} {lat : Lt} (u : Row), Paired (LatE H L) kvs lat → (u ∉ ks lat ∧ valV kvs (key u) = none) ∨ ∃ kv e, e ∈ lat ∧ e.1 = u ∧ LatE H L kv e ∧ valV kvs (key u) = some kv.2
  | _, _, u, .nil => .inl ⟨List.not_mem_nil, rfl⟩
  | _, _, u, .cons (a := kv) (b := e) (l₁ := r) (l₂ := m) h t => by
    by_cases q : e.1 = u
    · exact .inr ⟨kv, e, List.mem_cons_self, q, h, valV_pos (by rw [h.1, q])⟩
    · have ne : ¬ kv.1 = key u := fun z => q (key_inj (by rw [← z]; exact h.1.symm))
      rw [valV_neg ne]
      rcases latV u t with ⟨h1, h2⟩ | ⟨kv', e', h1, h2, h3, h4⟩
      · refine .inl ⟨fun hm => ?_, h2⟩
        rcases List.mem_cons.mp hm with z | z
        · exact q z.symm
        · exact h1 z
      · exact .inr ⟨kv', e', List.mem_cons_of_mem _ h1, h2, h3, h4⟩
theorem LatE.mono {H H' : Hp} {L : Addr} {kv : List Key × V} {e : Row × List Row} (x : LTS H H') (h : LatE H L kv e) : LatE H' L kv e :=
  let ⟨h1, l, h2, h3, h4⟩ := h; ⟨h1, l, h2, h3, LstAt.mono (R := TupI) x (fun _ _ z => TupI.mono x.ts z) h4⟩
/-- where only the list at L changes -/
theorem LatE.but {H H' : Hp} {L : Addr} {kv : List Key × V} {e : Row × List Row} (x : ∀ b o, b ≠ L → ((∃ xs, o = .lst xs) ∨ ∃ xs, o = .tup xs) → H b = some o → H' b = some o) (t : TS H H') (h : LatE H L kv e) : LatE H' L kv e :=
  let ⟨h1, l, h2, h3, xs, h4, h5⟩ := h; ⟨h1, l, h2, h3, xs, x l _ h3 (.inl ⟨xs, rfl⟩) h4, Paired.mp h5 fun _ _ z => TupI.mono t z⟩
end An
-- imports: M2
/-! ### MR: the first of the longest rows, in plain Lean -/
namespace An
open PySem L2
/-- one step of the first of the longest rows: 0 where that is as long, else 1 -/
def rowStep (rs : List Rule) (n : Nat) (t : Row) : Int := if freeP rs t 0 = true ∧ ext rs n (nextTail (wd rs) t 0) = true then 0 else 1
def rowFrom (rs : List Rule) : Nat → Row → Row
  | 0, _ => []
  | n + 1, t => rowStep rs n t :: rowFrom rs n (nextTail (wd rs) t (rowStep rs n t))
/-- of a rank that is not nought: some step leads on, to one less; and no step leads to more -/
theorem IsRk.step {rs : List Rule} {t : Row} {n : Nat} (h : IsRk rs t (n + 1)) : (freeP rs t (rowStep rs n t) = true ∧ IsRk rs (nextTail (wd rs) t (rowStep rs n t)) n) ∧ (rowStep rs n t = 0 ∨ rowStep rs n t = 1) := by
  have no : ∀ p : Int, (p = 0 ∨ p = 1) → freeP rs t p = true → ext rs (n + 1) (nextTail (wd rs) t p) = false := fun p hp hf => by
    cases e : ext rs (n + 1) (nextTail (wd rs) t p)
    · rfl
    · have : ext rs (n + 2) t = true := List.any_eq_true.mpr ⟨_, mem_succs.mpr ⟨p, hp, hf, rfl⟩, e⟩
      rw [h.2] at this; cases this
  unfold rowStep
  by_cases c : freeP rs t 0 = true ∧ ext rs n (nextTail (wd rs) t 0) = true
  · rw [if_pos c]
    exact ⟨⟨c.1, c.2, no 0 (.inl rfl) c.1⟩, .inl rfl⟩
  · rw [if_neg c]
    obtain ⟨u, hu, e⟩ := List.any_eq_true.mp (show (succs rs t).any (ext rs n) = true from h.1)
    obtain ⟨p, hp, hf, rfl⟩ := mem_succs.mp hu
    rcases hp with rfl | rfl
    · exact absurd ⟨hf, e⟩ c
    · exact ⟨⟨hf, e, no 1 (.inr rfl) hf⟩, .inr rfl⟩
theorem rowFrom_len (rs : List Rule) : ∀ (n : Nat) (t : Row), (rowFrom rs n t).length = n
  | 0, _ => rfl
  | n + 1, t => by show (_ :: rowFrom rs n _).length = n + 1; rw [List.length_cons, rowFrom_len rs n]
end An
-- imports: M2
/-! ### D4: ranks_from -/
namespace An
open PySem L2
section
variable {P : Program} {w : World} {K : PySem.W.Frag} {mg : Str → Option Value} {base : Heap}
def N_ranks_from : List Str := ["rules", "begin", "line", "later", "at", "place", "there", "ranks", "going", "tail", "nexts_so"]
theorem sc_ranks_from : FnScope N_ranks_from ["rules", "begin"] (defScope S_ranks_from) := ⟨rfl, rfl, rfl, by decide +kernel, rfl, by decide +kernel, by decide +kernel⟩
def spRanks : Sp := fun vs H Q _ => ∃ rv tv rs t, vs = [rv, tv] ∧ RulesAt H rv rs ∧ RulesOk rs ∧ TupI H tv t ∧ TailOk rs t ∧
  ∀ p H' rk, H p = none → Same H H' → H' p = some (.dT (encR rk)) → RanksOk rs t rk → Q (.ref p) H'
/-- between two turns of the first while -/
structure P1 (rs : List Rule) (t : Row) (H : Hp) (L D : Addr) (H' : Hp) (ln : List Row) (i : Nat) (lat : Lt) (vs : List V) (kvs : List (List Key × V)) : Prop where
  sm : Same H H'
  nL : H L = none
  nD : H D = none
  hL : H' L = some (.lst vs)
  pL : Paired (TupI H') vs ln
  hD : H' D = some (.dT kvs)
  pD : Paired (LatE H' L) kvs lat
  bf : Bfs rs t ln i lat
theorem P1.same {rs : List Rule} {t : Row} {H : Hp} {L D : Addr} {H1 H2 : Hp} {ln : List Row} {i : Nat} {lat : Lt} {vs : List V} {kvs : List (List Key × V)} (h : P1 rs t H L D H1 ln i lat vs kvs) (e : Same H1 H2) : P1 rs t H L D H2 ln i lat vs kvs :=
  ⟨h.sm.trans e, h.nL, h.nD, e _ _ h.hL, Paired.mp h.pL fun _ _ z => TupI.mono (TS.of e) z, e _ _ h.hD, Paired.mp h.pD fun _ _ z => LatE.mono (LTS.of e) z, h.bf⟩
def W1 (rs : List Rule) (t : Row) (H : Hp) (rv tv : V) (L D : Addr) (m : Nat) (σ : L2.St) (H' : Hp) : Prop :=
  ∃ ln i lat vs kvs x5 x6 x7 x8 x9 x10, σ = [some rv, some tv, some (.ref L), some (.ref D), some (.int (i : Nat)), x5, x6, x7, x8, x9, x10] ∧ P1 rs t H L D H' ln i lat vs kvs ∧ m = 3 * (255 - lat.length) + (ln.length - i)
/-- the second while: R the ranks, D what comes (locked within the for) -/
structure P2 (rs : List Rule) (t : Row) (H : Hp) (L D R : Addr) (uD : HO) (H' : Hp) (lat : Lt) (kvs : List (List Key × V)) (rk : Rk) : Prop where
  sm : Same H H'
  nD : H D = none
  nR : H R = none
  ne : R ≠ D
  hD : H' D = some uD
  pD : Paired (LatE H' L) kvs lat
  hR : H' R = some (.dT (encR rk))
  ok : RkOk rs lat rk
theorem P2.same {rs : List Rule} {t : Row} {H : Hp} {L D R : Addr} {uD : HO} {H1 H2 : Hp} {lat : Lt} {kvs : List (List Key × V)} {rk : Rk} (h : P2 rs t H L D R uD H1 lat kvs rk) (e : Same H1 H2) : P2 rs t H L D R uD H2 lat kvs rk :=
  ⟨h.sm.trans e, h.nD, h.nR, h.ne, e _ _ h.hD, Paired.mp h.pD fun _ _ z => LatE.mono (LTS.of e) z, e _ _ h.hR, h.ok⟩
def told (lat : Lt) (rk : Rk) : Prop := ∀ e ∈ lat, e.1 ∈ ks rk ∨ ∃ v ∈ e.2, v ∉ ks rk
def W2 (rs : List Rule) (t : Row) (H : Hp) (rv tv : V) (L D R : Addr) (lat : Lt) (kvs : List (List Key × V)) (m : Nat) (σ : L2.St) (H' : Hp) : Prop :=
  ∃ rk g x4 x5 x6 x9 x10, σ = [some rv, some tv, some (.ref L), some (.ref D), x4, x5, x6, some (.ref R), some (.bl g), x9, x10] ∧ P2 rs t H L D R (.dT kvs) H' lat kvs rk ∧ (g = false → told lat rk) ∧ m = 2 * (lat.length - rk.length) + (if g then 1 else 0)
def W3 (rs : List Rule) (t : Row) (H : Hp) (rv tv : V) (L D R : Addr) (od : Obj) (lat : Lt) (kvs : List (List Key × V)) (rk0 : Rk) (i : Nat) (σ : L2.St) (H' : Hp) : Prop :=
  ∃ rk g x4 x5 x6 x9 x10, σ = [some rv, some tv, some (.ref L), some (.ref D), x4, x5, x6, some (.ref R), some (.bl g), x9, x10] ∧ P2 rs t H L D R (.frz od (.dT kvs)) H' lat kvs rk ∧
    ((g = false ∧ rk = rk0 ∧ ∀ (j : Nat) (e : Row × List Row), j < i → lat[j]? = some e → e.1 ∈ ks rk0 ∨ ∃ v ∈ e.2, v ∉ ks rk0) ∨ (g = true ∧ rk0.length < rk.length))
theorem Paired.eqmap {β : Type} {f : β → V} : ∀ {ys : List V} {bs : List β}, Paired (fun y b => y = f b) ys bs → ys = bs.map f
  | _, _, .nil => rfl
  | _, _, .cons h t => by rw [h, Paired.eqmap t]; rfl
theorem encR_put {rk : Rk} {u : Row} (m : Nat) (h : u ∉ ks rk) : putK (encR rk) (key u) (.int (m : Nat)) = encR (rk ++ [(u, m)]) := by
  rw [putK_new _ (encR_none h)]
  unfold encR
  rw [List.map_append]; rfl
theorem W3.keep {rs : List Rule} {t : Row} {H : Hp} {rv tv : V} {L D R : Addr} {od : Obj} {lat : Lt} {kvs : List (List Key × V)} {rk0 rk : Rk} {i : Nat} {H' : Hp} {g : Bool} {x4 x5 x6 x9 x10 : Option V} {e : Row × List Row}
    (p : P2 rs t H L D R (.frz od (.dT kvs)) H' lat kvs rk) (c : (g = false ∧ rk = rk0 ∧ ∀ (j : Nat) (e : Row × List Row), j < i → lat[j]? = some e → e.1 ∈ ks rk0 ∨ ∃ v ∈ e.2, v ∉ ks rk0) ∨ (g = true ∧ rk0.length < rk.length))
    (he : lat[i]? = some e) (h : e.1 ∈ ks rk ∨ ∃ v ∈ e.2, v ∉ ks rk) : W3 rs t H rv tv L D R od lat kvs rk0 (i + 1) [some rv, some tv, some (.ref L), some (.ref D), x4, x5, x6, some (.ref R), some (.bl g), x9, x10] H' := by
  refine ⟨rk, g, x4, x5, x6, x9, x10, rfl, p, ?_⟩
  rcases c with ⟨c1, c2, c3⟩ | c
  · subst c2
    refine .inl ⟨c1, rfl, fun j e' hj hj' => ?_⟩
    by_cases q : j = i
    · subst q; rw [he] at hj'; cases hj'; exact h
    · exact c3 j e' (by omega) hj'
  · exact .inr c
theorem ok_ranks_from (Dd : Dn K mg "ranks_from" S_ranks_from) (bf : Bf mg) (C_ways_on : Cl P w K mg base 2 "ways_on" spWays) : Cl P w K mg base 3 "ranks_from" spRanks := by
  refine Dd.ok sc_ranks_from (fun vs H Q E h => ?_) (fun _ _ _ _ _ _ us hl => match us, hl with | [_, _], _ => rfl) (fun f cdv A outer s H vs Q E hr h => ?_)
  · obtain ⟨rv, tv, rs, t, rfl, _⟩ := h; rfl
  · obtain ⟨rv, tv, rs, t, rfl, hR, ok, hT, h0, k⟩ := h
    have nd := sc_ranks_from.nd
    have hu := hu_of hr
    have hr_ways_on := hr
    refine ⟨_, (pss_cons (ps_set (i := 2) nd rfl (Or.inl rfl) (pe_lst (pa_cons (pv 1) pa_nil)))
    (pss_cons (ps_set (i := 3) nd rfl (Or.inl rfl) pe_dnewT)
    (pss_cons (ps_set (i := 4) nd rfl (Or.inl rfl) pe_int)
    (pss_cons (ps_while PassesOwn.never (pt_cmpR op_lt (pv 4) (pe_callB call_len_seq rfl bf.len bt_len (pa_cons (pv 2) pa_nil)) (nomark _))
    (pss_cons (ps_if (pt_cmp (pc_dnotin hu (pe_ix ix_list (pv 2) (pv 4) (fun _ _ => rfl)) (pv 3)))
    (pss_cons (ps_dput hu (pv 3) (pe_ix ix_list (pv 2) (pv 4) (fun _ _ => rfl)) (pe_lc (own := [("place", 5), ("there", 6)]) rfl nd (pi_list (pe_callC C_ways_on hr_ways_on rfl (pa_cons (pv 0) (pa_cons (pe_ix ix_list (pv 2) (pv 4) (fun _ _ => rfl)) pa_nil)))) (blkOk_by (own := [("place", 5), ("there", 6)]) (N := N_ranks_from) (sc := defScope S_ranks_from) (by decide +kernel)) (fun _ _ _ _ _ => (pg_tupK (K := K) (n := 2) rfl rfl (pgs_cons (pg_name (i := 5) nd rfl (Or.inl rfl) (Or.inr rfl)) (pgs_cons (pg_name (i := 6) nd rfl (Or.inl rfl) (Or.inr rfl)) pgs_nil)))) (fun _ _ _ _ _ => pts_nil) (fun _ _ _ _ _ => (pv 6))) rfl)
    (pss_one (ps_aug (i := 2) nd rfl (Or.inl rfl) (pe_dget hu (pv 3) (pe_ix ix_list (pv 2) (pv 4) (fun _ _ => rfl)) (fun _ _ => rfl)) (ip_of iop_ext))))
    pss_nil)
    (pss_one (ps_aug (i := 4) nd rfl (Or.inl rfl) pe_int ip_add))))
    (pss_cons (ps_set (i := 7) nd rfl (Or.inr rfl) pe_dnewT)
    (pss_cons (ps_set (i := 8) nd rfl (Or.inl rfl) pe_bl)
    (pss_cons (ps_while PassesOwn.never (pt_val (pv 8))
    (pss_cons (ps_set (i := 8) nd rfl (Or.inl rfl) pe_bl)
    (pss_one (ps_lock (ps_for PassesOwn.never rfl (pi_itemsT (pv 3)) (pg_tup rfl (pgs_cons (pg_name (i := 9) nd rfl (Or.inl rfl)) (pgs_cons (pg_name (i := 10) nd rfl (Or.inl rfl)) pgs_nil)))
    (pss_one (ps_if (PW.pt (pw_and (pt_cmp (pc_dnotin hu (pv 9) (pv 7))) (pw_and1 (pt_val (pe_callB (cr_all rfl) rfl bf.all bt_all (pa_cons (pe_lc (own := [("there", 6)]) rfl nd (pi_list (pv 10)) (blkOk_by (own := [("there", 6)]) (N := N_ranks_from) (sc := defScope S_ranks_from) (by decide +kernel)) (fun _ _ _ _ _ => (pg_name (i := 6) nd rfl (Or.inl rfl) (Or.inr rfl))) (fun _ _ _ _ _ => pts_nil) (fun _ _ _ _ _ => (pe_cmp (pc_din hu (pv 6) (pv 7))))) pa_nil))))))
    (pss_cons (ps_dput hu (pv 7) (pv 9) (pe_callBK (cr_maxD rfl hr.units) rfl bf.max bt_max (pa_cons (pe_lc (own := [("there", 6)]) rfl nd (pi_list (pv 10)) (blkOk_by (own := [("there", 6)]) (N := N_ranks_from) (sc := defScope S_ranks_from) (by decide +kernel)) (fun _ _ _ _ _ => (pg_name (i := 6) nd rfl (Or.inl rfl) (Or.inr rfl))) (fun _ _ _ _ _ => pts_nil) (fun _ _ _ _ _ => (pe_op op_add (pe_dget hu (pv 7) (pv 6) (fun _ _ => rfl)) pe_int))) pa_nil) (pk_cons pe_int pk_nil)) rfl)
    (pss_one (ps_set (i := 8) nd rfl (Or.inl rfl) pe_bl)))
    pss_nil)))))))
    (pss_one (ps_ret (pv 7)))))))))), ?_⟩
    refine ⟨_, rfl, sz (by show 1 ≤ 100000; decide), fun L hL => fun D hD => ?_⟩
    have s1 : Same H (upd H L (.lst [tv])) := Same.new hL
    have s2 : Same (upd H L (.lst [tv])) (upd (upd H L (.lst [tv])) D (.dT [])) := Same.new hD
    have nD : H D = none := s1.free hD
    refine ⟨W1 rs t H rv tv L D, ⟨_, [t], 0, [], [tv], [], none, none, none, none, none, none, rfl, ⟨s1.trans s2, hL, nD, s2 _ _ upd_same, .cons (TupI.mono (TS.of (s1.trans s2)) hT) .nil, upd_same, .nil, Bfs.start rs t⟩, rfl⟩, ?_⟩
    rintro m σ H' ⟨ln, i, lat, vs, kvs, x5, x6, x7, x8, x9, x10, rfl, p1, rfl⟩
    have hlen := Paired.len p1.pL
    refine ⟨_, rfl, _, rfl, L, _, rfl, .inl (SqL.of p1.hL), _, _, rfl, rfl, _, rfl, ite2 (fun hlt => ?_) (fun hge => ?_)⟩
    · rw [decide_eq_true_eq] at hlt
      have hi : i < vs.length := by omega
      obtain ⟨u, hu', ⟨q, eq, hq⟩⟩ := Paired.get p1.pL (List.getElem?_eq_getElem hi)
      have hvi : vs[i]? = some (.ref q) := by rw [List.getElem?_eq_getElem hi, eq]
      have hqk : H' q = some (.tup ((key u).map kV)) := by rw [key_map]; exact hq
      refine ⟨fun σ2 H2 => ∃ m', m' < 3 * (255 - lat.length) + (ln.length - i) ∧ W1 rs t H rv tv L D m' σ2 H2, fun _ _ h => h, ?_⟩
      refine ⟨_, rfl, _, rfl, L, vs, _, .ref q, rfl, rfl, SqL.of p1.hL, atI_nat hvi, _, rfl, D, _, rfl, DGet.t p1.hD hqk, _, rfl, ?_⟩
      rcases latV u p1.pD with ⟨hno, hv⟩ | ⟨kv, e, he, heu, hle, hv⟩
      · rw [hv]
        refine iteT ?_
        have hR' := RulesAt.mono (TS.of p1.sm) hR
        have tok : TailOk rs u := Reach.ok ok h0 (p1.bf.reach u (List.mem_of_getElem? hu'))
        have wide := ok.wide
        refine ⟨_, rfl, _, rfl, _, rfl, L, vs, _, .ref q, rfl, rfl, SqL.of p1.hL, atI_nat hvi, rv, .ref q, rs, u, rfl, hR', ok, ⟨q, rfl, hq⟩, by have := tok.2; omega, fun W0 H2 ws hW0 sm2 hW pw => ?_⟩
        have wlen : ws.length ≤ 2 := by
          rw [Paired.len pw]
          have := succs_len rs u
          unfold succs at this
          rw [List.length_map] at this; exact this
        refine ⟨W0, rfl, ⟨_, SqL.of hW⟩, fun M hM => lc_map (n := ws.length) (walk_list (xs := ws)) TupI (succs rs u) hM (by unfold succs; rw [List.length_map, Paired.len pw]) (by omega) (fun _ _ _ _ e z => TupI.mono (TS.of e) z) (fun _ _ _ _ _ e z => TupI.mono (TS.lst e) z) (fun H3 e => SqL.of (e _ _ hW)) ?_ (gm_two 5 6) ?_⟩
        · rintro j x H3 H4 NT hj sm3 ⟨rfl, hx⟩ hNT
          obtain ⟨e, he, ⟨a, b, rfl, ha, hb⟩⟩ := Paired.get pw hx
          refine ⟨a, _, rfl, SqT.of (sm3 _ _ ha), rfl, _, _, rfl, _, _, rfl, rfl, rfl, _, rfl, hNT _ _ e.2 (Same.refl _) ?_ ⟨b, rfl, sm3 _ _ hb⟩⟩
          unfold succs
          rw [List.getElem?_map, he]; rfl
        · intro H3 us sm3 hM3 pus
          have p3 := (p1.same sm2).same sm3
          have hq3 := sm3 _ _ (sm2 _ _ hqk)
          have klen : kvs.length < sizeLine := szl (by rw [Paired.len p1.pD]; have := p1.bf.few ok h0; omega)
          have neML : M ≠ L := fun e => by rw [e] at hM; rw [sm2 _ _ p1.hL] at hM; cases hM
          have neDL : D ≠ L := ne_of p3.hD p3.hL (fun e => by cases e)
          have tD : LTS H3 (upd H3 D (.dT (putK kvs (key u) (.ref M)))) := LTS.dT p3.hD
          have hL4 := tD _ _ (.inl ⟨_, rfl⟩) p3.hL
          have hM4 := tD _ _ (.inl ⟨_, rfl⟩) hM3
          refine ⟨_, rfl, _, rfl, _, rfl, L, vs, _, .ref q, rfl, rfl, SqL.of p3.hL, atI_nat hvi, D, _, rfl, DPut.t p3.hD hq3 klen, ?_⟩
          rw [putK_new _ hv] at hL4 hM4 tD ⊢
          have hv4 : valV (kvs ++ [(key u, V.ref M)]) (key u) = some (.ref M) := by
            rw [valV_snoc _ _ _ _ hv, if_pos rfl]
          refine ⟨_, rfl, _, rfl, _, rfl, _, rfl, L, vs, _, .ref q, rfl, rfl, SqL.of hL4, atI_nat hvi, D, .ref M, rfl, ?_, L, M, vs, us, rfl, rfl, hL4, hM4, ?_, ?_⟩
          · rw [← hv4]; exact DGet.t upd_same (tD _ _ (.inr ⟨_, rfl⟩) hq3)
          · refine sz ?_
            have h1 := p1.bf.len
            have h2 := p1.bf.few ok h0
            have h3 := Paired.len pus
            have h4 := succs_len rs u
            omega
          · have t5 : TS H3 (upd (upd H3 D (.dT (kvs ++ [(key u, V.ref M)]))) L (.lst (vs ++ us))) := TS.trans tD.ts (TS.lst hL4)
            have bn := p1.bf.new hu' hno
            have few := bn.few ok h0
            rw [List.length_append, List.length_singleton] at few
            have sl := succs_len rs u
            refine ⟨_, rfl, _, _, rfl, rfl, 3 * (255 - (lat ++ [(u, succs rs u)]).length) + ((ln ++ succs rs u).length - (i + 1)), ?_, ln ++ succs rs u, i + 1, lat ++ [(u, succs rs u)], vs ++ us, kvs ++ [(key u, V.ref M)], x5, x6, x7, x8, x9, x10, rfl, ⟨fun b o e => ?_, p1.nL, p1.nD, upd_same, ?_, ?_, ?_, bn⟩, rfl⟩
            · rw [List.length_append, List.length_append, List.length_singleton]; omega
            · rw [upd_ne (ne_of_none e p1.nL), upd_ne (ne_of_none e p1.nD)]; exact p3.sm _ _ e
            · exact Paired.app (Paired.mp p3.pL fun _ _ z => TupI.mono t5 z) (Paired.mp pus fun _ _ z => TupI.mono t5 z)
            · rw [upd_ne neDL]; exact upd_same
            · refine Paired.snoc1 (Paired.mp p3.pD fun _ _ z => LatE.but (fun b o nb lt e => ?_) t5 z) ⟨rfl, M, rfl, neML, us, ?_, Paired.mp pus fun _ _ z => TupI.mono t5 z⟩
              · rw [upd_ne nb]; exact tD _ _ lt e
              · rw [upd_ne neML]; exact hM4
      · rw [hv]
        refine iteF ?_
        have hm : u ∈ ks lat := by rw [← heu]; exact List.mem_map.mpr ⟨e, he, rfl⟩
        refine ⟨_, rfl, _, _, rfl, rfl, _, ?_, ln, i + 1, lat, vs, kvs, x5, x6, x7, x8, x9, x10, rfl, ⟨p1.sm, p1.nL, p1.nD, p1.hL, p1.pL, p1.hD, p1.pD, p1.bf.old hu' hm⟩, rfl⟩
        omega
    · rw [decide_eq_true_eq] at hge
      have ei : i = ln.length := by have := p1.bf.le; omega
      have cl : Closed rs t lat := (show Bfs rs t ln ln.length lat by rw [← ei]; exact p1.bf).closed ok h0
      refine fun R hR' => ?_
      have sR : Same H' (upd H' R (.dT [])) := Same.new hR'
      have p3 := p1.same sR
      have neRD : R ≠ D := fun e => by rw [e, p1.hD] at hR'; cases hR'
      refine ⟨W2 rs t H rv tv L D R lat kvs, ⟨_, [], true, some (.int (i : Nat)), x5, x6, x9, x10, rfl, ⟨p3.sm, p3.nD, p1.sm.free hR', neRD, p3.hD, p3.pD, upd_same, RkOk.start rs lat⟩, (fun e => by cases e), rfl⟩, ?_⟩
      rintro m σ H1 ⟨rk, g, y4, y5, y6, y9, y10, rfl, p4, tg, rfl⟩
      refine ⟨_, rfl, _, rfl, ?_⟩
      cases g with
      | false =>
        refine iteF ?_
        exact ⟨_, rfl, k R H1 rk p4.nR p4.sm p4.hR (p4.ok.fin cl (tg rfl))⟩
      | true =>
        refine iteT ⟨fun σ2 H2 => ∃ m', m' < 2 * (lat.length - rk.length) + (if true then 1 else 0) ∧ W2 rs t H rv tv L D R lat kvs m' σ2 H2, fun _ _ h => h, ?_⟩
        refine ⟨D, _, p4.hD, trivial, fun od => ?_⟩
        have lt : LTS H1 (upd H1 D (.frz od (.dT kvs))) := LTS.dT p4.hD
        refine ⟨_, rfl, D, od, kvs, rfl, upd_same, for_it walk_itemsT (W3 rs t H rv tv L D R od lat kvs rk) ⟨rk, false, y4, y5, y6, y9, y10, rfl, ⟨fun b o e => ?_, p4.nD, p4.nR, p4.ne, upd_same, Paired.mp p4.pD fun _ _ z => LatE.mono lt z, ?_, p4.ok⟩, .inl ⟨rfl, rfl, fun j e hj => absurd hj (Nat.not_lt_zero _)⟩⟩ (fun i σ H2 _ ⟨_, _, _, _, _, _, _, _, h, _⟩ => h.hD) ?_ ?_⟩
        · rw [upd_ne (ne_of_none e p4.nD)]; exact p4.sm _ _ e
        · rw [upd_ne p4.ne]; exact p4.hR
        · rintro i x σ H2 H3 hi ⟨rk', g', z4, z5, z6, z9, z10, rfl, p5, cse⟩ ⟨T, q, kk, v, hkv, rfl, nT, hq, rfl⟩
          have sT : Same H2 (upd H2 T (.tup [.ref q, v])) := Same.new nT
          have p6 := p5.same sT
          obtain ⟨e, he, hk, l, hv, hl, ys, hys, pys⟩ := Paired.get p6.pD hkv
          have hk : kk = key e.1 := hk
          have hv : v = .ref l := hv
          subst hk hv
          have hqk := sT _ _ hq
          have small : ys.length < 100000 := by
            rw [Paired.len pys]
            have hem := List.mem_of_getElem? he
            rw [cl.val e hem]
            have := succs_len rs e.1
            omega
          have hem := List.mem_of_getElem? he
          refine ⟨T, _, rfl, SqT.of upd_same, rfl, _, _, rfl, _, _, rfl, rfl, ?_⟩
          refine ⟨_, rfl, _, rfl, R, _, rfl, DGet.t p6.hR hqk, _, rfl, ?_⟩
          rw [encR_isSome]
          by_cases hm : e.1 ∈ ks rk'
          · rw [decide_eq_true hm]
            refine iteF (show if false = true then _ else _ from iteF ?_)
            exact W3.keep p6 cse he (.inl hm)
          · rw [decide_eq_false hm]
            refine iteT ?_
            refine ⟨_, rfl, l, rfl, ⟨_, SqL.of hys⟩, fun M hM => lc_map (n := ys.length) (walk_list (xs := ys)) (fun _ y (b : Bool) => y = .bl b) (e.2.map fun v => decide (v ∈ ks rk')) hM (by rw [List.length_map, Paired.len pys]) small (fun _ _ _ _ _ z => z) (fun _ _ _ _ _ _ z => z) (fun H3 e => SqL.of (e _ _ hys)) ?_ (gm_name 6) ?_⟩
            · rintro j x H4 H5 NT hj sm4 ⟨rfl, hx⟩ hNT
              obtain ⟨v, hv, b, rfl, hb⟩ := Paired.get pys hx
              have hb4 : H5 b = some (.tup ((key v).map kV)) := by rw [key_map]; exact sm4 _ _ hb
              refine ⟨rfl, _, rfl, _, rfl, R, _, rfl, DGet.t (sm4 _ _ p6.hR) hb4, hNT _ _ (decide (v ∈ ks rk')) (Same.refl _) ?_ ?_⟩
              · rw [List.getElem?_map, hv]; rfl
              · rw [encR_isSome]
            · intro H4 bs sm4 hM4 pbs
              have p7 := p6.same sm4
              rw [Paired.eqmap pbs] at hM4
              refine ⟨M, e.2.map fun v => decide (v ∈ ks rk'), rfl, SqL.of hM4, _, rfl, ?_⟩
              refine ite2 (fun hall => ?_) (fun hall => ?_)
              · have hs : ∀ v ∈ e.2, v ∈ ks rk' := fun v hv => by
                  have := List.all_eq_true.mp hall _ (List.mem_map.mpr ⟨v, hv, rfl⟩)
                  simpa using this
                have hs' : ∀ v ∈ succs rs e.1, v ∈ ks rk' := by rw [← cl.val e hem]; exact hs
                have hys4 := sm4 _ _ hys
                refine ⟨_, rfl, l, rfl, ⟨_, SqL.of hys4⟩, fun M2 hM2 => lc_map (n := ys.length) (walk_list (xs := ys)) (fun _ y (n : Int) => y = .int n) (e.2.map fun v => ((rkOf rk' v + 1 : Nat) : Int)) hM2 (by rw [List.length_map, Paired.len pys]) small (fun _ _ _ _ _ z => z) (fun _ _ _ _ _ _ z => z) (fun H3 e => SqL.of (e _ _ hys4)) ?_ (gm_name 6) ?_⟩
                · rintro j x H5 H6 NT hj sm5 ⟨rfl, hx⟩ hNT
                  obtain ⟨v, hv, b, rfl, hb⟩ := Paired.get pys hx
                  have hb5 : H6 b = some (.tup ((key v).map kV)) := by rw [key_map]; exact sm5 _ _ (sm4 _ _ hb)
                  have hg : DGet H6 R (.ref b) (some (.int (rkOf rk' v : Nat))) := by
                    rw [← encR_some (hs v (List.mem_of_getElem? hv))]; exact DGet.t (sm5 _ _ p7.hR) hb5
                  refine ⟨rfl, _, rfl, _, rfl, R, _, rfl, hg, _, _, rfl, rfl, hNT _ _ ((rkOf rk' v + 1 : Nat) : Int) (Same.refl _) ?_ rfl⟩
                  rw [List.getElem?_map, hv]; rfl
                · intro H5 ns sm5 hM5 pns
                  have p8 := p7.same sm5
                  rw [Paired.eqmap pns] at hM5
                  have hq8 := sm5 _ _ (sm4 _ _ hqk)
                  have len8 : (encR rk').length < sizeLine := szl (by unfold encR; rw [List.length_map]; have := p8.ok.le; have := cl.few; omega)
                  have fin : ∀ m : Nat, (succs rs e.1 = [] → m = 0) → (∀ v ∈ succs rs e.1, rkOf rk' v + 1 ≤ m) → (succs rs e.1 ≠ [] → ∃ v ∈ succs rs e.1, m = rkOf rk' v + 1) →
                      W3 rs t H rv tv L D R od lat kvs rk (i + 1) [some rv, some tv, some (.ref L), some (.ref D), z4, z5, z6, some (.ref R), some (.bl true), some (.ref q), some (.ref l)] (upd H5 R (.dT (putK (encR rk') (key e.1) (.int (m : Nat))))) := fun m h1 h2 h3 => by
                    have lt : LTS H5 (upd H5 R (.dT (putK (encR rk') (key e.1) (.int (m : Nat))))) := LTS.dT p8.hR
                    refine ⟨rk' ++ [(e.1, m)], true, z4, z5, z6, _, _, rfl, ⟨fun b o e => by rw [upd_ne (ne_of_none e p8.nR)]; exact p8.sm _ _ e, p8.nD, p8.nR, p8.ne, by rw [upd_ne (Ne.symm p8.ne)]; exact p8.hD, Paired.mp p8.pD fun _ _ z => LatE.mono lt z, by rw [upd_same, encR_put m hm], ?_⟩, .inr ⟨rfl, ?_⟩⟩
                    · exact p8.ok.new (List.mem_map.mpr ⟨e, hem, rfl⟩) hm hs' h1 h2 h3
                    · rw [List.length_append, List.length_singleton]
                      rcases cse with ⟨_, c2, _⟩ | ⟨_, c2⟩
                      · rw [c2]; omega
                      · omega
                  refine ⟨M2, _, .int 0, rfl, rfl, SqL.of hM5, fun e0 => ?_, fun mx hmx hle => ?_⟩
                  · have e0' : succs rs e.1 = [] := by rw [← cl.val e hem]; exact List.map_eq_nil_iff.mp e0
                    refine ⟨_, rfl, _, rfl, R, _, rfl, DPut.t p8.hR hq8 len8, ?_⟩
                    exact fin 0 (fun _ => rfl) (fun v hv => by rw [e0'] at hv; cases hv) (fun h => absurd e0' h)
                  · obtain ⟨v0, hv0, rfl⟩ := List.mem_map.mp hmx
                    refine ⟨_, rfl, _, rfl, R, _, rfl, DPut.t p8.hR hq8 len8, ?_⟩
                    refine fin (rkOf rk' v0 + 1) (fun h => ?_) (fun v hv => ?_) fun _ => ⟨v0, by rw [← cl.val e hem]; exact hv0, rfl⟩
                    · rw [← cl.val e hem] at h; rw [h] at hv0; cases hv0
                    · have := hle _ (List.mem_map.mpr ⟨v, by rw [cl.val e hem]; exact hv, rfl⟩)
                      omega
              · refine W3.keep p7 cse he (.inr ?_)
                rw [Bool.not_eq_true, List.all_eq_false] at hall
                obtain ⟨b, hb, hb2⟩ := hall
                obtain ⟨v, hv, rfl⟩ := List.mem_map.mp hb
                exact ⟨v, hv, by simpa using hb2⟩
        · rintro σ H2 ⟨rk', g', z4, z5, z6, z9, z10, rfl, p5, cse⟩
          refine ⟨p5.hD, ?_⟩
          have lt2 : LTS H2 (upd H2 D (.dT kvs)) := LTS.frz p5.hD
          have klen := Paired.len p5.pD
          have fin : P2 rs t H L D R (.dT kvs) (upd H2 D (.dT kvs)) lat kvs rk' := ⟨fun b o e => by rw [upd_ne (ne_of_none e p5.nD)]; exact p5.sm _ _ e, p5.nD, p5.nR, p5.ne, upd_same, Paired.mp p5.pD fun _ _ z => LatE.mono lt2 z, by rw [upd_ne p5.ne]; exact p5.hR, p5.ok⟩
          have le := p5.ok.le
          rcases cse with ⟨rfl, rfl, hj⟩ | ⟨rfl, hj⟩
          · refine ⟨2 * (lat.length - rk'.length) + 0, by simp, rk', false, z4, z5, z6, z9, z10, rfl, fin, fun _ e he => ?_, by simp⟩
            obtain ⟨j, hjl, ej⟩ := List.getElem_of_mem he
            exact hj j e (by omega) (by rw [List.getElem?_eq_getElem hjl, ej])
          · exact ⟨2 * (lat.length - rk'.length) + 1, by simp; omega, rk', true, z4, z5, z6, z9, z10, rfl, fin, (fun e => by cases e), by simp⟩
end
end An
-- imports: D4
/-! ### D5a: a rank as it is told -/
namespace An
open PySem L2
/-- a rank as it is told: a number, None where for ever -/
def RankV (rs : List Rule) (t : Row) (v : V) : Prop := (∃ n : Nat, IsRk rs t n ∧ n < 255 ∧ v = .int n) ∨ ((∀ n, ext rs n t = true) ∧ v = .non)
theorem RanksOk.v {rs : List Rule} {t u : Row} {rk : Rk} (r : RanksOk rs t rk) (h : Reach rs t u) : RankV rs u ((valV (encR rk) (key u)).getD .non) := by
  by_cases m : u ∈ ks rk
  · rw [encR_some m]
    exact .inl ⟨_, r.val _ (rkOf_mem m), r.lt _ (rkOf_mem m), rfl⟩
  · rw [encR_none m]
    exact .inr ⟨r.inf u h m, rfl⟩
theorem TailOk.nil {rs : List Rule} (ok : RulesOk rs) : TailOk rs [] := ⟨fun x h => (by cases h), by have := ok.wide; show (0 : Int) + 1 ≤ _; omega⟩
end An
-- imports: MR
/-! ### M3: rows that fit, the first of them, and when they end, in plain Lean -/
namespace An
open PySem L2
/-- the last places of a row that count -/
def tl (wide : Int) (u : Row) : Row := u.drop (u.length + 1 - wide.toNat)
def endSum (u : Row) (s : Int) : Int := (u.drop (u.length - s.toNat)).sum
def okRule (u : Row) (r : Rule) : Bool := !(decide (r.1 ≤ (u.length : Int))) || (decide (r.2.1 ≤ endSum u r.1) && decide (endSum u r.1 ≤ r.2.2))
def fits (rs : List Rule) (u : Row) : Bool := rs.all (okRule u)
theorem span_le {rs : List Rule} (ok : RulesOk rs) {r : Rule} (h : r ∈ rs) : r.1 ≤ wd rs := by
  obtain ⟨z, hz, e, hl⟩ := wd_mem ok.some
  rw [e]
  obtain ⟨i, hi, rfl⟩ := List.getElem_of_mem h
  rw [List.getLast?_eq_getElem?] at hl
  obtain ⟨hj, rfl⟩ := List.getElem?_eq_some_iff.mp hl
  rcases Nat.lt_or_ge i (rs.length - 1) with c | c
  · exact Int.le_of_lt (List.pairwise_iff_getElem.mp ok.up i (rs.length - 1) hi hj c)
  · have : i = rs.length - 1 := by omega
    subst this; exact Int.le_refl _
theorem tl_len {wide : Int} {u : Row} (h : 1 ≤ wide) : ((tl wide u).length : Int) + 1 ≤ wide := by
  unfold tl; rw [List.length_drop]; omega
theorem tl_snoc {wide : Int} {u : Row} {p : Int} (h : 1 ≤ wide) : tl wide (u ++ [p]) = nextTail wide (tl wide u) p := by
  unfold tl nextTail
  rw [List.length_append, List.length_singleton, List.length_drop]
  have k : u.length + 1 - wide.toNat ≤ u.length := by omega
  rw [← List.drop_append_of_le_length k, List.drop_drop]
  congr 1; omega
theorem fits_snoc {rs : List Rule} (ok : RulesOk rs) (u : Row) (p : Int) : fits rs (u ++ [p]) = freeP rs (tl (wd rs) u) p := by
  have w := ok.wide
  unfold fits freeP brokenBy
  rw [Bool.eq_iff_iff, List.all_eq_true, Option.isNone_iff_eq_none, List.find?_eq_none]
  have key : ∀ r ∈ rs, (okRule (u ++ [p]) r = true ↔ ¬ bad (tl (wd rs) u) p r = true) := fun r hr => by
    have ro := ok.one r hr
    have rw' := span_le ok hr
    have el : (tl (wd rs) u).length = u.length - (u.length + 1 - (wd rs).toNat) := by unfold tl; rw [List.length_drop]
    unfold okRule bad
    rw [List.length_append, List.length_singleton]
    by_cases c : r.1 ≤ (u.length : Int) + 1
    · have c2 : r.1 ≤ ((tl (wd rs) u).length : Int) + 1 := by rw [el]; omega
      have e : endSum (u ++ [p]) r.1 = cnt (tl (wd rs) u) p r.1 := by
        unfold endSum cnt
        rw [List.length_append, List.length_singleton, List.drop_append_of_le_length (by omega), List.sum_append]
        have : (tl (wd rs) u).drop ((tl (wd rs) u).length + 1 - r.1.toNat) = u.drop (u.length + 1 - r.1.toNat) := by
          rw [el]
          unfold tl
          rw [List.drop_drop]
          congr 1; omega
        rw [this]; simp
      rw [e, decide_eq_true c2, decide_eq_true (show r.1 ≤ ((u.length + 1 : Nat) : Int) by omega)]
      simp
    · have c2 : ¬ r.1 ≤ ((tl (wd rs) u).length : Int) + 1 := by rw [el]; omega
      rw [decide_eq_false c2, decide_eq_false (show ¬ r.1 ≤ ((u.length + 1 : Nat) : Int) by omega)]
      simp
  constructor
  · intro h r hr; exact (key r hr).mp (h r hr)
  · intro h r hr; exact (key r hr).mpr (h r hr)
/-! #### the words that can follow, in order -/
def words (rs : List Rule) : Nat → Row → List Row
  | 0, _ => [[]]
  | n + 1, t => (([0, 1] : List Int).filter (freeP rs t)).flatMap fun p => (words rs n (nextTail (wd rs) t p)).map (p :: ·)
theorem mem_01 {p : Int} : p ∈ ([0, 1] : List Int) ↔ p = 0 ∨ p = 1 := by simp
theorem ext_words (rs : List Rule) : ∀ (n : Nat) (t : Row), ext rs n t = true ↔ words rs n t ≠ []
  | 0, _ => ⟨fun _ e => (by cases e), fun _ => rfl⟩
  | n + 1, t => by
    constructor
    · intro h
      obtain ⟨u, hu, e⟩ := List.any_eq_true.mp (show (succs rs t).any (ext rs n) = true from h)
      obtain ⟨p, hp, hf, rfl⟩ := mem_succs.mp hu
      have ne := (ext_words rs n _).mp e
      obtain ⟨w, hw⟩ := List.exists_mem_of_ne_nil _ ne
      intro z
      have : p :: w ∈ words rs (n + 1) t := List.mem_flatMap.mpr ⟨p, List.mem_filter.mpr ⟨mem_01.mpr hp, hf⟩, List.mem_map.mpr ⟨w, hw, rfl⟩⟩
      rw [z] at this; cases this
    · intro h
      obtain ⟨w, hw⟩ := List.exists_mem_of_ne_nil _ h
      obtain ⟨p, hp, hm⟩ := List.mem_flatMap.mp (show w ∈ List.flatMap _ _ from hw)
      obtain ⟨h1, h2⟩ := List.mem_filter.mp hp
      obtain ⟨v, hv, _⟩ := List.mem_map.mp hm
      exact List.any_eq_true.mpr ⟨_, mem_succs.mpr ⟨p, mem_01.mp h1, h2, rfl⟩, (ext_words rs n _).mpr fun z => by rw [z] at hv; cases hv⟩
theorem words_head (rs : List Rule) : ∀ (n : Nat) (t : Row), words rs n t ≠ [] → (words rs n t).head? = some (rowFrom rs n t)
  | 0, _, _ => rfl
  | n + 1, t, h => by
    have e : words rs (n + 1) t = (if freeP rs t 0 = true then (words rs n (nextTail (wd rs) t 0)).map (0 :: ·) else []) ++ (if freeP rs t 1 = true then (words rs n (nextTail (wd rs) t 1)).map (1 :: ·) else []) := by
      show List.flatMap _ _ = _
      by_cases a : freeP rs t 0 = true <;> by_cases b : freeP rs t 1 = true <;> simp [a, b, List.filter_cons]
    by_cases c : freeP rs t 0 = true ∧ ext rs n (nextTail (wd rs) t 0) = true
    · have ne := (ext_words rs n _).mp c.2
      have s : rowStep rs n t = 0 := if_pos c
      show _ = some (rowStep rs n t :: rowFrom rs n (nextTail (wd rs) t (rowStep rs n t)))
      rw [e, if_pos c.1, s, List.head?_append, List.head?_map, words_head rs n _ ne]; rfl
    · have s : rowStep rs n t = 1 := if_neg c
      have z : (if freeP rs t 0 = true then (words rs n (nextTail (wd rs) t 0)).map (0 :: ·) else []) = [] := by
        by_cases a : freeP rs t 0 = true
        · rw [if_pos a]
          have : words rs n (nextTail (wd rs) t 0) = [] := Classical.byContradiction fun ne => c ⟨a, (ext_words rs n _).mpr ne⟩
          rw [this]; rfl
        · rw [if_neg a]
      rw [z, List.nil_append] at e
      show _ = some (rowStep rs n t :: rowFrom rs n (nextTail (wd rs) t (rowStep rs n t)))
      rw [e] at h ⊢
      by_cases b : freeP rs t 1 = true
      · rw [if_pos b] at h ⊢
        have ne : words rs n (nextTail (wd rs) t 1) ≠ [] := fun q => h (by rw [q]; rfl)
        rw [s, List.head?_map, words_head rs n _ ne]; rfl
      · rw [if_neg b] at h; exact absurd rfl h
/-- a word's beginnings all fit -/
theorem words_fit {rs : List Rule} (ok : RulesOk rs) : ∀ (n : Nat) (u w : Row), w ∈ words rs n (tl (wd rs) u) → w.length = n ∧ (∀ x ∈ w, x = 0 ∨ x = 1) ∧ ∀ j, j < n → fits rs (u ++ w.take (j + 1)) = true
  | 0, _, w, h => by
    rw [List.mem_singleton.mp h]
    exact ⟨rfl, fun x hx => (by cases hx), fun j hj => absurd hj (Nat.not_lt_zero _)⟩
  | n + 1, u, w, h => by
    obtain ⟨p, hp, hm⟩ := List.mem_flatMap.mp (show w ∈ List.flatMap _ _ from h)
    obtain ⟨h1, h2⟩ := List.mem_filter.mp hp
    obtain ⟨v, hv, rfl⟩ := List.mem_map.mp hm
    rw [← tl_snoc ok.wide.1] at hv
    obtain ⟨a, b, c⟩ := words_fit ok n (u ++ [p]) v hv
    refine ⟨by rw [List.length_cons, a], fun x hx => ?_, fun j hj => ?_⟩
    · rcases List.mem_cons.mp hx with rfl | hx
      · exact mem_01.mp h1
      · exact b x hx
    · match j, hj with
      | 0, _ =>
        show fits rs (u ++ [p]) = true
        rw [fits_snoc ok]; exact h2
      | j + 1, hj =>
        have q := c j (by omega)
        rw [List.append_assoc] at q
        exact q
/-! #### rows that share their last places -/
def grown (rs : List Rule) (n : Nat) (F : List Row) : List Row := F.flatMap fun r => (words rs n (tl (wd rs) r)).map (r ++ ·)
def more1 (rs : List Rule) (r : Row) : List Row := (([0, 1] : List Int).filter fun p => fits rs (r ++ [p])).map fun p => r ++ [p]
def moreF (rs : List Rule) (F : List Row) : List Row := F.flatMap (more1 rs)
theorem grown_succ {rs : List Rule} (ok : RulesOk rs) (n : Nat) (F : List Row) : grown rs (n + 1) F = grown rs n (moreF rs F) := by
  unfold grown moreF
  rw [List.flatMap_assoc]
  congr 1
  funext r
  unfold more1
  rw [List.flatMap_map]
  show List.map _ (List.flatMap _ _) = _
  rw [List.map_flatMap]
  have e : (fun p => fits rs (r ++ [p])) = freeP rs (tl (wd rs) r) := funext fun p => fits_snoc ok r p
  rw [e]
  congr 1
  funext p
  rw [List.map_map, tl_snoc ok.wide.1]
  congr 1
  funext w
  show r ++ p :: w = r ++ [p] ++ w
  rw [List.append_assoc]; rfl
def thinStep (wide : Int) (found : List Row) (r : Row) : List Row := if tl wide r ∈ found.map (tl wide) then found else found ++ [r]
def thin (wide : Int) (F : List Row) : List Row := F.foldl (thinStep wide) []
theorem thin_snoc (wide : Int) (F : List Row) (r : Row) : thin wide (F ++ [r]) = thinStep wide (thin wide F) r := by
  unfold thin; rw [List.foldl_append]; rfl
theorem snoc_ind {α : Type} {C : List α → Prop} (h0 : C []) (h1 : ∀ l a, C l → C (l ++ [a])) (l : List α) : C l := by
  rw [← List.reverse_reverse l]
  induction l.reverse with
  | nil => exact h0
  | cons a m ih => rw [List.reverse_cons]; exact h1 _ _ ih
theorem thin_sub (wide : Int) (F : List Row) : ∀ r ∈ thin wide F, r ∈ F := by
  induction F using snoc_ind with
  | h0 => exact fun r h => h
  | h1 F a ih =>
    intro r h
    rw [thin_snoc] at h
    unfold thinStep at h
    split at h
    · exact List.mem_append_left _ (ih r h)
    · rcases List.mem_append.mp h with z | z
      · exact List.mem_append_left _ (ih r z)
      · exact List.mem_append_right _ z
theorem thin_nd (wide : Int) (F : List Row) : ((thin wide F).map (tl wide)).Nodup := by
  induction F using snoc_ind with
  | h0 => exact List.nodup_nil
  | h1 F a ih =>
    rw [thin_snoc]
    unfold thinStep
    split
    · exact ih
    · next h => rw [List.map_append]; exact nodup_snoc ih h
theorem thin_ne (wide : Int) (F : List Row) (h : F ≠ []) : thin wide F ≠ [] := by
  induction F using snoc_ind with
  | h0 => exact absurd rfl h
  | h1 F a _ =>
    rw [thin_snoc]
    unfold thinStep
    split
    · next m => intro e; rw [e] at m; cases m
    · intro e; exact absurd (congrArg List.length e) (by rw [List.length_append, List.length_singleton]; exact Nat.succ_ne_zero _)
theorem thin_head (rs : List Rule) (n : Nat) (F : List Row) : (grown rs n (thin (wd rs) F)).head? = (grown rs n F).head? := by
  induction F using snoc_ind with
  | h0 => rfl
  | h1 F a ih =>
    have app : ∀ A : List Row, grown rs n (A ++ [a]) = grown rs n A ++ (words rs n (tl (wd rs) a)).map (a ++ ·) := fun A => by
      unfold grown; rw [List.flatMap_append]; simp
    rw [thin_snoc]
    unfold thinStep
    split
    · next m =>
      rw [app, List.head?_append, ← ih]
      cases e : (grown rs n (thin (wd rs) F)).head? with
      | some x => rfl
      | none =>
        obtain ⟨b, hb, eb⟩ := List.mem_map.mp m
        have z : words rs n (tl (wd rs) b) = [] := by
          have : grown rs n (thin (wd rs) F) = [] := List.head?_eq_none_iff.mp e
          have q := List.flatMap_eq_nil_iff.mp this b hb
          exact List.map_eq_nil_iff.mp q
        rw [eb] at z
        rw [z]; rfl
    · rw [app, app, List.head?_append, List.head?_append, ih]
structure Front (rs : List Rule) (k : Nat) (F : List Row) : Prop where
  hd : ∀ n, k ≤ n → (words rs n []).head? = (grown rs (n - k) F).head?
  ne : F ≠ []
  ln : ∀ r ∈ F, r.length = k ∧ ∀ x ∈ r, x = 0 ∨ x = 1
  nd : (F.map (tl (wd rs))).Nodup
theorem tl_nil {wide : Int} : tl wide [] = [] := by unfold tl; exact List.drop_nil
theorem Front.start (rs : List Rule) : Front rs 0 [[]] := by
  refine ⟨fun n _ => ?_, (fun e => by cases e), fun r h => ?_, List.nodup_cons.mpr ⟨List.not_mem_nil, List.nodup_nil⟩⟩
  · unfold grown
    rw [List.flatMap_cons, List.flatMap_nil, tl_nil, List.append_nil, Nat.sub_zero]
    rw [show (fun x : Row => ([] : Row) ++ x) = id from rfl, List.map_id]
  · rw [List.mem_singleton.mp h]; exact ⟨rfl, fun x hx => by cases hx⟩
theorem mem_moreF {rs : List Rule} {F : List Row} {u : Row} (h : u ∈ moreF rs F) : ∃ r ∈ F, ∃ p : Int, (p = 0 ∨ p = 1) ∧ u = r ++ [p] := by
  obtain ⟨r, hr, hu⟩ := List.mem_flatMap.mp h
  obtain ⟨p, hp, e⟩ := List.mem_map.mp hu
  exact ⟨r, hr, p, mem_01.mp (List.mem_filter.mp hp).1, e.symm⟩
theorem Front.next {rs : List Rule} {k : Nat} {F : List Row} (ok : RulesOk rs) (f : Front rs k F) (h : moreF rs F ≠ []) : Front rs (k + 1) (thin (wd rs) (moreF rs F)) := by
  refine ⟨fun n hn => ?_, thin_ne _ _ h, fun r hr => ?_, thin_nd _ _⟩
  · rw [thin_head, f.hd n (by omega), show n - k = (n - (k + 1)) + 1 by omega, grown_succ ok]
  · obtain ⟨q, hq, p, hp, rfl⟩ := mem_moreF (thin_sub _ _ _ hr)
    obtain ⟨a, b⟩ := f.ln q hq
    refine ⟨by rw [List.length_append, a]; rfl, fun x hx => ?_⟩
    rcases List.mem_append.mp hx with z | z
    · exact b x z
    · rw [List.mem_singleton.mp z]; exact hp
theorem grown_zero (rs : List Rule) (F : List Row) : grown rs 0 F = F := by
  unfold grown
  induction F with
  | nil => rfl
  | cons r F ih => rw [List.flatMap_cons, ih]; show [r ++ []] ++ F = r :: F; rw [List.append_nil]; rfl
theorem Front.ext {rs : List Rule} {k : Nat} {F : List Row} (f : Front rs k F) : An.ext rs k [] = true ∧ F.head? = some (rowFrom rs k []) := by
  have h := f.hd k (Nat.le_refl _)
  rw [Nat.sub_self, grown_zero] at h
  have ne : words rs k [] ≠ [] := fun e => f.ne (List.head?_eq_none_iff.mp (by rw [← h, e]; rfl))
  exact ⟨(ext_words rs k []).mpr ne, by rw [← h]; exact words_head rs k [] ne⟩
theorem Front.stop {rs : List Rule} {k : Nat} {F : List Row} (ok : RulesOk rs) (f : Front rs k F) (h : moreF rs F = []) : IsRk rs [] k := by
  refine ⟨f.ext.1, ?_⟩
  have q := f.hd (k + 1) (by omega)
  rw [show k + 1 - k = 0 + 1 by omega, grown_succ ok, h] at q
  cases e : An.ext rs (k + 1) []
  · rfl
  · exact absurd (List.head?_eq_none_iff.mp q) ((ext_words rs _ _).mp e)
theorem Front.few {rs : List Rule} {k : Nat} {F : List Row} (ok : RulesOk rs) (f : Front rs k F) : F.length ≤ 255 := by
  have q := nodup_le (F.map (tl (wd rs))) allTails f.nd fun x hx => by
    obtain ⟨r, hr, rfl⟩ := List.mem_map.mp hx
    exact mem_allTails ok ⟨fun x hx => (f.ln r hr).2 x (List.mem_of_mem_drop hx), tl_len ok.wide.1⟩
  rw [List.length_map, allTails_len] at q
  exact q
theorem moreF_len (rs : List Rule) (F : List Row) : (moreF rs F).length ≤ 2 * F.length := by
  unfold moreF
  induction F with
  | nil => exact Nat.le_refl _
  | cons r F ih =>
    rw [List.flatMap_cons, List.length_append, List.length_cons]
    have : (more1 rs r).length ≤ 2 := by
      unfold more1; rw [List.length_map]; exact List.length_filter_le _ _
    omega
theorem more1_take (rs : List Rule) (r : Row) (i : Nat) (p : Int) (h : ([0, 1] : List Int)[i]? = some p) :
    ((([0, 1] : List Int).take (i + 1)).filter fun p => fits rs (r ++ [p])).map (fun p => r ++ [p]) = (((([0, 1] : List Int).take i).filter fun p => fits rs (r ++ [p])).map fun p => r ++ [p]) ++ (if fits rs (r ++ [p]) = true then [r ++ [p]] else []) := by
  rw [filter_take _ _ i p h, List.map_append]
  congr 1
  by_cases c : fits rs (r ++ [p]) = true
  · rw [if_pos c, if_pos c]; rfl
  · rw [if_neg c, if_neg c]; rfl
end An
-- imports: M3
/-! ### M4: rows end within 15 places, or never -/
namespace An
open PySem L2
def sm (f : Nat → Int) : Nat → Int
  | 0 => 0
  | n + 1 => sm f n + f n
theorem sm_add (f : Nat → Int) (a : Nat) : ∀ b, sm f (a + b) = sm f a + sm (fun x => f (a + x)) b
  | 0 => by show sm f a = sm f a + 0; omega
  | b + 1 => by
    show sm f (a + b) + f (a + b) = sm f a + (sm (fun x => f (a + x)) b + f (a + b))
    rw [sm_add f a b]; omega
theorem sm_ge (f g : Nat → Int) (c : Int) : ∀ n : Nat, (∀ x, x < n → f x + c ≤ g x) → sm f n + n * c ≤ sm g n
  | 0, _ => by show (0:Int) + ((0 : Nat) : Int) * c ≤ 0; simp
  | n + 1, h => by
    have ih := sm_ge f g c n fun x hx => h x (by omega)
    have hn := h n (Nat.lt_succ_self n)
    show sm f n + f n + ((n + 1 : Nat) : Int) * c ≤ sm g n + g n
    have : ((n + 1 : Nat) : Int) * c = (n : Int) * c + c := by rw [Int.natCast_add, Int.add_mul]; simp
    rw [this]; omega
theorem sm_le (f g : Nat → Int) (c : Int) : ∀ n : Nat, (∀ x, x < n → g x ≤ f x + c) → sm g n ≤ sm f n + n * c
  | 0, _ => by show (0:Int) ≤ 0 + ((0 : Nat) : Int) * c; simp
  | n + 1, h => by
    have ih := sm_le f g c n fun x hx => h x (by omega)
    have hn := h n (Nat.lt_succ_self n)
    show sm g n + g n ≤ sm f n + f n + ((n + 1 : Nat) : Int) * c
    have : ((n + 1 : Nat) : Int) * c = (n : Int) * c + c := by rw [Int.natCast_add, Int.add_mul]; simp
    rw [this]; omega
/-- two windows' sums bind each other -/
theorem no_clash (f : Nat → Int) (s1 s2 : Nat) (l m : Int) (h1 : ∀ x, x < s2 → f x + l ≤ f (s1 + x)) (h2 : ∀ x, x < s1 → f (s2 + x) ≤ f x + m) : (s2 : Int) * l ≤ s1 * m := by
  have a := sm_add f s1 s2
  have b := sm_add f s2 s1
  rw [Nat.add_comm s2 s1] at b
  have c := sm_ge f (fun x => f (s1 + x)) l s2 h1
  have d := sm_le f (fun x => f (s2 + x)) m s1 h2
  omega
theorem take_sum (w : Row) (i s : Nat) : ((w.take (i + s)).drop i).sum = (w.take (i + s)).sum - (w.take i).sum := by
  have e : (w.take (i + s)).take i ++ (w.take (i + s)).drop i = w.take (i + s) := List.take_append_drop _ _
  have := congrArg List.sum e
  rw [List.sum_append, List.take_take, Nat.min_eq_left (Nat.le_add_right _ _)] at this
  omega
/-- the windows of a row whose beginnings fit -/
theorem window {rs : List Rule} (ok : RulesOk rs) {w : Row} (h : ∀ j, j < w.length → fits rs (w.take (j + 1)) = true) {r : Rule} (hr : r ∈ rs) (i : Nat) (hi : i + r.1.toNat ≤ w.length) :
    (w.take i).sum + r.2.1 ≤ (w.take (i + r.1.toNat)).sum ∧ (w.take (i + r.1.toNat)).sum ≤ (w.take i).sum + r.2.2 := by
  have ro := ok.one r hr
  have q := h (i + r.1.toNat - 1) (by omega)
  rw [show i + r.1.toNat - 1 + 1 = i + r.1.toNat by omega] at q
  have z := List.all_eq_true.mp q r hr
  unfold okRule endSum at z
  rw [List.length_take, Nat.min_eq_left hi, decide_eq_true (show r.1 ≤ ((i + r.1.toNat : Nat) : Int) by omega), show i + r.1.toNat - r.1.toNat = i by omega, take_sum] at z
  simp only [Bool.not_true, Bool.false_or, Bool.and_eq_true, decide_eq_true_eq] at z
  omega
/-- no two rules clash, if 15 places are to be had -/
theorem agree {rs : List Rule} (ok : RulesOk rs) (h : ext rs 15 [] = true) {a b : Rule} (ha : a ∈ rs) (hb : b ∈ rs) : b.1 * a.2.1 ≤ a.1 * b.2.2 := by
  obtain ⟨w, hw⟩ := List.exists_mem_of_ne_nil _ ((ext_words rs 15 []).mp h)
  rw [show ([] : Row) = tl (wd rs) [] from tl_nil.symm] at hw
  obtain ⟨hl, _, hf⟩ := words_fit ok 15 [] w hw
  have hf' : ∀ j, j < w.length → fits rs (w.take (j + 1)) = true := fun j hj => hf j (by omega)
  have oa := ok.one a ha
  have ob := ok.one b hb
  have q := no_clash (fun i => (w.take i).sum) a.1.toNat b.1.toNat a.2.1 b.2.2 (fun x hx => ?_) (fun x hx => ?_)
  · rw [show ((b.1.toNat : Nat) : Int) = b.1 by omega, show ((a.1.toNat : Nat) : Int) = a.1 by omega] at q
    exact q
  · have := (window ok hf' ha x (by omega)).1
    rw [Nat.add_comm]; exact this
  · have := (window ok hf' hb x (by omega)).2
    rw [Nat.add_comm]; exact this
/-! #### the even row -/
def evenR (a b : Int) (n : Nat) : Row := (List.range n).map fun (j : Nat) => ((j : Int) + 1) * a / b - (j : Int) * a / b
theorem even_snoc (a b : Int) (n : Nat) : evenR a b (n + 1) = evenR a b n ++ [((n : Int) + 1) * a / b - (n : Int) * a / b] := by
  unfold evenR; rw [List.range_succ, List.map_append]; rfl
theorem even_len (a b : Int) (n : Nat) : (evenR a b n).length = n := by unfold evenR; rw [List.length_map, List.length_range]
theorem even_sum (a b : Int) : ∀ n : Nat, (evenR a b n).sum = (n : Int) * a / b
  | 0 => by show (0 : Int) = ((0 : Nat) : Int) * a / b; simp
  | n + 1 => by
    rw [even_snoc, List.sum_append, even_sum a b n, List.sum_singleton]
    have : ((n + 1 : Nat) : Int) = (n : Int) + 1 := by omega
    rw [this]; omega
theorem even_take (a b : Int) (n i : Nat) (h : i ≤ n) : (evenR a b n).take i = evenR a b i := by
  unfold evenR; rw [← List.map_take, List.take_range, Nat.min_eq_left h]
theorem even_end (a b : Int) (n s : Nat) (h : s ≤ n) : ((evenR a b n).drop (n - s)).sum = (n : Int) * a / b - ((n - s : Nat) : Int) * a / b := by
  have e : (evenR a b n).take (n - s) ++ (evenR a b n).drop (n - s) = evenR a b n := List.take_append_drop _ _
  have := congrArg List.sum e
  rw [List.sum_append, even_take a b n (n - s) (by omega), even_sum, even_sum] at this
  omega
/-- whole parts of even steps -/
theorem even_step {a b : Int} (hb : 0 < b) (x s l : Int) (h : l * b ≤ s * a) : x * a / b + l ≤ (x + s) * a / b := by
  rw [← Int.add_mul_ediv_right _ _ (Int.ne_of_gt hb)]
  refine Int.ediv_le_ediv hb ?_
  rw [Int.add_mul]; omega
theorem even_step' {a b : Int} (hb : 0 < b) (x s m : Int) (h : s * a ≤ m * b) : (x + s) * a / b ≤ x * a / b + m := by
  rw [← Int.add_mul_ediv_right _ _ (Int.ne_of_gt hb)]
  refine Int.ediv_le_ediv hb ?_
  rw [Int.add_mul]; omega
theorem even_bit {a b : Int} (hb : 0 < b) (ha : 0 ≤ a) (hab : a ≤ b) (n : Nat) : ((n : Int) + 1) * a / b - (n : Int) * a / b = 0 ∨ ((n : Int) + 1) * a / b - (n : Int) * a / b = 1 := by
  have h1 := even_step (a := a) hb (n : Int) 1 0 (by omega)
  have h2 := even_step' (a := a) hb (n : Int) 1 1 (by omega)
  omega
/-- a share that all rules allow -/
structure Share (rs : List Rule) (a b : Int) : Prop where
  pos : 0 < b
  lo : 0 ≤ a
  hi : a ≤ b
  all : ∀ r ∈ rs, r.2.1 * b ≤ r.1 * a ∧ r.1 * a ≤ r.2.2 * b
theorem even_fits {rs : List Rule} {a b : Int} (ok : RulesOk rs) (s : Share rs a b) (n : Nat) : fits rs (evenR a b n) = true := by
  refine List.all_eq_true.mpr fun r hr => ?_
  have ro := ok.one r hr
  obtain ⟨h1, h2⟩ := s.all r hr
  unfold okRule endSum
  rw [even_len]
  by_cases c : r.1 ≤ (n : Int)
  · rw [even_end a b n r.1.toNat (by omega)]
    have e1 := even_step s.pos (((n - r.1.toNat : Nat) : Int)) r.1 r.2.1 h1
    have e2 := even_step' s.pos (((n - r.1.toNat : Nat) : Int)) r.1 r.2.2 h2
    rw [show ((n - r.1.toNat : Nat) : Int) + r.1 = (n : Int) by omega] at e1 e2
    rw [decide_eq_true (show r.2.1 ≤ _ by omega), decide_eq_true (show _ ≤ r.2.2 by omega)]
    simp
  · rw [decide_eq_false c]; rfl
theorem even_ext {rs : List Rule} {a b : Int} (ok : RulesOk rs) (s : Share rs a b) (n : Nat) : ext rs n [] = true := by
  refine ext_inf (fun t => ∃ k, t = tl (wd rs) (evenR a b k)) (fun t ht => ?_) n [] ⟨0, tl_nil.symm⟩
  obtain ⟨k, rfl⟩ := ht
  refine ⟨_, mem_succs.mpr ⟨_, even_bit s.pos s.lo s.hi k, ?_, rfl⟩, k + 1, ?_⟩
  · rw [← fits_snoc ok, ← even_snoc]; exact even_fits ok s _
  · rw [even_snoc, tl_snoc ok.wide.1]
/-- the rule that asks most -/
theorem most_asking : ∀ (rs : List Rule), rs ≠ [] → (∀ r ∈ rs, 1 ≤ r.1) → ∃ a ∈ rs, ∀ r ∈ rs, r.2.1 * a.1 ≤ r.1 * a.2.1
  | [], h, _ => absurd rfl h
  | [r], _, _ => ⟨r, List.mem_singleton.mpr rfl, fun q hq => by rw [List.mem_singleton.mp hq, Int.mul_comm]; exact Int.le_refl _⟩
  | r :: r2 :: rs, _, hp => by
    obtain ⟨a, ha, h⟩ := most_asking (r2 :: rs) (fun e => by cases e) fun q hq => hp q (List.mem_cons_of_mem _ hq)
    have pa := hp a (List.mem_cons_of_mem _ ha)
    have pr := hp r List.mem_cons_self
    by_cases c : r.2.1 * a.1 ≤ r.1 * a.2.1
    · refine ⟨a, List.mem_cons_of_mem _ ha, fun q hq => ?_⟩
      rcases List.mem_cons.mp hq with rfl | hq
      · exact c
      · exact h q hq
    · refine ⟨r, List.mem_cons_self, fun q hq => ?_⟩
      rcases List.mem_cons.mp hq with rfl | hq
      · rw [Int.mul_comm]; exact Int.le_refl _
      · have hq1 := h q hq
        have pq := hp q (List.mem_cons_of_mem _ hq)
        have c' : r.1 * a.2.1 ≤ r.2.1 * a.1 := by omega
        have e1 : q.2.1 * a.1 * r.1 ≤ q.1 * a.2.1 * r.1 := Int.mul_le_mul_of_nonneg_right hq1 (by omega)
        have e2 : r.1 * a.2.1 * q.1 ≤ r.2.1 * a.1 * q.1 := Int.mul_le_mul_of_nonneg_right c' (by omega)
        refine Int.le_of_mul_le_mul_right (a := a.1) ?_ (by omega)
        have f1 : q.2.1 * r.1 * a.1 = q.2.1 * a.1 * r.1 := by rw [Int.mul_assoc, Int.mul_comm r.1, ← Int.mul_assoc]
        have f2 : q.1 * a.2.1 * r.1 = r.1 * a.2.1 * q.1 := by rw [Int.mul_comm q.1, Int.mul_assoc, Int.mul_comm q.1, ← Int.mul_assoc, Int.mul_comm a.2.1 r.1]
        have f3 : q.1 * r.2.1 * a.1 = r.2.1 * a.1 * q.1 := by rw [Int.mul_assoc, Int.mul_comm q.1]
        omega
theorem share_of {rs : List Rule} (ok : RulesOk rs) (h : ∀ a ∈ rs, ∀ b ∈ rs, b.1 * a.2.1 ≤ a.1 * b.2.2) : ∃ a b, Share rs a b := by
  obtain ⟨a, ha, m⟩ := most_asking rs ok.some fun r hr => (ok.one r hr).1
  have oa := ok.one a ha
  refine ⟨a.2.1, a.1, ⟨by omega, by omega, by omega, fun r hr => ⟨m r hr, ?_⟩⟩⟩
  have := h a ha r hr
  rw [Int.mul_comm r.2.2]; exact this
theorem forever {rs : List Rule} (ok : RulesOk rs) (h : ext rs 15 [] = true) (n : Nat) : ext rs n [] = true := by
  obtain ⟨a, b, s⟩ := share_of ok fun a ha b hb => agree ok h ha hb
  exact even_ext ok s n
end An
-- imports: M4
/-! ### MF: rows that keep the rules, in plain Lean -/
namespace An
open PySem L2
/-- a row whose beginnings all fit -/
structure Fine (rs : List Rule) (u : Row) : Prop where
  bits : ∀ x ∈ u, x = 0 ∨ x = 1
  fit : ∀ j, j < u.length → fits rs (u.take (j + 1)) = true
theorem Fine.nil {rs : List Rule} : Fine rs [] := ⟨fun x h => (by cases h), fun j h => absurd h (Nat.not_lt_zero _)⟩
theorem Fine.snoc {rs : List Rule} {u : Row} {p : Int} (f : Fine rs u) (hp : p = 0 ∨ p = 1) (h : fits rs (u ++ [p]) = true) : Fine rs (u ++ [p]) := by
  refine ⟨fun x hx => ?_, fun j hj => ?_⟩
  · rcases List.mem_append.mp hx with z | z
    · exact f.bits x z
    · rw [List.mem_singleton.mp z]; exact hp
  · rw [List.length_append, List.length_singleton] at hj
    rcases Nat.lt_or_ge j u.length with c | c
    · rw [List.take_append_of_le_length (by omega)]; exact f.fit j c
    · rw [List.take_of_length_le (by rw [List.length_append, List.length_singleton]; omega)]; exact h
theorem Fine.tail {rs : List Rule} {u : Row} (ok : RulesOk rs) (f : Fine rs u) : TailOk rs (tl (wd rs) u) :=
  ⟨fun x hx => f.bits x (List.mem_of_mem_drop hx), tl_len ok.wide.1⟩
theorem tl_tl {rs : List Rule} {t : Row} (h : TailOk rs t) : tl (wd rs) t = t := by
  have := h.2
  unfold tl
  rw [show t.length + 1 - (wd rs).toNat = 0 by omega]; rfl
theorem Fine.free {rs : List Rule} {u : Row} (ok : RulesOk rs) (f : Fine rs u) {j : Nat} {p : Int} (h : u[j]? = some p) : freeP rs (tl (wd rs) (u.take j)) p = true := by
  have hj := (List.getElem?_eq_some_iff.mp h).1
  have q := f.fit j hj
  rw [List.take_add_one, h] at q
  rw [← fits_snoc ok]; exact q
/-- for ever -/
def Inf (rs : List Rule) (t : Row) : Prop := ∀ n, ext rs n t = true
theorem chain_of {rs : List Rule} (ok : RulesOk rs) : ∀ (n : Nat) (t : Row), TailOk rs t → IsRk rs t n → ∃ l : List Row, l.length = n + 1 ∧ l.Nodup ∧ ∀ u ∈ l, TailOk rs u ∧ ∃ m, m ≤ n ∧ IsRk rs u m
  | 0, t, h, r => ⟨[t], rfl, by simp, fun u hu => by rw [List.mem_singleton.mp hu]; exact ⟨h, 0, Nat.le_refl _, r⟩⟩
  | n + 1, t, h, r => by
    obtain ⟨⟨h1, h2⟩, h3⟩ := IsRk.step r
    obtain ⟨l, e1, e2, e3⟩ := chain_of ok n _ (nextTail_ok ok h h3) h2
    refine ⟨t :: l, by rw [List.length_cons, e1], List.nodup_cons.mpr ⟨fun m => ?_, e2⟩, fun u hu => ?_⟩
    · obtain ⟨_, k, hk, rk⟩ := e3 t m
      have := r.uniq rk
      omega
    · rcases List.mem_cons.mp hu with rfl | hu
      · exact ⟨h, n + 1, Nat.le_refl _, r⟩
      · obtain ⟨a, k, hk, rk⟩ := e3 u hu
        exact ⟨a, k, by omega, rk⟩
theorem rank_lt {rs : List Rule} (ok : RulesOk rs) {t : Row} (h : TailOk rs t) {n : Nat} (r : IsRk rs t n) : n < 255 := by
  obtain ⟨l, e1, e2, e3⟩ := chain_of ok n t h r
  have q := nodup_le l allTails e2 fun u hu => mem_allTails ok (e3 u hu).1
  rw [e1, allTails_len] at q
  omega
theorem rank_or {rs : List Rule} {t : Row} : ∀ n : Nat, ext rs n t = true ∨ ∃ m, m < n ∧ IsRk rs t m
  | 0 => .inl rfl
  | n + 1 => by
    rcases rank_or (rs := rs) (t := t) n with h | ⟨m, hm, r⟩
    · cases e : ext rs (n + 1) t
      · exact .inr ⟨n, Nat.lt_succ_self _, h, e⟩
      · exact .inl rfl
    · exact .inr ⟨m, by omega, r⟩
theorem inf_of {rs : List Rule} (ok : RulesOk rs) {t : Row} (h : TailOk rs t) (e : ext rs 255 t = true) : Inf rs t := fun n => by
  rcases rank_or (rs := rs) (t := t) n with z | ⟨m, _, r⟩
  · exact z
  · have := rank_lt ok h r
    have q := ext_le rs t e (show m + 1 ≤ 255 by omega)
    rw [r.2] at q; cases q
/-- told by numbers -/
def infB (rs : List Rule) (t : Row) : Bool := ext rs 255 t
theorem inf_iff {rs : List Rule} (ok : RulesOk rs) {t : Row} (h : TailOk rs t) : infB rs t = true ↔ Inf rs t := ⟨inf_of ok h, fun e => e 255⟩
theorem rank_or_inf {rs : List Rule} (ok : RulesOk rs) {t : Row} (h : TailOk rs t) : (∃ n, n < 255 ∧ IsRk rs t n) ∨ Inf rs t := by
  rcases rank_or (rs := rs) (t := t) 255 with z | z
  · exact .inr (inf_of ok h z)
  · exact .inl z
/-- the places that can follow for ever -/
def onsOf (rs : List Rule) (t : Row) : Row := ([0, 1] : List Int).filter fun p => freeP rs t p && infB rs (nextTail (wd rs) t p)
theorem ons_ne {rs : List Rule} (ok : RulesOk rs) {t : Row} (h : TailOk rs t) : onsOf rs t ≠ [] ↔ Inf rs t := by
  constructor
  · intro ne n
    obtain ⟨p, hp⟩ := List.exists_mem_of_ne_nil _ ne
    obtain ⟨h1, h2⟩ := List.mem_filter.mp hp
    obtain ⟨h3, h4⟩ := Bool.and_eq_true_iff.mp h2
    have hp01 := mem_01.mp h1
    have inf := (inf_iff ok (nextTail_ok ok h hp01)).mp h4
    cases n with
    | zero => rfl
    | succ n => exact List.any_eq_true.mpr ⟨_, mem_succs.mpr ⟨p, hp01, h3, rfl⟩, inf n⟩
  · intro inf e
    obtain ⟨u, hu, eu⟩ := List.any_eq_true.mp (show (succs rs t).any (ext rs 255) = true from inf 256)
    obtain ⟨p, hp, hf, rfl⟩ := mem_succs.mp hu
    have : p ∈ onsOf rs t := List.mem_filter.mpr ⟨mem_01.mpr hp, by rw [hf]; exact eu⟩
    rw [e] at this; cases this
end An
-- imports: X0 B3
/-! ### E1: the deck of picks -/
namespace An
open PySem L2
/-- a deck: picks told in order, then made -/
def DeckAt (H : Hp) (a : Addr) (N : Int) : Prop := ∃ d0 d1 d2 : Int, H a = some (.lst [.int d0, .int d1, .int d2]) ∧ 0 ≤ d0 ∧ 0 ≤ d1 ∧ d1 < 2147483648 ∧ 0 ≤ d2 ∧ d2 ≤ N
theorem DeckAt.mono {H H' : Hp} {a : Addr} {N M : Int} (h : DeckAt H a N) (e : ∀ xs, H a = some (.lst xs) → H' a = some (.lst xs)) (le : N ≤ M) : DeckAt H' a M :=
  let ⟨d0, d1, d2, h1, h2, h3, h4, h5, h6⟩ := h; ⟨d0, d1, d2, e _ h1, h2, h3, h4, h5, Int.le_trans h6 le⟩
theorem DeckAt.same {H H' : Hp} {a : Addr} {N : Int} (h : DeckAt H a N) (e : Same H H') : DeckAt H' a N := h.mono (fun _ => e _ _) (Int.le_refl _)
theorem TS.deck {H : Hp} {a : Addr} {N : Int} {o : HO} (h : DeckAt H a N) : TS H (upd H a o) := let ⟨_, _, _, h1, _⟩ := h; TS.lst h1
section
variable {P : Program} {w : World} {K : PySem.W.Frag} {mg : Str → Option Value} {base : Heap}
def N__law_deck : List Str := ["cell", "turn"]
theorem sc_law_deck : FnScope N__law_deck ["cell", "turn"] (defScope S__law_deck) := ⟨rfl, rfl, rfl, by decide +kernel, rfl, by decide +kernel, by decide +kernel⟩
def spDeck : Sp := fun vs H Q _ => ∃ c t : Int, vs = [.int c, .int t] ∧ 0 ≤ t ∧ ∀ p H', Same H H' → H p = none → DeckAt H' p t → Q (.ref p) H'
theorem ok_law_deck (D : Dn K mg "_law_deck" S__law_deck) : Cl P w K mg base 1 "_law_deck" spDeck := by
  refine D.ok sc_law_deck (fun vs H Q E h => ?_) (fun _ _ _ _ _ _ us hl => match us, hl with | [_, _], _ => rfl) (fun f cdv A outer s H vs Q E hr h => ?_)
  · obtain ⟨c, t, rfl, _⟩ := h; rfl
  · obtain ⟨c, t, rfl, ht, k⟩ := h
    have nd := sc_law_deck.nd
    refine ⟨_, (pss_cons (ps_if (pt_cmpR op_ge (pv 0) (pe_op op_pow pe_int pe_int) (nomark _))
    (pss_one (ps_ret (pe_lst (pa_cons (pe_op op_sub (pv 0) (pe_op op_pow pe_int pe_int)) (pa_cons (pe_op op_mod (pv 0) pe_int) (pa_cons (pv 1) pa_nil))))))
    pss_nil)
    (pss_one (ps_ret (pe_lst (pa_cons pe_int (pa_cons (pe_op op_mod (pv 0) pe_int) (pa_cons (pv 1) pa_nil))))))), ?_⟩
    refine ⟨_, rfl, _, _, rfl, rfl, ⟨by decide, by decide, by decide⟩, _, _, rfl, rfl, _, rfl, ?_⟩
    refine ite2 (fun h1 => ?_) (fun h1 => ?_)
    · rw [decide_eq_true_eq] at h1
      refine ⟨_, rfl, _, _, rfl, rfl, ⟨by decide, by decide, by decide⟩, _, _, rfl, rfl, _, rfl, _, _, rfl, rfl, (by decide : (0:Int) < 2147483579), _, rfl, sz (by show 3 ≤ 100000; decide), fun p hp => ?_⟩
      exact k p _ (Same.new hp) hp ⟨_, _, _, upd_same, Int.sub_nonneg_of_le h1, Int.emod_nonneg _ (by decide), by have := Int.emod_lt_of_pos c (b := 2147483579) (by decide); omega, ht, Int.le_refl _⟩
    · refine ⟨_, rfl, _, _, rfl, rfl, (by decide : (0:Int) < 2147483579), _, rfl, sz (by show 3 ≤ 100000; decide), fun p hp => ?_⟩
      exact k p _ (Same.new hp) hp ⟨_, _, _, upd_same, by decide, Int.emod_nonneg _ (by decide), by have := Int.emod_lt_of_pos c (b := 2147483579) (by decide); omega, ht, Int.le_refl _⟩
def N__law_pick : List Str := ["deck", "size", "found", "number"]
theorem sc_law_pick : FnScope N__law_pick ["deck", "size"] (defScope S__law_pick) := ⟨rfl, rfl, rfl, by decide +kernel, rfl, by decide +kernel, by decide +kernel⟩
def spPick : Sp := fun vs H Q _ => ∃ (a : Addr) (size N : Int), vs = [.ref a, .int size] ∧ 0 < size ∧ size < 1073741824 ∧ N < 1073741824 ∧ DeckAt H a N ∧ ∀ (r : Int) H', 0 ≤ r → r < size → SameX [a] H H' → TS H H' → DeckAt H' a (N + 1) → Q (.int r) H'
theorem ok_law_pick (D : Dn K mg "_law_pick" S__law_pick) : Cl P w K mg base 1 "_law_pick" spPick := by
  refine D.ok sc_law_pick (fun vs H Q E h => ?_) (fun _ _ _ _ _ _ us hl => match us, hl with | [_, _], _ => rfl) (fun f cdv A outer s H vs Q E hr h => ?_)
  · obtain ⟨a, size, N, rfl, _⟩ := h; rfl
  · obtain ⟨a, size, N, rfl, hs, hs2, hN, ⟨d0, d1, d2, ha, h0, h1, h2, h3, h4⟩, k⟩ := h
    have nd := sc_law_pick.nd
    refine ⟨_, (pss_cons (ps_if (pt_cmpR op_gt (pe_ix ix_list (pv 0) pe_int (fun _ _ => rfl)) pe_int (nomark _))
    (pss_cons (ps_set (i := 2) nd rfl (Or.inl rfl) (pe_op op_mod (pe_ix ix_list (pv 0) pe_int (fun _ _ => rfl)) (pv 1)))
    (pss_cons (ps_asg (pe_op op_fdiv (pe_ix ix_list (pv 0) pe_int (fun _ _ => rfl)) (pv 1)) (pg_sub (pv 0) pe_int set_list))
    (pss_one (ps_ret (pv 2)))))
    pss_nil)
    (pss_cons (ps_asg (pe_op op_add (pe_ix ix_list (pv 0) pe_int (fun _ _ => rfl)) pe_int) (pg_sub (pv 0) pe_int set_list))
    (pss_cons (ps_set (i := 3) nd rfl (Or.inl rfl) (pe_op op_mod (pe_op op_pow (pe_op op_add (pe_ix ix_list (pv 0) pe_int (fun _ _ => rfl)) (pe_op op_mul pe_int (pe_ix ix_list (pv 0) pe_int (fun _ _ => rfl)))) pe_int) pe_int))
    (pss_cons (ps_set (i := 2) nd rfl (Or.inl rfl) (pe_op op_fdiv (pe_op op_mod (pe_op op_pow (pe_op op_add (pv 3) (pe_op op_mul pe_int (pe_ix ix_list (pv 0) pe_int (fun _ _ => rfl)))) pe_int) pe_int) pe_int))
    (pss_one (ps_ret (pe_op op_mod (pv 2) (pv 1)))))))), ?_⟩
    have key : ∀ e0 e2 : Int, 0 ≤ e0 → 0 ≤ e2 → e2 ≤ N + 1 → ∀ r : Int, 0 ≤ r → r < size → Q (.int r) (upd H a (.lst [.int e0, .int d1, .int e2])) := fun e0 e2 z0 z1 z2 r r1 r2 =>
      k r _ r1 r2 (SameX.updA (List.mem_singleton.mpr rfl)) (TS.lst ha) ⟨_, _, _, upd_same, z0, h1, h2, z1, z2⟩
    refine ⟨_, rfl, a, _, 0, _, rfl, rfl, SqL.of ha, rfl, _, _, rfl, rfl, _, rfl, ?_⟩
    refine ite2 (fun g => ?_) (fun g => ?_)
    · refine ⟨_, rfl, a, _, 0, _, rfl, rfl, SqL.of ha, rfl, _, rfl, _, _, rfl, rfl, hs, ?_⟩
      refine ⟨_, rfl, a, _, 0, _, rfl, rfl, SqL.of ha, rfl, _, rfl, _, _, rfl, rfl, ⟨hs, hs2⟩, ?_⟩
      refine ⟨_, rfl, a, _, 0, 0, rfl, rfl, ha, rfl, _, rfl, ?_⟩
      exact key _ _ (Int.ediv_nonneg h0 (Int.le_of_lt hs)) h3 (by omega) _ (Int.emod_nonneg _ (by omega)) (Int.emod_lt_of_pos _ hs)
    · refine ⟨_, rfl, a, _, 2, _, rfl, rfl, SqL.of ha, rfl, _, _, rfl, rfl, ?_⟩
      refine ⟨_, rfl, a, _, 2, 2, rfl, rfl, ha, rfl, ?_⟩
      have ha' : upd H a (.lst (([.int d0, .int d1, .int d2] : List V).set 2 (.int (d2 + 1)))) a = some (.lst [.int d0, .int d1, .int (d2 + 1)]) := upd_same
      refine ⟨_, rfl, a, _, 1, _, rfl, rfl, SqL.of ha', rfl, _, rfl, a, _, 2, _, rfl, rfl, SqL.of ha', rfl, _, _, rfl, rfl, .inl ⟨by decide, by decide⟩, _, _, rfl, rfl, ?_⟩
      refine ⟨_, _, rfl, rfl, ⟨by decide, by decide, by omega⟩, _, _, rfl, rfl, (by decide : (0:Int) < 2147483647), ?_⟩
      have n0 : 0 ≤ (d1 + 15485867 * (d2 + 1)) ^ (5:Int).toNat % 2147483647 := Int.emod_nonneg _ (by decide)
      have n1 : (d1 + 15485867 * (d2 + 1)) ^ (5:Int).toNat % 2147483647 < 2147483647 := Int.emod_lt_of_pos _ (by decide)
      revert n0 n1
      generalize (d1 + 15485867 * (d2 + 1)) ^ (5:Int).toNat % 2147483647 = num
      intro n0 n1
      refine ⟨_, rfl, _, rfl, a, _, 2, _, rfl, rfl, SqL.of ha', rfl, _, _, rfl, rfl, .inl ⟨by decide, by decide⟩, _, _, rfl, rfl, ?_⟩
      refine ⟨_, _, rfl, rfl, ⟨by decide, by decide, by omega⟩, _, _, rfl, rfl, (by decide : (0:Int) < 2147483629), _, _, rfl, rfl, ⟨by decide, by decide⟩, ?_⟩
      refine ⟨_, rfl, _, rfl, _, _, rfl, rfl, hs, ?_⟩
      exact key _ _ h0 (by omega) (by omega) _ (Int.emod_nonneg _ (by omega)) (Int.emod_lt_of_pos _ hs)
/-- one of a list of numbers -/
def N__law_one : List Str := ["deck", "some"]
theorem sc_law_one : FnScope N__law_one ["deck", "some"] (defScope S__law_one) := ⟨rfl, rfl, rfl, by decide +kernel, rfl, by decide +kernel, by decide +kernel⟩
def spOne : Sp := fun vs H Q _ => ∃ (a b : Addr) (xs : List V) (N : Int), vs = [.ref a, .ref b] ∧ a ≠ b ∧ H b = some (.lst xs) ∧ xs ≠ [] ∧ xs.length < 1000 ∧ N < 1073741824 ∧ DeckAt H a N ∧ ∀ x H', x ∈ xs → SameX [a] H H' → TS H H' → DeckAt H' a (N + 1) → Q x H'
theorem ok_law_one (D : Dn K mg "_law_one" S__law_one) (bf : Bf mg) (C_law_pick : Cl P w K mg base 1 "_law_pick" spPick) : Cl P w K mg base 2 "_law_one" spOne := by
  refine D.ok sc_law_one (fun vs H Q E h => ?_) (fun _ _ _ _ _ _ us hl => match us, hl with | [_, _], _ => rfl) (fun f cdv A outer s H vs Q E hr h => ?_)
  · obtain ⟨a, b, xs, N, rfl, _⟩ := h; rfl
  · obtain ⟨a, b, xs, N, rfl, nab, hb, ne, hl, hN, hd, k⟩ := h
    have nd := sc_law_one.nd
    have hr_law_pick := hr
    refine ⟨_, (pss_one (ps_ret (pe_ix ix_list (pv 1) (pe_callC C_law_pick hr_law_pick rfl (pa_cons (pv 0) (pa_cons (pe_callB call_len_seq rfl bf.len bt_len (pa_cons (pv 1) pa_nil)) pa_nil))) (fun _ _ => rfl)))), ?_⟩
    have pos := List.length_pos_iff.mpr ne
    refine ⟨_, rfl, _, rfl, _, rfl, b, xs, rfl, .inl (SqL.of hb), a, (xs.length : Int), N, rfl, by omega, by omega, hN, hd, fun r H' h0 h1 sx ts hd' => ?_⟩
    obtain ⟨j, rfl⟩ : ∃ j : Nat, r = (j : Int) := ⟨r.toNat, by omega⟩
    have hj : j < xs.length := by omega
    refine ⟨b, xs, _, xs[j], rfl, rfl, SqL.of (sx _ _ (by simpa using fun e : b = a => nab e.symm) hb), atI_nat (List.getElem?_eq_getElem hj), ?_⟩
    exact k _ _ (List.getElem_mem hj) sx ts hd'
end
end An
-- imports: D2
/-! ### E2: the same answer: sort and same -/
namespace An
open PySem L2
theorem Kd.lts {H H' : Hp} {v : V} {t : String} (e : LTS H H') (h : Kd H v t) : Kd H' v t := by
  cases h with
  | non => exact .non
  | bl b => exact .bl b
  | int i => exact .int i
  | str x => exact .str x
  | lst q => exact .lst (e _ _ (.inl ⟨_, rfl⟩) q)
  | tup q => exact .tup (e _ _ (.inr ⟨_, rfl⟩) q)
/-- the same data, lists and tuples at most n deep -/
inductive Flat : V → Prop where
  | non : Flat .non
  | bl (b : Bool) : Flat (.bl b)
  | int (i : Int) : Flat (.int i)
inductive SeqLike (H : Hp) (a b : Addr) (xs ys : List V) : Prop where
  | l (h1 : H a = some (.lst xs)) (h2 : H b = some (.lst ys))
  | t (h1 : H a = some (.tup xs)) (h2 : H b = some (.tup ys))
def SameT : Nat → Hp → V → V → Prop
  | 0, _, v, u => v = u ∧ Flat v
  | n + 1, H, v, u => (v = u ∧ Flat v) ∨ ∃ a b xs ys, v = .ref a ∧ u = .ref b ∧ SeqLike H a b xs ys ∧ xs.length < 1000 ∧ Paired (SameT n H) xs ys
theorem SameT.mono : ∀ {n : Nat} {H H' : Hp} {v u : V}, LTS H H' → SameT n H v u → SameT n H' v u
  | 0, _, _, _, _, _, h => h
  | _ + 1, _, _, _, _, e, h => by
    rcases h with h | ⟨a, b, xs, ys, h1, h2, h3, h4, h5⟩
    · exact .inl h
    · refine .inr ⟨a, b, xs, ys, h1, h2, ?_, h4, Paired.mp h5 fun _ _ z => SameT.mono e z⟩
      cases h3 with
      | l p q => exact .l (e _ _ (.inl ⟨_, rfl⟩) p) (e _ _ (.inl ⟨_, rfl⟩) q)
      | t p q => exact .t (e _ _ (.inr ⟨_, rfl⟩) p) (e _ _ (.inr ⟨_, rfl⟩) q)
theorem SameT.row {n : Nat} {H : Hp} {v u : V} {r : Row} (h1 : TupI H v r) (h2 : TupI H u r) (hl : r.length < 1000) : SameT (n + 1) H v u := by
  obtain ⟨a, rfl, ha⟩ := h1
  obtain ⟨b, rfl, hb⟩ := h2
  refine .inr ⟨a, b, _, _, rfl, rfl, .t ha hb, by rw [List.length_map]; exact hl, ?_⟩
  clear ha hb hl
  induction r with
  | nil => exact .nil
  | cons x r ih =>
    refine .cons ?_ ih
    cases n with
    | zero => exact ⟨rfl, .int x⟩
    | succ n => exact .inl ⟨rfl, .int x⟩
def sortOf (t : String) : Int := if t = "bool" then 1 else if t = "int" then 2 else if t = "str" then 3 else if t = "list" then 4 else if t = "tuple" then 5 else 6
section
variable {P : Program} {w : World} {K : PySem.W.Frag} {mg : Str → Option Value} {base : Heap}
def N__law_sort : List Str := ["thing"]
theorem sc_law_sort : FnScope N__law_sort ["thing"] (defScope S__law_sort) := ⟨rfl, rfl, rfl, by decide +kernel, rfl, by decide +kernel, by decide +kernel⟩
def spSort : Sp := fun vs H Q _ => ∃ x t, vs = [x] ∧ Kd H x t ∧ Q (.int (sortOf t)) H
theorem ok_law_sort (D : Dn K mg "_law_sort" S__law_sort) (bf : Bf mg) : Cl P w K mg base 1 "_law_sort" spSort := by
  refine D.ok sc_law_sort (fun vs H Q E h => ?_) (fun _ _ _ _ _ _ us hl => match us, hl with | [_], _ => rfl) (fun f cdv A outer s H vs Q E hr h => ?_)
  · obtain ⟨x, t, rfl, _⟩ := h; rfl
  · obtain ⟨x, t, rfl, kd, k⟩ := h
    have nd := sc_law_sort.nd
    refine ⟨_, (pss_cons (ps_if (pt_val (pe_callB call_isi rfl bf.isinstance bt_isinstance (pa_cons (pv 0) (pa_cons (pe_bltn (v := .ty "bool") rfl bf.bool bt_bool rfl) pa_nil))))
    (pss_one (ps_ret pe_int))
    pss_nil)
    (pss_cons (ps_if (pt_val (pe_callB call_isi rfl bf.isinstance bt_isinstance (pa_cons (pv 0) (pa_cons (pe_bltn (v := .ty "int") rfl bf.int bt_int rfl) pa_nil))))
    (pss_one (ps_ret pe_int))
    pss_nil)
    (pss_cons (ps_if (pt_val (pe_callB call_isi rfl bf.isinstance bt_isinstance (pa_cons (pv 0) (pa_cons (pe_bltn (v := .ty "str") rfl bf.str bt_str rfl) pa_nil))))
    (pss_one (ps_ret pe_int))
    pss_nil)
    (pss_cons (ps_if (pt_val (pe_callB call_isi rfl bf.isinstance bt_isinstance (pa_cons (pv 0) (pa_cons (pe_bltn (v := .ty "list") rfl bf.list bt_list rfl) pa_nil))))
    (pss_one (ps_ret pe_int))
    pss_nil)
    (pss_one (ps_ret (pe_ifExp (pt_val (pe_callB call_isi rfl bf.isinstance bt_isinstance (pa_cons (pv 0) (pa_cons (pe_bltn (v := .ty "tuple") rfl bf.tuple bt_tuple rfl) pa_nil)))) pe_int pe_int))))))), ?_⟩
    cases kd with
    | non => exact ⟨_, rfl, isi_of .non (b := false) (by decide +kernel) ⟨_, rfl, iteF ⟨_, rfl, isi_of .non (b := false) (by decide +kernel) ⟨_, rfl, iteF ⟨_, rfl, isi_of .non (b := false) (by decide +kernel) ⟨_, rfl, iteF ⟨_, rfl, isi_of .non (b := false) (by decide +kernel) ⟨_, rfl, iteF ⟨_, rfl, isi_of .non (b := false) (by decide +kernel) ⟨_, rfl, iteF k⟩⟩⟩⟩⟩⟩⟩⟩⟩⟩
    | bl b => exact ⟨_, rfl, isi_of (.bl b) (b := true) (by decide +kernel) ⟨_, rfl, iteT k⟩⟩
    | int n => exact ⟨_, rfl, isi_of (.int n) (b := false) (by decide +kernel) ⟨_, rfl, iteF ⟨_, rfl, isi_of (.int n) (b := true) (by decide +kernel) ⟨_, rfl, iteT k⟩⟩⟩⟩
    | str z => exact ⟨_, rfl, isi_of (.str z) (b := false) (by decide +kernel) ⟨_, rfl, iteF ⟨_, rfl, isi_of (.str z) (b := false) (by decide +kernel) ⟨_, rfl, iteF ⟨_, rfl, isi_of (.str z) (b := true) (by decide +kernel) ⟨_, rfl, iteT k⟩⟩⟩⟩⟩⟩
    | lst e => exact ⟨_, rfl, isi_of (.lst e) (b := false) (by decide +kernel) ⟨_, rfl, iteF ⟨_, rfl, isi_of (.lst e) (b := false) (by decide +kernel) ⟨_, rfl, iteF ⟨_, rfl, isi_of (.lst e) (b := false) (by decide +kernel) ⟨_, rfl, iteF ⟨_, rfl, isi_of (.lst e) (b := true) (by decide +kernel) ⟨_, rfl, iteT k⟩⟩⟩⟩⟩⟩⟩⟩
    | tup e => exact ⟨_, rfl, isi_of (.tup e) (b := false) (by decide +kernel) ⟨_, rfl, iteF ⟨_, rfl, isi_of (.tup e) (b := false) (by decide +kernel) ⟨_, rfl, iteF ⟨_, rfl, isi_of (.tup e) (b := false) (by decide +kernel) ⟨_, rfl, iteF ⟨_, rfl, isi_of (.tup e) (b := false) (by decide +kernel) ⟨_, rfl, iteF ⟨_, rfl, isi_of (.tup e) (b := true) (by decide +kernel) ⟨_, rfl, iteT k⟩⟩⟩⟩⟩⟩⟩⟩⟩⟩
/-! #### same -/
def N__law_same : List Str := ["told", "due", "k", "part"]
theorem sc_law_same : FnScope N__law_same ["told", "due"] (defScope S__law_same) := ⟨rfl, rfl, rfl, by decide +kernel, rfl, by decide +kernel, by decide +kernel⟩
def spSame (n : Nat) : Sp := fun vs H Q _ => ∃ v u, vs = [v, u] ∧ SameT n H v u ∧ ∀ H', Same H H' → Q (.bl true) H'
def spNo : Sp := fun _ _ _ _ => False
theorem ok_no_same (D : Dn K mg "_law_same" S__law_same) : Cl P w K mg base 1 "_law_same" spNo :=
  D.ok sc_law_same (fun _ _ _ _ h => h.elim) (fun _ _ _ _ _ _ us hl => match us, hl with | [_, _], _ => rfl) (fun _ _ _ _ _ _ _ _ _ _ h => h.elim)
/-- a list made by a test that is never met -/
theorem lc_none {J : It} {n : Nat} {G : Hp → Prop} {Y : Nat → Hp → V → Hp → Prop} (wk : Walk J n G Y) {g : TG} {tt : TT} {te : TE} {vs : List Nat} {σ : L2.St} {H1 : Hp} {D : Addr} {Qd : Hp → Prop}
    (hD : H1 D = none) (hG : ∀ H', Same H1 H' → G H')
    (hs : ∀ i x H H' (NF : Hp → Prop), i < n → Same H1 H → Y i H x H' → (∀ H4, Same H H4 → NF H4) → ∀ NT : V → Hp → Prop,
      g x (wipe σ vs) H' fun σ2 H2 => wipe σ2 vs = wipe σ vs ∧ tt σ2 H2 fun b H3 => if b = true then te σ2 H3 NT else NF H3)
    (hd : ∀ H', Same H1 H' → H' D = some (.lst []) → Qd H') :
    ∃ W : Nat → Nat → Hp → Prop, (∃ m, W 0 m (upd H1 D (.lst []))) ∧ ∀ i m H, W i m H →
      (J.stop i H ∧ Qd H) ∨ (J.go i H ∧ ∃ Nx : Hp → Prop, (∀ H', Nx H' → ∃ m', m' < m ∧ W (i + 1) m' H') ∧ ∀ x H', J.yld i H x H' → g x (wipe σ vs) H' fun σ2 H2 => wipe σ2 vs = wipe σ vs ∧ tt σ2 H2 fun b H3 =>
        if b = true then te σ2 H3 fun y H4 => ∃ acc, H4 D = some (.lst acc) ∧ acc.length < sizeLine ∧ Nx (upd H4 D (.lst (acc ++ [y]))) else Nx H3) :=
  lc_go wk (fun (_ : Hp) (_ : V) (_ : Unit) => True) (fun _ => []) hD rfl (fun _ _ => by show 0 < 100000; decide) (fun _ _ _ _ _ h => h) (fun _ _ _ _ _ _ h => h) hG
    (fun i x H H' NT NF hi sm y _ hf => hs i x H H' NF hi sm y (fun H4 s => hf H4 s rfl) NT) fun H' ys s e p => by cases p; exact hd H' s e
theorem SameT.get {n : Nat} {H : Hp} {xs ys : List V} {i : Nat} {x : V} (p : Paired (SameT n H) xs ys) (h : xs[i]? = some x) : ∃ y, ys[i]? = some y ∧ SameT n H x y := Paired.get p h
theorem ok_same_step {k n : Nat} {sp' : Sp} (D : Dn K mg "_law_same" S__law_same) (bf : Bf mg) (C_law_sort : Cl P w K mg base 1 "_law_sort" spSort) (C_law_same : Cl P w K mg base (k + 1) "_law_same" sp')
    (h' : n = 0 ∨ ∃ m, n = m + 1 ∧ sp' = spSame m) : Cl P w K mg base (k + 2) "_law_same" (spSame n) := by
  refine D.ok sc_law_same (fun vs H Q E h => ?_) (fun _ _ _ _ _ _ us hl => match us, hl with | [_, _], _ => rfl) (fun f cdv A outer s H vs Q E hr h => ?_)
  · obtain ⟨v, u, rfl, _⟩ := h; rfl
  · obtain ⟨v, u, rfl, st, kk⟩ := h
    have nd := sc_law_same.nd
    have hr_law_sort := hr.mono (show 1 ≤ k + 1 by omega)
    have hr_law_same := hr
    have hf : (v = u ∧ Flat v) ∨ ∃ m, n = m + 1 ∧ sp' = spSame m ∧ ∃ a b xs ys, v = .ref a ∧ u = .ref b ∧ SeqLike H a b xs ys ∧ xs.length < 1000 ∧ Paired (SameT m H) xs ys := by
      rcases h' with rfl | ⟨m, rfl, e⟩
      · exact .inl st
      · rcases st with st | st
        · exact .inl st
        · exact .inr ⟨m, rfl, e, st⟩
    clear st h'
    rcases hf with ⟨rfl, fl⟩ | ⟨m, rfl, rfl, a, b, xs, ys, rfl, rfl, sl, hl, pr⟩
    · have dp : ∃ d t, Kd H v t ∧ Dp K H v d ∧ SeqAt.shaped d = true ∧ PyData.eqv d d = true ∧ (sortOf t < 4 ∨ sortOf t = 6) := by
        cases fl with
        | non => exact ⟨.none, "NoneType", .non, .non, by decide +kernel, by decide +kernel, .inr rfl⟩
        | bl b => exact ⟨.bool b, "bool", .bl b, .bl b, by cases b <;> decide +kernel, by cases b <;> decide +kernel, .inl (by decide)⟩
        | int i => exact ⟨.int i, "int", .int i, .int i, by simp [SeqAt.shaped, PyData.canLay0, PyData.depth], by simp [PyData.eqv], .inl (by decide)⟩
      obtain ⟨d, t, kd, hd, hs, he, ht⟩ := dp
      refine ⟨_, (pss_cons (ps_if (pt_cmpR op_ne (pe_callC C_law_sort hr_law_sort rfl (pa_cons (pv 0) pa_nil)) (pe_callC C_law_sort hr_law_sort rfl (pa_cons (pv 1) pa_nil)) (nomark _))
    (pss_one (ps_ret pe_bl))
    pss_nil)
    (pss_cons (ps_if (PW.pt (pw_and (pt_cmpR op_gt (pe_callC C_law_sort hr_law_sort rfl (pa_cons (pv 0) pa_nil)) pe_int (nomark _)) (pw_and1 (pt_cmpR op_lt (pe_callC C_law_sort hr_law_sort rfl (pa_cons (pv 0) pa_nil)) pe_int (nomark _)))))
    (pss_cons (ps_if (pt_cmpR op_ne (pe_callB call_len_seq rfl bf.len bt_len (pa_cons (pv 0) pa_nil)) (pe_callB call_len_seq rfl bf.len bt_len (pa_cons (pv 1) pa_nil)) (nomark _))
    (pss_one (ps_ret pe_bl))
    pss_nil)
    (pss_one (ps_ret (pe_cmpR (op_eqD hr.units) (pe_lc (own := [("k", 2), ("part", 3)]) rfl nd (pi_enumT rfl bf.enumerate (pa_cons (pv 0) pa_nil)) (blkOk_by (own := [("k", 2), ("part", 3)]) (N := N__law_same) (sc := defScope S__law_same) (by decide +kernel)) (fun _ _ _ _ _ => (pg_tupK (K := K) (n := 2) rfl rfl (pgs_cons (pg_name (i := 2) nd rfl (Or.inl rfl) (Or.inr rfl)) (pgs_cons (pg_name (i := 3) nd rfl (Or.inl rfl) (Or.inr rfl)) pgs_nil)))) (fun _ _ _ _ _ => (pts_one (pt_not (pt_val (pe_callC C_law_same hr_law_same rfl (pa_cons (pv 3) (pa_cons (pe_ix (ix_tupK (K := K) rfl) (pv 1) (pv 2) (fun _ _ => rfl)) pa_nil))))))) (fun _ _ _ _ _ => (pv 2))) (pe_lst pa_nil) (nomark _)))))
    pss_nil)
    (pss_one (ps_ret (pe_cmpR (op_eqD hr.units) (pv 0) (pv 1) (nomark _)))))), ?_⟩
      refine ⟨_, rfl, v, t, rfl, kd, _, rfl, v, t, rfl, kd, rfl, _, rfl, ?_⟩
      rw [decide_eq_true rfl]
      refine iteF ?_
      have last : rEqD K v v H fun y H4 => Q y H4 := ⟨d, d, hd, hd, hs, hs, by rw [he]; exact kk H (Same.refl H)⟩
      refine ⟨_, rfl, v, t, rfl, kd, _, _, rfl, rfl, _, rfl, ite2 (fun h3 => ?_) (fun h3 => ?_)⟩
      · refine ⟨_, rfl, v, t, rfl, kd, _, _, rfl, rfl, _, rfl, ite2 (fun h4 => ?_) (fun h4 => ?_)⟩
        · exfalso
          rw [decide_eq_true_eq] at h3 h4
          omega
        · exact ⟨_, rfl, _, rfl, last⟩
      · exact ⟨_, rfl, _, rfl, last⟩
    · have hlen := Paired.len pr
      cases sl with
      | t ha hb =>
        refine ⟨_, (pss_cons (ps_if (pt_cmpR op_ne (pe_callC C_law_sort hr_law_sort rfl (pa_cons (pv 0) pa_nil)) (pe_callC C_law_sort hr_law_sort rfl (pa_cons (pv 1) pa_nil)) (nomark _))
    (pss_one (ps_ret pe_bl))
    pss_nil)
    (pss_cons (ps_if (PW.pt (pw_and (pt_cmpR op_gt (pe_callC C_law_sort hr_law_sort rfl (pa_cons (pv 0) pa_nil)) pe_int (nomark _)) (pw_and1 (pt_cmpR op_lt (pe_callC C_law_sort hr_law_sort rfl (pa_cons (pv 0) pa_nil)) pe_int (nomark _)))))
    (pss_cons (ps_if (pt_cmpR op_ne (pe_callB call_len_seq rfl bf.len bt_len (pa_cons (pv 0) pa_nil)) (pe_callB call_len_seq rfl bf.len bt_len (pa_cons (pv 1) pa_nil)) (nomark _))
    (pss_one (ps_ret pe_bl))
    pss_nil)
    (pss_one (ps_ret (pe_cmpR (op_eqD hr.units) (pe_lc (own := [("k", 2), ("part", 3)]) rfl nd (pi_enumT rfl bf.enumerate (pa_cons (pv 0) pa_nil)) (blkOk_by (own := [("k", 2), ("part", 3)]) (N := N__law_same) (sc := defScope S__law_same) (by decide +kernel)) (fun _ _ _ _ _ => (pg_tupK (K := K) (n := 2) rfl rfl (pgs_cons (pg_name (i := 2) nd rfl (Or.inl rfl) (Or.inr rfl)) (pgs_cons (pg_name (i := 3) nd rfl (Or.inl rfl) (Or.inr rfl)) pgs_nil)))) (fun _ _ _ _ _ => (pts_one (pt_not (pt_val (pe_callC C_law_same hr_law_same rfl (pa_cons (pv 3) (pa_cons (pe_ix (ix_tupK (K := K) rfl) (pv 1) (pv 2) (fun _ _ => rfl)) pa_nil))))))) (fun _ _ _ _ _ => (pv 2))) (pe_lst pa_nil) (nomark _)))))
    pss_nil)
    (pss_one (ps_ret (pe_cmpR (op_eqD hr.units) (pv 0) (pv 1) (nomark _)))))), ?_⟩
        refine ⟨_, rfl, _, _, rfl, .tup ha, _, rfl, _, _, rfl, .tup hb, rfl, _, rfl, ?_⟩
        rw [decide_eq_true rfl]
        refine iteF ⟨_, rfl, _, _, rfl, .tup ha, _, _, rfl, rfl, _, rfl, iteT ⟨_, rfl, _, _, rfl, .tup ha, _, _, rfl, rfl, _, rfl, iteT ?_⟩⟩
        refine ⟨_, rfl, a, xs, rfl, .inr (SqT.of ha), _, rfl, b, ys, rfl, .inr (SqT.of hb), rfl, _, rfl, ?_⟩
        rw [decide_eq_true (by rw [hlen])]
        refine iteF ?_
        refine ⟨_, rfl, a, xs, rfl, SqT.of ha, fun M hM => lc_none walk_enumT hM (fun H' e => SqT.of (e _ _ ha)) ?_ ?_⟩
        · rintro i x H1 H2 NF hi sm ⟨T, x1, x2, rfl, nT, rfl, e1, e2⟩ nf NT
          cases e1
          obtain ⟨y2, f1, f2⟩ := Paired.get pr e2
          have sT : Same H1 (upd H1 T (.tup [.int (i : Nat), x2])) := Same.new nT
          have s3 := sm.trans sT
          refine ⟨T, _, rfl, SqT.of upd_same, rfl, _, _, rfl, _, _, rfl, rfl, rfl, ?_⟩
          refine ⟨_, rfl, _, rfl, _, rfl, b, ys, _, y2, rfl, rfl, SqT.of (s3 _ _ hb), atI_nat f1, x2, y2, rfl, SameT.mono (LTS.of s3) f2, fun H3 sm3 => ⟨_, rfl, ?_⟩⟩
          exact iteF (nf _ (sT.trans sm3))
        · intro H' sm hM'
          refine ⟨sz (by show 0 ≤ 100000; decide), fun q hq => ?_⟩
          have sq : Same H' (upd H' q (.lst [])) := Same.new hq
          refine ⟨.list [], .list [], .lst (SqL.of (sq _ _ hM')) .nil, .lst (SqL.of upd_same) .nil, by decide +kernel, by decide +kernel, ?_⟩
          exact kk _ (sm.trans sq)
      | l ha hb =>
        refine ⟨_, (pss_cons (ps_if (pt_cmpR op_ne (pe_callC C_law_sort hr_law_sort rfl (pa_cons (pv 0) pa_nil)) (pe_callC C_law_sort hr_law_sort rfl (pa_cons (pv 1) pa_nil)) (nomark _))
    (pss_one (ps_ret pe_bl))
    pss_nil)
    (pss_cons (ps_if (PW.pt (pw_and (pt_cmpR op_gt (pe_callC C_law_sort hr_law_sort rfl (pa_cons (pv 0) pa_nil)) pe_int (nomark _)) (pw_and1 (pt_cmpR op_lt (pe_callC C_law_sort hr_law_sort rfl (pa_cons (pv 0) pa_nil)) pe_int (nomark _)))))
    (pss_cons (ps_if (pt_cmpR op_ne (pe_callB call_len_seq rfl bf.len bt_len (pa_cons (pv 0) pa_nil)) (pe_callB call_len_seq rfl bf.len bt_len (pa_cons (pv 1) pa_nil)) (nomark _))
    (pss_one (ps_ret pe_bl))
    pss_nil)
    (pss_one (ps_ret (pe_cmpR (op_eqD hr.units) (pe_lc (own := [("k", 2), ("part", 3)]) rfl nd (pi_enum rfl bf.enumerate (pa_cons (pv 0) pa_nil)) (blkOk_by (own := [("k", 2), ("part", 3)]) (N := N__law_same) (sc := defScope S__law_same) (by decide +kernel)) (fun _ _ _ _ _ => (pg_tupK (K := K) (n := 2) rfl rfl (pgs_cons (pg_name (i := 2) nd rfl (Or.inl rfl) (Or.inr rfl)) (pgs_cons (pg_name (i := 3) nd rfl (Or.inl rfl) (Or.inr rfl)) pgs_nil)))) (fun _ _ _ _ _ => (pts_one (pt_not (pt_val (pe_callC C_law_same hr_law_same rfl (pa_cons (pv 3) (pa_cons (pe_ix (ix_listK (K := K) rfl) (pv 1) (pv 2) (fun _ _ => rfl)) pa_nil))))))) (fun _ _ _ _ _ => (pv 2))) (pe_lst pa_nil) (nomark _)))))
    pss_nil)
    (pss_one (ps_ret (pe_cmpR (op_eqD hr.units) (pv 0) (pv 1) (nomark _)))))), ?_⟩
        refine ⟨_, rfl, _, _, rfl, .lst ha, _, rfl, _, _, rfl, .lst hb, rfl, _, rfl, ?_⟩
        rw [decide_eq_true rfl]
        refine iteF ⟨_, rfl, _, _, rfl, .lst ha, _, _, rfl, rfl, _, rfl, iteT ⟨_, rfl, _, _, rfl, .lst ha, _, _, rfl, rfl, _, rfl, iteT ?_⟩⟩
        refine ⟨_, rfl, a, xs, rfl, .inl (SqL.of ha), _, rfl, b, ys, rfl, .inl (SqL.of hb), rfl, _, rfl, ?_⟩
        rw [decide_eq_true (by rw [hlen])]
        refine iteF ?_
        refine ⟨_, rfl, a, xs, rfl, SqL.of ha, fun M hM => lc_none walk_enum hM (fun H' e => SqL.of (e _ _ ha)) ?_ ?_⟩
        · rintro i x H1 H2 NF hi sm ⟨T, x1, x2, rfl, nT, rfl, e1, e2⟩ nf NT
          cases e1
          obtain ⟨y2, f1, f2⟩ := Paired.get pr e2
          have sT : Same H1 (upd H1 T (.tup [.int (i : Nat), x2])) := Same.new nT
          have s3 := sm.trans sT
          refine ⟨T, _, rfl, SqT.of upd_same, rfl, _, _, rfl, _, _, rfl, rfl, rfl, ?_⟩
          refine ⟨_, rfl, _, rfl, _, rfl, b, ys, _, y2, rfl, rfl, SqL.of (s3 _ _ hb), atI_nat f1, x2, y2, rfl, SameT.mono (LTS.of s3) f2, fun H3 sm3 => ⟨_, rfl, ?_⟩⟩
          exact iteF (nf _ (sT.trans sm3))
        · intro H' sm hM'
          refine ⟨sz (by show 0 ≤ 100000; decide), fun q hq => ?_⟩
          have sq : Same H' (upd H' q (.lst [])) := Same.new hq
          refine ⟨.list [], .list [], .lst (SqL.of (sq _ _ hM')) .nil, .lst (SqL.of upd_same) .nil, by decide +kernel, by decide +kernel, ?_⟩
          exact kk _ (sm.trans sq)
theorem ok_law_same (D : Dn K mg "_law_same" S__law_same) (bf : Bf mg) (C_law_sort : Cl P w K mg base 1 "_law_sort" spSort) : ∀ n : Nat, Cl P w K mg base (n + 2) "_law_same" (spSame n)
  | 0 => ok_same_step D bf C_law_sort (ok_no_same D) (.inl rfl)
  | n + 1 => ok_same_step D bf C_law_sort (ok_law_same D bf C_law_sort n) (.inr ⟨n, rfl, rfl⟩)
end
end An
-- imports: E1
/-! ### E3: made rules -/
namespace An
open PySem L2
/-- an if whose ways meet again -/
theorem if_join {c : Prop} [Decidable c] {A : Prop} {F : L2.St → Hp → Prop} {σ : L2.St} {H : Hp} (M : L2.St → Hp → Prop) (hF : ∀ σ H, M σ H → F σ H) (h1 : c → (∀ σ H, M σ H → F σ H) → A) (h2 : ¬ c → M σ H) : if c then A else F σ H := by
  by_cases h : c
  · rw [if_pos h]; exact h1 h hF
  · rw [if_neg h]; exact hF _ _ (h2 h)
def GoodR (so : Int) (r : Rule) : Prop := 1 ≤ r.1 ∧ r.1 ≤ so ∧ 0 ≤ r.2.1 ∧ r.2.1 ≤ r.2.2 ∧ r.2.2 ≤ r.1
theorem keys_put {kvs : List (Key × V)} {k : Key} {v : V} (h : (kvs.map (·.1)).Nodup) : ((putK kvs k v).map (·.1)).Nodup := by
  unfold putK
  by_cases a : (kvs.any fun kv => decide (kv.1 = k)) = true
  · rw [if_pos a, List.map_map]
    have : ((fun x : Key × V => x.1) ∘ fun kv => if kv.1 = k then (kv.1, v) else kv) = fun x : Key × V => x.1 := funext fun x => by
      show (if x.1 = k then (x.1, v) else x).1 = x.1
      split <;> rfl
    rw [this]; exact h
  · rw [if_neg a, List.map_append, List.nodup_append]
    refine ⟨h, by simp, fun x hx y hy e => ?_⟩
    rw [List.map_cons, List.map_nil, List.mem_singleton] at hy
    subst e
    obtain ⟨p, hp, e⟩ := List.mem_map.mp hx
    exact a (List.any_eq_true.mpr ⟨p, hp, decide_eq_true (e.trans hy)⟩)
theorem mem_put {kvs : List (Key × V)} {k : Key} {v : V} {p : Key × V} (h : p ∈ putK kvs k v) : p = (k, v) ∨ p ∈ kvs := by
  unfold putK at h
  by_cases a : (kvs.any fun kv => decide (kv.1 = k)) = true
  · rw [if_pos a] at h
    obtain ⟨x, hx, e⟩ := List.mem_map.mp h
    by_cases c : x.1 = k
    · rw [if_pos c, c] at e; exact .inl e.symm
    · rw [if_neg c] at e; exact .inr (e ▸ hx)
  · rw [if_neg a] at h
    rcases List.mem_append.mp h with h | h
    · exact .inr h
    · exact .inl (List.mem_singleton.mp h)
theorem put_len {kvs : List (Key × V)} {k : Key} {v : V} : (putK kvs k v).length ≤ kvs.length + 1 := by
  unfold putK
  split
  · rw [List.length_map]; omega
  · rw [List.length_append]; exact Nat.le_refl _
structure Found (H : Hp) (so : Int) (kvs : List (Key × V)) : Prop where
  nd : (kvs.map (·.1)).Nodup
  all : ∀ p ∈ kvs, ∃ r : Rule, p.1 = Sum.inl r.1 ∧ RuleAt H p.2 r ∧ GoodR so r
theorem Found.mono {H H' : Hp} {so : Int} {kvs : List (Key × V)} (f : Found H so kvs) (e : TS H H') : Found H' so kvs := ⟨f.nd, fun p hp => let ⟨r, h1, h2, h3⟩ := f.all p hp; ⟨r, h1, TupI.mono e h2, h3⟩⟩
theorem Found.put {H : Hp} {so : Int} {kvs : List (Key × V)} {v : V} {r : Rule} (f : Found H so kvs) (h : RuleAt H v r) (g : GoodR so r) : Found H so (putK kvs (Sum.inl r.1) v) :=
  ⟨keys_put f.nd, fun p hp => (mem_put hp).elim (fun e => by subst e; exact ⟨r, rfl, h, g⟩) fun h => f.all p h⟩
theorem Found.ints {H : Hp} {so : Int} {kvs : List (Key × V)} (f : Found H so kvs) : ∃ ks : List Int, kvs.map (·.1) = ks.map Sum.inl ∧ ks.Nodup ∧ ks.length = kvs.length := by
  have : ∀ l : List (Key × V), (∀ p ∈ l, ∃ r : Rule, p.1 = Sum.inl r.1 ∧ RuleAt H p.2 r ∧ GoodR so r) → ∃ ks : List Int, l.map (·.1) = ks.map Sum.inl := fun l => by
    induction l with
    | nil => exact fun _ => ⟨[], rfl⟩
    | cons p l ih =>
      intro h
      obtain ⟨ks, e⟩ := ih fun q hq => h q (List.mem_cons_of_mem _ hq)
      obtain ⟨r, e1, _⟩ := h p List.mem_cons_self
      exact ⟨r.1 :: ks, by rw [List.map_cons, List.map_cons, e, e1]⟩
  obtain ⟨ks, e⟩ := this kvs f.all
  refine ⟨ks, e, ?_, by have := congrArg List.length e; simpa using this.symm⟩
  have := f.nd
  rw [e] at this
  exact List.Pairwise.of_map Sum.inl (fun a b h e => h (congrArg Sum.inl e)) this
theorem Found.get {H : Hp} {so : Int} {kvs : List (Key × V)} (f : Found H so kvs) {y : Int} (h : Sum.inl y ∈ kvs.map (·.1)) : ∃ v r, valV kvs (Sum.inl y) = some v ∧ r.1 = y ∧ RuleAt H v r ∧ GoodR so r := by
  obtain ⟨p, hp, e⟩ := List.mem_map.mp h
  have q : (kvs.any fun kv => decide (kv.1 = Sum.inl y)) = true := List.any_eq_true.mpr ⟨p, hp, decide_eq_true e⟩
  rw [valV_any] at q
  obtain ⟨v, hv⟩ := Option.isSome_iff_exists.mp q
  refine ⟨v, ?_⟩
  unfold valV at hv
  obtain ⟨z, hz, ez⟩ := Option.map_eq_some_iff.mp hv
  have h1 := List.mem_of_find?_eq_some hz
  have h2 : z.1 = Sum.inl y := of_decide_eq_true (by simpa using List.find?_some hz)
  obtain ⟨r, e1, e2, e3⟩ := f.all z h1
  refine ⟨r, by unfold valV; rw [hz]; exact congrArg some ez, ?_, by rw [← ez]; exact e2, e3⟩
  rw [e1] at h2
  exact Sum.inl.inj h2
theorem Found.rules {H : Hp} {so : Int} {kvs : List (Key × V)} (f : Found H so kvs) : ∀ ys : List Int, (∀ y ∈ ys, Sum.inl y ∈ kvs.map (·.1)) → ∃ rs : List Rule, rs.map (·.1) = ys ∧ ∀ r ∈ rs, GoodR so r ∧ ∃ v, valV kvs (Sum.inl r.1) = some v ∧ RuleAt H v r
  | [], _ => ⟨[], rfl, fun _ h => by cases h⟩
  | y :: ys, h => by
    obtain ⟨rs, e1, e2⟩ := Found.rules f ys fun z hz => h z (List.mem_cons_of_mem _ hz)
    obtain ⟨v, r, h1, h2, h3, h4⟩ := f.get (h y List.mem_cons_self)
    refine ⟨r :: rs, by rw [List.map_cons, e1, h2], fun q hq => ?_⟩
    rcases List.mem_cons.mp hq with rfl | hq
    · exact ⟨h4, v, by rw [h2]; exact h1, h3⟩
    · exact e2 q hq
section
variable {P : Program} {w : World} {K : PySem.W.Frag} {mg : Str → Option Value} {base : Heap}
def N__law_rules : List Str := ["deck", "spans_so", "close", "top", "found", "turn", "span", "low", "high", "more", "less"]
theorem sc_law_rules : FnScope N__law_rules ["deck", "spans_so", "close"] (defScope S__law_rules) := ⟨rfl, rfl, rfl, by decide +kernel, rfl, by decide +kernel, by decide +kernel⟩
def spRulesL : Sp := fun vs H Q _ => ∃ (a : Addr) (so close N : Int), vs = [.ref a, .int so, .int close] ∧ 1 ≤ so ∧ so ≤ 8 ∧ 1 ≤ close ∧ close < 1000 ∧ N < 1000000000 ∧ DeckAt H a N ∧
  ∀ v H' rs, SameX [a] H H' → TS H H' → DeckAt H' a (N + 40) → RulesAt H' v rs → RulesOk rs → rs.length ≤ 4 → (∀ r ∈ rs, r.1 ≤ so) → Q v H'
/-- between two rounds -/
def PvRules (a D : Addr) (so close top N : Int) (H : Hp) (i : Nat) (σ : L2.St) (H' : Hp) : Prop :=
  ∃ kvs x5 x6 x7 x8 x9 x10, σ = [some (.ref a), some (.int so), some (.int close), some (.int top), some (.ref D), x5, x6, x7, x8, x9, x10] ∧ H D = none ∧ a ≠ D ∧ SameX [a] H H' ∧ TS H H' ∧ DeckAt H' a (N + 2 + 8 * i) ∧ H' D = some (.dK kvs) ∧ Found H' so kvs ∧ kvs.length ≤ i ∧ (0 < i → kvs ≠ [])
theorem SameX.upd_new {as : List Addr} {H H' : Hp} {p : Addr} {o : HO} (e : SameX as H H') (h : H p = none) : SameX as H (upd H' p o) := fun b u n q => by
  rw [upd_ne (ne_of_none q h)]; exact e b u n q
theorem ok_law_rules (D : Dn K mg "_law_rules" S__law_rules) (bf : Bf mg) (C_law_pick : Cl P w K mg base 1 "_law_pick" spPick) (C_law_one : Cl P w K mg base 2 "_law_one" spOne) : Cl P w K mg base 3 "_law_rules" spRulesL := by
  refine D.ok sc_law_rules (fun vs H Q E h => ?_) (fun _ _ _ _ _ _ us hl => match us, hl with | [_, _, _], _ => rfl) (fun f cdv A outer s H vs Q E hr h => ?_)
  · obtain ⟨a, so, close, N, rfl, _⟩ := h; rfl
  · obtain ⟨a, so, close, N, rfl, s1, s8, c1, c2, hN, hd, k⟩ := h
    have nd := sc_law_rules.nd
    have hu := hu_of hr
    have hr_law_pick := hr.mono (show 1 ≤ 2 by decide)
    have hr_law_one := hr
    refine ⟨_, (pss_cons (ps_asg (pe_tup (pa_cons (pe_callC C_law_pick hr_law_pick rfl (pa_cons (pv 0) (pa_cons pe_int pa_nil))) (pa_cons pe_dnewK pa_nil))) (pg_tup rfl (pgs_cons (pg_name (i := 3) nd rfl (Or.inl rfl)) (pgs_cons (pg_name (i := 4) nd rfl (Or.inr rfl)) pgs_nil))))
    (pss_cons (ps_for PassesOwn.never rfl (pi_range1 rfl bf.range (pa_cons (pe_op op_add pe_int (pe_callC C_law_pick hr_law_pick rfl (pa_cons (pv 0) (pa_cons pe_int pa_nil)))) pa_nil)) (pg_name (i := 5) nd rfl (Or.inl rfl))
    (pss_cons (ps_set (i := 6) nd rfl (Or.inl rfl) (pe_op op_add pe_int (pe_callC C_law_pick hr_law_pick rfl (pa_cons (pv 0) (pa_cons (pv 1) pa_nil)))))
    (pss_cons (ps_par (i := 7) (j := 8) rfl nd rfl rfl (by decide) rfl rfl (pa_cons (pe_op op_fdiv (pe_op op_mul (pv 6) (pv 3)) pe_int) (pa_cons (pe_op op_fdiv (pe_op op_add (pe_op op_mul (pv 6) (pv 3)) pe_int) pe_int) pa_nil)) (by rfl))
    (pss_cons (ps_if (pt_cmpR op_eq (pe_callC C_law_pick hr_law_pick rfl (pa_cons (pv 0) (pa_cons (pv 2) pa_nil))) pe_int (nomark _))
    (pss_cons (ps_set (i := 7) nd rfl (Or.inl rfl) (pe_callC C_law_pick hr_law_pick rfl (pa_cons (pv 0) (pa_cons (pe_op op_add (pv 6) pe_int) pa_nil))))
    (pss_one (ps_set (i := 8) nd rfl (Or.inl rfl) (pe_op op_add (pv 7) (pe_callC C_law_pick hr_law_pick rfl (pa_cons (pv 0) (pa_cons (pe_op op_sub (pe_op op_add (pv 6) pe_int) (pv 7)) pa_nil)))))))
    pss_nil)
    (pss_cons (ps_par (i := 9) (j := 10) rfl nd rfl rfl (by decide) rfl rfl (pa_cons (pe_callC C_law_one hr_law_one rfl (pa_cons (pv 0) (pa_cons (pe_lst (pa_cons pe_int (pa_cons pe_int (pa_cons pe_int (pa_cons pe_int pa_nil))))) pa_nil))) (pa_cons (pe_callC C_law_one hr_law_one rfl (pa_cons (pv 0) (pa_cons (pe_lst (pa_cons pe_int (pa_cons pe_int (pa_cons pe_int (pa_cons pe_int pa_nil))))) pa_nil))) pa_nil)) (by rfl))
    (pss_one (ps_dput hu (pv 4) (pv 6) (pe_tup (pa_cons (pv 6) (pa_cons (pe_callB (call_max2 rfl) rfl bf.max bt_max (pa_cons pe_int (pa_cons (pe_op op_sub (pv 7) (pv 10)) pa_nil))) (pa_cons (pe_callB (call_min2 rfl) rfl bf.min bt_min (pa_cons (pv 6) (pa_cons (pe_op op_add (pv 8) (pv 9)) pa_nil))) pa_nil)))) rfl)))))))
    (pss_one (ps_ret (pe_callTy call_tuple_of rfl bf.tuple bt_tuple (pa_cons (pe_lc (own := [("span", 6)]) rfl nd (pi_list (pe_callB (call_sortedDI rfl) rfl bf.sorted bt_sorted (pa_cons (pv 4) pa_nil))) (blkOk_by (own := [("span", 6)]) (N := N__law_rules) (sc := defScope S__law_rules) (by decide +kernel)) (fun _ _ _ _ _ => (pg_name (i := 6) nd rfl (Or.inl rfl) (Or.inr rfl))) (fun _ _ _ _ _ => pts_nil) (fun _ _ _ _ _ => (pe_dget hu (pv 4) (pv 6) (fun _ _ => rfl)))) pa_nil)))))), ?_⟩
    refine ⟨_, rfl, a, 13, N, rfl, by decide, by decide, by omega, hd, fun top H1 t0 t1 sx1 ts1 hd1 => fun D hD => ?_⟩
    have nDa : a ≠ D := fun e => by subst e; obtain ⟨_, _, _, h1, _⟩ := hd1; rw [h1] at hD; cases hD
    have nD0 : H D = none := by
      cases e : H D with
      | none => rfl
      | some o => rw [sx1 D o (by simpa using fun z : D = a => nDa z.symm) e] at hD; cases hD
    have nDa' : D ∉ [a] := by simpa using fun z : D = a => nDa z.symm
    have tsD : TS H1 (upd H1 D (.dK [])) := TS.new hD
    refine ⟨sz (by show 2 ≤ 100000; decide), fun T hT => ?_⟩
    have tsT : TS (upd H1 D (.dK [])) (upd (upd H1 D (.dK [])) T (.tup [.int top, .ref D])) := TS.new hT
    have sT : Same H1 (upd (upd H1 D (.dK [])) T (.tup [.int top, .ref D])) := (Same.new hD).trans (Same.new hT)
    refine ⟨T, _, rfl, SqT.of upd_same, rfl, _, _, rfl, _, _, rfl, rfl, ?_⟩
    refine ⟨_, rfl, a, 4, N + 1, rfl, by decide, by decide, by omega, hd1.same sT, fun n4 H2 n0 n1 sx2 ts2 hd2 => ?_⟩
    refine ⟨_, _, rfl, rfl, _, rfl, by omega, by omega, for_range (PvRules a D so close top N H) ?_ ?_ ?_⟩
    · have hD2 : (upd (upd H1 D (.dK [])) T (.tup [.int top, .ref D])) D = some (.dK []) := by rw [upd_ne (ne_of_none upd_same hT)]; exact upd_same
      exact ⟨[], none, none, none, none, none, none, rfl, nD0, nDa, (sx1.trans (SameX.of sT)).trans sx2, (ts1.trans (TS.of sT)).trans ts2, hd2.mono (fun _ h => h) (by omega), sx2 _ _ nDa' hD2, ⟨List.nodup_nil, fun p hp => by cases hp⟩, Nat.le_refl _, fun h => absurd h (Nat.lt_irrefl _)⟩
    · rintro i σ H3 hi ⟨kvs, x5, x6, x7, x8, x9, x10, rfl, _, _, sx3, ts3, hd3, hD3, fo, hl, _⟩
      have hi4 : i < 4 := by omega
      refine ⟨_, rfl, _, rfl, a, so, _, rfl, by omega, by omega, by omega, hd3, fun sp H4 p0 p1 sx4 ts4 hd4 => ?_⟩
      refine ⟨_, _, rfl, rfl, ?_⟩
      have b1 : 0 ≤ (1 + sp) * top := Int.mul_nonneg (by omega) t0
      have b2 : (1 + sp) * top ≤ (1 + sp) * 12 := Int.mul_le_mul_of_nonneg_left (by omega) (by omega)
      have b3 : (1 + sp) * top < 1000 := by omega
      refine ⟨_, rfl, _, rfl, _, _, rfl, rfl, .inl ⟨by omega, by omega⟩, _, _, rfl, rfl, ⟨by decide, by decide⟩, ?_⟩
      refine ⟨_, rfl, _, rfl, _, _, rfl, rfl, .inl ⟨by omega, by omega⟩, _, _, rfl, rfl, _, _, rfl, rfl, ⟨by decide, by decide⟩, _, _, rfl, ?_⟩
      have g1 : 0 ≤ (1 + sp) * top / 12 := by omega
      have g2 : (1 + sp) * top / 12 ≤ 1 + sp := by omega
      have g3 : (1 + sp) * top / 12 ≤ ((1 + sp) * top + 11) / 12 := by omega
      refine ⟨_, rfl, _, rfl, a, close, _, rfl, by omega, by omega, by omega, hd4, fun cl H5 _ _ sx5 ts5 hd5 => ?_⟩
      refine ⟨rfl, _, rfl, ?_⟩
      refine if_join (fun σ H6 => ∃ low high : Int, ∃ x5, σ = [some (.ref a), some (.int so), some (.int close), some (.int top), some (.ref D), x5, some (.int (1 + sp)), some (.int low), some (.int high), x9, x10] ∧ SameX [a] H3 H6 ∧ TS H3 H6 ∧ DeckAt H6 a (N + 2 + 8 * i + 4) ∧ 0 ≤ low ∧ low ≤ 1 + sp ∧ low ≤ high) ?_ (fun _ hF => ?_) (fun _ => ⟨_, _, _, rfl, sx4.trans sx5, ts4.trans ts5, hd5.mono (fun _ h => h) (by omega), g1, g2, g3⟩)
      · rintro σ H6 ⟨low, high, x5, rfl, sx6, ts6, hd6, g1, g2, g3⟩
        refine ⟨_, rfl, sz (by show 4 ≤ 100000; decide), fun c1 hc1 => ?_⟩
        have q1 : Same H6 (upd H6 c1 (.lst [.int 0, .int 0, .int 1, .int 2])) := Same.new hc1
        have na1 : a ≠ c1 := fun e => by subst e; obtain ⟨_, _, _, z, _⟩ := hd6; rw [z] at hc1; cases hc1
        refine ⟨a, c1, _, _, rfl, na1, upd_same, (fun e => by cases e), (by decide), by omega, hd6.same q1, fun x1 H7 hx1 sx7 ts7 hd7 => ?_⟩
        refine ⟨_, rfl, sz (by show 4 ≤ 100000; decide), fun c2 hc2 => ?_⟩
        have q2 : Same H7 (upd H7 c2 (.lst [.int 0, .int 0, .int 1, .int 2])) := Same.new hc2
        have na2 : a ≠ c2 := fun e => by subst e; obtain ⟨_, _, _, z, _⟩ := hd7; rw [z] at hc2; cases hc2
        refine ⟨a, c2, _, _, rfl, na2, upd_same, (fun e => by cases e), (by decide), by omega, hd7.same q2, fun x2 H8 hx2 sx8 ts8 hd8 => ⟨_, _, rfl, ?_⟩⟩
        have small : ∀ x ∈ ([.int 0, .int 0, .int 1, .int 2] : List V), ∃ m : Int, x = .int m ∧ 0 ≤ m ∧ m ≤ 2 := by
          intro x hx
          simp only [List.mem_cons, List.not_mem_nil, or_false] at hx
          rcases hx with rfl | rfl | rfl | rfl <;> exact ⟨_, rfl, by decide, by decide⟩
        obtain ⟨m1, rfl, u1, u2⟩ := small _ hx1
        obtain ⟨m2, rfl, u3, u4⟩ := small _ hx2
        have sx9 := sx6.trans ((SameX.of q1).trans (sx7.trans ((SameX.of q2).trans sx8)))
        have ts9 := ts6.trans ((TS.of q1).trans (ts7.trans ((TS.of q2).trans ts8)))
        refine ⟨_, rfl, _, rfl, _, rfl, _, _, rfl, rfl, _, _, rfl, _, rfl, _, rfl, _, rfl, _, _, rfl, rfl, _, _, rfl, sz (by show 3 ≤ 100000; decide), fun p hp => ?_⟩
        have hD8 := sx9 _ _ nDa' hD3
        have qp : ∀ o, Same H8 (upd H8 p o) := fun o => Same.new hp
        refine ⟨_, rfl, _, rfl, D, _, rfl, DPut.k (k := Sum.inl (1 + sp)) (qp _ _ _ hD8) (szl (by omega)), ?_⟩
        have tsd : ∀ o u, TS (upd H8 p o) (upd (upd H8 p o) D u) := fun o u => TS.dK (qp _ _ _ hD8)
        refine ⟨_, _, _, _, _, _, _, rfl, nD0, nDa, ?_, ?_, ?_, upd_same, ?_, ?_, fun _ e => ?_⟩
        · exact SameX.upd_new ((sx3.trans sx9).trans (SameX.of (qp _))) nD0
        · exact ((ts3.trans ts9).trans (TS.of (qp _))).trans (tsd _ _)
        · exact (hd8.same (qp _)).mono (fun xs e => by rw [upd_ne nDa]; exact e) (by omega)
        · refine Found.put (r := (1 + sp, _, _)) ((fo.mono ts9).mono ((TS.of (qp _)).trans (tsd _ _))) ⟨p, rfl, tsd _ _ _ _ upd_same⟩ ⟨by omega, by show 1 + sp ≤ so; omega, ?_, ?_, ?_⟩
          · show (0:Int) ≤ if low - m2 > 0 then low - m2 else 0
            split <;> omega
          · show (if low - m2 > 0 then low - m2 else 0) ≤ if high + m1 < 1 + sp then high + m1 else 1 + sp
            split <;> split <;> omega
          · show (if high + m1 < 1 + sp then high + m1 else 1 + sp) ≤ 1 + sp
            split <;> omega
        · exact Nat.le_trans put_len (by omega)
        · have := DGet.k (H := upd H D (.dK (putK kvs (Sum.inl (1 + sp)) (V.ref p)))) (a := D) (k := Sum.inl (1 + sp)) upd_same
          have v := valV_put kvs (Sum.inl (1 + sp)) (Sum.inl (1 + sp)) (.ref p)
          rw [e, if_pos rfl] at v
          cases v
      · refine ⟨_, rfl, _, rfl, _, _, rfl, rfl, a, _, _, rfl, by omega, by omega, by omega, hd5, fun lo H6 q0 q1 sx6 ts6 hd6 => ?_⟩
        refine ⟨_, rfl, _, rfl, _, rfl, _, _, rfl, rfl, _, rfl, _, _, rfl, rfl, a, _, _, rfl, by omega, by omega, by omega, hd6, fun hh H7 r0 r1 sx7 ts7 hd7 => ?_⟩
        refine ⟨_, _, rfl, rfl, hF _ _ ?_⟩
        exact ⟨lo, lo + hh, _, rfl, sx4.trans (sx5.trans (sx6.trans sx7)), ts4.trans (ts5.trans (ts6.trans ts7)), hd7.mono (fun _ h => h) (by omega), q0, by omega, by omega⟩
    · rintro σ H3 ⟨kvs, x5, x6, x7, x8, x9, x10, rfl, _, _, sx3, ts3, hd3, hD3, fo, hl, ne⟩
      obtain ⟨ks, ek, kn, kl⟩ := fo.ints
      refine ⟨_, rfl, D, kvs, ks, rfl, .inl hD3, ek, by omega, fun ys p perm sorted hp => ?_⟩
      obtain ⟨rs, ers, hrs⟩ := fo.rules ys fun y hy => by rw [ek]; exact List.mem_map.mpr ⟨y, perm.mem_iff.mp hy, rfl⟩
      have q1 : Same H3 (upd H3 p (.lst (ys.map V.int))) := Same.new hp
      have lenr : rs.length = kvs.length := by rw [← kl, ← perm.length_eq, ← ers, List.length_map]
      have ynd : ys.Nodup := perm.nodup_iff.mpr kn
      have up : rs.Pairwise fun a b => a.1 < b.1 := by
        have h1 : ys.Pairwise fun a b => a < b := by
          refine List.Pairwise.imp₂ (R := fun a b => a ≤ b) (S := fun a b => a ≠ b) (fun a b h1 h2 => ?_) sorted ynd
          omega
        rw [← ers] at h1
        exact List.pairwise_map.mp h1
      have ok : RulesOk rs := ⟨fun e => ne (by omega) (List.length_eq_zero_iff.mp (by rw [← lenr, e]; rfl)), by omega, fun r hr => let ⟨⟨h1, h2, h3, h4, h5⟩, _⟩ := hrs r hr; ⟨h1, by omega, h3, h4, h5⟩, up⟩
      refine ⟨p, rfl, ⟨_, SqL.of upd_same⟩, fun M hM => lc_map (n := rs.length) (by rw [show rs.length = (ys.map V.int).length by rw [List.length_map, ← ers, List.length_map]]; exact walk_list) RuleAt rs hM rfl (by omega) (fun _ _ _ _ e z => TupI.mono (TS.of e) z) (fun _ _ _ _ _ e z => TupI.mono (TS.lst e) z) (fun H4 e => SqL.of (e _ _ upd_same)) ?_ (gm_name 6) ?_⟩
      · rintro i x H4 H5 NT hi sm ⟨rfl, hx⟩ put
        have hri : rs[i]? = some rs[i] := List.getElem?_eq_getElem hi
        have ex : x = .int rs[i].1 := by
          rw [List.getElem?_map, ← ers, List.getElem?_map, hri] at hx
          exact (Option.some.inj hx).symm
        subst ex
        obtain ⟨v, hv, hrule⟩ := (hrs rs[i] (List.getElem_mem hi)).2
        refine ⟨rfl, _, rfl, _, rfl, D, v, rfl, ?_, put v _ rs[i] (Same.refl _) hri (TupI.mono (TS.of (q1.trans sm)) hrule)⟩
        rw [← hv]
        exact DGet.k (k := Sum.inl rs[i].1) (sm _ _ (q1 _ _ hD3))
      · intro H4 zs sm hM pr
        refine ⟨M, zs, rfl, .inl ⟨SqL.of hM, fun l hl => ?_⟩⟩
        have q2 : Same H4 (upd H4 l (.tup zs)) := Same.new hl
        have q3 := (q1.trans sm).trans q2
        exact k _ _ rs (sx3.trans (SameX.of q3)) (ts3.trans (TS.of q3)) ((hd3.same q3).mono (fun _ h => h) (by omega)) ⟨l, zs, rfl, upd_same, Paired.mp pr fun _ _ z => TupI.mono (TS.of q2) z⟩ ok (by omega) (fun r hr => (hrs r hr).1.2.1)
end
end An
-- imports: M4
/-! ### E4: fits, thinned -/
namespace An
open PySem L2
section
variable {P : Program} {w : World} {K : PySem.W.Frag} {mg : Str → Option Value} {base : Heap}
def N__law_fits : List Str := ["rules", "row", "span", "least", "most"]
theorem sc_law_fits : FnScope N__law_fits ["rules", "row"] (defScope S__law_fits) := ⟨rfl, rfl, rfl, by decide +kernel, rfl, by decide +kernel, by decide +kernel⟩
def spFits : Sp := fun vs H Q _ => ∃ rv tv rs u, vs = [rv, tv] ∧ RulesAt H rv rs ∧ RulesOk rs ∧ TupI H tv u ∧ ∀ H', Same H H' → Q (.bl (fits rs u)) H'
def PvFits (rs : List Rule) (a c : Addr) (u : Row) (H : Hp) (i : Nat) (σ : L2.St) (H' : Hp) : Prop :=
  Same H H' ∧ (∃ x2 x3 x4, σ = [some (.ref a), some (.ref c), x2, x3, x4]) ∧ ∀ (j : Nat) (r : Rule), j < i → rs[j]? = some r → okRule u r = true
theorem PvFits.next {rs : List Rule} {a c : Addr} {u : Row} {H : Hp} {i : Nat} {H' : Hp} {r : Rule} {x2 x3 x4 : Option V} (sm : Same H H') (bd : ∀ (j : Nat) (r : Rule), j < i → rs[j]? = some r → okRule u r = true) (hr : rs[i]? = some r) (hb : okRule u r = true) :
    PvFits rs a c u H (i + 1) [some (.ref a), some (.ref c), x2, x3, x4] H' := by
  refine ⟨sm, ⟨_, _, _, rfl⟩, fun j r' hj hr' => ?_⟩
  by_cases e : j = i
  · subst e; rw [hr] at hr'; cases hr'; exact hb
  · exact bd j r' (by omega) hr'
theorem ok_law_fits (D : Dn K mg "_law_fits" S__law_fits) (bf : Bf mg) : Cl P w K mg base 1 "_law_fits" spFits := by
  refine D.ok sc_law_fits (fun vs H Q E h => ?_) (fun _ _ _ _ _ _ us hl => match us, hl with | [_, _], _ => rfl) (fun f cdv A outer s H vs Q E hr h => ?_)
  · obtain ⟨rv, tv, rs, u, rfl, _⟩ := h; rfl
  · obtain ⟨rv, tv, rs, u, rfl, ⟨a, xs, rfl, ha, pr⟩, ok, ⟨c, rfl, hc⟩, k⟩ := h
    have nd := sc_law_fits.nd
    refine ⟨_, (pss_cons (ps_for PassesOwn.never rfl (pi_tup (pv 0)) (pg_tup rfl (pgs_cons (pg_name (i := 2) nd rfl (Or.inl rfl)) (pgs_cons (pg_name (i := 3) nd rfl (Or.inl rfl)) (pgs_cons (pg_name (i := 4) nd rfl (Or.inl rfl)) pgs_nil))))
    (pss_one (ps_if (PW.pt (pw_and (pt_cmpR op_ge (pe_callB call_len_seq rfl bf.len bt_len (pa_cons (pv 1) pa_nil)) (pv 2) (nomark _)) (pw_and1 (pt_not (pt_chain op_le op_le (pv 3) (pe_callB (cr_sumT rfl) rfl bf.sum bt_sum (pa_cons (pe_slice sl_tupA (pv 1) (po_some (pe_op op_sub (pe_callB call_len_seq rfl bf.len bt_len (pa_cons (pv 1) pa_nil)) (pv 2))) po_none) pa_nil)) (pv 4))))))
    (pss_one (ps_ret pe_bl))
    pss_nil)))
    (pss_one (ps_ret pe_bl))), ?_⟩
    refine ⟨_, rfl, a, rfl, ⟨_, SqT.of ha⟩, for_tup (xs := xs) (PvFits rs a c u H) ⟨Same.refl H, ⟨none, none, none, rfl⟩, fun j r hj => absurd hj (Nat.not_lt_zero _)⟩ (fun i σ H' _ h => SqT.of (h.1 _ _ ha)) ?_ ?_⟩
    · rintro i x σ H' hi ⟨sm, ⟨x2, x3, x4, rfl⟩, bd⟩
      obtain ⟨r, hri, ⟨b, rfl, hb⟩⟩ := Paired.get pr hi
      have hc' := sm _ _ hc
      have ro := ok.one r (List.mem_of_getElem? hri)
      have no : okRule u r = false → ∀ H2, Same H H2 → Q (.bl false) H2 := fun e H2 s2 => by
        have : fits rs u = false := by
          cases q : fits rs u
          · rfl
          · have := List.all_eq_true.mp q r (List.mem_of_getElem? hri)
            rw [e] at this; cases this
        rw [← this]; exact k H2 s2
      refine ⟨b, _, rfl, SqT.of (sm _ _ hb), rfl, _, _, rfl, _, _, rfl, _, _, rfl, rfl, ?_⟩
      refine ⟨_, rfl, c, _, rfl, .inr (SqT.of hc'), _, rfl, _, _, rfl, rfl, _, rfl, ?_⟩
      refine ite2 (fun hge => ?_) (fun hlt => ?_)
      · rw [List.length_map, decide_eq_true_eq] at hge
        refine ⟨_, rfl, _, rfl, _, rfl, c, _, rfl, .inr (SqT.of hc'), _, rfl, _, _, rfl, rfl, _, rfl, ?_⟩
        refine sl_fromN (k := u.length - r.1.toNat) ?e hc' fun q H2 sm2 hq => ?_
        case e => rw [List.length_map]; omega
        rw [← List.map_drop] at hq
        have sm3 := sm.trans sm2
        have eb : okRule u r = (decide (r.2.1 ≤ endSum u r.1) && decide (endSum u r.1 ≤ r.2.2)) := by
          unfold okRule
          rw [decide_eq_true hge]; rfl
        refine ⟨q, _, rfl, SqT.of hq, _, _, rfl, rfl, _, rfl, ?_⟩
        show if decide (r.2.1 ≤ endSum u r.1) = true then _ else _
        refine ite2 (fun h1 => ?_) (fun h1 => ?_)
        · refine ⟨_, rfl, _, _, rfl, rfl, _, rfl, ?_⟩
          show if (!decide (endSum u r.1 ≤ r.2.2)) = true then _ else _
          refine ite2 (fun h2 => ?_) (fun h2 => ?_)
          · refine no ?_ _ sm3
            rw [eb, h1, Bool.true_and]; simpa using h2
          · exact PvFits.next sm3 bd hri (by rw [eb, h1]; simpa using h2)
        · refine ⟨_, rfl, iteT (no ?_ _ sm3)⟩
          rw [eb, Bool.not_eq_true] at *
          rw [h1]; rfl
      · rw [List.length_map, decide_eq_true_eq] at hlt
        refine PvFits.next sm bd hri ?_
        unfold okRule
        rw [decide_eq_false (by omega)]; rfl
    · rintro σ H' ⟨sm, _, bd⟩
      have : fits rs u = true := List.all_eq_true.mpr fun r hr => by
        obtain ⟨j, hj, e⟩ := List.getElem_of_mem hr
        exact bd j r (by rw [Paired.len pr]; exact hj) (by rw [List.getElem?_eq_getElem hj, e])
      rw [this] at k
      exact k _ sm
end
end An
-- imports: B4 HandS.HotCalls HandS.Zip0
/-! ### K1: iterators that end while an exception is handled -/
namespace An
open PySem PySem.Spec PyProof.Rows L2 HotX
section
variable {prog : Program} {w : World} {A : Around} {E : Value → Shared → Prop} {s : Shared}
theorem HotAt.keep {A : Around} {x1 : Addr} {h h' : Heap} (hot : HotAt A x1 h) (k : ∀ o, h.get? x1 = some o → h'.get? x1 = some o) : HotAt A x1 h' := by
  obtain ⟨hh, o, vs, h1, h2, h3⟩ := hot
  exact ⟨hh, o, vs, k o h1, h2, h3⟩
/-- a new StopIteration is raised: its context is the one that is handled -/
theorem stop_hot {α : Type} {x1 : Addr} {Q : α → Shared → Prop} (hot : HotAt A x1 s.heap)
    (hE : ∀ h' e, (∀ b o, s.heap.get? b = some o → h'.get? b = some o) → (∃ o, h'.get? e = some o ∧ o.cls = .type "StopIteration") → E (.ref e) { s with heap := h' }) :
    wpAny (model prog w) A (Builtin.SmallTypes.stopIteration : Sem α) Q E s := by
  obtain ⟨hh, o1, vs1, h1, d1, c1⟩ := hot
  show wpAny _ _ (newExc (.type "StopIteration") [] >>= _) _ _ _
  refine wpAny_bind ?_
  simp only [newExc, newTuple]
  refine wpAny_bind (wpAny_newObj_type ?_ (by size_fits))
  refine wpAny_bind (m := firstArgMember _ _) (wpAny_of_eq (a := Value.none) (by first | rfl | (simp only [firstArgMember]; rfl)) ?_)
  refine wpAny_newObj_type ?_ (by size_fits)
  have old : ∀ b o, s.heap.get? b = some o → ((s.heap.push { cls := .type "tuple", data := .seq ([] : List Value).toArray }).get? b = some o) := fun b o e => Heap.get?_push_of_some _ e
  refine raiseNew_hot ⟨hh, o1, vs1, Heap.get?_push_of_some _ (Heap.get?_push_of_some _ h1), d1, c1⟩ (Nat.ne_of_lt (Heap.lt_size (Heap.get?_push_of_some _ h1))) (Heap.get?_push_size _ rfl) rfl (by first | (simp; done) | (simp; omega) | (simp only [Array.size_append]; simp; omega)) ?_
  refine hE _ _ (fun b o e => ?_) ⟨_, Heap.get?_update_self _ (Heap.get?_push_size _ rfl) rfl, rfl⟩
  rw [Heap.get?_update_other _ _ (Nat.ne_of_gt (Heap.lt_size (Heap.get?_push_of_some _ e)))]
  exact Heap.get?_push_of_some _ (Heap.get?_push_of_some _ e)
/-- the end of a list's iterator -/
theorem nextOf_list_end_hot {it l x1 : Addr} {i : Nat} {items : Array Value} {Q : Value → Shared → Prop} (hot : HotAt A x1 s.heap) (hx1 : x1 ≠ it)
    (hit : s.heap.IsListIter it l i) (hl : s.heap.IsList l items) (hx : items[i]? = none)
    (hE : ∀ h' e, Heap.ExtBut it s.heap h' → (∃ o, h'.get? e = some o ∧ o.cls = .type "StopIteration") → E (.ref e) { s with heap := h' }) :
    wpAny (model prog w) A (Builtin.SmallTypes.nextOf (.ref it)) Q E s := by
  obtain ⟨o, ho, hc, hd⟩ := id hit
  obtain ⟨ol, hol, _, nl, hdl⟩ := hl
  unfold Builtin.SmallTypes.nextOf
  refine wpAny_bind (wpAny_callSpecial?_slot (name := Str.ofString "__next__") hit.typeIs slot_listiter_next
    (wpAny_call_entry slot_listiter_next hit.typeIs entry_listiter_next ?_ (args_listiter_next _)))
  show wpAny _ _ (field (.ref it) 0 >>= _) _ _ s
  refine wpAny_bind (wpAny_field ho hd (x := .ref l) rfl ?_)
  show wpAny _ _ (if (Value.ref l == Value.none) = true then _ else _) _ _ s
  rw [if_neg (show ¬ ((Value.ref l == Value.none) = true) from Bool.false_ne_true)]
  show wpAny _ _ (field (.ref it) 1 >>= _) _ _ s
  refine wpAny_bind (wpAny_field ho hd (x := .int i 0) rfl ?_)
  show wpAny _ _ (seqItems? (.ref l) >>= _) _ _ s
  refine wpAny_bind (wpAny_seqItems hol hdl ?_)
  simp only [Int.toNat_natCast, hx]
  refine wpAny_bind (wpAny_rule (wpAny_bind (wpAny_setField ho hd (by simp) ?_)))
  have sb := Heap.SameBut.update (a := it) (h := s.heap) (f := Obj.mapFields (·.setIfInBounds 0 .none))
  refine stop_hot (x1 := x1) (HotAt.keep (A := A.in1) (h := s.heap) hot fun o' e => sb.extBut _ _ hx1 e) fun h' e k he => ?_
  exact hE _ _ (fun b o' hb e' => k _ _ (sb.extBut b o' hb e')) he
/-- the end of a tuple's iterator -/
theorem next_tuple_end_hot {it t x1 : Addr} {i : Nat} {items : Array Value} {Q : Option Value → Shared → Prop} (hot : HotAt A x1 s.heap) (hx1 : x1 ≠ it)
    (hit : IsTupIter s.heap it t i) (ht : IsTup s.heap t items) (hx : items[i]? = none)
    (hQ : ∀ h', Heap.ExtBut it s.heap h' → Q none { s with heap := h' }) : wpAny (model prog w) A (pyNext (.ref it)) Q E s := by
  obtain ⟨o, ho, hc, hd⟩ := id hit
  obtain ⟨ol, hol, _, nl, hdl⟩ := ht
  unfold pyNext
  refine wpAny_bind (wpAny_attempt (wpAny_callSpecial?_slot (name := Str.ofString "__next__") hit.typeIs slot_tupleiter_next
    (wpAny_call_entry slot_tupleiter_next hit.typeIs entry_tupleiter_next ?_ (args_tupleiter_next _))))
  show wpAny _ _ (field (.ref it) 0 >>= _) _ _ s
  refine wpAny_bind (wpAny_field ho hd (x := .ref t) rfl ?_)
  show wpAny _ _ (if (Value.ref t == Value.none) = true then _ else _) _ _ s
  rw [if_neg (show ¬ ((Value.ref t == Value.none) = true) from Bool.false_ne_true)]
  show wpAny _ _ (field (.ref it) 1 >>= _) _ _ s
  refine wpAny_bind (wpAny_field ho hd (x := .int i 0) rfl ?_)
  show wpAny _ _ (seqItems? (.ref t) >>= _) _ _ s
  refine wpAny_bind (wpAny_seqItems hol hdl ?_)
  simp only [Int.toNat_natCast, hx]
  refine wpAny_bind (wpAny_rule (wpAny_bind (wpAny_setField ho hd (by simp) ?_)))
  have sb := Heap.SameBut.update (a := it) (h := s.heap) (f := Obj.mapFields (·.setIfInBounds 0 .none))
  refine stop_hot (x1 := x1) (HotAt.keep (A := A.in1) (h := s.heap) hot fun o' e => sb.extBut _ _ hx1 e) fun h' e k he => ?_
  obtain ⟨oe, hoe, hce⟩ := he
  refine wpAny_bind (wpAny_isInstance (T := "StopIteration") (b := true) ⟨oe, hoe, hce⟩ isSubtype_stop ?_)
  exact wpAny_pure (hQ _ fun b o' hb e' => k _ _ (sb.extBut b o' hb e'))
theorem unpackItems_tuple_hot {t x1 : Addr} {items : Array Value} {Q : List Value → Shared → Prop} (hot : HotAt A x1 s.heap) (ht : IsTup s.heap t items)
    (hQ : ∀ h', Heap.ExtBut s.heap.objs.size s.heap h' → Q items.toList { s with heap := h' }) : wpAny (model prog w) A (unpackItems (.ref t) items.size none) Q E s := by
  have hlt : t ≠ s.heap.objs.size := by obtain ⟨o, ho, _⟩ := ht; exact Nat.ne_of_lt (Heap.lt_size ho)
  have hx1 : x1 ≠ s.heap.objs.size := by obtain ⟨_, o, vs, h1, _⟩ := hot; exact Nat.ne_of_lt (Heap.lt_size h1)
  unfold unpackItems
  refine wpAny_bind ?_
  · unfold notIterableAtAll
    refine wpAny_bind (wpAny_specialOf ht.typeIs slot_tuple_iter.lookup ?_)
    refine wpAny_pure ?_
    simp only [Bool.false_eq_true, if_false]
    refine wpAny_bind (wpAny_holding (iter_tuple ht ?_))
    refine wpAny_bind (wpAny_holding (draw_tuple hlt items.size 0 _ _ ⟨_, Heap.get?_push_size _ rfl, rfl, rfl⟩ (ht.push _) (by omega) fun h₁ hit₁ hs₁ => ?_))
    have hall : List.take items.size (List.drop 0 items.toList) = items.toList := by
      rw [List.drop_zero]; exact List.take_of_length_le (by simp)
    rw [hall]
    rw [if_neg (by simp)]
    have ht₁ : IsTup h₁ t items := (ht.push _).extBut hs₁.extBut hlt
    have hot₁ : HotAt A x1 h₁ := HotAt.keep (h := s.heap) hot fun o e => hs₁.extBut _ _ hx1 (Heap.get?_push_of_some _ e)
    refine wpAny_bind (wpAny_holding (next_tuple_end_hot (s := { s with heap := h₁ }) hot₁ hx1 hit₁ ht₁ (by simp) fun h₂ he₂ => ?_))
    simp only [Option.isSome_none, Bool.false_eq_true, if_false]
    refine wpAny_pure (hQ h₂ fun b o hb e => he₂ b o hb (hs₁.extBut b o hb (Heap.get?_push_of_some _ e)))
/-- the end of zip over two lists -/
theorem zip_end_hot {z TI TO i1 i2 l1 l2 x1 : Addr} {k1 k2 : Nat} {xs ys : Array Value} {a b : Value} {Q : Option Value → Shared → Prop} (hot : HotAt A x1 s.heap) (nx : x1 ≠ z ∧ x1 ≠ TO ∧ x1 ≠ i1 ∧ x1 ≠ i2) (D : ZipApart z TI TO i1 i2 l1 l2)
    (hz : IsZip s.heap z TI TO .none) (hTI : IsPair s.heap TI (.ref i1) (.ref i2)) (hTO : IsPair s.heap TO a b)
    (h1 : s.heap.IsListIter i1 l1 k1) (h2 : s.heap.IsListIter i2 l2 k2) (hl1 : s.heap.IsList l1 xs) (hl2 : s.heap.IsList l2 ys) (hend : xs[k1]? = none)
    (hQ : ∀ h', (∀ c o, c ≠ z → c ≠ TO → c ≠ i1 → c ≠ i2 → s.heap.get? c = some o → h'.get? c = some o) → Q none { s with heap := h' }) : wpAny (model prog w) A (pyNext (.ref z)) Q E s := by
  have hT : s.TypeIs (.ref z) "zip" := ⟨_, hz, rfl⟩
  unfold pyNext
  refine wpAny_bind (wpAny_attempt (wpAny_callSpecial?_slot (name := Str.ofString "__next__") hT F.slot_zip_next
    (wpAny_call_entry F.slot_zip_next hT F.entry_zip_next ?_ (F.args_zip_next_1 _))))
  show wpAny _ _ (field (.ref z) 2 >>= _) _ _ _
  refine wpAny_bind (wpAny_field hz rfl (x := .bool false) rfl ?_)
  show wpAny _ _ (field (.ref z) 3 >>= _) _ _ _
  refine wpAny_bind (wpAny_field hz rfl (x := .ref TI) rfl ?_)
  refine wpAny_bind (wpAny_seqItems hTI rfl ?_)
  show wpAny _ _ (Builtin.SmallTypes.ownedTupleIsFree (.ref z) >>= _) _ _ _
  refine wpAny_bind ?_
  unfold Builtin.SmallTypes.ownedTupleIsFree
  refine wpAny_bind (wpAny_field hz rfl (x := .none) rfl (wpAny_pure ?_))
  simp only [if_true]
  refine wpAny_bind (wpAny_rule ?_)
  refine wpAny_bind (wpAny_field hz rfl (x := .ref TO) rfl ?_)
  refine wpAny_bind (wpAny_setField_rec hz (by simp) fun h₁ hz₁ hs₁ => ?_)
  replace hz₁ : IsZip h₁ z TI TO .ellipsis := hz₁
  refine wpAny_bind ?_
  simp only [List.zipIdx_cons, List.zipIdx_nil, List.forIn_cons, List.forIn_nil]
  refine wpAny_bind (wpAny_bind (wpAny_onRaise ?_))
  show wpAny _ _ (Builtin.SmallTypes.nextOf (.ref i1) >>= _) _ _ _
  refine wpAny_bind (nextOf_list_end_hot (x1 := x1) (HotAt.keep (h := s.heap) hot fun o e => hs₁.extBut _ _ nx.1 e) nx.2.2.1 (h1.extBut hs₁.extBut D.i1z) (hl1.extBut hs₁.extBut D.l1z) hend fun h₂ e hs₂ he => ?_)
  obtain ⟨oe, hoe, hce⟩ := he
  have hz₂ : IsZip h₂ z TI TO .ellipsis := hs₂ _ _ D.i1z.symm hz₁
  have hez : e ≠ z := fun x => by subst x; rw [hz₂] at hoe; cases hoe; simp at hce
  refine wpAny_setField_rec hz₂ (by simp) fun h₃ _ hs₃ => ?_
  refine wpAny_bind (wpAny_isInstance (T := "StopIteration") (b := true) ⟨oe, hs₃.extBut _ _ hez hoe, hce⟩ isSubtype_stop ?_)
  exact wpAny_pure (hQ _ fun c o c1 _ c3 _ x => hs₃.extBut _ _ c1 (hs₂ _ _ c3 (hs₁.extBut _ _ c1 x)))
end
end An
-- imports: K1
/-! ### K2: a comprehension over zip(list, list) while an exception is handled -/
namespace An
open PySem PySem.Spec PyProof.Rows L2 HotX L2H
abbrev Stt := L2.St
/-- the pins tell the exception that is handled -/
def HotP (A : Around) (pins : List (Addr × Obj)) : Prop := ∃ p ∈ pins, Hot1 A p
section
variable {X : Cx} {pins : List (Addr × Obj)} {σ : Stt} {H : Hp} {s : Shared}
theorem HotP.at (c : HotP X.A pins) (I : Inv X pins σ H s) : ∃ x1 o, (x1, o) ∈ pins ∧ HotAt X.A x1 s.heap := by
  obtain ⟨p, hp, hh, v1, e1, c1⟩ := c
  exact ⟨p.1, p.2, hp, hh, p.2, v1, (I.pin p (List.mem_append_right _ hp)).1, e1, c1⟩
theorem HotP.app {A : Around} {pins more : List (Addr × Obj)} (c : HotP A pins) : HotP A (pins ++ more) := let ⟨p, h, q⟩ := c; ⟨p, List.mem_append_left _ h, q⟩
end
/-- a target that is met with such pins -/
structure PGP (X : Cx) (tg : Expr) (g : TG) : Prop where
  run : ∀ (pins : List (Addr × Obj)) (s : Shared) (σ : Stt) (H : Hp) (v : V) (u : Value) (Q : Stt → Hp → Prop), HotP X.A pins → Inv X pins σ H s → RelV v u → g v σ H Q →
    wpAny (model X.prog X.w) X.A (assign tg X.env u) (fun _ s' => ∃ σ' H', Inv X pins σ' H' s' ∧ Q σ' H') X.xe s
theorem pg_tupP {X : Cx} {es : List Expr} {k : Nat} {pos : Pos} {t : TGs} {n : Nat} (h : PGs X es t)
    (hn : (assignEach es X.env).length = n := by rfl) (hst : (assignEach es X.env).findIdx? (fun z => z.1) = none := by rfl) : PGP X (.Tuple es k pos) (gTup X.K n t) := by
  refine ⟨fun pins s σ H v u Q c I r hw => ?_⟩
  obtain ⟨a, xs, e1, hq, hl, hw⟩ := hw
  subst e1
  cases r
  obtain ⟨its, rv, ht, hz⟩ := I.tuple hq
  obtain ⟨x1, _, _, hot⟩ := c.at I
  have hlen : (assignEach es X.env).length = its.toArray.size := by rw [hn, ← hl, List.size_toArray]; exact rv.length
  rw [assign_Tuple]
  refine wpAny_bind (wpAny_standAt ?_)
  unfold unpack
  rw [hlen, hst]
  refine wpAny_bind (wpAny_holding (unpackItems_tuple_hot hot ht fun h' hx => ?_))
  have I1 : Inv X pins σ H { s with heap := h' } := I.kept (t' := s.toks) fun b o e => hx b o (Nat.ne_of_lt (Heap.lt_size e)) e
  exact h.run pins _ σ H xs _ Q I1 (by simpa using rv) hw
theorem pg_tupPK {X : Cx} {K : PySem.W.Frag} {es : List Expr} {k : Nat} {pos : Pos} {t : TGs} {n : Nat} (hK : X.K = K) (h : PGs X es t)
    (hn : (assignEach es X.env).length = n := by rfl) (hst : (assignEach es X.env).findIdx? (fun z => z.1) = none := by rfl) : PGP X (.Tuple es k pos) (gTup K n t) := hK ▸ pg_tupP h hn hst
structure TurnP (P : Program) (w : World) (K : PySem.W.Frag) (tg : Expr) (J : It) (fp : List Addr) (it : Addr) (tn : Nat → Heap → Prop) : Prop where
  obj : ∀ i h, tn i h → ∀ b ∈ fp, ∃ o, h.get? b = some o ∧ ∀ v, o.data ≠ .cell v
  keep : ∀ i h h', tn i h → (∀ b ∈ fp, ∀ o, h.get? b = some o → h'.get? b = some o) → tn i h'
  item : ∀ (X : Cx), X.prog = P → X.w = w → X.K = K → ∀ (i : Nat) (pins : List (Addr × Obj)) (s : Shared) (σ : Stt) (H : Hp) (E : Value → Shared → Prop), Inv X pins σ H s → (∀ b ∈ fp, FpOk X pins H b) → tn i s.heap → J.go i H →
    wpAny (model P w) X.A (pyNext (.ref it)) (fun r s1 => ∃ u, r = some u ∧
      wpAny (model P w) X.A (letOwnedTupleGo tg (.ref it) u) (fun _ s2 => ∃ x H', Inv X pins σ H' s2 ∧ RelV x u ∧ J.yld i H x H' ∧ tn (i + 1) s2.heap ∧ ∀ b ∈ fp, H' b = none) E s1) E s
  done : ∀ (X : Cx), X.prog = P → X.w = w → X.K = K → ∀ (i : Nat) (pins : List (Addr × Obj)) (s : Shared) (σ : Stt) (H : Hp) (E : Value → Shared → Prop), HotP X.A pins → Inv X pins σ H s → (∀ b ∈ fp, FpOk X pins H b) → tn i s.heap → J.stop i H →
    wpAny (model P w) X.A (pyNext (.ref it)) (fun r s1 => r = none ∧ Inv X pins σ H s1) E s
  self : ∀ (A : Around) (i : Nat) (s : Shared) (Q : Value → Shared → Prop) (E : Value → Shared → Prop), tn i s.heap → Q (.ref it) s → wpAny (model P w) A (pyIter (.ref it)) Q E s
/-- two lists of one length, walked side by side -/
def Itzz (K : PySem.W.Frag) (a b : Addr) : It :=
  ⟨fun i H => ∃ (xs ys : List V) (x y : V), SqL K H a xs ∧ SqL K H b ys ∧ xs[i]? = some x ∧ ys[i]? = some y,
    fun i H v H' => ∃ T x y, v = .ref T ∧ H T = none ∧ H' = upd H T (.tup [x, y]) ∧ (∀ xs, SqL K H a xs → xs[i]? = some x) ∧ ∀ ys, SqL K H b ys → ys[i]? = some y,
    fun i H => ∃ xs ys : List V, SqL K H a xs ∧ SqL K H b ys ∧ xs.length ≤ i⟩
theorem turn_zipP {P : Program} {w : World} {K : PySem.W.Frag} {elts : List Expr} {kk : Nat} {tpos : Pos} {a b z TI TO i1 i2 : Addr} (D : ZipApart z TI TO i1 i2 a b) :
    TurnP P w K (.Tuple elts kk tpos) (Itzz K a b) [z, TI, TO, i1, i2] z (fun i h => IsZip h z TI TO .none ∧ IsPair h TI (.ref i1) (.ref i2) ∧ (∃ x y, IsPair h TO x y) ∧ h.IsListIter i1 a i ∧ h.IsListIter i2 b i) where
  obj := fun i h st c hc => by
    obtain ⟨hz, hTI, ⟨x, y, hTO⟩, ⟨o1, e1, _, d1⟩, ⟨o2, e2, _, d2⟩⟩ := st
    have e' : c = z ∨ c = TI ∨ c = TO ∨ c = i1 ∨ c = i2 := by simpa using hc
    rcases e' with q | q | q | q | q
    · rw [q]; exact ⟨_, hz, fun v q => nomatch q⟩
    · rw [q]; exact ⟨_, hTI, fun v q => nomatch q⟩
    · rw [q]; exact ⟨_, hTO, fun v q => nomatch q⟩
    · rw [q]; exact ⟨o1, e1, fun v q => by rw [d1] at q; cases q⟩
    · rw [q]; exact ⟨o2, e2, fun v q => by rw [d2] at q; cases q⟩
  keep := fun i h h' st k => by
    obtain ⟨hz, hTI, ⟨x, y, hTO⟩, h1, h2⟩ := st
    exact ⟨k z (by simp) _ hz, k TI (by simp) _ hTI, ⟨x, y, k TO (by simp) _ hTO⟩, h1.at fun o q => k i1 (by simp) o q, h2.at fun o q => k i2 (by simp) o q⟩
  item := by
    intro X hP hw hK i pins s σ H E I hf st hg
    subst hP hw hK
    obtain ⟨hz, hTI, ⟨x0, y0, hTO⟩, h1, h2⟩ := st
    obtain ⟨xs, ys, x, y, hqx, hqy, hx, hy⟩ := hg
    obtain ⟨its, rv, p, _⟩ := I.list hqx
    obtain ⟨its2, rv2, p2, _⟩ := I.list hqy
    obtain ⟨u, hu, ru⟩ := rv.get hx
    obtain ⟨u2, hu2, ru2⟩ := rv2.get hy
    have hzl : z < s.heap.objs.size := Heap.lt_size hz
    have five : ∀ c, c ∈ [z, TI, TO, i1, i2] → c = z ∨ c = TI ∨ c = TO ∨ c = i1 ∨ c = i2 := fun c h => by simpa using h
    refine wpAny_pyNext_zip_item D hz hTI hTO h1 h2 p.isList p2.isList (x := u) (y := u2) (by simpa using hu) (by simpa using hu2) fun h' z' TO' h1' h2' hT hsz hk => ?_
    refine ⟨_, rfl, wpAny_letOwnedTupleGo_zip (s := { s with heap := h' }) z' fun h'' z'' sb => ?_⟩
    have hT2 : h''.get? s.heap.objs.size = some { cls := .type "tuple", data := .seq #[u, u2] } := (sb.2 _ (Nat.ne_of_gt hzl)).trans hT
    have new : ObjOk X.prog X.w (upd H s.heap.objs.size (.tup [x, y])) h'' s.heap.objs.size (.tup [x, y]) :=
      ⟨by show 2 ≤ sizeLine; decide, [u, u2], .cons ru (.cons ru2 .nil), ⟨_, hT2, rfl, _, rfl⟩⟩
    have I1 : Inv X pins σ (upd H s.heap.objs.size (.tup [x, y])) { s with heap := h'' } :=
      I.turnedNew (t' := s.toks) (ch := [z, TI, TO, i1, i2]) (fun c o hb q => by
        have n1 : c ≠ z := fun e => hb (by rw [e]; simp)
        have n2 : c ≠ TO := fun e => hb (by rw [e]; simp)
        have n3 : c ≠ i1 := fun e => hb (by rw [e]; simp)
        have n4 : c ≠ i2 := fun e => hb (by rw [e]; simp)
        exact (sb.2 c n1).trans (hk c o n1 n2 n3 n4 q)) hf (Nat.le_refl _) new
    refine ⟨.ref s.heap.objs.size, _, I1, rfl, ⟨_, x, y, rfl, I.hok.fresh (Nat.le_refl _), rfl, fun l hl => by rw [I.list_inj hl hqx]; exact hx, fun l hl => by rw [I.list_inj hl hqy]; exact hy⟩, ⟨z'', ?_, ⟨u, u2, ?_⟩, ?_, ?_⟩, fun c hcm => ?_⟩
    · exact (sb.2 _ D.TIz).trans (hk _ _ D.TIz D.TITO D.TIi1 D.TIi2 hTI)
    · exact (sb.2 _ D.TOz).trans TO'
    · exact h1'.at fun o q => (sb.2 _ D.i1z).trans q
    · exact h2'.at fun o q => (sb.2 _ D.i2z).trans q
    · have hlt : c < s.heap.objs.size := by
        rcases five c hcm with q | q | q | q | q
        · rw [q]; exact hzl
        · rw [q]; exact Heap.lt_size hTI
        · rw [q]; exact Heap.lt_size hTO
        · rw [q]; obtain ⟨_, e1, _⟩ := h1; exact Heap.lt_size e1
        · rw [q]; obtain ⟨_, e2, _⟩ := h2; exact Heap.lt_size e2
      rw [upd_ne (Nat.ne_of_lt hlt)]
      exact (hf c hcm).1
  done := by
    intro X hP hw hK i pins s σ H E c I hf st hg
    subst hP hw hK
    obtain ⟨hz, hTI, ⟨x0, y0, hTO⟩, h1, h2⟩ := st
    obtain ⟨xs, ys, hqx, hqy, hend⟩ := hg
    obtain ⟨its, rv, p, _⟩ := I.list hqx
    obtain ⟨its2, rv2, p2, _⟩ := I.list hqy
    have l1 := rv.length
    obtain ⟨x1, o1, hp1, hot⟩ := c.at I
    have ne : ∀ b ∈ [z, TI, TO, i1, i2], x1 ≠ b := fun b hb => (hf b hb).2.2.2.2.2 (x1, o1) (List.mem_append_right _ hp1)
    refine zip_end_hot hot ⟨ne z (by simp), ne TO (by simp), ne i1 (by simp), ne i2 (by simp)⟩ D hz hTI hTO h1 h2 p.isList p2.isList (by simp; omega) fun h' hk => ⟨rfl, I.turnedL (t' := s.toks) (ch := [z, TI, TO, i1, i2]) (fun c o hb q => ?_) hf⟩
    exact hk c o (fun e => hb (by rw [e]; simp)) (fun e => hb (by rw [e]; simp)) (fun e => hb (by rw [e]; simp)) (fun e => hb (by rw [e]; simp)) q
  self := fun A i s Q E st h => wpAny_pyIter_zip st.1 h
def PIEP (X : Cx) (pins : List (Addr × Obj)) (σ : Stt) (tg : Expr) (R : It → Hp → Prop) (itv : Value) (s2 : Shared) : Prop :=
  ∃ (it : Addr) (fp : List Addr) (tn : Nat → Heap → Prop) (J : It) (H' : Hp), itv = .ref it ∧ Inv X pins σ H' s2 ∧ TurnP X.prog X.w X.K tg J fp it tn ∧ tn 0 s2.heap ∧ (∀ b ∈ fp, FpOk X pins H' b) ∧ R J H'
structure PIP (X : Cx) (tg iter : Expr) (wi : TI) : Prop where
  run : ∀ (pins : List (Addr × Obj)) (s : Shared) (σ : Stt) (H : Hp) (R : It → Hp → Prop), Inv X pins σ H s → wi σ H R →
    wpAny (model X.prog X.w) X.A (eval iter X.env) (fun v s1 => wpAny (model X.prog X.w) X.A (pyIter v) (PIEP X pins σ tg R) X.xe s1) X.xe s
def iZipP (K : PySem.W.Frag) (ta : TA) : TI := fun σ H R => ta σ H fun vs H1 => ∃ a b xs ys, vs = [.ref a, .ref b] ∧ SqL K H1 a xs ∧ SqL K H1 b ys ∧ R (Itzz K a b) H1
theorem pi_zipP {X : Cx} {e e2 : Expr} {ta : TA} {p pos tpos : Pos} {elts : List Expr} {kk : Nat} (hg : Gl X "zip") (hm : X.mg "zip" = none) (ha : PA X [e, e2] ta)
    (hs : starEach [e, e2] X.env = (false, eval e X.env) :: starEach [e2] X.env := by rfl) (hpl : (backTo pos (starEach [e2] X.env)).any (fun z => z.1) = false := by rfl) :
    PIP X (.Tuple elts kk tpos) (.Call (.Name "zip" p) [e, e2] [] pos) (iZipP X.K ta) := by
  refine ⟨fun pins s σ H R I h => ?_⟩
  refine Call_ (ld_blt I hg hm PyProof.Rows.boot_zip (PyProof.Rows.callWith_type1 (thn (ha.run pos pins s σ H _ I h) fun us s1 ⟨vs, H1, I1, r1, q1⟩ => ?_) hs hpl))
  obtain ⟨a, b, xs, ys, ex, hqx, hqy, q⟩ := q1
  subst ex
  obtain ⟨u1, u2, rfl, ra, rb⟩ := vals2 r1
  cases ra
  cases rb
  obtain ⟨its, rv, p1, _⟩ := I1.list hqx
  obtain ⟨its2, rv2, p2, _⟩ := I1.list hqy
  have la : a < s1.heap.objs.size := p1.lt
  have lb : b < s1.heap.objs.size := p2.lt
  refine call_zip_2 p1.isList p2.isList fun h' hz hTI hTO h1 h2 hsz hk => wpAny_pyIter_zip hz ?_
  have I2 : Inv X pins σ H1 { s1 with heap := h' } := I1.kept (t' := s1.toks) hk
  refine ⟨s1.heap.objs.size + 4, [s1.heap.objs.size + 4, s1.heap.objs.size + 2, s1.heap.objs.size + 3, s1.heap.objs.size, s1.heap.objs.size + 1], _, _, H1, rfl, I2, turn_zipP (PySem.W.ktu_apart s1.heap.objs.size a b la lb), ⟨hz, hTI, ⟨_, _, hTO⟩, h1, h2⟩, fun c hcm => ?_, q⟩
  have hle : s1.heap.objs.size ≤ c := by
    have e' : c = s1.heap.objs.size + 4 ∨ c = s1.heap.objs.size + 2 ∨ c = s1.heap.objs.size + 3 ∨ c = s1.heap.objs.size ∨ c = s1.heap.objs.size + 1 := by simpa using hcm
    rcases e' with e | e | e | e | e <;> (rw [e]; first | exact Nat.le_refl _ | exact Nat.le_add_right _ _)
  exact I1.fpOk hle (I1.hok.fresh hle)
end An
-- imports: K2
/-! ### K3: a list comprehension while an exception is handled -/
namespace An
open PySem PySem.Spec PyProof.Rows L2 HotX L2H
theorem pe_lcP {X : Cx} {elt tg iter : Expr} {ifs : List Expr} {scope : Scope} {own : List (Str × Nat)} {pos : Pos} {wi : TI} {g : TG} {tt : TT} {te : TE} (hc : HotC X) (hN : X.N.Nodup) (hi : PIP X tg iter wi) (ok : BlkOk X.N X.env.scope scope own)
    (hg : ∀ (s : Shared) (H : Hp) (C : Addr) (cl : List (Str × Addr)) (fp : List Addr), PGP (X.blk s H scope (compEnvC scope cl C X.env) fp) tg g) (ht : ∀ (s : Shared) (H : Hp) (C : Addr) (cl : List (Str × Addr)) (fp : List Addr), PTs (X.blk s H scope (compEnvC scope cl C X.env) fp) ifs tt)
    (he : ∀ (s : Shared) (H : Hp) (C : Addr) (cl : List (Str × Addr)) (fp : List Addr), PE (X.blk s H scope (compEnvC scope cl C X.env) fp) elt te) (hs : ∀ x, foldedSetIterable iter X.env x = pure x := by intro _; rfl) :
    PE X (.ListComp elt [⟨tg, iter, ifs, 0⟩] scope pos) (tLc wi g tt te (own.map fun z => z.2)) := by
  refine ⟨fun pins s σ H Q I h => ?_⟩
  rw [eval_ListComp]
  have hfree : ∀ y ∈ scope.names, y.2 = .free → ∃ c, X.env.cells.lookup y.1 = some c := fun y hy e => (ok.free y hy e).elim (fun k => I.ok.has _ (.inl k)) fun k => I.ok.has _ (.inr k)
  refine wpAny_comprehension_free (use := none) rfl hs (closure_ok hfree) ok.kind (fun y hy e => by rw [ok.uniq y hy, e])
    (thn (hi.run pins s σ H _ I h) fun xv s1 hx => thn hx fun itv s2 h2 => ?_)
  obtain ⟨it, fp, tn, J, H2, rfl, I2, T, st2, f2, q⟩ := h2
  refine wpAny_newObj_type (newEnv_comp ?_) (by show 0 ≤ sizeLine; decide)
  generalize hD : s2.heap.objs.size = D
  have hDn : H2 D = none := I2.hok.fresh (Nat.le_of_eq hD)
  obtain ⟨W, ⟨m0, w0⟩, turn⟩ := q D hDn
  generalize hs3 : ({ s2 with heap := s2.heap.push { cls := .type "list", data := .seq ([] : List Value).toArray } } : Shared) = s3
  have h3 : s3.heap = s2.heap.push { cls := .type "list", data := .seq ([] : List Value).toArray } := by rw [← hs3]
  have I3 : Inv X pins σ (upd H2 D (.lst [])) s3 := by
    rw [← hs3]
    refine I2.laid (t' := s2.toks) (fun b o e => Heap.get?_push_of_some _ e) (Nat.le_of_eq hD) ⟨Nat.zero_le _, [], 0, .nil, ?_⟩
    rw [← hD]
    exact Heap.get?_push_size _ rfl
  have f3 : ∀ b ∈ fp, FpOk X pins (upd H2 D (.lst [])) b ∧ b < s3.heap.objs.size := fun b hb => by
    obtain ⟨o, e, _⟩ := T.obj _ _ st2 b hb
    have hlt : b < s2.heap.objs.size := Heap.lt_size e
    refine ⟨⟨?_, (f2 b hb).2⟩, by rw [h3, Heap.size_push]; exact Nat.lt_succ_of_lt hlt⟩
    rw [upd_ne (by rw [← hD]; exact Nat.ne_of_lt hlt)]
    exact (f2 b hb).1
  have st3 : tn 0 s3.heap := T.keep _ _ _ st2 fun b _ o e => by rw [h3]; exact Heap.get?_push_of_some _ e
  have I4a := block_start I3 ok hN f3
  have pg := hg s3 (upd H2 D (.lst [])) s3.heap.objs.size (cellsFrom (s3.heap.objs.size + 1) scope.names (cloFrom X.env.cells scope.names [])) fp
  have pt := ht s3 (upd H2 D (.lst [])) s3.heap.objs.size (cellsFrom (s3.heap.objs.size + 1) scope.names (cloFrom X.env.cells scope.names [])) fp
  have pe := he s3 (upd H2 D (.lst [])) s3.heap.objs.size (cellsFrom (s3.heap.objs.size + 1) scope.names (cloFrom X.env.cells scope.names [])) fp
  show codeAny _ _ (.compStart (.ListComp elt [⟨tg, iter, ifs, 0⟩] scope pos) 0 (.ref it) (.ref D) (compEnvC scope (cellsFrom (s3.heap.objs.size + 1) scope.names (cloFrom X.env.cells scope.names [])) s3.heap.objs.size X.env)) (compPost (model X.prog X.w) X.A X.xe none (EP X pins σ Q) (.ref D) s3.heap.objs.size) { s3 with heap := pushCells (s3.heap.push { cls := .type "dict", data := .dict #[] }) scope.names }
  have nfp : ∀ b ∈ fp, (upd H2 D (.lst [])) b = none := fun b hb => (f3 b hb).1.1
  -- the pins of the def's context are the block's
  have pinB : ∀ p ∈ X.pn, s3.heap.get? p.1 = some p.2 ∧ (upd H2 D (.lst [])) p.1 = none ∧ p.1 ≠ X.env.locals ∧ p.1 ∉ X.fs ∧ ∀ v, p.2.data ≠ .cell v := fun p hp => I3.pin p (List.mem_append_left _ hp)
  have apart : ∀ b ∈ fp, ∀ p ∈ X.pn, p.1 ≠ b := fun b hb p hp => (f3 b hb).1.2.2.2.2.2 p (List.mem_append_left _ hp)
  generalize hce : compEnvC scope (cellsFrom (s3.heap.objs.size + 1) scope.names (cloFrom X.env.cells scope.names [])) s3.heap.objs.size X.env = ce at I4a pg pt pe ⊢
  have cL : ce.locals = s3.heap.objs.size := by subst hce; rfl
  generalize hH3 : upd H2 D (.lst []) = H3 at I3 I4a pg pt pe w0 nfp f3 pinB
  generalize hs4 : ({ s3 with heap := pushCells (s3.heap.push { cls := .type "dict", data := .dict #[] }) scope.names } : Shared) = s4 at I4a ⊢
  have up4 : ∀ b o, s3.heap.get? b = some o → s4.heap.get? b = some o := fun b o e => by rw [← hs4]; exact pushCells_keeps _ _ _ _ (Heap.get?_push_of_some _ e)
  have st4 : tn 0 s4.heap := T.keep _ _ _ st3 fun b _ o e => up4 b o e
  have I4 : Inv (X.blk s3 H3 scope ce fp) X.pn (wipe σ (own.map fun z => z.2)) H3 s4 := by
    refine I4a.pins_of fun p hp => ?_
    obtain ⟨p1, p2, p3, p4, p5⟩ := pinB p hp
    refine ⟨up4 _ _ p1, p2, ?_, ?_, p5⟩
    · show p.1 ≠ ce.locals
      rw [cL]; exact Nat.ne_of_lt (Heap.lt_size p1)
    · show p.1 ∉ frs X.stack
      rcases I3.ok.stk with e | ⟨e, e2⟩
      · rw [e]; exact p4
      · rw [e]
        intro z
        unfold frs at z
        rw [List.filterMap_cons, e2] at z
        rcases List.mem_cons.mp z with z | z
        · exact p3 z
        · exact p4 z
  have hotB : HotP (X.blk s3 H3 scope ce fp).A X.pn := let ⟨p, h1, h2⟩ := hc; ⟨p, h2, h1⟩
  have stat : ∀ {σ' : Stt} {H' : Hp} {s' : Shared}, Inv (X.blk s3 H3 scope ce fp) X.pn σ' H' s' → (∀ b ∈ fp, H' b = none) → ∀ b ∈ fp, FpOk (X.blk s3 H3 scope ce fp) X.pn H' b := fun {σ' H' s'} I' hn b hb =>
    ⟨hn b hb, (I'.ok.exf b hb).1, I'.ok.exfs b hb, .inl hb, fun x c e => (I'.ok.exf b hb).2 x c e, fun p hp => apart b hb p (by simpa using hp)⟩
  have loop : codeAny (model X.prog X.w) X.A (.compLoop (.ListComp elt [⟨tg, iter, ifs, 0⟩] scope pos) 0 (.ref it) (.ref D) ce) (compPost (model X.prog X.w) X.A X.xe none (EP X pins σ Q) (.ref D) s3.heap.objs.size) s4 := by
    refine compLoop_any (fun n s' => ∃ i H', Inv (X.blk s3 H3 scope ce fp) X.pn (wipe σ (own.map fun z => z.2)) H' s' ∧ tn i s'.heap ∧ (∀ b ∈ fp, H' b = none) ∧ W i n H') ?_ m0 ⟨0, H3, I4, st4, nfp, w0⟩
    rintro n s5 ⟨i, H5, I5, st5, n5, w5⟩
    rcases turn i n H5 w5 with ⟨stop, qq⟩ | ⟨go, Nx, hNx, step⟩
    · have td := T.done (X.blk s3 H3 scope ce fp) rfl rfl rfl i X.pn s5 _ H5 (fun _ _ => False) hotB I5 (stat I5 n5) st5 stop
      refine thnF td fun r s6 ⟨hr, I6⟩ => ?_
      subst hr
      have I7 : Inv X pins σ H5 s6 := I3.call' (ch := fp) I6.os I6.base I6.hok I6.bare fun b hb => ⟨(f3 b hb).1.2.2.2.1, (f3 b hb).1.2.1, (f3 b hb).1.2.2.2.2.1, (f3 b hb).1.2.2.2.2.2⟩
      have nC : H5 s3.heap.objs.size = none := by
        have z : H5 ce.locals = none := I6.free
        rw [cL] at z
        exact z
      obtain ⟨m, hn, _⟩ := I6.loc
      have hn : s6.heap.Ns ce.locals m := hn
      rw [cL] at hn
      refine ⟨m, hn, fun h'' sb => ?_⟩
      obtain ⟨g0, g1, g2, g3, g4, g5⟩ := I3.fpOk (H' := H5) (Nat.le_refl _) nC
      exact ⟨.ref D, H5, I7.turned (t' := s6.toks) (fun b o hb e => (sb.2 b hb).trans e) g0 g1 g3 g4 g5, rfl, qq⟩
    · have ti := T.item (X.blk s3 H3 scope ce fp) rfl rfl rfl i X.pn s5 _ H5 (fun _ _ => False) I5 (stat I5 n5) st5 go
      refine thnF ti fun r s6 ⟨u, hr, h6⟩ => ?_
      subst hr
      refine thnF h6 fun _ s7 ⟨x, H7, I7, r7, y7, st7, n7⟩ => ?_
      have I7' := I7.pinned (stat I7 n7) (T.obj _ _ st7)
      refine thnF (pg.run _ s7 _ H7 x u _ hotB.app I7' r7 (step x H7 y7)) fun _ s8 ⟨σ8, H8, I8, hw8, q8⟩ => ?_
      refine thnF (pt.run _ s8 σ8 H8 _ I8 q8) fun b s9 ⟨H9, I9, q9⟩ => ?_
      have fin : ∀ {s' : Shared} {H' : Hp}, Inv (X.blk s3 H3 scope ce fp) (X.pn ++ pinsAt fp s7.heap) σ8 H' s' → Nx H' → ∃ m, m < n ∧ ∃ i H', Inv (X.blk s3 H3 scope ce fp) X.pn (wipe σ (own.map fun z => z.2)) H' s' ∧ tn i s'.heap ∧ (∀ b ∈ fp, H' b = none) ∧ W i m H' := fun {s' H'} I' nx => by
        obtain ⟨m', hm, w'⟩ := hNx H' nx
        have pin' : ∀ b ∈ fp, ∀ o, s7.heap.get? b = some o → s'.heap.get? b = some o ∧ H' b = none := fun b hb o e =>
          let z := I'.pin (b, o) (List.mem_append_right _ (List.mem_append_right _ (mem_pinsAt hb e)))
          ⟨z.1, z.2.1⟩
        have hl : (wipe σ (own.map fun z => z.2)).length = σ8.length := by rw [← hw8, wipe_length]
        refine ⟨m', hm, i + 1, H', (I'.unpinned (pins := X.pn)).weak hl (fun j v e => ?_), T.keep _ _ _ st7 fun b hb o e => (pin' b hb o e).1, fun b hb => ?_, w'⟩
        · rw [← hw8] at e
          exact (wipe_some e).1
        · obtain ⟨o, e, _⟩ := T.obj _ _ st7 b hb
          exact (pin' b hb o e).2
      cases b with
      | false =>
        simp only [Bool.false_eq_true, if_false] at q9 ⊢
        exact fin I9 q9
      | true =>
        simp only [if_true] at q9 ⊢
        refine thnF (pe.run _ s9 σ8 H9 _ I9 q9) fun z s10 ⟨yv, H10, I10, r10, acc, hD10, hz10, nx⟩ => ?_
        exact app_ok (X := X.blk s3 H3 scope ce fp) I10 hD10 hz10 r10 fun s11 I11 => fin I11 nx
  exact codeAny_compStart_list loop (T.self X.A 0 _ _ _ st4 loop)
end An
-- imports: K3 HandS.ExcIs KE.KExcIs HandS.ExcField
/-! ### K4: a def called with the exception that is handled -/
namespace An
open PySem PySem.Spec PyProof.Rows L2 HotX L2H
/-- what a def promises of the handled exception p -/
structure FnX (P : Program) (w : World) (K : PySem.W.Frag) (mg : Str → Option Value) (base : Heap) (k : Nat) (f : Addr) (fd : FuncData) (ps : List Str) (sp : (Addr × Obj) → Sp) : Prop where
  len : ∀ p vs H Q E, sp p vs H Q E → vs.length = ps.length
  run : ∀ (A : Around) (outer : List Env) (s : Shared) (H : Hp) (args : Args) (us : List Value) (vs : List V) (Q : VK) (E : XK) (p : Addr × Obj), RoomH k A → Hot1 A p → PinOk outer H s p → Env0 P w K mg base A outer s H → BindsTo s fd args (ps.zip us) → Vals vs us → sp p vs H Q E →
    codeAny (model P w) A (.call (.ref f) args) (CR CX0 outer P w H s Q E) s
theorem fn_ofX {P : Program} {w : World} {K : PySem.W.Frag} {mg : Str → Option Value} {base : Heap} {k : Nat} {f : Addr} {name qual : Str} {params : Arguments} {body : List Stmt} {scope : Scope} {dV kV doc pm cdv ct oc : Value} {an od : Option Addr}
    {osl : Array (Option Value)} {N ps : List Str} {sp : (Addr × Obj) → Sp} (lk : K.lookup f = some ⟨oc, od, .func (PySem.W.fnOf name qual params body scope dV kV doc pm an cdv ct), osl⟩) (hcd : PySem.W.codeIn K cdv qual = true) (S : FnScope N ps scope)
    (len : ∀ p vs H Q E, sp p vs H Q E → vs.length = ps.length)
    (hbody : ∀ (A : Around) (outer : List Env) (s : Shared) (H : Hp) (vs : List V) (Q : VK) (E : XK) (p : Addr × Obj), Hot1 A p → RoomH k (A.deeper (envOfC qual scope s.heap.objs.size f cdv)) → sp p vs H Q E →
      ∃ t, PSs (cxH CX0 P w K mg base N qual scope f cdv A outer s H E p) body t ∧ t { nx := fun _ H' => Q .non H', rt := Q } (L2.start N vs) H) :
    FnX P w K mg base (k + 1) f (PySem.W.fnOf name qual params body scope dV kV doc pm an cdv ct) ps sp := by
  refine ⟨len, fun A outer s H args us vs Q E p hr hot hpin e0 hb r hsp => ?_⟩
  have hl := len _ _ _ _ _ hsp
  have KX : K.In s.heap := e0.mod.kin.keeps fun b o e => (e0.bs b o e).1
  have lim : s.heap.NoLimit := e0.mod.nolimit.keeps fun b o e => (e0.bs b o e).1
  have hkind : ∀ y ∈ ps.zip us, scope.names.lookup y.1 = some .local ∨ (scope.names.lookup y.1 = some .cell ∧ ((cellsFrom (s.heap.objs.size + 1) scope.names []).lookup y.1).isSome = true) := fun ⟨n, v⟩ hy =>
    (S.par n (List.of_mem_zip hy).1).elim .inl fun q => .inr ⟨q, PySem.W.cellsFrom_some _ _ _ (.inl q)⟩
  refine codeAny_call_function hr.depth (KX _ _ lk) rfl S.co S.gen rfl (PySem.W.codeRec_of KX hcd) (hb _ _ _ _ ?_)
  refine wpAny_newFunctionEnv_cells S.kind hkind fun env he s1 x => ?_
  subst he
  refine ⟨lim.keeps x.toInCall.keep, codeAny_func ?_⟩
  obtain ⟨t, ht, hq⟩ := hbody A outer s H vs Q E p hot (hr.deeper _) hsp
  have I : Inv (cxH CX0 P w K mg base N qual scope f cdv A outer s H E p) [] (L2.start N vs) H s1 := inv_startH S hpin e0 hl r x
  refine wpAny_mono (ht.run [] s1 (L2.start N vs) H _ I hq) (fun fl s' hs => ?_) fun e s' hs => hs
  have fin : ∀ {σ' : Stt} {H' : Hp} {v : V} {u : Value}, Inv (cxH CX0 P w K mg base N qual scope f cdv A outer s H E p) [] σ' H' s' → RelV v u → Q v H' → CE outer P w H s Q u s' :=
    fun {σ' H' v u} J rv q => ⟨v, H', J.os, J.bare, J.base, J.hok, rv, q⟩
  cases fl with
  | ret u => obtain ⟨v, σ', H', J, rv, q⟩ := hs; exact fin J rv q
  | next => obtain ⟨σ', H', J, q⟩ := hs; exact fin (v := V.non) (u := Value.none) J rfl q
  | brk => obtain ⟨_, _, _, q⟩ := hs; exact False.elim q
  | cont => obtain ⟨_, _, _, q⟩ := hs; exact False.elim q
section
variable {X : Cx} {k : Nat} {f : Addr} {fd : FuncData} {ps : List Str} {sp : (Addr × Obj) → Sp} {x : Str} {q pos : Pos} {e : Expr} {es : List Expr} {t : TA}
theorem pe_callX {p : Addr × Obj} (F : FnX X.prog X.w X.K X.mg X.base k f fd ps sp) (hr : RoomH k X.A) (hot : Hot1 X.A p) (hp : p ∈ X.pn) (hg : Gl X x) (hm : X.mg x = some (.ref f)) (hk : PySem.W.keepIn X.K (.ref f) = true) (hb : Binds X.K fd ps [])
    (ha : PA X (e :: es) t) (hdb : (x == ("__debug__" : Str)) = false := by decide) (he : starEach (e :: es) X.env = (false, eval e X.env) :: starEach es X.env := by rfl) (hpl : (backTo pos (starEach es X.env)).any (fun z => z.1) = false := by rfl) :
    PE X (.Call (.Name x q) (e :: es) [] pos) (tCall (sp p) [] E0 t) := by
  refine ⟨fun pins s σ H Q I h => ?_⟩
  refine wpAny_Call_Name_kw (ld_glob I hg hm ?_ hdb)
  refine PySem.W.callWith_K (h₀ := X.base) I.ok.mod.kin hk (thn (ha.run pos pins s σ H _ I h) fun us s1 ⟨vs, H1, I1, r, h1⟩ => ⟨I1.kIn, ?_⟩) he hpl
  have h1 : sp p vs H1 Q E0 := by
    have h1 : sp p (vs ++ []) H1 Q E0 := h1
    rw [List.append_nil] at h1; exact h1
  have hl : us.length = ps.length := by rw [← r.length]; exact F.len _ _ _ _ _ h1
  have b := hb s1 us I1.kIn (by rw [List.append_nil]; exact hl)
  rw [List.append_nil] at b
  have P1 := I1.pin p (List.mem_append_left _ hp)
  have hpin : PinOk X.stack H1 s1 p := ⟨P1.1, P1.2.1, fun hm => (List.mem_cons.mp (I1.stkSub p.1 hm)).elim P1.2.2.1 P1.2.2.2.1, P1.2.2.2.2⟩
  refine wpAny_call (codeAny_mono (F.run X.A X.stack s1 H1 ⟨us, []⟩ us vs Q E0 p hr hot hpin I1.env0 b r h1) fun r s' hq => ?_)
  cases r with
  | error e => exact (show False from hq).elim
  | ok fl =>
    cases fl with
    | ret u => exact I1.after hq
    | next => exact False.elim hq
    | brk => exact False.elim hq
    | cont => exact False.elim hq
end
/-- isinstance(e, c), e the exception that is handled -/
def rIsX (K : PySem.W.Frag) (D : Addr) (p : Addr × Obj) : List V → Hp → VK → Prop := fun xs H Q => ∃ (c : V) (cv : Value) (b : Bool), xs = [.ref p.1, c] ∧ (∀ u, RelV c u → u = cv) ∧ PySem.W.kitOne K (.ref D) cv = some b ∧ (∀ dd, p.2.dict = some dd → ∃ o, H dd = some o) ∧ Q (.bl b) H
theorem call_isX {X : Cx} {p : Addr × Obj} {D : Addr} (C : ExcC X.K D) (hp : p ∈ X.pn) (hz : p.2.cls = .ref D) (hf : ∃ vs, p.2.data = .fields vs) : CallR X (.builtin "isinstance") (rIsX X.K D p) := by
  intro pins s σ H xs us Q I r h
  obtain ⟨c, cv, b, rfl, hcv, e, hd, q⟩ := h
  obtain ⟨u1, u2, rfl, rx, rt⟩ := vals2 r
  cases rx
  have ec := hcv _ rt
  subst ec
  obtain ⟨hget, _⟩ := I.pin p (List.mem_append_left _ hp)
  obtain ⟨vs, hv⟩ := hf
  have J : ∃ od, PySem.W.InstAt s.heap p.1 p.2 D od := by
    have no : PySem.W.notCls p.2 = true := by
      unfold PySem.W.notCls
      rw [hv]
    cases hdi : p.2.dict with
    | none => exact ⟨none, hget, hz, no, by rw [hdi]; trivial⟩
    | some dd =>
      obtain ⟨o, ho⟩ := hd dd hdi
      obtain ⟨o', ho'⟩ := objOk_get (I.hok dd o ho)
      exact ⟨some o', hget, hz, no, by rw [hdi]; exact ho'⟩
  obtain ⟨od, J⟩ := J
  obtain ⟨cd, hc, _⟩ := PySem.W.any_some C.hd
  exact PySem.W.kia_one (PySem.W.kitx_exc (od := od) (by rw [hc]; rfl) C.hg C.hk C.hs C.ha C.hn C.ht C.hm) I.kIn J e (fun z => nomatch z) fun tk => ⟨.bl b, H, I.kept (t' := tk) fun _ _ z => z, rfl, q⟩
end An
-- imports: K4 D2
/-! ### K5: the names of the classes of a refusal -/
namespace An
open PySem PySem.Spec PyProof.Rows L2 HotX L2H
def kinNames : List Str := ["NoRules", "NoRow", "NoTold", "NoPart", "NoNumber", "NoPlace", "Full", "NoneLeft", "Breaks", "+"]
def excNames : List Str := ["NoRules", "NoRow", "NoTold", "NoPart", "NoNumber", "NoPlace", "Full", "NoneLeft", "Breaks"]
def raised : List Str := ["NoPlace", "Full", "NoneLeft", "Breaks"]
def kinGood (d : Str) : List Bool := (excNames.map fun c => decide (d = c)) ++ [true]
def kinTake (d : Str) (i : Nat) : List Str := (((kinNames.zip (kinGood d)).take i).filter fun z => z.2).map fun z => z.1
def kinOf (d : Str) : Str := Txt.join "" [d, "+"]
theorem kin_all {d : Str} (h : d ∈ raised) : kinTake d 10 = [d, "+"] := by
  unfold raised at h
  simp only [List.mem_cons, List.not_mem_nil, or_false] at h
  rcases h with rfl | rfl | rfl | rfl <;> decide +kernel
theorem kin_step (d : Str) {i : Nat} {n : Str} {g : Bool} (hn : kinNames[i]? = some n) (hg : (kinGood d)[i]? = some g) : kinTake d (i + 1) = kinTake d i ++ (if g = true then [n] else []) := by
  unfold kinTake
  have hz : (kinNames.zip (kinGood d))[i]? = some (n, g) := by
    rw [List.getElem?_zip_eq_some]
    exact ⟨hn, hg⟩
  rw [List.take_add_one, hz, List.filter_append, List.map_append]
  congr 1
  cases g <;> rfl
theorem kin_len (d : Str) (i : Nat) (h : i ≤ 10) : (kinTake d i).length ≤ 10 := by
  unfold kinTake
  rw [List.length_map]
  refine Nat.le_trans (List.length_filter_le _ _) ?_
  rw [List.length_take]; omega
theorem bt_ve : bootBuiltins "ValueError" = some (.type "ValueError") := by decide +kernel
/-- what is known of the classes of refusals; cn tells where they stand -/
structure ExF (K : PySem.W.Frag) (mg : Str → Option Value) (cn : Str → Addr) : Prop where
  mgc : ∀ x ∈ excNames, mg x = some (.ref (cn x))
  kit : ∀ d ∈ raised, ∀ c ∈ excNames, PySem.W.kitOne K (.ref (cn d)) (.ref (cn c)) = some (decide (d = c))
  kitV : ∀ d ∈ raised, PySem.W.kitOne K (.ref (cn d)) (.type "ValueError") = some true
  att : ∀ d ∈ raised, ExcC K (cn d)
  ve : mg "ValueError" = none
theorem walk_zipP {K : PySem.W.Frag} {a b : Addr} {xs ys : List V} {n : Nat} (hx : xs.length = n) (hy : ys.length = n) : Walk (Itzz K a b) n (fun H => SqL K H a xs ∧ SqL K H b ys) (YPair (fun i => xs[i]?) (fun i => ys[i]?)) := by
  refine ⟨fun i _ hi q => ?_, fun _ q => ⟨xs, ys, q.1, q.2, by omega⟩, fun i H v H' _ q y => ?_⟩
  · have h1 : i < xs.length := by omega
    have h2 : i < ys.length := by omega
    exact ⟨xs, ys, xs[i], ys[i], q.1, q.2, by simp [h1], by simp [h2]⟩
  · obtain ⟨T, x, z, h1, h2, h3, h4, h5⟩ := y
    exact ⟨T, x, z, h1, h2, h3, h4 xs q.1, h5 ys q.2⟩
section
variable {P : Program} {w : World} {K : PySem.W.Frag} {mg : Str → Option Value} {base : Heap} {cn : Str → Addr}
def N__law_kin : List Str := ["e", "kinds_met", "names", "name", "good"]
theorem sc_law_kin : FnScope N__law_kin ["e"] (defScope S__law_kin) := ⟨rfl, rfl, rfl, by decide +kernel, rfl, by decide +kernel, by decide +kernel⟩
def spKin (cn : Str → Addr) : (Addr × Obj) → Sp := fun p vs H Q _ => ∃ d, d ∈ raised ∧ vs = [.ref p.1] ∧ p.2.cls = .ref (cn d) ∧ (∃ vs, p.2.data = .fields vs) ∧ (∀ dd, p.2.dict = some dd → ∃ o, H dd = some o) ∧ ∀ H', Same H H' → Q (.str (kinOf d)) H'
structure ClX (P : Program) (w : World) (K : PySem.W.Frag) (mg : Str → Option Value) (base : Heap) (k : Nat) (x : Str) (sp : (Addr × Obj) → Sp) : Prop where
  ex : ∃ f fd ps, FnX P w K mg base k f fd ps sp ∧ mg x = some (.ref f) ∧ PySem.W.keepIn K (.ref f) = true ∧ Binds K fd ps []
theorem ok_law_kin (Dd : Dn K mg "_law_kin" S__law_kin) (bf : Bf mg) (ef : ExF K mg cn) : ClX P w K mg base 1 "_law_kin" (spKin cn) := by
  obtain ⟨f, fd, F, m⟩ := Dd.ex
  refine ⟨f, fd, ["e"], ?_, m, F.kp, F.bindsN fun _ _ _ _ _ _ us hl => match us, hl with | [_], _ => rfl⟩
  obtain ⟨oc, od, dV, kV, doc, pm, an, cdv, ct, osl, rfl, lk, hcd, _, _⟩ := F.ex
  refine fn_ofX lk hcd sc_law_kin (fun p vs H Q E h => ?_) (fun A outer s H vs Q E p hot hr h => ?_)
  · obtain ⟨d, _, rfl, _⟩ := h; rfl
  · obtain ⟨d, hd, rfl, hz, hf, hdd, k⟩ := h
    have nd := sc_law_kin.nd
    have hotc : HotC (cxH CX0 P w K mg base N__law_kin "_law_kin" (defScope S__law_kin) f cdv A outer s H E p) := ⟨p, hot, List.mem_singleton.mpr rfl⟩
    refine ⟨_, (pss_cons (ps_set (i := 1) nd rfl (Or.inl rfl) (pe_lst (pa_cons (pe_callB (call_isX (ef.att d hd) (List.mem_singleton.mpr rfl) hz hf) rfl bf.isinstance bt_isinstance (pa_cons (pv 0) (pa_cons (pe_glob (v := .ref (cn "NoRules")) rfl (ef.mgc "NoRules" (by decide)) rfl) pa_nil))) (pa_cons (pe_callB (call_isX (ef.att d hd) (List.mem_singleton.mpr rfl) hz hf) rfl bf.isinstance bt_isinstance (pa_cons (pv 0) (pa_cons (pe_glob (v := .ref (cn "NoRow")) rfl (ef.mgc "NoRow" (by decide)) rfl) pa_nil))) (pa_cons (pe_callB (call_isX (ef.att d hd) (List.mem_singleton.mpr rfl) hz hf) rfl bf.isinstance bt_isinstance (pa_cons (pv 0) (pa_cons (pe_glob (v := .ref (cn "NoTold")) rfl (ef.mgc "NoTold" (by decide)) rfl) pa_nil))) (pa_cons (pe_callB (call_isX (ef.att d hd) (List.mem_singleton.mpr rfl) hz hf) rfl bf.isinstance bt_isinstance (pa_cons (pv 0) (pa_cons (pe_glob (v := .ref (cn "NoPart")) rfl (ef.mgc "NoPart" (by decide)) rfl) pa_nil))) pa_nil))))))
    (pss_cons (ps_set (i := 1) nd rfl (Or.inl rfl) (pe_op op_cat (pv 1) (pe_lst (pa_cons (pe_callB (call_isX (ef.att d hd) (List.mem_singleton.mpr rfl) hz hf) rfl bf.isinstance bt_isinstance (pa_cons (pv 0) (pa_cons (pe_glob (v := .ref (cn "NoNumber")) rfl (ef.mgc "NoNumber" (by decide)) rfl) pa_nil))) (pa_cons (pe_callB (call_isX (ef.att d hd) (List.mem_singleton.mpr rfl) hz hf) rfl bf.isinstance bt_isinstance (pa_cons (pv 0) (pa_cons (pe_glob (v := .ref (cn "NoPlace")) rfl (ef.mgc "NoPlace" (by decide)) rfl) pa_nil))) (pa_cons (pe_callB (call_isX (ef.att d hd) (List.mem_singleton.mpr rfl) hz hf) rfl bf.isinstance bt_isinstance (pa_cons (pv 0) (pa_cons (pe_glob (v := .ref (cn "Full")) rfl (ef.mgc "Full" (by decide)) rfl) pa_nil))) pa_nil))))))
    (pss_cons (ps_set (i := 1) nd rfl (Or.inl rfl) (pe_op op_cat (pv 1) (pe_lst (pa_cons (pe_callB (call_isX (ef.att d hd) (List.mem_singleton.mpr rfl) hz hf) rfl bf.isinstance bt_isinstance (pa_cons (pv 0) (pa_cons (pe_glob (v := .ref (cn "NoneLeft")) rfl (ef.mgc "NoneLeft" (by decide)) rfl) pa_nil))) (pa_cons (pe_callB (call_isX (ef.att d hd) (List.mem_singleton.mpr rfl) hz hf) rfl bf.isinstance bt_isinstance (pa_cons (pv 0) (pa_cons (pe_glob (v := .ref (cn "Breaks")) rfl (ef.mgc "Breaks" (by decide)) rfl) pa_nil))) (pa_cons (pe_callB (call_isX (ef.att d hd) (List.mem_singleton.mpr rfl) hz hf) rfl bf.isinstance bt_isinstance (pa_cons (pv 0) (pa_cons (pe_bltn (v := .ty "ValueError") rfl ef.ve bt_ve rfl) pa_nil))) pa_nil))))))
    (pss_cons (ps_set (i := 2) nd rfl (Or.inl rfl) (pe_lst (pa_cons pe_str (pa_cons pe_str (pa_cons pe_str (pa_cons pe_str (pa_cons pe_str (pa_cons pe_str (pa_cons pe_str (pa_cons pe_str (pa_cons pe_str (pa_cons pe_str pa_nil))))))))))))
    (pss_one (ps_ret (pe_join pe_str (pe_lcP (own := [("name", 3), ("good", 4)]) hotc nd (pi_zipP rfl bf.zip (pa_cons (pv 2) (pa_cons (pv 1) pa_nil))) (blkOk_by (own := [("name", 3), ("good", 4)]) (N := N__law_kin) (sc := defScope S__law_kin) (by decide +kernel)) (fun _ _ _ _ _ => (pg_tupPK (K := K) (n := 2) rfl (pgs_cons (pg_name (i := 3) nd rfl (Or.inl rfl) (Or.inr rfl)) (pgs_cons (pg_name (i := 4) nd rfl (Or.inl rfl) (Or.inr rfl)) pgs_nil)))) (fun _ _ _ _ _ => (pts_one (pt_val (pv 4)))) (fun _ _ _ _ _ => (pv 3)))))))))), ?_⟩
    have ddk : ∀ H' : Hp, Same H H' → ∀ dd, p.2.dict = some dd → ∃ o, H' dd = some o := fun H' sm dd e => let ⟨o, ho⟩ := hdd dd e; ⟨o, sm _ _ ho⟩
    refine ⟨_, rfl, _, .ref (cn "NoRules"), _, rfl, (fun u r => r), ef.kit d hd "NoRules" (by decide), ddk _ (Same.refl _), _, rfl, _, .ref (cn "NoRow"), _, rfl, (fun u r => r), ef.kit d hd "NoRow" (by decide), ddk _ (Same.refl _), _, rfl, _, .ref (cn "NoTold"), _, rfl, (fun u r => r), ef.kit d hd "NoTold" (by decide), ddk _ (Same.refl _), _, rfl, _, .ref (cn "NoPart"), _, rfl, (fun u r => r), ef.kit d hd "NoPart" (by decide), ddk _ (Same.refl _), sz (by show 4 ≤ 100000; decide), fun L1 hL1 => ?_⟩
    have s1 := Same.new (o := .lst [.bl (decide (d = "NoRules")), .bl (decide (d = "NoRow")), .bl (decide (d = "NoTold")), .bl (decide (d = "NoPart"))]) hL1
    refine ⟨_, rfl, _, rfl, _, .ref (cn "NoNumber"), _, rfl, (fun u r => r), ef.kit d hd "NoNumber" (by decide), ddk _ (s1), _, rfl, _, .ref (cn "NoPlace"), _, rfl, (fun u r => r), ef.kit d hd "NoPlace" (by decide), ddk _ (s1), _, rfl, _, .ref (cn "Full"), _, rfl, (fun u r => r), ef.kit d hd "Full" (by decide), ddk _ (s1), sz (by show 3 ≤ 100000; decide), fun L2 hL2 => ?_⟩
    have s2 := Same.new (o := .lst [.bl (decide (d = "NoNumber")), .bl (decide (d = "NoPlace")), .bl (decide (d = "Full"))]) hL2
    refine ⟨L1, L2, _, _, rfl, rfl, s2 _ _ upd_same, upd_same, sz (by show 4 + 3 ≤ 100000; decide), fun L3 hL3 => ?_⟩
    have s3 := Same.new (o := .lst ([.bl (decide (d = "NoRules")), .bl (decide (d = "NoRow")), .bl (decide (d = "NoTold")), .bl (decide (d = "NoPart"))] ++ [.bl (decide (d = "NoNumber")), .bl (decide (d = "NoPlace")), .bl (decide (d = "Full"))])) hL3
    have s13 := s1.trans (s2.trans s3)
    refine ⟨_, rfl, _, rfl, _, .ref (cn "NoneLeft"), _, rfl, (fun u r => r), ef.kit d hd "NoneLeft" (by decide), ddk _ (s13), _, rfl, _, .ref (cn "Breaks"), _, rfl, (fun u r => r), ef.kit d hd "Breaks" (by decide), ddk _ (s13), _, rfl, _, .type "ValueError", _, rfl, (fun u r => r), ef.kitV d hd, ddk _ (s13), sz (by show 3 ≤ 100000; decide), fun L4 hL4 => ?_⟩
    have s4 := Same.new (o := .lst [.bl (decide (d = "NoneLeft")), .bl (decide (d = "Breaks")), .bl true]) hL4
    refine ⟨L3, L4, _, _, rfl, rfl, s4 _ _ upd_same, upd_same, sz (by show 7 + 3 ≤ 100000; decide), fun L5 hL5 => ?_⟩
    have e5 : (([.bl (decide (d = "NoRules")), .bl (decide (d = "NoRow")), .bl (decide (d = "NoTold")), .bl (decide (d = "NoPart"))] ++ [.bl (decide (d = "NoNumber")), .bl (decide (d = "NoPlace")), .bl (decide (d = "Full"))]) ++ [.bl (decide (d = "NoneLeft")), .bl (decide (d = "Breaks")), .bl true] : List V) = (kinGood d).map V.bl := rfl
    rw [e5]
    have s5 := Same.new (o := .lst ((kinGood d).map V.bl)) hL5
    refine ⟨sz (by show 10 ≤ 100000; decide), fun L6 hL6 => ?_⟩
    have e6 : ([.str "NoRules", .str "NoRow", .str "NoTold", .str "NoPart", .str "NoNumber", .str "NoPlace", .str "Full", .str "NoneLeft", .str "Breaks", .str "+"] : List V) = kinNames.map V.str := rfl
    rw [e6]
    have s6 := Same.new (o := .lst (kinNames.map V.str)) hL6
    have sA := s13.trans (s4.trans (s5.trans s6))
    dsimp only [List.set_cons_succ, List.set_cons_zero]
    refine ⟨⟨_, rfl⟩, _, rfl, _, rfl, L6, L5, kinNames.map V.str, (kinGood d).map V.bl, rfl, SqL.of upd_same, SqL.of (s6 _ _ upd_same), fun M hM => lc_go (walk_zipP (n := 10) rfl rfl) (fun _ v (z : Str) => v = .str z) (kinTake d) hM rfl (fun z hz2 => Nat.lt_of_le_of_lt (kin_len d z hz2) (by decide)) (fun _ _ _ _ _ h => h) (fun _ _ _ _ _ _ h => h) (fun H' e => ⟨SqL.of (e _ _ upd_same), SqL.of (e _ _ (s6 _ _ upd_same))⟩) ?_ ?_⟩
    · rintro i x Hc Hc2 NT NF hi sm ⟨T, y1, y2, rfl, nT, rfl, e1, e2⟩ nt nf
      obtain ⟨n, hn, rfl⟩ : ∃ n, kinNames[i]? = some n ∧ y1 = .str n := by
        have e1 : (kinNames.map V.str)[i]? = some y1 := e1
        rw [List.getElem?_map] at e1
        obtain ⟨n, hn, e⟩ := Option.map_eq_some_iff.mp e1
        exact ⟨n, hn, e.symm⟩
      obtain ⟨g, hg, rfl⟩ : ∃ g, (kinGood d)[i]? = some g ∧ y2 = .bl g := by
        have e2 : ((kinGood d).map V.bl)[i]? = some y2 := e2
        rw [List.getElem?_map] at e2
        obtain ⟨n, hn, e⟩ := Option.map_eq_some_iff.mp e2
        exact ⟨n, hn, e.symm⟩
      have st := kin_step d hn hg
      have sT := Same.new (o := .tup [.str n, .bl g]) nT
      refine ⟨T, _, rfl, SqT.of upd_same, rfl, _, _, rfl, _, _, rfl, rfl, rfl, ?_⟩
      refine ⟨_, rfl, _, rfl, ?_⟩
      cases g with
      | true => exact iteT ⟨_, rfl, nt _ _ n sT rfl st⟩
      | false =>
        rw [if_neg Bool.false_ne_true, List.append_nil] at st
        exact iteF (nf _ sT st)
    · intro H8 ys sm hM8 pr
      rw [kin_all hd] at pr
      cases pr with
      | cons h1 t1 =>
        cases t1 with
        | cons h2 t2 =>
          cases t2
          subst h1 h2
          refine ⟨"", M, [d, "+"], rfl, rfl, .inl (SqL.of hM8), ?_, k _ (sA.trans sm)⟩
          unfold raised at hd
          simp only [List.mem_cons, List.not_mem_nil, or_false] at hd
          rcases hd with rfl | rfl | rfl | rfl <;> decide +kernel
end
end An
-- imports: K5 HandS.ExcCtx
/-! ### K6: try: body, except x as n: .., except y as n: .. -/
namespace An
open PySem PySem.Spec PyProof.Rows L2 L2N
/-- the ends of a suite whose name goes -/
def endsGone (i : Nat) (D : Ends) : Ends := { nx := fun σ' H' => D.nx (σ'.set i none) H', rt := D.rt, bk := fun σ' H' => D.bk (σ'.set i none) H', ct := fun σ' H' => D.ct (σ'.set i none) H' }
def wManyAs (K : PySem.W.Frag) (i : Nat) (Wout : WX) (D : Ends) : List (Value × (Addr → Value → Option Addr → L2.TS)) → WX
  | [] => Wout
  | (c, ts) :: r => fun cls d σ H => ∃ b, PySem.W.exmOne K cls c = some b ∧ (b = true → ∀ a, H a = none → ts a cls d (endsGone i D) (σ.set i (some (.ref a))) H) ∧ (b = false → wManyAs K i Wout D r cls d σ H)
inductive HdsAs (X : Cx) (n : Str) : List ExceptHandler → List (Value × (Addr → Value → Option Addr → L2.TS)) → Prop
  | nil : HdsAs X n [] []
  | cons {x : Str} {c : Value} {ts : Addr → Value → Option Addr → L2.TS} {b₀ : Stmt} {suite : List Stmt} {np pos' : Pos} {hds : List ExceptHandler} {l : List (Value × (Addr → Value → Option Addr → L2.TS))} (hc : Names X x c)
      (hsu : ∀ (a : Addr) (oe : Obj) (cls : Value) (d : Option Addr) (pn : List (Addr × Obj)), Zn cls d oe → (∃ vs, oe.data = .fields vs) → PSs (X.suite a ((a, oe) :: pn)) (b₀ :: suite) (ts a cls d)) (r : HdsAs X n hds l) :
      HdsAs X n (.ExceptHandler (some (.Name x np)) (some n) (b₀ :: suite) pos' :: hds) ((c, ts) :: l)
section
variable {X : Cx} {n : Str} {i : Nat} {body : List Stmt} {h₀ : ExceptHandler} {hds : List ExceptHandler} {l : List (Value × (Addr → Value → Option Addr → L2.TS))} {pos : Pos} {tb : WX → L2.TS} {Wout : WX}
theorem ps_try_manyAs (hs : X.stack = X.env :: X.outer) (hf : X.env.frame = some X.env.locals) (hN : X.N.Nodup) (hi : X.N[i]? = some n) (hln : X.env.kindOf n = some .local) (tk : L2N.Takes X Wout)
    (hb : ∀ (W : WX) (pn : List (Addr × Obj)) (xe : Value → Shared → Prop), L2N.Takes (X.tr pn xe) W → PassesOwn (model X.prog X.w) X.A X.env xe → PSs (X.tr pn xe) body (tb W))
    (hh : HdsAs X n (h₀ :: hds) l) : PS X (.Try body (h₀ :: hds) [] [] pos) (fun D σ H => tb (wManyAs X.K i Wout D l) D σ H) := by
  refine ⟨fun pins s σ H D I h => ?_⟩
  have ok := I.ok
  have hfr : X.A.frames = some (X.env :: X.outer) := by rw [ok.frames, hs]
  have hloc : Loc X.env.scope n := .inl hln
  refine wpAny_Try_except ?_
  refine wpAny_mono ((hb (wManyAs X.K i Wout D l) (X.pn ++ pins) (fun e s₁ => wpAny (model X.prog X.w) X.A (noteFrame e X.env) (fun _ s₂ => wpAny (model X.prog X.w) X.A (setFlight e none) (fun _ s₃ =>
    wpAny (model X.prog X.w) X.A (handleBy e X.env (h₀ :: hds)) (SP X pins D) X.xe s₃) X.xe s₂) X.xe s₁) (fun u s' xx => ?_) PassesOwn.looking).run [] s σ H D (I.toTry _) h) (fun f s1 hsp => ?_) (fun e s1 he => he)
  · obtain ⟨a, B, sI, pins', σ', H', cls, d, rfl, J', nb, up, sky, na, os, ag, w⟩ := xx
    have J : Inv X pins σ' H' sI := J'.ofTry ok
    have sky' : Sky B (X.env :: X.outer) a (Zn cls d) X.env.locals s'.heap := by rw [← hs]; exact sky
    show wpAny (model X.prog X.w) X.A (noteFrame (.ref a) X.env) _ _ _
    refine L2N.Sky.land Zn.steady hfr hf sky' fun h3 fl3 up3 => ?_
    have J3 : Inv X pins σ' H' { s' with heap := h3 } := J.landed nb fl3.1 (up.trans up3) os ag
    obtain ⟨oe3, vs3, he3, hz3, hd3⟩ := fl3.there
    have nfr : a ∉ frs (X.env :: X.outer) := fun hm => by
      obtain ⟨_, o', e', hnf⟩ := fl3.2.2.1.mem hm
      rw [he3] at e'; cases e'
      exact hnf _ hd3
    have nL : a ≠ X.env.locals := fun z => nfr (List.mem_filterMap.mpr ⟨X.env, List.mem_cons_self, by rw [hf, z]⟩)
    have nF : a ∉ X.fs := fun hm => by
      obtain ⟨e, he, q⟩ := List.mem_filterMap.mp hm
      exact nfr (List.mem_filterMap.mpr ⟨e, List.mem_cons_of_mem _ he, q⟩)
    have S3 := J3.suite he3 hd3 na nL nF
    have go : ∀ {hds' : List ExceptHandler} {l' : List (Value × (Addr → Value → Option Addr → L2.TS))}, HdsAs X n hds' l' → wManyAs X.K i Wout D l' cls d σ' H' →
        wpAny (model X.prog X.w) X.A (handleBy (.ref a) X.env hds') (SP X pins D) X.xe { s' with heap := h3 } := by
      intro hds' l' hk
      induction hk with
      | nil =>
        intro w
        refine wpAny_handleBy_nil ?_
        obtain ⟨k1, k2, k3, oe, vs, T, oT, ts', he, hz, hd, h1, hr⟩ := id fl3
        unfold PySem.passOn
        refine wpAny_bind (wpAny_field he hd h1 ?_)
        rw [if_neg (show ¬ ((Value.ref T == Value.none) = true) from by simp)]
        have fin : wpAny (model X.prog X.w) X.A (setFlight (.ref a) X.env.frame) (fun _ s4 => wpAny (model X.prog X.w) X.A (throw (.ref a) : Sem Flow) (SP X pins D) X.xe s4) X.xe { s' with heap := h3 } := by
          rw [hf]
          refine HandSPX.setFlight_upZ fl3 fun h4 hh4 up4 => wpAny_throw (tk _ _ ?_)
          exact ⟨a, B, sI, pins, σ', H', cls, d, rfl, J, nb, (up.trans up3).trans up4, .inr (.inr (by rw [hs]; exact hh4)), na, os, ag, w⟩
        first
          | exact wpAny_bind (wpAny_pure (wpAny_bind fin))
          | exact wpAny_bind fin
      | @cons x c ts b₀ suite np pos' hds2 l2 hc hsu r ih =>
        intro w
        obtain ⟨b, hb1, hyes, hno⟩ := w
        refine wpAny_handleBy_cons (codeAny_handlers_test ?_) (by intro q; cases q)
        have LT : PySem.W.Looks (model X.prog X.w) h3 (typeOf (.ref a)) cls := fun A Q E s k q => wpAny_typeOf_ref (k _ _ he3) (by rw [hz3.1]; exact q)
        have LM := PySem.W.exm_one (M := model X.prog X.w) (J3.kIn) LT hb1
        have test : ∀ {Q : Value → Shared → Prop} {E : Value → Shared → Prop}, Q c { s' with heap := h3 } → wpAny (model X.prog X.w) (X.A.mark (some (.ref a))) (eval (.Name x np) X.env) Q E { s' with heap := h3 } := fun {Q E} q => by
          obtain ⟨hg, hdbg, hm | ⟨hm, hv, hnn⟩⟩ := hc
          · exact ld_glob (X := X.suite a ((a, oe3) :: (X.pn ++ pins))) S3 hg hm q hdbg
          · exact ld_blt (X := X.suite a ((a, oe3) :: (X.pn ++ pins))) S3 hg hm hv q hnn hdbg
        refine test (LM.here ?_)
        cases b with
        | true =>
          refine codeAny_handlers_suite_as ?_
          refine HandSPX.lands_againZ fl3 fun h4 fl4 up4 => ?_
          have J4 : Inv X pins σ' H' { s' with heap := h4 } := J.landed nb fl4.1 ((up.trans up3).trans up4) os ag
          obtain ⟨oe4, vs4, he4, hz4, hd4⟩ := fl4.there
          have S4 := J4.suite he4 hd4 na nL nF
          refine store_ok (X := X.suite a ((a, oe4) :: (X.pn ++ pins))) (v := .ref a) S4 hN hi hloc rfl (fun s5 S5 => ?_) (.inr hln)
          refine wpAny_mono ((hsu a oe4 cls d (X.pn ++ pins) hz4 ⟨_, hd4⟩).run [] s5 _ H' _ S5 (hyes rfl a na)) (fun f s6 hsp => ?_) (fun _ _ z => False.elim z)
          have end_ : ∀ {σ6 : L2.St} {H6 : Hp} {Q : Shared → Prop}, Inv (X.suite a ((a, oe4) :: (X.pn ++ pins))) [] σ6 H6 s6 → (∀ s7, Inv X pins (σ6.set i none) H6 s7 → Q s7) →
              wpAny (model X.prog X.w) X.A (do bindName X.env n .none; unbindBehindTheSuite X.env n pos') (fun _ s7 => Q s7) X.xe s6 := fun {σ6 H6 Q} S6 hq => gone_ok (S6.unsuite ok) hN hi hln hq
          cases f with
          | next => obtain ⟨σ6, H6, S6, q6⟩ := hsp; exact end_ S6 fun s7 J7 => ⟨_, _, J7, q6⟩
          | brk => obtain ⟨σ6, H6, S6, q6⟩ := hsp; exact end_ S6 fun s7 J7 => ⟨_, _, J7, q6⟩
          | cont => obtain ⟨σ6, H6, S6, q6⟩ := hsp; exact end_ S6 fun s7 J7 => ⟨_, _, J7, q6⟩
          | ret u => obtain ⟨v6, σ6, H6, S6, r6, q6⟩ := hsp; exact end_ S6 fun s7 J7 => ⟨_, _, _, J7, r6, q6⟩
        | false =>
          show wpAny _ X.A (handleBy (.ref a) X.env hds2) _ _ _
          exact ih (hno rfl)
    exact go hh w
  · cases f with
    | next => obtain ⟨σ', H', J', q⟩ := hsp; exact wpAny_execs_nil ⟨σ', H', J'.ofTry ok, q⟩
    | brk => obtain ⟨σ', H', J', q⟩ := hsp; exact ⟨σ', H', J'.ofTry ok, q⟩
    | cont => obtain ⟨σ', H', J', q⟩ := hsp; exact ⟨σ', H', J'.ofTry ok, q⟩
    | ret u => obtain ⟨v, σ', H', J', r, q⟩ := hsp; exact ⟨v, σ', H', J'.ofTry ok, r, q⟩
end
end An
-- imports: K6 HandS.Lambda
/-! ### K7: a lambda called in a try, what it raises known to be raised where nothing is handled -/
namespace An
open PySem PySem.Spec PyProof.Rows L2 LamX
/-- the lambda's body, entered at s from the frames outer -/
def lamCxN (X : Cx) (A : Around) (outer : List Env) (s : Shared) (H : Hp) (E : XK) (scope : Scope) (f c' : Addr) : Cx :=
  { lamCx X A outer s H E scope f c' with xe := fun e s' => wpAny (model X.prog X.w) (A.deeper (lamEnv X scope s.heap.objs.size f c')) (leaving (lamEnv X scope s.heap.objs.size f c') e) (fun _ s'' => L2N.CX X.prog X.w outer H s E e s'') (fun e' s'' => L2N.CX X.prog X.w outer H s E e' s'') s' }
theorem inv_xe {X : Cx} {xe : Value → Shared → Prop} {pins : List (Addr × Obj)} {σ : L2.St} {H : Hp} {s : Shared} (I : Inv X pins σ H s) : Inv { X with xe := xe } pins σ H s :=
  ⟨⟨I.ok.mod, I.ok.kind, I.ok.glob, I.ok.blt, I.ok.above, I.ok.inj, I.ok.has, I.ok.cab, I.ok.hd, I.ok.frames, I.ok.stk, I.ok.exf, I.ok.bs, I.ok.bsz, I.ok.noex, I.ok.exfs, I.ok.funs, I.ok.frf⟩, I.os, I.bare, I.base, I.loc, I.cell, I.free, I.freeC, I.pin, I.hok, I.len⟩
section
variable {X : Cx} {pins : List (Addr × Obj)} {σ : L2.St} {H : Hp} {s : Shared}
/-- a(), in the def that got the lambda -/
theorem pe_actN {Ng : List Str} {qg : Str} {sg : Scope} {g f c' : Addr} {cdg pm ctv : Value} {params : Arguments} {body : Expr} {scope : Scope} {k i : Nat} {a : Str} {pn : List (Addr × Obj)} {xe : Value → Shared → Prop} {W : WX} {Eg : XK} {t : XK → TE} {p1 p2 : Pos}
    (I : Inv X pins σ H s) (L : LamS X.env.scope scope) (hf : s.heap.get? f = some (PySem.W.kla_obj "<lambda>" (X.env.qual ++ "<lambda>") params body scope (cloFrom X.env.cells scope.names []) pm c' ctv)) (hfn : H f = none) (hfr : f ∉ frs X.stack)
    (hbind : bindArgs (PySem.W.kla_fn "<lambda>" (X.env.qual ++ "<lambda>") params body scope (cloFrom X.env.cells scope.names []) pm (.ref c') ctv) ⟨[], []⟩ = pure [])
    (tk : L2N.Takes ((cxOf CX0 X.prog X.w X.K X.mg X.base Ng qg sg g cdg X.A X.stack s H Eg).tr pn xe) W) (hr : Room (k + 1) (X.A.deeper (envOfC qg sg s.heap.objs.size g cdg)))
    (hbody : ∀ (A : Around) (outer : List Env) (s : Shared) (H : Hp) (E : XK), Room k (A.deeper (lamEnv X scope s.heap.objs.size f c')) → PE (lamCxN X A outer s H E scope f c') body (t E))
    (hN : Ng[i]? = some a) (hv : Vis sg a) (hd : (a == ("__debug__" : Str)) = false := by decide) (hcd : (a == ("__classdict__" : Str)) = false := by decide) :
    PE ((cxOf CX0 X.prog X.w X.K X.mg X.base Ng qg sg g cdg X.A X.stack s H Eg).tr pn xe) (.Call (.Name a p1) [] [] p2)
      (fun σZ HZ Q => σZ[i]? = some (some (.ref f)) ∧ HZ c' = some (CodeO c' (X.env.qual ++ "<lambda>")) ∧ t (WE W σZ) σ HZ Q) := by
  refine ⟨fun pinsZ sZ σZ HZ Q IZ h => ?_⟩
  obtain ⟨hs, hc, ht⟩ := h
  refine wpAny_Call_Name_kw (thn ((pe_var (pos := p1) (i := i) hN hv hd hcd).run pinsZ sZ σZ HZ (fun v H1 => v = .ref f ∧ H1 = HZ) IZ ⟨.ref f, hs, rfl, rfl⟩) fun u s1 ⟨v, H1, I1, r1, ev, eH⟩ => ?_)
  subst ev
  rw [eH] at I1
  obtain rfl : u = Value.ref f := r1
  have of1 : s1.heap.get? f = some (PySem.W.kla_obj "<lambda>" (X.env.qual ++ "<lambda>") params body scope (cloFrom X.env.cells scope.names []) pm c' ctv) := I1.base.keep f _ hf hfn hfr (fun z => nomatch (show f ∈ ([] : List Addr) from z))
  refine PySem.W.callWith_F0 ⟨_, _, _, _, of1⟩ ?_
  have un : Un (frs X.stack) [] H HZ s.heap s1.heap := I1.base
  obtain ⟨⟨oc, vs, t, hoc, hdc, hvc⟩, _, _⟩ := I1.hok c' _ hc
  have rc : codeAny (model X.prog X.w) (X.A.deeper (envOfC qg sg s.heap.objs.size g cdg)) (.call (.ref f) ⟨[], []⟩) (CR (L2N.CX X.prog X.w) (envOfC qg sg s.heap.objs.size g cdg :: X.stack) X.prog X.w HZ s1 Q (WE W σZ)) s1 := by
    refine PySem.W.kla_callFunE hr.depth of1 rfl L.co L.gen rfl ⟨c', oc, vs, t, rfl, hoc, hdc, hvc⟩ ?_
    rw [hbind]
    refine wpAny_pure (wpAny_newFunctionEnv (fun y hy => (L.own y hy).2) (fun y hy => absurd hy (by simp)) (fun h₁ hns hsb => ⟨I1.nolimit.fresh _ hsb, ?_⟩) L.kind)
    show codeAny _ _ (.expr body (lamEnv X scope s1.heap.objs.size f c')) _ _
    have kp : ∀ b o, s1.heap.get? b = some o → h₁.get? b = some o := fun b o e => hsb.extBut b o (Nat.ne_of_lt (Heap.lt_size e)) (Heap.get?_push_of_some _ e)
    have J : Inv (lamCxN X (X.A.deeper (envOfC qg sg s.heap.objs.size g cdg)) (envOfC qg sg s.heap.objs.size g cdg :: X.stack) s1 HZ (WE W σZ) scope f c') [] σ HZ { s1 with heap := h₁, toks := s1.toks + ([] : List (Str × Value)).length } :=
      inv_xe (lam_start2 I L I1.env0 hr.hd un hns kp)
    refine PySem.W.kla_codeExpr (wpAny_mono ((hbody _ _ s1 HZ (WE W σZ) (hr.deeper _)).run [] _ _ HZ Q J ht) (fun v s' hq => ?_) fun e s' hq => hq)
    obtain ⟨w', H', J', rv, q⟩ := hq
    exact ⟨w', H', J'.os, J'.bare, J'.base, J'.hok, rv, q⟩
  have hx := L2N.passAt tk σZ
  refine wpAny_call (codeAny_mono rc fun r s' hq => ?_)
  cases r with
  | error e => exact hx pinsZ HZ s1 e s' I1 hq
  | ok fl =>
    cases fl with
    | ret u => exact I1.after hq
    | next => exact False.elim hq
    | brk => exact False.elim hq
    | cont => exact False.elim hq
end
/-- the def that calls what it got -/
def GivesToN (X : Cx) (Ng : List Str) (x : Str) (sg : Scope) (g : Addr) (cdg : Value) (bg : List Stmt) (a : Str) (q : Str) (TT : (XK → Hp → VK → Prop) → Hp → VK → Prop) : Prop :=
  ∀ (f c' : Addr) (s : Shared) (H : Hp) (Q : VK) (tl : XK → Hp → VK → Prop), Room 6 (X.A.deeper (envOfC x sg s.heap.objs.size g cdg)) →
    (∀ (W : WX) (pn : List (Addr × Obj)) (xe : Value → Shared → Prop) (p1 p2 : Pos), L2N.Takes ((cxOf CX0 X.prog X.w X.K X.mg X.base Ng x sg g cdg X.A X.stack s H E0).tr pn xe) W →
      PE ((cxOf CX0 X.prog X.w X.K X.mg X.base Ng x sg g cdg X.A X.stack s H E0).tr pn xe) (.Call (.Name a p1) [] [] p2) (fun σZ HZ Q => σZ[0]? = some (some (.ref f)) ∧ HZ c' = some (CodeO c' q) ∧ tl (WE W σZ) HZ Q)) →
    H c' = some (CodeO c' q) → TT tl H Q →
    ∃ t, PSs (cxOf CX0 X.prog X.w X.K X.mg X.base Ng x sg g cdg X.A X.stack s H E0).nox bg t ∧ t { nx := fun _ H' => Q .non H', rt := Q } (L2.start Ng [.ref f]) H
theorem pe_lamcallN {X : Cx} {T : List (Addr × Str)} {TT : (XK → Hp → VK → Prop) → Hp → VK → Prop} {x a : Str} {g c P : Addr} {k : Nat} {pg : Arguments} {bg : List Stmt} {sg : Scope} {dV kV doc pm cdv ct oc : Value} {an od : Option Addr} {osl : Array (Option Value)} {Ng : List Str}
    {params : Arguments} {body : Expr} {scope : Scope} {t : XK → TE} {p lpos pos : Pos} (hg : Gl X x) (hm : X.mg x = some (.ref g)) (hk : PySem.W.keepIn X.K (.ref g) = true)
    (lk : X.K.lookup g = some ⟨oc, od, .func (PySem.W.fnOf x x pg bg sg dV kV doc pm an cdv ct), osl⟩) (hcg : PySem.W.codeIn X.K cdv x = true) (hb : L2.Binds X.K (PySem.W.fnOf x x pg bg sg dV kV doc pm an cdv ct) [a] []) (Sg : FnScope Ng [a] sg) (hNg : Ng[0]? = some a) (hva : Vis sg a)
    (hG : GivesToN X Ng x sg g cdv bg a (X.env.qual ++ "<lambda>") TT) (h6 : 6 ≤ k + 1)
    (TB : TabB X.base X.mg c P) (hcode : X.env.code = .ref c) (hmT : (P, X.env.qual ++ "<lambda>") ∈ T) (hu : ∀ p ∈ T, p.1 = P → p.2 = X.env.qual ++ "<lambda>") (hr : Room (k + 2) X.A) (L : LamS X.env.scope scope) (hdef : defaultsOf params X.env = ([], []))
    (hbind : ∀ (q : Str) (cl : List (Str × Addr)) (pm cv ctv : Value), bindArgs (PySem.W.kla_fn "<lambda>" q params body scope cl pm cv ctv) ⟨[], []⟩ = pure [])
    (hbody : ∀ (A : Around) (outer : List Env) (s : Shared) (H : Hp) (E : XK) (f c' : Addr), Room k (A.deeper (lamEnv X scope s.heap.objs.size f c')) → PE (lamCxN X A outer s H E scope f c') body (t E))
    (hdb : (x == ("__debug__" : Str)) = false := by decide) (hd : (a == ("__debug__" : Str)) = false := by decide) (hcd : (a == ("__classdict__" : Str)) = false := by decide) :
    PE X (.Call (.Name x p) [.Lambda params body scope lpos] [] pos) (tLam T TT t) := by
  refine ⟨fun pins s σ H Q I h => ?_⟩
  obtain ⟨hT, h⟩ := h
  refine wpAny_Call_Name_kw (ld_glob I hg hm ?_ hdb)
  refine PySem.W.callWith_K (h₀ := X.base) I.ok.mod.kin hk ?_ (by rfl) (by rfl)
  show wpAny _ _ (spliced ((false, eval (.Lambda params body scope lpos) X.env) :: backTo pos (starEach [] X.env))) _ _ s
  refine Calls.spliced_cons (lam_make2 I TB hcode hmT hu hT hdef (L.has I.ok) fun f c' pm' ctv H1 s' I1 eN T1 hf hfn hfr hco => ?_)
  refine Calls.spliced_nil ⟨I1.kIn, ?_⟩
  have rc : codeAny (model X.prog X.w) X.A (.call (.ref g) ⟨[.ref f], []⟩) (CR CX0 X.stack X.prog X.w H1 s' Q E0) s' := by
    refine run_ofS (N := Ng) (ps := [a]) (us := [.ref f]) (vs := [.ref f]) lk hcg Sg hr I1.env0 (hb s' [.ref f] I1.kIn rfl) (.cons rfl .nil) rfl fun hr' => ?_
    obtain ⟨t', ht', hq'⟩ := hG f c' s' H1 Q (fun E H' Q' => t E σ H' Q') (hr'.mono h6) (fun W pn xe p1 p2 tk => pe_actN (i := 0) I1 L hf hfn hfr (hbind _ _ _ _ _) tk hr' (fun A outer s H E hr2 => hbody A outer s H E f c' hr2) hNg hva hd hcd) hco (h H1 eN T1)
    exact ⟨t', ht'.nox, hq'⟩
  refine wpAny_call (codeAny_mono rc fun r s2 hq => ?_)
  cases r with
  | error e => exact (show False from hq).elim
  | ok fl =>
    cases fl with
    | ret u => exact I1.after hq
    | next => exact False.elim hq
    | brk => exact False.elim hq
    | cont => exact False.elim hq
end An
-- imports: K7 HandS.ExcInitHot
/-! ### K8: _law_try -/
namespace An
open PySem PySem.Spec PyProof.Rows L2 LamX L2H HotX
/-- more of the classes of refusals -/
structure ExG (K : PySem.W.Frag) (mg : Str → Option Value) (cn : Str → Addr) : Prop where
  f : ExF K mg cn
  exB : ∀ d ∈ raised, PySem.W.exmOne K (.ref (cn d)) (.ref (cn "Breaks")) = some (decide (d = "Breaks"))
  exS : ∀ d ∈ raised, PySem.W.exmOne K (.ref (cn d)) (.ref (cn "SpanError")) = some true
  se : mg "SpanError" = some (.ref (cn "SpanError"))
  xf : XfC K (cn "Breaks")
  norule : PySem.W.findIn K (.ref (cn "Breaks")) "rule" = some none
/-- what is told of a refusal -/
def Refused (cn : Str → Addr) (cls : Value) (d : Option Addr) (H' : Hp) (Q : VK) : Prop := ∃ nm, nm ∈ raised ∧ cls = .ref (cn nm) ∧
  ((nm = "Breaks" ∧ ∃ dd fs rv, d = some dd ∧ H' dd = some (.xd fs) ∧ fs.lookup ("rule" : Str) = some rv ∧ ∀ p H'', Same H' H'' → H'' p = some (.lst [.str (kinOf nm), rv]) → Q (.ref p) H'') ∨
   (nm ≠ "Breaks" ∧ d = none ∧ ∀ H'', Same H' H'' → Q (.str (kinOf nm)) H''))
def TTry (cn : Str → Addr) : (XK → Hp → VK → Prop) → Hp → VK → Prop := fun tl H Q =>
  tl (fun cls d H' => Refused cn cls d H' Q) H (fun v H' => ∀ p H'', Same H' H'' → H'' p = some (.tup [.str "told", v]) → Q (.ref p) H'')
theorem takesN0 {X : Cx} : L2N.Takes X (fun _ _ _ _ => False) := fun _ _ ⟨_, _, _, _, _, _, _, _, _, _, _, _, _, _, _, _, w⟩ => w.elim
def N__law_try : List Str := ["door", "found", "e"]
theorem sc_law_try : FnScope N__law_try ["door"] (defScope S__law_try) := ⟨rfl, rfl, rfl, by decide +kernel, rfl, by decide +kernel, by decide +kernel⟩
/-- what is asked of the lambda's reading: it goes on with more, or less, wished for -/
def MonoT (tl : XK → Hp → VK → Prop) : Prop := ∀ (E E' : XK) (H : Hp) (Q Q' : VK), (∀ c d H, E c d H → E' c d H) → (∀ v H, Q v H → Q' v H) → tl E H Q → tl E' H Q'
theorem pe_wk {X : Cx} {e : Expr} {t t' : TE} (h : PE X e t) (hi : ∀ σ H Q, t' σ H Q → t σ H Q) : PE X e t' := ⟨fun pins s σ H Q I q => h.run pins s σ H Q I (hi σ H Q q)⟩
def rKin (cn : Str → Addr) (a : Addr) (cls : Value) (d : Option Addr) : Hp → VK → Prop := fun H Q => ∃ nm, nm ∈ raised ∧ cls = .ref (cn nm) ∧ (∀ dd, d = some dd → ∃ o, H dd = some o) ∧ ∀ H', Same H H' → Q (.str (kinOf nm)) H'
def tKin (cn : Str → Addr) (a : Addr) (cls : Value) (d : Option Addr) : TE := fun σ H Q => σ[2]? = some (some (.ref a)) ∧ rKin cn a cls d H Q
theorem try_gives {X : Cx} {q : Str} {g : Addr} {cdg : Value} {cn : Str → Addr} (eg : ExG X.K X.mg cn) (CK : ClX X.prog X.w X.K X.mg X.base 1 "_law_kin" (spKin cn)) :
    GivesToN X N__law_try "_law_try" (defScope S__law_try) g cdg (defBody S__law_try) "door" q (fun tl H Q => MonoT tl ∧ TTry cn tl H Q) := by
  intro f c' s H Q tl hr act hc h
  obtain ⟨mono, h⟩ := h
  have nd := sc_law_try.nd
  obtain ⟨fk, fdk, psk, FK, mk, kk2, bk⟩ := CK.ex
  let Y : Cx := (cxOf CX0 X.prog X.w X.K X.mg X.base N__law_try "_law_try" (defScope S__law_try) g cdg X.A X.stack s H E0).nox
  refine ⟨_, pss_cons (ps_set (i := 1) nd rfl (Or.inl rfl) pe_non)
    (pss_cons (ps_try_manyAs (X := Y) (n := "e") (i := 2) (l := [(.ref (cn "Breaks"), _), (.ref (cn "SpanError"), _)]) rfl rfl nd rfl rfl takesN0
      (fun W pn xe tk _ => pss_one (ps_set (i := 1) nd rfl (Or.inl rfl) (pe_tup (pa_cons pe_str (pa_cons (act W pn xe _ _ tk) pa_nil)))))
      (HdsAs.cons (c := .ref (cn "Breaks")) ⟨rfl, by decide, .inl (eg.f.mgc "Breaks" (by decide))⟩ (fun a oe cls d pn hz hf => pss_one (ps_set (i := 1) nd rfl (Or.inl rfl) (pe_lst (pa_cons (pe_wk (t' := tKin cn a cls d) (pe_callX (X := Y.suite a ((a, oe) :: pn)) (x := "_law_kin") (p := (a, oe)) FK (roomH_mark (hr.mono (show 1 ≤ 6 by decide)) _) ⟨rfl, let ⟨vs, hv⟩ := hf; ⟨vs, hv, hz.2.2 vs hv⟩⟩ List.mem_cons_self rfl mk kk2 bk (pa_cons (pv (X := Y.suite a ((a, oe) :: pn)) 2) pa_nil)) (fun σ H Q h => let ⟨h1, nm, h2, h3, h4, h5⟩ := h; ⟨.ref a, h1, nm, h2, rfl, hz.1.trans h3, hf, fun dd e => h4 dd (hz.2.1.symm.trans e), h5⟩)) (pa_cons (pe_xf (X := Y.suite a ((a, oe) :: pn)) eg.xf eg.norule hz.zc hf (pv (X := Y.suite a ((a, oe) :: pn)) 2)) pa_nil)))))
      (HdsAs.cons (c := .ref (cn "SpanError")) ⟨rfl, by decide, .inl eg.se⟩ (fun a oe cls d pn hz hf => pss_one (ps_set (i := 1) nd rfl (Or.inl rfl) (pe_wk (t' := tKin cn a cls d) (pe_callX (X := Y.suite a ((a, oe) :: pn)) (x := "_law_kin") (p := (a, oe)) FK (roomH_mark (hr.mono (show 1 ≤ 6 by decide)) _) ⟨rfl, let ⟨vs, hv⟩ := hf; ⟨vs, hv, hz.2.2 vs hv⟩⟩ List.mem_cons_self rfl mk kk2 bk (pa_cons (pv (X := Y.suite a ((a, oe) :: pn)) 2) pa_nil)) (fun σ H Q h => let ⟨h1, nm, h2, h3, h4, h5⟩ := h; ⟨.ref a, h1, nm, h2, rfl, hz.1.trans h3, hf, fun dd e => h4 dd (hz.2.1.symm.trans e), h5⟩)))) .nil)))
    (pss_one (ps_ret (pv 1)))), ?_⟩
  show _ ∧ _ ∧ tl _ H _
  refine ⟨rfl, hc, mono _ _ H _ _ (fun cls d H' hq => ?_) (fun v H' hq => ?_) h⟩
  · obtain ⟨nm, hnm, rfl, hh⟩ := hq
    show wManyAs _ _ _ _ _ _ _ _ _
    refine ⟨_, eg.exB nm hnm, fun hb a ha => ?_, fun hb => ⟨_, eg.exS nm hnm, fun _ a ha => ?_, fun z => nomatch z⟩⟩
    · rcases hh with ⟨e, dd, fs, rv, ed, ef, el, k⟩ | ⟨ne, _⟩
      · subst e
        refine ⟨rfl, "Breaks", hnm, rfl, fun dd' e' => ⟨_, by rw [ed] at e'; cases e'; exact ef⟩, fun H2 sm => ⟨_, rfl, rfl, rfl, dd, fs, rv, ed, sm _ _ ef, el, sz (by show 2 ≤ 100000; decide), fun p hp => ?_⟩⟩
        exact ⟨_, rfl, k p _ (sm.trans (Same.new hp)) upd_same⟩
      · exact absurd (of_decide_eq_true hb) ne
    · rcases hh with ⟨e, _⟩ | ⟨ne, ed, k⟩
      · exact absurd e (of_decide_eq_false hb)
      · exact ⟨rfl, nm, hnm, rfl, (fun dd' e' => absurd (ed.symm.trans e') (by simp)), fun H2 sm => ⟨_, rfl, k H2 sm⟩⟩
  · exact ⟨sz (by show 2 ≤ 100000; decide), fun p hp => ⟨_, rfl, hq p _ (Same.new hp) upd_same⟩⟩
end An
-- imports: K8 HandS.OwnEq HandS.ExcInitHot
/-! ### L1: len, ==, != by the text's own __len__ and __eq__; raising an own exception with an own __init__ where nothing is handled -/
namespace PySem
namespace OwnNe
open PySem.W PySem.Calls PyProof.Rows
section
variable {prog : Program} {w : World} {A : Around} {E : Value → Shared → Prop} {s : Shared} {K : Frag} {x C L f : Addr} {h₀ : Heap} {m : Str → Option Value} {ox : Obj} {od : Option Obj} {b tb : Value}
theorem ifBound_ne {Q : Option Value → Shared → Prop} (X : K.In s.heap) (I : InstAt s.heap x ox C od) (hs : findIn K (.ref C) "__ne__" = some (some (.builtin "object.__ne__"))) (hob : mroIn K C (.type "object") = some true)
    (hq : findIn K (.ref C) "__eq__" = some (some (.ref f))) (hf : isFn K (.ref f) = true) (hu : A.units + 1 < cLine)
    (h : wpAny (model prog w) A.in1 (call (.ref f) [.ref x, b]) (fun v s' => ∃ z, v = .bool z ∧ Q (some (.bool (!z))) s') E s) : wpAny (model prog w) A (callSpecialIfBound? (.ref x) "__ne__" [b]) Q E s := by
  have S := PySem.F.cmp_object.ne
  have go : wpAny (model prog w) A (call (.builtin "object.__ne__") (.ref x :: [b])) (fun v => Q (some v)) E s := by
    have sub : Looks (model prog w) s.heap (isInstance (.ref x) (.type "object")) true := I.type.andThen (looks_mroIn X hob)
    refine wpAny_call (codeAny_call_builtin S.plain PySem.F.cmpEntry_ne (@check_slot (model prog w) _ _ s "object.__ne__" "object" "__ne__" (.ref x) [b] [] _ PySem.F.cmpKind_ne PySem.F.cmpSplit_ne sub (PySem.F.cmpArgs_ne _ _) ?_))
    unfold Builtin.«object.__ne__»
    repeat (first
      | with_reducible refine wpAny_cRoomFor hu ?_
      | (refine wpAny_bind (m := callSpecialIfBound? (.ref x) (Str.ofString "__eq__") [b])
          (ifBound_K X I hq hf (wpAny_mono h (fun r s' hr => by
            obtain ⟨z, rfl, hq⟩ := hr
            repeat (first | exact hq | exact wpAny_pure hq | exact wpAny_truthy_bool hq | (refine wpAny_bind (m := truthy (.bool _)) (wpAny_truthy_bool ?_)) | wp_step)) fun _ _ e => e)))
      | wp_step)
  simp only [callSpecialIfBound?, bindSpecialIfBound?]
  refine wpAny_holding (wpAny_bind (wpAny_bind (wpAny_bind (I.type.here ((looks_findIn X hs).here ?_)))))
  simp only [S.bind]
  refine wpAny_bind (wpAny_askSetting (wpAny_ite ?_))
  have fin : wpAny (model prog w) A (call (.builtin "object.__ne__") ([.ref x] ++ [b]) >>= fun v => pure (some v)) Q E s := wpAny_bind (wpAny_mono go (fun v s' h' => wpAny_pure h') fun _ _ h' => h')
  split
  · exact wpAny_bind (wpAny_pure (wpAny_pure fin))
  · exact wpAny_tryCatch (wpAny_bind (wpAny_pure (wpAny_pure fin)))
theorem ne_K {Q : Value → Shared → Prop} (hu : A.units + 1 < cLine) (X : K.In s.heap) (I : InstAt s.heap x ox C od) (hb : Looks (model prog w) s.heap (typeOf b) tb) (hn : notFirst K C tb = true)
    (hs : findIn K (.ref C) "__ne__" = some (some (.builtin "object.__ne__"))) (hob : mroIn K C (.type "object") = some true) (hq : findIn K (.ref C) "__eq__" = some (some (.ref f))) (hf : isFn K (.ref f) = true)
    (h : wpAny (model prog w) A.in1 (call (.ref f) [.ref x, b]) (fun v s' => ∃ z, v = .bool z ∧ Q (.bool (!z)) s') E s) : wpAny (model prog w) A (richCompare .NotEq (.ref x) b) Q E s := by
  have one : wpAny (model prog w) A (tryCompare (.ref x) (cmpInfo .NotEq).2.1 b) (fun r s' => ∃ v, r = some v ∧ Q v s') E s := by
    unfold tryCompare
    refine wpAny_bind (ifBound_ne X I hs hob hq hf hu (wpAny_mono h (fun v s' hv => ?_) fun _ _ e => e))
    obtain ⟨z, rfl, q⟩ := hv
    exact ⟨z, rfl, wpAny_pure ⟨_, rfl, q⟩⟩
  unfold richCompare
  simp only [oneThing_ref]
  refine wpAny_holding (wpAny_bind (wpAny_cRoomFor (Nat.lt_of_succ_lt hu) ?_))
  refine wpAny_bind (I.type.here (wpAny_bind (hb.here ?_)))
  split
  · rename_i q
    have e : subIn K tb (.ref C) = some false := by
      rcases Bool.or_eq_true_iff.mp hn with e | e
      · rw [beq_iff_eq.mp e] at q; simp at q
      · exact beq_iff_eq.mp e
    refine wpAny_bind ((looks_subIn X e).here ?_)
    simp only [Bool.false_eq_true, if_false]
    refine wpAny_bind (wpAny_mono one (fun r s' z => ?_) fun _ _ e => e)
    obtain ⟨v, rfl, hq⟩ := z
    exact wpAny_pure hq
  · refine wpAny_bind (wpAny_pure ?_)
    simp only [Bool.false_eq_true, if_false]
    refine wpAny_bind (wpAny_mono one (fun r s' z => ?_) fun _ _ e => e)
    obtain ⟨v, rfl, hq⟩ := z
    exact wpAny_pure hq
end
end OwnNe
end PySem
namespace An
open PySem PySem.Spec PyProof.Rows L2
section
variable {X : Cx} {n : Nat} {C f : Addr} {fd : FuncData} {ps : List Str} {sp : Sp}
/-- the own method f of x, called somewhere below -/
theorem own_run {A : Around} {pins : List (Addr × Obj)} {s : Shared} {σ : L2.St} {H : Hp} {us : List Value} {vs : List V} {Q : VK} {Q' : Value → Shared → Prop} (F : FnOk X.prog X.w X.K X.mg X.base CX0 n f fd ps sp) (hb : Binds X.K fd ps []) (sb : Sub X n A) (I : Inv X pins σ H s) (r : Vals vs us) (hsp : sp vs H Q E0)
    (hQ : ∀ v u s' H', Inv X pins σ H' s' → RelV v u → Q v H' → Q' u s') : wpAny (model X.prog X.w) A (call (.ref f) us) Q' X.xe s := by
  have e0 : Env0 X.prog X.w X.K X.mg X.base A X.stack s H := by
    have e := I.env0
    exact ⟨by rw [sb.fr]; exact e.frames, e.mod, e.bs, e.bsz, e.funs, e.frf, e.hok, e.bare⟩
  have hl := F.len _ _ _ _ hsp
  have hl' : us.length = ps.length := by rw [← r.length]; exact hl
  refine wpAny_call (codeAny_mono (F.run A X.stack s H ⟨us, []⟩ us vs Q E0 sb.room e0 (by
    have := hb s us I.kIn (by rw [List.append_nil]; exact hl')
    rw [List.append_nil] at this
    exact this) r hsp) fun r s' hq => ?_)
  cases r with
  | error e => exact (show False from hq).elim
  | ok fl =>
    cases fl with
    | ret u =>
      obtain ⟨v, H', I', rv, q⟩ := I.after hq
      exact hQ v u s' H' I' rv q
    | next => exact False.elim hq
    | brk => exact False.elim hq
    | cont => exact False.elim hq
/-- len(o) -/
theorem call_lenO (F : FnOk X.prog X.w X.K X.mg X.base CX0 n f fd ps sp) (hs : PySem.W.findIn X.K (.ref C) "__len__" = some (some (.ref f))) (hf : PySem.W.isFn X.K (.ref f) = true) (hb : Binds X.K fd ps []) (hr : Room (n + 1) X.A) :
    CallR X (.builtin "len") (fun xs H Q => ∃ a dx fs, xs = [.ref a] ∧ H a = some (.ins C dx fs) ∧ sp [.ref a] H (fun v H' => ∃ i : Nat, v = .int i ∧ i ≤ 100000 ∧ Q (.int i) H') E0) := by
  intro pins s σ H xs us Q I r h
  obtain ⟨a, dx, fs, rfl, ha, h⟩ := h
  have hr1 := r
  cases r with
  | cons ru rn =>
    cases rn
    cases ru
    obtain ⟨mA, J, _⟩ := ins_get I.hok ha
    obtain ⟨od, J, _⟩ := J.look
    obtain ⟨m, hF⟩ := I.fr
    refine PySem.W.len_K hF I.ok.mod.kin J hs hf (own_run (A := X.A.in1) F hb (Sub.in1 ⟨hr, rfl⟩) I hr1 h fun v u s' H' I' rv q => ?_)
    obtain ⟨i, rfl, hi, q⟩ := q
    obtain ⟨t, rfl⟩ := (show ∃ t, u = Value.int i t from rv)
    exact ⟨⟨by omega, by omega⟩, .int i, H', I'.tok _, ⟨_, rfl⟩, q⟩
/-- the other side of an own comparison: of the same class, or a tuple -/
def OtherSide (K : PySem.W.Frag) (C : Addr) (H : Hp) (y : V) : Prop := ∃ b, y = .ref b ∧ ((∃ dy gs, H b = some (.ins C dy gs)) ∨ (∃ xs, SqT K H b xs) ∧ PySem.W.notFirst K C (.type "tuple") = true)
theorem other_type {pins : List (Addr × Obj)} {σ : L2.St} {H : Hp} {s : Shared} {y : V} {v : Value} (I : Inv X pins σ H s) (o : OtherSide X.K C H y) (ry : RelV y v) : ∃ tb, PySem.W.Looks (model X.prog X.w) s.heap (typeOf v) tb ∧ PySem.W.notFirst X.K C tb = true := by
  obtain ⟨b, rfl, o⟩ := o
  cases ry
  rcases o with ⟨dy, gs, hb⟩ | ⟨⟨xs, hq⟩, hn⟩
  · obtain ⟨mB, J', _⟩ := ins_get I.hok hb
    obtain ⟨od', J', _⟩ := J'.look
    exact ⟨_, J'.type, by simp [PySem.W.notFirst]⟩
  · obtain ⟨its, r, ⟨o, ho, hc, _⟩, _⟩ := I.tuple hq
    exact ⟨.type "tuple", fun A Q E s' k q => wpAny_typeOf_ref (k _ _ ho) (by rw [hc]; exact q), hn⟩
/-- x == y -/
theorem op_eqO (F : FnOk X.prog X.w X.K X.mg X.base CX0 n f fd ps sp) (hs : PySem.W.findIn X.K (.ref C) "__eq__" = some (some (.ref f))) (hf : PySem.W.isFn X.K (.ref f) = true) (hb : Binds X.K fd ps []) (hr : Room n X.A) :
    OpR X (compareOp .Eq) (fun x y H Q => ∃ a dx fs, x = .ref a ∧ H a = some (.ins C dx fs) ∧ OtherSide X.K C H y ∧ sp [.ref a, y] H (fun v H' => ∃ z, v = .bl z ∧ Q (.bl z) H') E0) := by
  intro pins s σ H x y v u Q I rx ry h
  obtain ⟨a, dx, fs, rfl, ha, ho, h⟩ := h
  cases rx
  obtain ⟨tb, L, hn⟩ := other_type I ho ry
  obtain ⟨mA, J, _⟩ := ins_get I.hok ha
  obtain ⟨od, J, _⟩ := J.look
  obtain ⟨m, hF⟩ := I.fr
  show wpAny (model X.prog X.w) X.A (richCompare .Eq (.ref a) u) (EP X pins σ Q) X.xe s
  refine PySem.W.cmp_K (op := .Eq) hr.units0 hF I.ok.mod.kin J L hn hs hf (own_run (A := X.A) F hb ⟨hr, rfl⟩ I (vs := [.ref a, y]) (us := [.ref a, u]) (.cons rfl (.cons ry .nil)) h fun w z s' H' I' rv q => ?_)
  obtain ⟨b, rfl, q⟩ := q
  cases rv
  exact ⟨.bl b, H', I', rfl, q⟩
/-- x != y -/
theorem op_neO (F : FnOk X.prog X.w X.K X.mg X.base CX0 n f fd ps sp) (hs : PySem.W.findIn X.K (.ref C) "__eq__" = some (some (.ref f))) (hne : PySem.W.findIn X.K (.ref C) "__ne__" = some (some (.builtin "object.__ne__"))) (hob : PySem.W.mroIn X.K C (.type "object") = some true)
    (hf : PySem.W.isFn X.K (.ref f) = true) (hb : Binds X.K fd ps []) (hr : Room (n + 1) X.A) :
    OpR X (compareOp .NotEq) (fun x y H Q => ∃ a dx fs, x = .ref a ∧ H a = some (.ins C dx fs) ∧ OtherSide X.K C H y ∧ sp [.ref a, y] H (fun v H' => ∃ z, v = .bl z ∧ Q (.bl (!z)) H') E0) := by
  intro pins s σ H x y v u Q I rx ry h
  obtain ⟨a, dx, fs, rfl, ha, ho, h⟩ := h
  cases rx
  obtain ⟨tb, L, hn⟩ := other_type I ho ry
  obtain ⟨mA, J, _⟩ := ins_get I.hok ha
  obtain ⟨od, J, _⟩ := J.look
  show wpAny (model X.prog X.w) X.A (richCompare .NotEq (.ref a) u) (EP X pins σ Q) X.xe s
  refine PySem.OwnNe.ne_K (by have := hr.un; omega) I.kIn J L hn hne hob hs hf (own_run (A := X.A.in1) F hb (Sub.in1 ⟨hr, rfl⟩) I (vs := [.ref a, y]) (us := [.ref a, u]) (.cons rfl (.cons ry .nil)) h fun w z s' H' I' rv q => ?_)
  obtain ⟨b, rfl, q⟩ := q
  cases rv
  exact ⟨b, rfl, .bl (!b), H', I', rfl, q⟩
end
end An
-- imports: D2 MF
/-! ### F1: is_row, tail_of, keeping, need_begun -/
namespace An
open PySem L2
section
variable {P : Program} {w : World} {K : PySem.W.Frag} {mg : Str → Option Value} {base : Heap}
def N_is_row : List Str := ["thing", "place"]
theorem sc_is_row : FnScope N_is_row ["thing"] (defScope S_is_row) := ⟨rfl, rfl, rfl, by decide +kernel, rfl, by decide +kernel, by decide +kernel⟩
def spIsRow : Sp := fun vs H Q _ => ∃ v u, vs = [v] ∧ TupI H v u ∧ (∀ x ∈ u, x = 0 ∨ x = 1) ∧ u.length ≤ 120 ∧ ∀ H', Same H H' → Q (.bl true) H'
theorem ok_is_row (D : Dn K mg "is_row" S_is_row) (bf : Bf mg) (c_MOST_PLACES : ∃ t, mg "MOST_PLACES" = some (.int 120 t)) (C_is_from : Cl P w K mg base 1 "is_from" spIsFrom) : Cl P w K mg base 2 "is_row" spIsRow := by
  refine D.ok sc_is_row (fun vs H Q E h => ?_) (fun _ _ _ _ _ _ us hl => match us, hl with | [_], _ => rfl) (fun f cdv A outer s H vs Q E hr h => ?_)
  · obtain ⟨v, u, rfl, _⟩ := h; rfl
  · obtain ⟨v, u, rfl, ⟨a, rfl, ha⟩, bits, len, k⟩ := h
    have nd := sc_is_row.nd
    have hr_is_from := hr
    refine ⟨_, (pss_one (ps_ret (pe_and (pe_callB call_isi rfl bf.isinstance bt_isinstance (pa_cons (pv 0) (pa_cons (pe_bltn (v := .ty "tuple") rfl bf.tuple bt_tuple rfl) pa_nil))) (pe_and (pe_cmpR op_le (pe_callB call_len_seq rfl bf.len bt_len (pa_cons (pv 0) pa_nil)) (pe_gint rfl c_MOST_PLACES) (nomark _)) (pe_one (pe_callB (cr_all rfl) rfl bf.all bt_all (pa_cons (pe_lc (own := [("place", 1)]) rfl nd (pi_tup (pv 0)) (blkOk_by (own := [("place", 1)]) (N := N_is_row) (sc := defScope S_is_row) (by decide +kernel)) (fun _ _ _ _ _ => (pg_name (i := 1) nd rfl (Or.inl rfl) (Or.inr rfl))) (fun _ _ _ _ _ => pts_nil) (fun _ _ _ _ _ => (pe_callC C_is_from hr_is_from rfl (pa_cons (pv 1) (pa_cons pe_int (pa_cons pe_int pa_nil)))))) pa_nil))))))), ?_⟩
    refine ⟨_, rfl, isi_of (.tup ha) (b := true) (by decide +kernel) ⟨_, rfl, iteT ?_⟩⟩
    refine ⟨_, rfl, a, _, rfl, .inr (SqT.of ha), _, _, rfl, rfl, _, rfl, ?_⟩
    rw [List.length_map, decide_eq_true (show ((u.length : Nat) : Int) ≤ 120 by omega)]
    refine iteT ?_
    refine ⟨_, rfl, a, rfl, ⟨_, SqT.of ha⟩, fun L hL => lc_it (walk_tup (xs := u.map V.int)) (fun i H' => Same H H' ∧ H L = none ∧ H' L = some (.lst (List.replicate i (V.bl true)))) ⟨Same.new hL, hL, upd_same⟩ (fun i H' _ h => SqT.of (h.1 _ _ ha)) ?_ ?_⟩
    · rintro i x H1 H' hi ⟨sm, n0, hD⟩ ⟨rfl, hx⟩
      obtain ⟨p, hp, rfl⟩ : ∃ p : Int, u[i]? = some p ∧ x = .int p := by
        rw [List.getElem?_map] at hx
        obtain ⟨p, hp, e⟩ := Option.map_eq_some_iff.mp hx
        exact ⟨p, hp, e.symm⟩
      have hp01 := bits p (List.mem_of_getElem? hp)
      rw [List.length_map] at hi
      refine ⟨rfl, tYes_ ?_⟩
      refine ⟨_, rfl, .int p, _, 0, 1, rfl, .int p, ?_⟩
      have e : isFrom (.int p) 0 1 = true := by rcases hp01 with rfl | rfl <;> rfl
      rw [e]
      refine ⟨_, hD, szl (by rw [List.length_replicate]; omega), fun b o e => ?_, n0, ?_⟩
      · rw [upd_ne (ne_of_none e n0)]; exact sm _ _ e
      · rw [upd_same, ← List.replicate_succ']
    · rintro H' ⟨sm, n0, hD⟩
      refine ⟨L, List.replicate (u.map V.int).length true, rfl, SqL.of (by rw [List.map_replicate]; exact hD), ?_⟩
      rw [show (List.replicate (u.map V.int).length true).all id = true by rw [List.all_replicate]; simp]
      exact k H' sm
def N_tail_of : List Str := ["wide", "row"]
theorem sc_tail_of : FnScope N_tail_of ["wide", "row"] (defScope S_tail_of) := ⟨rfl, rfl, rfl, by decide +kernel, rfl, by decide +kernel, by decide +kernel⟩
def spTail : Sp := fun vs H Q _ => ∃ v wide u, vs = [.int wide, v] ∧ TupI H v u ∧ u.length ≤ 1000 ∧ 1 ≤ wide ∧ wide ≤ 8 ∧ ∀ v H', Same H H' → TupI H' v (tl wide u) → Q v H'
theorem ok_tail_of (D : Dn K mg "tail_of" S_tail_of) (bf : Bf mg) : Cl P w K mg base 1 "tail_of" spTail := by
  refine D.ok sc_tail_of (fun vs H Q E h => ?_) (fun _ _ _ _ _ _ us hl => match us, hl with | [_, _], _ => rfl) (fun f cdv A outer s H vs Q E hr h => ?_)
  · obtain ⟨v, wide, u, rfl, _⟩ := h; rfl
  · obtain ⟨v, wide, u, rfl, ⟨a, rfl, ha⟩, len, h1, h8, k⟩ := h
    have nd := sc_tail_of.nd
    refine ⟨_, (pss_one (ps_ret (pe_slice sl_tupA (pv 1) (po_some (pe_callB (call_max2 rfl) rfl bf.max bt_max (pa_cons pe_int (pa_cons (pe_op op_add (pe_op op_sub (pe_callB call_len_seq rfl bf.len bt_len (pa_cons (pv 1) pa_nil)) (pv 0)) pe_int) pa_nil)))) po_none))), ?_⟩
    refine ⟨_, rfl, _, rfl, a, _, rfl, .inr (SqT.of ha), _, rfl, _, _, rfl, rfl, _, _, rfl, rfl, _, _, rfl, _, rfl, ?_⟩
    refine sl_fromN (k := u.length + 1 - wide.toNat) ?e ha fun q H2 sm hq => ?_
    case e =>
      rw [List.length_map]
      split <;> omega
    rw [← List.map_drop] at hq
    exact k _ _ sm ⟨q, rfl, hq⟩
def N_keeping : List Str := ["rules", "row", "at", "place"]
theorem sc_keeping : FnScope N_keeping ["rules", "row"] (defScope S_keeping) := ⟨rfl, rfl, rfl, by decide +kernel, rfl, by decide +kernel, by decide +kernel⟩
def spKeeping : Sp := fun vs H Q _ => ∃ rv tv rs u, vs = [rv, tv] ∧ RulesAt H rv rs ∧ RulesOk rs ∧ TupI H tv u ∧ Fine rs u ∧ u.length ≤ 1000 ∧ ∀ H', Same H H' → Q (.bl true) H'
def PvKeep (rv tv : V) (H : Hp) (σ : L2.St) (H' : Hp) : Prop := ∃ x2 x3, σ = [some rv, some tv, x2, x3] ∧ Same H H'
theorem ok_keeping (D : Dn K mg "keeping" S_keeping) (bf : Bf mg) (C_broken_by : Cl P w K mg base 1 "broken_by" spBroken) (C_widest : Cl P w K mg base 1 "widest" spWidest) : Cl P w K mg base 2 "keeping" spKeeping := by
  refine D.ok sc_keeping (fun vs H Q E h => ?_) (fun _ _ _ _ _ _ us hl => match us, hl with | [_, _], _ => rfl) (fun f cdv A outer s H vs Q E hr h => ?_)
  · obtain ⟨rv, tv, rs, u, rfl, _⟩ := h; rfl
  · obtain ⟨rv, tv, rs, u, rfl, hR, ok, ⟨a, rfl, ha⟩, fine, len, k⟩ := h
    have nd := sc_keeping.nd
    have hr_broken_by := hr
    have hr_widest := hr
    have wide := ok.wide
    refine ⟨_, (pss_cons (ps_for PassesOwn.never rfl (pi_enumT rfl bf.enumerate (pa_cons (pv 1) pa_nil)) (pg_tup rfl (pgs_cons (pg_name (i := 2) nd rfl (Or.inl rfl)) (pgs_cons (pg_name (i := 3) nd rfl (Or.inl rfl)) pgs_nil)))
    (pss_one (ps_if (pt_cmpR op_notN (pe_callC C_broken_by hr_broken_by rfl (pa_cons (pv 0) (pa_cons (pe_slice sl_tupA (pv 1) (po_some (pe_callB (call_max2 rfl) rfl bf.max bt_max (pa_cons pe_int (pa_cons (pe_op op_add (pe_op op_sub (pv 2) (pe_callC C_widest hr_widest rfl (pa_cons (pv 0) pa_nil))) pe_int) pa_nil)))) (po_some (pv 2))) (pa_cons (pv 3) pa_nil)))) pe_non (nomark _))
    (pss_one (ps_ret pe_bl))
    pss_nil)))
    (pss_one (ps_ret pe_bl))), ?_⟩
    refine ⟨_, rfl, a, _, rfl, SqT.of ha, for_it walk_enumT (fun _ => PvKeep rv (.ref a) H) ⟨none, none, rfl, Same.refl H⟩ (fun i σ H' _ ⟨_, _, _, sm⟩ => SqT.of (sm _ _ ha)) ?_ ?_⟩
    · rintro i x σ H1 H2 hi ⟨x2, x3, rfl, sm⟩ ⟨T, y1, y2, rfl, nT, rfl, e1, e2⟩
      cases e1
      obtain ⟨p, hp, rfl⟩ : ∃ p : Int, u[i]? = some p ∧ y2 = .int p := by
        have e2 : (u.map V.int)[i]? = some y2 := e2
        rw [List.getElem?_map] at e2
        obtain ⟨p, hp, e⟩ := Option.map_eq_some_iff.mp e2
        exact ⟨p, hp, e.symm⟩
      have hil := (List.getElem?_eq_some_iff.mp hp).1
      have s1 : Same H1 (upd H1 T (.tup [.int (i : Nat), .int p])) := Same.new nT
      have s2 := sm.trans s1
      refine ⟨T, _, rfl, SqT.of upd_same, rfl, _, _, rfl, _, _, rfl, rfl, ?_⟩
      refine ⟨_, rfl, _, rfl, _, rfl, _, rfl, rv, rs, rfl, RulesAt.mono (TS.of s2) hR, ok, _, _, rfl, rfl, _, _, rfl, rfl, _, _, rfl, _, rfl, _, rfl, _, rfl, ?_⟩
      refine slt_mid (k := i + 1 - (wd rs).toNat) (j := i) ?e1 rfl (s2 _ _ ha) fun q H3 s3 hq => ?_
      case e1 => split <;> omega
      rw [← List.map_take, ← List.map_drop] at hq
      have hq : H3 q = some (.tup ((tl (wd rs) (u.take i)).map V.int)) := by
        unfold tl; rw [List.length_take, Nat.min_eq_left (Nat.le_of_lt hil)]; exact hq
      have s4 := s2.trans s3
      refine ⟨_, rfl, rv, .ref q, rs, _, p, rfl, RulesAt.mono (TS.of s4) hR, ok, ⟨q, rfl, hq⟩, fun v H4 s5 ov => ⟨rfl, _, rfl, ?_⟩⟩
      rw [OptRule.isN ov]
      have fr := fine.free ok hp
      have fr : (brokenBy rs (tl (wd rs) (u.take i)) p).isNone = true := fr
      rw [fr]
      exact iteF ⟨_, _, rfl, s4.trans s5⟩
    · rintro σ H1 ⟨x2, x3, rfl, sm⟩
      exact k _ sm
def N_need_begun : List Str := ["rules", "row"]
theorem sc_need_begun : FnScope N_need_begun ["rules", "row"] (defScope S_need_begun) := ⟨rfl, rfl, rfl, by decide +kernel, rfl, by decide +kernel, by decide +kernel⟩
def spBegun : Sp := fun vs H Q _ => ∃ rv tv rs u, vs = [rv, tv] ∧ RulesAt H rv rs ∧ RulesOk rs ∧ TupI H tv u ∧ Fine rs u ∧ u.length ≤ 120 ∧ ∀ H', Same H H' → Q .non H'
theorem ok_need_begun (D : Dn K mg "need_begun" S_need_begun) (C_need_rules : Cl P w K mg base 4 "need_rules" spNeedRules) (C_is_row : Cl P w K mg base 2 "is_row" spIsRow) (C_keeping : Cl P w K mg base 2 "keeping" spKeeping) : Cl P w K mg base 5 "need_begun" spBegun := by
  refine D.ok sc_need_begun (fun vs H Q E h => ?_) (fun _ _ _ _ _ _ us hl => match us, hl with | [_, _], _ => rfl) (fun f cdv A outer s H vs Q E hr h => ?_)
  · obtain ⟨rv, tv, rs, u, rfl, _⟩ := h; rfl
  · obtain ⟨rv, tv, rs, u, rfl, hR, ok, hT, fine, len, k⟩ := h
    have nd := sc_need_begun.nd
    have hr_need_rules := hr
    have hr_is_row := hr.mono (show 2 ≤ 4 by decide)
    have hr_keeping := hr.mono (show 2 ≤ 4 by decide)
    refine ⟨_, (pss_cons (ps_expr (pe_callC C_need_rules hr_need_rules rfl (pa_cons (pv 0) pa_nil)))
    (pss_one (ps_if (PW.pt (pw_or (pt_not (pt_val (pe_callC C_is_row hr_is_row rfl (pa_cons (pv 1) pa_nil)))) (pw_or1 (pt_not (pt_val (pe_callC C_keeping hr_keeping rfl (pa_cons (pv 0) (pa_cons (pv 1) pa_nil))))))))
    (pss_one ps_never)
    pss_nil))), ?_⟩
    refine ⟨_, rfl, rv, rs, rfl, hR, ok, fun H1 s1 => ?_⟩
    refine ⟨_, rfl, tv, u, rfl, TupI.mono (TS.of s1) hT, fine.bits, len, fun H2 s2 => ⟨_, rfl, iteF ?_⟩⟩
    have s3 := s1.trans s2
    exact ⟨_, rfl, _, rfl, rv, tv, rs, u, rfl, RulesAt.mono (TS.of s3) hR, ok, TupI.mono (TS.of s3) hT, fine, by omega, fun H3 s4 => ⟨_, rfl, iteF (k _ (s3.trans s4))⟩⟩
end
end An
-- imports: L1 F1 HandS.IsInst
/-! ### LA: the methods' texts, the words on Laid, Breaks with its rule -/
namespace An
open PySem PySem.Spec PyProof.Rows L2
def clsBody (s : Stmt) : List Stmt := match s with
  | .ClassDef _ _ _ b _ _ _ _ _ _ _ => b
  | _ => []
def methS (s : Stmt) (i : Nat) : Stmt := (clsBody s).getD i (.Pass ⟨0, 0, 0, 0⟩)
/-- def m of a class, the class's name being c -/
structure DnM (K : PySem.W.Frag) (f : Addr) (x qual : Str) (st : Stmt) : Prop where
  ex : ∃ fd, FunD K x qual (defArgs st) (defBody st) (defScope st) [] [] f fd
section
variable {P : Program} {w : World} {K : PySem.W.Frag} {mg : Str → Option Value} {base : Heap}
/-- what the def at f promises -/
structure ClF (CX : CXT) (P : Program) (w : World) (K : PySem.W.Frag) (mg : Str → Option Value) (base : Heap) (k : Nat) (f : Addr) (sp : Sp) : Prop where
  ex : ∃ fd ps, FnOk P w K mg base CX k f fd ps sp ∧ Binds K fd ps []
theorem DnM.ok {f : Addr} {x qual : Str} {st : Stmt} {N ps : List Str} {k : Nat} {sp : Sp} {CX : CXT} (D : DnM K f x qual st) (S : FnScope N ps (defScope st)) (len : ∀ vs H Q E, sp vs H Q E → vs.length = ps.length)
    (hb : ∀ (kV doc pm : Value) (an : Option Addr) (cdv ct : Value) (us : List Value), us.length = ps.length → bindArgs (PySem.W.fnOf x qual (defArgs st) (defBody st) (defScope st) .none kV doc pm an cdv ct) ⟨us, []⟩ = pure (ps.zip us))
    (hbody : ∀ (cdv : Value) (A : Around) (outer : List Env) (s : Shared) (H : Hp) (vs : List V) (Q : VK) (E : XK), Room k (A.deeper (envOfC qual (defScope st) s.heap.objs.size f cdv)) → sp vs H Q E →
      ∃ t, PSs (cxOf CX P w K mg base N qual (defScope st) f cdv A outer s H E) (defBody st) t ∧ t { nx := fun _ H' => Q .non H', rt := Q } (start N vs) H) : ClF CX P w K mg base (k + 1) f sp := by
  obtain ⟨fd, F⟩ := D.ex
  exact ⟨fd, ps, F.ok S len hbody, F.bindsN hb⟩
/-- what the class Laid must be -/
structure LaidC (K : PySem.W.Frag) (C : Addr) : Prop where
  cls : Cls K C
  na1 : NoAttr K C "rules"
  na2 : NoAttr K C "places"
/-- at a: a Laid of the rules rs with the places row -/
def LaidAt (C : Addr) (H : Hp) (a : Addr) (rs : List Rule) (row : Row) : Prop := ∃ dx rv pv, H a = some (.ins C dx [("rules", rv), ("places", pv)]) ∧ RulesAt H rv rs ∧ TupI H pv row
theorem LaidAt.mono {C : Addr} {H H' : Hp} {a : Addr} {rs : List Rule} {row : Row} (h : LaidAt C H a rs row) (sm : Same H H') : LaidAt C H' a rs row :=
  let ⟨dx, rv, pv, e, r, t⟩ := h; ⟨dx, rv, pv, sm _ _ e, RulesAt.mono (TS.of sm) r, TupI.mono (TS.of sm) t⟩
/-- all but what is written anew at a stays; lists and tuples stay -/
structure Wr (as : List Addr) (H H' : Hp) : Prop where
  lt : LTS H H'
  sm : SameX as H H'
theorem Wr.ts {as : List Addr} {H H' : Hp} (e : Wr as H H') : TS H H' := fun b xs h => e.lt b _ (.inr ⟨xs, rfl⟩) h
theorem Wr.of {as : List Addr} {H H' : Hp} (e : Same H H') : Wr as H H' := ⟨LTS.of e, SameX.of e⟩
theorem Wr.trans {as : List Addr} {H H1 H2 : Hp} (a : Wr as H H1) (b : Wr as H1 H2) : Wr as H H2 := ⟨a.lt.trans b.lt, a.sm.trans b.sm⟩
theorem LTS.ins {H : Hp} {a : Addr} {C dx : Addr} {fs : List (Str × V)} {o : HO} (h : H a = some (.ins C dx fs)) : LTS H (L2.upd H a o) := fun b u k e => by
  have nb : b ≠ a := fun z => by
    rw [z, h] at e
    rcases k with ⟨xs, k⟩ | ⟨xs, k⟩
    · rw [k] at e; cases e
    · rw [k] at e; cases e
  rw [upd_ne nb]; exact e
theorem Wr.ins {as : List Addr} {H : Hp} {a : Addr} {C dx : Addr} {fs : List (Str × V)} {o : HO} (h : H a = some (.ins C dx fs)) (m : a ∈ as) : Wr as H (L2.upd H a o) := ⟨LTS.ins h, SameX.updA m⟩
theorem LaidAt.far {C : Addr} {H H' : Hp} {a b : Addr} {rs : List Rule} {row : Row} (h : LaidAt C H b rs row) (n : b ≠ a) (wr : Wr [a] H H') : LaidAt C H' b rs row :=
  let ⟨dx, rv, pv, e, r, t⟩ := h; ⟨dx, rv, pv, wr.sm _ _ (by simpa using n) e, RulesAt.mono wr.ts r, TupI.mono wr.ts t⟩
end
section
variable {X : Cx} {x : Str} {e : Expr} {es : List Expr} {ta : TA} {p pos : Pos}
/-- C(e, ..), C's own __init__ keeping sp, where nothing is handled -/
theorem pmk_oexN {C fI : Addr} {k : Nat} {fd : FuncData} {ps : List Str} {sp : Sp} (T : OexC X.K C) (iC : PySem.W.findIn X.K (.ref C) "__init__" = some (some (.ref fI))) (tI : PySem.W.typeIn X.K (.ref fI) = some (.type "function"))
    (F1 : FnOk X.prog X.w X.K X.mg X.base CX0 k fI fd ps sp) (hr : Room (k + 1) X.A) (hb : Binds X.K fd ps []) (hg : Gl X x) (hm : X.mg x = some (.ref C)) (ha : PA X (e :: es) ta)
    (hdb : (x == ("__debug__" : Str)) = false := by decide) (he : starEach (e :: es) X.env = (false, eval e X.env) :: starEach es X.env := by rfl) (hpl : (backTo pos (starEach es X.env)).any (·.1) = false := by rfl) :
    L2N.PMk X (.Call (.Name x p) (e :: es) [] pos) (tMkO C sp [] ta) := by
  intro pins s σ H Q I h
  obtain ⟨nm, q, N, bs, bm, sn, sub, ab, col, dd, k0, k1, k2, k3, k5, hC, hbm⟩ := T.cls
  refine wpAny_Call_Name_kw (ld_glob I hg hm ?_ hdb)
  refine PySem.W.callWith_K (h₀ := X.base) I.ok.mod.kin T.kC (thn (ha.run pos pins s σ H _ I h) fun us s1 ⟨vs, H1, I1, r1, hz, q1⟩ => ⟨I1.kIn, ?_⟩) he hpl
  show wpAny _ _ (call (.ref C) us) _ _ _
  obtain ⟨hp, g, dr, tk, os⟩ := s1
  have hsz : hp.objs.size ≤ hp.objs.size + 1 := Nat.le_succ _
  have hn : H1 (hp.objs.size + 1) = none := I1.hok.fresh hsz
  have hq := q1 (hp.objs.size + 1) hn
  rw [List.append_nil] at hq
  have kk : ∀ b o, hp.get? b = some o → ((hp.push (PySem.W.kdv_tup us)).push (PySem.HandSPX.excO C hp.objs.size)).get? b = some o := fun b o e => Heap.get?_push_of_some _ (Heap.get?_push_of_some _ e)
  have hget : ((hp.push (PySem.W.kdv_tup us)).push (PySem.HandSPX.excO C hp.objs.size)).get? (hp.objs.size + 1) = some (PySem.HandSPX.excO C hp.objs.size) := by heap_get
  have I2 : Inv X pins σ (upd H1 (hp.objs.size + 1) (exo (hp.objs.size + 1) C none)) ⟨(hp.push (PySem.W.kdv_tup us)).push (PySem.HandSPX.excO C hp.objs.size), g, dr, tk, os⟩ :=
    I1.laid (t' := tk) (a := hp.objs.size + 1) (o := exo (hp.objs.size + 1) C none) (h' := (hp.push (PySem.W.kdv_tup us)).push (PySem.HandSPX.excO C hp.objs.size)) kk hsz (exo_ok hget)
  have r2 : Vals (V.ref (hp.objs.size + 1) :: vs) (Value.ref (hp.objs.size + 1) :: us) := .cons rfl r1
  have hl : (Value.ref (hp.objs.size + 1) :: us ++ []).length = ps.length := by
    have e := r2.length
    rw [F1.len _ _ _ _ hq] at e
    rw [List.append_nil]
    exact e.symm
  have hus : us.length ≤ sizeLine := by
    rw [← Paired.length r1, sizeLine_eq]
    omega
  have b2 := hb _ (Value.ref (hp.objs.size + 1) :: us) I2.kIn hl
  rw [List.append_nil] at b2
  refine wpAny_call (PySem.HandSPX.call_own F.excBase_ValueError (fun Y => PySem.HandSPX.refsVE_contains Y bm hbm) (I1.kIn _ _ hC) (PySem.W.looks_findIn I1.kIn iC) (fun self => PySem.W.bind_fn I1.kIn self tI) hus
    (codeAny_mono (F1.run _ X.stack _ _ ⟨Value.ref (hp.objs.size + 1) :: us, []⟩ (Value.ref (hp.objs.size + 1) :: us) _ _ (fun _ _ _ => False) (hr.make C us []) (I2.env0.make C us []) b2 r2 hq) fun r s' hq' => ?_))
  cases r with
  | error er => exact (show False from hq').elim
  | ok fl =>
    cases fl with
    | ret u =>
      obtain ⟨v, H2, os2, bare2, un2, hok2, rv, ev, d, fs, ea, ed, hd1, q2⟩ := hq'
      subst ev
      obtain ⟨h2, g2, d2, t2, os'⟩ := s'
      obtain ⟨t0, G, J, kG, ge, hoe, na⟩ := mk_end0 (d2 := d2) (t2 := t2) I1 hsz kk un2 hok2 os2 bare2 ea ed hd1
      refine ⟨rv, ⟨hp.objs.size + 1, _, _, ⟨G, g2, d2, t2, os'⟩, _, .ref C, some d, rfl, J, kG, ge, hoe, ⟨rfl, rfl, fun vs hv => ?_⟩, rfl, rfl, na, rfl, bare2, raises_own T.exC T.tyC, q2⟩⟩
      cases hv
      rfl
    | next => exact False.elim hq'
    | brk => exact False.elim hq'
    | cont => exact False.elim hq'
end
section
variable {P : Program} {w : World} {K : PySem.W.Frag} {mg : Str → Option Value} {base : Heap}
/-! #### Breaks.__init__ -/
abbrev S_BrInit : Stmt := methS S_Breaks 0
def N_BrInit : List Str := ["self", "rule"]
theorem sc_BrInit : FnScope N_BrInit ["self", "rule"] (defScope S_BrInit) := ⟨rfl, rfl, rfl, by decide +kernel, rfl, by decide +kernel, by decide +kernel⟩
def spBrInit (C : Addr) : Sp := fun vs H Q _ => ∃ a rv, vs = [.ref a, rv] ∧ H a = some (exo a C none) ∧ ∀ dx, H dx = none → dx ≠ a → Q .non (upd (upd H dx (exd dx [("rule", rv)])) a (exo a C (some dx)))
theorem ok_BrInit {f C : Addr} (D : DnM K f "__init__" "Breaks.__init__" S_BrInit) (T : OexC K C) (no : PySem.W.findIn K (.ref C) "rule" = some none) : ClF CX0 P w K mg base 1 f (spBrInit C) := by
  refine D.ok sc_BrInit (fun vs H Q E h => ?_) (fun _ _ _ _ _ _ us hl => match us, hl with | [_, _], _ => rfl) (fun cdv A outer s H vs Q E hr h => ?_)
  · obtain ⟨a, rv, rfl, _⟩ := h; rfl
  · obtain ⟨a, rv, rfl, ha, k⟩ := h
    have nd := sc_BrInit.nd
    refine ⟨_, pss_one (ps_ost (pv 0) (pv 1)), ?_⟩
    exact ⟨_, rfl, _, rfl, a, C, rfl, T, no, .inl ⟨ha, fun dx h1 h2 => k dx h1 h2⟩⟩
end
end An
-- imports: B3
/-! ### MD: rows as data -/
namespace An
open PySem L2
/-! #### rows as data -/
def rowD (r : Row) : PyData := .tuple (r.map PyData.int)
theorem ints_lay : ∀ r : Row, PyData.canLayAll0 (r.map PyData.int) = true
  | [] => by simp [PyData.canLayAll0]
  | x :: r => by
    have := ints_lay r
    simp only [List.map_cons, PyData.canLayAll0, PyData.canLay0, Bool.true_and]
    exact this
theorem ints_depth : ∀ r : Row, PyData.depthAll (r.map PyData.int) = 0
  | [] => by simp [PyData.depthAll]
  | x :: r => by
    have := ints_depth r
    simp only [List.map_cons, PyData.depthAll, PyData.depth, this]; rfl
theorem rowD_lay (r : Row) : PyData.canLay0 (rowD r) = true := by
  unfold rowD; simp only [PyData.canLay0]; exact ints_lay r
theorem rowD_depth (r : Row) : PyData.depth (rowD r) = 1 := by
  unfold rowD; simp only [PyData.depth, ints_depth]
theorem rowD_shaped (r : Row) : SeqAt.shaped (rowD r) = true := by
  show ((rowD r).canLay0 && decide ((rowD r).depth ≤ 64)) = true
  rw [rowD_lay, rowD_depth]; rfl
theorem rowsD_lay : ∀ F : List Row, PyData.canLayAll0 (F.map rowD) = true
  | [] => by simp [PyData.canLayAll0]
  | x :: r => by
    have := rowsD_lay r
    simp only [List.map_cons, PyData.canLayAll0, rowD_lay, Bool.true_and]
    exact this
theorem rowsD_depth : ∀ F : List Row, PyData.depthAll (F.map rowD) ≤ 1
  | [] => by simp [PyData.depthAll]
  | x :: r => by
    have := rowsD_depth r
    simp only [List.map_cons, PyData.depthAll, rowD_depth]
    omega
theorem rowsD_shaped (F : List Row) : SeqAt.shaped (.list (F.map rowD)) = true := by
  have h := rowsD_depth F
  have h2 : PyData.depth (.list (F.map rowD)) ≤ 64 := by
    simp only [PyData.depth]
    omega
  show (PyData.canLay0 (.list (F.map rowD)) && decide (PyData.depth (.list (F.map rowD)) ≤ 64)) = true
  rw [Bool.and_eq_true]
  exact ⟨by simp only [PyData.canLay0]; exact rowsD_lay F, decide_eq_true h2⟩
theorem rowsD_nil (F : List Row) : PyData.eqv (.list (F.map rowD)) (.list []) = decide (F = []) := by
  cases F with
  | nil => simp [PyData.eqv, PyData.eqvAll]
  | cons r F => simp [PyData.eqv, PyData.eqvAll]
theorem dp_ints {K : PySem.W.Frag} {H : Hp} : ∀ r : Row, DpAll K H (r.map V.int) (r.map PyData.int)
  | [] => .nil
  | x :: r => .cons (.int x) (dp_ints r)
theorem dp_row {K : PySem.W.Frag} {H : Hp} {v : V} {r : Row} (h : TupI H v r) : Dp K H v (rowD r) := by
  obtain ⟨a, rfl, ha⟩ := h
  exact .tup (SqT.of ha) (dp_ints r)
theorem dp_rows {K : PySem.W.Frag} {H : Hp} : ∀ {xs : List V} {F : List Row}, Paired (TupI H) xs F → DpAll K H xs (F.map rowD)
  | _, _, .nil => .nil
  | _, _, .cons h t => .cons (dp_row h) (dp_rows t)
end An
-- imports: F1 D5a
/-! ### F2g: most_on, goes_on (F2 without nexts) -/
namespace An
open PySem L2
theorem RanksOk.notIn {rs : List Rule} {t u : Row} {rk : Rk} (ok : RulesOk rs) (r : RanksOk rs t rk) (h0 : TailOk rs t) (h : Reach rs t u) : (!(valV (encR rk) (key u)).isSome) = infB rs u := by
  have tu := Reach.ok ok h0 h
  by_cases m : u ∈ ks rk
  · rw [encR_some m]
    have rk' := r.val _ (rkOf_mem m)
    cases e : infB rs u
    · rfl
    · exact (IsRk.not_inf rk' ((inf_iff ok tu).mp e)).elim
  · rw [encR_none m, (inf_iff ok tu).mpr (r.inf u h m)]; rfl
theorem ons_ways (rs : List Rule) (t : Row) : ((waysOn rs t).filter fun e => infB rs e.2).map (fun e => e.1) = onsOf rs t := by
  unfold waysOn onsOf
  rw [List.filter_map, List.map_map, List.filter_filter]
  show List.map (fun p => p) _ = _
  rw [List.map_id']
  congr 1
  funext p
  exact Bool.and_comm _ _
theorem eq_of_ints : ∀ {ys : List V} {ps : Row}, Paired (fun v (q : Int) => v = .int q) ys ps → ys = ps.map V.int
  | _, _, .nil => rfl
  | _, _, .cons h t => by rw [List.map_cons, h, eq_of_ints t]
section
variable {P : Program} {w : World} {K : PySem.W.Frag} {mg : Str → Option Value} {base : Heap}
def N_most_on : List Str := ["rules", "row", "tail"]
theorem sc_most_on : FnScope N_most_on ["rules", "row"] (defScope S_most_on) := ⟨rfl, rfl, rfl, by decide +kernel, rfl, by decide +kernel, by decide +kernel⟩
def spMost : Sp := fun vs H Q _ => ∃ rv tv rs u, vs = [rv, tv] ∧ RulesAt H rv rs ∧ RulesOk rs ∧ TupI H tv u ∧ TailOk rs (tl (wd rs) u) ∧ u.length ≤ 1000 ∧ ∀ v H', Same H H' → RankV rs (tl (wd rs) u) v → Q v H'
theorem ok_most_on (D : Dn K mg "most_on" S_most_on) (C_widest : Cl P w K mg base 1 "widest" spWidest) (C_tail_of : Cl P w K mg base 1 "tail_of" spTail) (C_ranks_from : Cl P w K mg base 3 "ranks_from" spRanks) : Cl P w K mg base 4 "most_on" spMost := by
  refine D.ok sc_most_on (fun vs H Q E h => ?_) (fun _ _ _ _ _ _ us hl => match us, hl with | [_, _], _ => rfl) (fun f cdv A outer s H vs Q E hr h => ?_)
  · obtain ⟨rv, tv, rs, u, rfl, _⟩ := h; rfl
  · obtain ⟨rv, tv, rs, u, rfl, hR, ok, hT, tok, len, k⟩ := h
    have nd := sc_most_on.nd
    have hu := hu_of hr
    have hr_widest := hr.mono (show 1 ≤ 3 by decide)
    have hr_tail_of := hr.mono (show 1 ≤ 3 by decide)
    have hr_ranks_from := hr
    have wide := ok.wide
    refine ⟨_, (pss_cons (ps_set (i := 2) nd rfl (Or.inl rfl) (pe_callC C_tail_of hr_tail_of rfl (pa_cons (pe_callC C_widest hr_widest rfl (pa_cons (pv 0) pa_nil)) (pa_cons (pv 1) pa_nil))))
    (pss_one (ps_ret (pe_dget2 hu (pe_callC C_ranks_from hr_ranks_from rfl (pa_cons (pv 0) (pa_cons (pv 2) pa_nil))) (pv 2) pe_non ⟨rfl, rfl, rfl, rfl⟩)))), ?_⟩
    refine ⟨_, rfl, rv, rs, rfl, hR, ok, _, rfl, tv, wd rs, u, rfl, hT, len, wide.1, wide.2, fun v1 H1 s1 h1 => ?_⟩
    refine ⟨_, rfl, _, rfl, rv, v1, rs, tl (wd rs) u, rfl, RulesAt.mono (TS.of s1) hR, ok, h1, tok, fun R H2 rk nR s2 hR2 rko => ?_⟩
    obtain ⟨b, rfl, hb⟩ := TupI.mono (TS.of s2) h1
    refine ⟨R, rfl, .inr ⟨_, .inl hR2⟩, _, rfl, ⟨_, DGet.t (k := key (tl (wd rs) u)) hR2 (by rw [key_map]; exact hb), ?_⟩⟩
    exact k _ _ (s1.trans s2) (rko.v .refl)
def N_goes_on : List Str := ["rules", "row"]
theorem sc_goes_on : FnScope N_goes_on ["rules", "row"] (defScope S_goes_on) := ⟨rfl, rfl, rfl, by decide +kernel, rfl, by decide +kernel, by decide +kernel⟩
def spGoes : Sp := fun vs H Q _ => ∃ rv tv rs u, vs = [rv, tv] ∧ RulesAt H rv rs ∧ RulesOk rs ∧ TupI H tv u ∧ Fine rs u ∧ u.length ≤ 120 ∧ ∀ v H', Same H H' → RankV rs (tl (wd rs) u) v → Q v H'
theorem ok_goes_on (D : Dn K mg "goes_on" S_goes_on) (C_need_begun : Cl P w K mg base 5 "need_begun" spBegun) (C_most_on : Cl P w K mg base 4 "most_on" spMost) : Cl P w K mg base 6 "goes_on" spGoes := by
  refine D.ok sc_goes_on (fun vs H Q E h => ?_) (fun _ _ _ _ _ _ us hl => match us, hl with | [_, _], _ => rfl) (fun f cdv A outer s H vs Q E hr h => ?_)
  · obtain ⟨rv, tv, rs, u, rfl, _⟩ := h; rfl
  · obtain ⟨rv, tv, rs, u, rfl, hR, ok, hT, fine, len, k⟩ := h
    have nd := sc_goes_on.nd
    have hr_need_begun := hr
    have hr_most_on := hr.mono (show 4 ≤ 5 by decide)
    refine ⟨_, (pss_cons (ps_expr (pe_callC C_need_begun hr_need_begun rfl (pa_cons (pv 0) (pa_cons (pv 1) pa_nil))))
    (pss_one (ps_ret (pe_callC C_most_on hr_most_on rfl (pa_cons (pv 0) (pa_cons (pv 1) pa_nil)))))), ?_⟩
    refine ⟨_, rfl, _, rfl, rv, tv, rs, u, rfl, hR, ok, hT, fine, len, fun H1 s1 => ?_⟩
    exact ⟨_, rfl, _, rfl, rv, tv, rs, u, rfl, RulesAt.mono (TS.of s1) hR, ok, TupI.mono (TS.of s1) hT, fine.tail ok, by omega, fun v H2 s2 rv' => k _ _ (s1.trans s2) rv'⟩
end
end An
-- imports: LA MD F2g
/-! ### LB0: rows and rules as data -/
namespace An
open PySem PySem.Spec PyProof.Rows L2
theorem eqvAll_map {α : Type} [DecidableEq α] (f : α → PyData) (h : ∀ x y, PyData.eqv (f x) (f y) = decide (x = y)) : ∀ l m : List α, PyData.eqvAll (l.map f) (m.map f) = decide (l = m)
  | [], [] => by simp [PyData.eqvAll]
  | [], b :: m => by simp [PyData.eqvAll]
  | a :: l, [] => by simp [PyData.eqvAll]
  | a :: l, b :: m => by
    rw [List.map_cons, List.map_cons]
    have e : PyData.eqvAll (f a :: l.map f) (f b :: m.map f) = (PyData.eqv (f a) (f b) && PyData.eqvAll (l.map f) (m.map f)) := by simp only [PyData.eqvAll]
    rw [e, h, eqvAll_map f h l m, Bool.eq_iff_iff]
    simp
theorem eqv_row (a b : Row) : PyData.eqv (rowD a) (rowD b) = decide (a = b) := by
  have e : PyData.eqv (rowD a) (rowD b) = PyData.eqvAll (a.map PyData.int) (b.map PyData.int) := by unfold rowD; simp only [PyData.eqv]
  rw [e, eqvAll_map]
  intro x y
  simp only [PyData.eqv]
  by_cases h : x = y
  · simp [h]
  · simp [h]
def rulesD (rs : List Rule) : PyData := .tuple (rs.map fun r => rowD (tri r))
theorem tri_inj {r r' : Rule} : tri r = tri r' ↔ r = r' := by
  obtain ⟨a, b, c⟩ := r
  obtain ⟨a', b', c'⟩ := r'
  simp [tri]
theorem eqv_rules (rs rs' : List Rule) : PyData.eqv (rulesD rs) (rulesD rs') = decide (rs = rs') := by
  have e : PyData.eqv (rulesD rs) (rulesD rs') = PyData.eqvAll (rs.map fun r => rowD (tri r)) (rs'.map fun r => rowD (tri r)) := by unfold rulesD; simp only [PyData.eqv]
  rw [e, eqvAll_map]
  intro x y
  rw [eqv_row, Bool.eq_iff_iff]
  simp [tri_inj]
def laidD (rs : List Rule) (row : Row) : PyData := .tuple [rulesD rs, rowD row]
theorem eqv_laid (rs rs' : List Rule) (u u' : Row) : PyData.eqv (laidD rs u) (laidD rs' u') = (decide (rs = rs') && decide (u = u')) := by
  unfold laidD
  have e : PyData.eqv (.tuple [rulesD rs, rowD u]) (.tuple [rulesD rs', rowD u']) = (PyData.eqv (rulesD rs) (rulesD rs') && (PyData.eqv (rowD u) (rowD u') && true)) := by simp only [PyData.eqv, PyData.eqvAll]
  rw [e, eqv_rules, eqv_row, Bool.and_true]
theorem dp_rules {K : PySem.W.Frag} {H : Hp} {v : V} {rs : List Rule} (h : RulesAt H v rs) : Dp K H v (rulesD rs) := by
  obtain ⟨a, vs, rfl, ha, pr⟩ := h
  refine .tup (SqT.of ha) ?_
  clear ha
  induction pr with
  | nil => exact .nil
  | cons r _ ih => exact .cons (dp_row r) ih
theorem rulesD_lay (rs : List Rule) : PyData.canLayAll0 (rs.map fun r => rowD (tri r)) = true := by
  induction rs with
  | nil => simp [PyData.canLayAll0]
  | cons r rs ih => simp [PyData.canLayAll0, ih, rowD_lay]
theorem rulesD_depth (rs : List Rule) : PyData.depthAll (rs.map fun r => rowD (tri r)) ≤ 2 := by
  induction rs with
  | nil => simp [PyData.depthAll]
  | cons r rs ih =>
    have := rowD_depth (tri r)
    simp only [List.map_cons, PyData.depthAll]; omega
theorem laidD_shaped (rs : List Rule) (u : Row) : SeqAt.shaped (laidD rs u) = true := by
  have h1 := rulesD_depth rs
  have h2 := rowD_depth u
  have d : (laidD rs u).depth ≤ 64 := by
    unfold laidD rulesD
    simp only [PyData.depth, PyData.depthAll]
    omega
  have l : (laidD rs u).canLay0 = true := by
    unfold laidD rulesD
    simp [PyData.canLay0, PyData.canLayAll0, rowD_lay, rulesD_lay]
  show ((laidD rs u).canLay0 && decide ((laidD rs u).depth ≤ 64)) = true
  rw [l, decide_eq_true d]; rfl
end An
-- imports: LB0
/-! ### LB: the methods of Laid that let nothing out -/
namespace An
open PySem PySem.Spec PyProof.Rows L2
section
variable {P : Program} {w : World} {K : PySem.W.Frag} {mg : Str → Option Value} {base : Heap}
theorem DnM.ok0 {f : Addr} {x qual : Str} {st : Stmt} {N ps : List Str} {k : Nat} {sp : Sp} (D : DnM K f x qual st) (S : FnScope N ps (defScope st)) (len : ∀ vs H Q E, sp vs H Q E → vs.length = ps.length)
    (hb : ∀ (kV doc pm : Value) (an : Option Addr) (cdv ct : Value) (us : List Value), us.length = ps.length → bindArgs (PySem.W.fnOf x qual (defArgs st) (defBody st) (defScope st) .none kV doc pm an cdv ct) ⟨us, []⟩ = pure (ps.zip us))
    (hbody : ∀ (cdv : Value) (A : Around) (outer : List Env) (s : Shared) (H : Hp) (vs : List V) (Q : VK) (E : XK), Room k (A.deeper (envOfC qual (defScope st) s.heap.objs.size f cdv)) → sp vs H Q E →
      ∃ t, PSs (cxOf CX0 P w K mg base N qual (defScope st) f cdv A outer s H E).nox (defBody st) t ∧ t { nx := fun _ H' => Q .non H', rt := Q } (start N vs) H) : ClF CX0 P w K mg base (k + 1) f sp :=
  D.ok S len hb fun cdv A outer s H vs Q E hr h => let ⟨t, h1, h2⟩ := hbody cdv A outer s H vs Q E hr h; ⟨t, h1.nox, h2⟩
/-- what the method m of the class at C promises -/
structure ClM (CX : CXT) (P : Program) (w : World) (K : PySem.W.Frag) (mg : Str → Option Value) (base : Heap) (C : Addr) (k : Nat) (m : Str) (sp : Sp) : Prop where
  ex : ∃ f, ClF CX P w K mg base k f sp ∧ Meth K C m f
end
section
variable {X : Cx} {CX : CXT} {C : Addr} {k : Nat} {m : Str} {sp : Sp} {E : XK} {o e : Expr} {es : List Expr} {ta : TE} {t : TA} {apos pos : Pos}
theorem pe_methC0 {pl : Sem Bool} (CM : ClM CX X.prog X.w X.K X.mg X.base C k m sp) (c : Cls X.K C) (hr : Room k X.A) (hx : Passes CX X E) (he : PE X o ta)
    (ht : eval (.Call (.Attribute o m apos) [] [] pos) X.env = (do
      let ov ← eval o X.env
      standAt apos.atName
      let (f, first) ← holding [ov] (getMethod ov m pl)
      callWith pos f first (backTo pos (starEach [] X.env)) (backToKw pos (keywordEach [] X.env))) := by rfl) :
    PE X (.Call (.Attribute o m apos) [] [] pos) (tMeth C m sp [] E ta tNil) := by
  obtain ⟨f, ⟨fd, ps, F, b⟩, M⟩ := CM.ex
  exact pe_meth0 he c M F hr b .nil hx ht
theorem pe_methC {pl : Sem Bool} (CM : ClM CX X.prog X.w X.K X.mg X.base C k m sp) (c : Cls X.K C) (hr : Room k X.A) (hx : Passes CX X E) (he : PE X o ta) (ha : PA X (e :: es) t)
    (hst : starEach (e :: es) X.env = (false, eval e X.env) :: starEach es X.env := by rfl) (hpl : (backTo pos (starEach es X.env)).any (·.1) = false := by rfl)
    (ht : eval (.Call (.Attribute o m apos) (e :: es) [] pos) X.env = (do
      let ov ← eval o X.env
      standAt apos.atName
      let (f, first) ← holding [ov] (getMethod ov m pl)
      callWith pos f first (backTo pos (starEach (e :: es) X.env)) (backToKw pos (keywordEach [] X.env))) := by rfl) :
    PE X (.Call (.Attribute o m apos) (e :: es) [] pos) (tMeth C m sp [] E ta t) := by
  obtain ⟨f, ⟨fd, ps, F, b⟩, M⟩ := CM.ex
  exact pe_meth he c M F hr b .nil hx ha hst hpl ht
end
theorem putF_1 {rv : V} : putF "rules" rv [] = [(("rules" : Str), rv)] := rfl
theorem putF_2 {rv pv : V} : putF "places" pv [(("rules" : Str), rv)] = [(("rules" : Str), rv), (("places" : Str), pv)] := by
  unfold putF; rw [if_neg (by decide)]; rfl
theorem putF_3 {rv pv qv : V} : putF "places" qv [(("rules" : Str), rv), (("places" : Str), pv)] = [(("rules" : Str), rv), (("places" : Str), qv)] := by
  unfold putF; rw [if_neg (by decide)]; unfold putF; rw [if_pos rfl]
section
variable {P : Program} {w : World} {K : PySem.W.Frag} {mg : Str → Option Value} {base : Heap} {C f : Addr}
/-! #### __init__ -/
abbrev S_LInit : Stmt := methS S_Laid 0
def N_LInit : List Str := ["self", "rules"]
theorem sc_LInit : FnScope N_LInit ["self", "rules"] (defScope S_LInit) := ⟨rfl, rfl, rfl, by decide +kernel, rfl, by decide +kernel, by decide +kernel⟩
def spLInit (C : Addr) : Sp := fun vs H Q _ => ∃ a dx rv rs, vs = [.ref a, rv] ∧ H a = some (.ins C dx []) ∧ RulesAt H rv rs ∧ RulesOk rs ∧ ∀ H', Wr [a] H H' → LaidAt C H' a rs [] → Q .non H'
theorem ok_LInit (D : DnM K f "__init__" "Laid.__init__" S_LInit) (L : LaidC K C) (C_need_rules : Cl P w K mg base 4 "need_rules" spNeedRules) : ClF CX0 P w K mg base 5 f (spLInit C) := by
  refine D.ok0 sc_LInit (fun vs H Q E h => ?_) (fun _ _ _ _ _ _ us hl => match us, hl with | [_, _], _ => rfl) (fun cdv A outer s H vs Q E hr h => ?_)
  · obtain ⟨a, dx, rv, rs, rfl, _⟩ := h; rfl
  · obtain ⟨a, dx, rv, rs, rfl, ha, hR, ok, k⟩ := h
    have nd := sc_LInit.nd
    refine ⟨_, (pss_cons (ps_expr (pe_callC C_need_rules hr rfl (pa_cons (pv 1) pa_nil))) (pss_cons (ps_fld (pv 0) (pv 1) rfl) (pss_one (ps_fld (pv 0) (pe_tup pa_nil) rfl)))), ?_⟩
    refine ⟨_, rfl, rv, rs, rfl, hR, ok, fun H1 s1 => ?_⟩
    refine ⟨_, rfl, _, rfl, a, C, dx, [], rfl, s1 _ _ ha, L.cls, L.na1, by show 0 < 1000; decide, ?_⟩
    rw [putF_1]
    have w1 : Wr [a] H (upd H1 a (.ins C dx [("rules", rv)])) := (Wr.of s1).trans (Wr.ins (s1 _ _ ha) List.mem_cons_self)
    refine ⟨sz (by show 0 ≤ 100000; decide), fun p hp => ?_⟩
    have np : a ≠ p := fun z => by rw [← z, upd_same] at hp; cases hp
    have w2 := w1.trans (Wr.of (Same.new (o := .tup []) hp))
    have ea : upd (upd H1 a (.ins C dx [("rules", rv)])) p (.tup []) a = some (.ins C dx [("rules", rv)]) := by rw [upd_ne np]; exact upd_same
    refine ⟨_, rfl, a, C, dx, _, rfl, ea, L.cls, L.na2, by show 1 < 1000; decide, ?_⟩
    rw [putF_2]
    have w3 := w2.trans (Wr.ins ea (a := a) (as := [a]) (o := .ins C dx [("rules", rv), ("places", .ref p)]) List.mem_cons_self)
    exact k _ w3 ⟨dx, rv, .ref p, upd_same, RulesAt.mono w3.ts hR, ⟨p, rfl, by rw [upd_ne (Ne.symm np)]; exact upd_same⟩⟩
/-! #### __len__, row, marked -/
abbrev S_LLen : Stmt := methS S_Laid 1
def N_LLen : List Str := ["self"]
theorem sc_LLen : FnScope N_LLen ["self"] (defScope S_LLen) := ⟨rfl, rfl, rfl, by decide +kernel, rfl, by decide +kernel, by decide +kernel⟩
def spLLen (C : Addr) : Sp := fun vs H Q _ => ∃ a rs u, vs = [.ref a] ∧ LaidAt C H a rs u ∧ Q (.int u.length) H
theorem ok_LLen (D : DnM K f "__len__" "Laid.__len__" S_LLen) (L : LaidC K C) (bf : Bf mg) : ClF CX0 P w K mg base 1 f (spLLen C) := by
  refine D.ok0 sc_LLen (fun vs H Q E h => ?_) (fun _ _ _ _ _ _ us hl => match us, hl with | [_], _ => rfl) (fun cdv A outer s H vs Q E hr h => ?_)
  · obtain ⟨a, rs, u, rfl, _⟩ := h; rfl
  · obtain ⟨a, rs, u, rfl, ⟨dx, rv, pv, ha, hR, ⟨p, rfl, hp⟩⟩, k⟩ := h
    refine ⟨_, pss_one (ps_ret (pe_callB call_len_seq rfl bf.len bt_len (pa_cons (pe_fld (pv 0) rfl) pa_nil))), ?_⟩
    refine ⟨_, rfl, a, C, dx, _, .ref p, rfl, ha, L.cls, L.na2, rfl, p, _, rfl, .inr (SqT.of hp), ?_⟩
    rw [List.length_map]; exact k
abbrev S_LRow : Stmt := methS S_Laid 6
theorem sc_LRow : FnScope N_LLen ["self"] (defScope S_LRow) := ⟨rfl, rfl, rfl, by decide +kernel, rfl, by decide +kernel, by decide +kernel⟩
def spLRow (C : Addr) : Sp := fun vs H Q _ => ∃ a rs u, vs = [.ref a] ∧ LaidAt C H a rs u ∧ ∀ v, TupI H v u → Q v H
theorem ok_LRow (D : DnM K f "row" "Laid.row" S_LRow) (L : LaidC K C) : ClF CX0 P w K mg base 1 f (spLRow C) := by
  refine D.ok0 sc_LRow (fun vs H Q E h => ?_) (fun _ _ _ _ _ _ us hl => match us, hl with | [_], _ => rfl) (fun cdv A outer s H vs Q E hr h => ?_)
  · obtain ⟨a, rs, u, rfl, _⟩ := h; rfl
  · obtain ⟨a, rs, u, rfl, ⟨dx, rv, pv, ha, hR, ⟨p, rfl, hp⟩⟩, k⟩ := h
    refine ⟨_, pss_one (ps_ret (pe_fld (pv 0) rfl)), ?_⟩
    exact ⟨_, rfl, a, C, dx, _, .ref p, rfl, ha, L.cls, L.na2, rfl, k _ ⟨p, rfl, hp⟩⟩
abbrev S_LMarked : Stmt := methS S_Laid 7
theorem sc_LMarked : FnScope N_LLen ["self"] (defScope S_LMarked) := ⟨rfl, rfl, rfl, by decide +kernel, rfl, by decide +kernel, by decide +kernel⟩
def spLMarked (C : Addr) : Sp := fun vs H Q _ => ∃ a rs u, vs = [.ref a] ∧ LaidAt C H a rs u ∧ Q (.int u.sum) H
theorem ok_LMarked (D : DnM K f "marked" "Laid.marked" S_LMarked) (L : LaidC K C) (bf : Bf mg) : ClF CX0 P w K mg base 1 f (spLMarked C) := by
  refine D.ok0 sc_LMarked (fun vs H Q E h => ?_) (fun _ _ _ _ _ _ us hl => match us, hl with | [_], _ => rfl) (fun cdv A outer s H vs Q E hr h => ?_)
  · obtain ⟨a, rs, u, rfl, _⟩ := h; rfl
  · obtain ⟨a, rs, u, rfl, ⟨dx, rv, pv, ha, hR, ⟨p, rfl, hp⟩⟩, k⟩ := h
    refine ⟨_, pss_one (ps_ret (pe_callB (cr_sumT rfl) rfl bf.sum bt_sum (pa_cons (pe_fld (pv 0) rfl) pa_nil))), ?_⟩
    exact ⟨_, rfl, a, C, dx, _, .ref p, rfl, ha, L.cls, L.na2, rfl, p, u, rfl, SqT.of hp, k⟩
/-! #### tail -/
abbrev S_LTail : Stmt := methS S_Laid 3
theorem sc_LTail : FnScope N_LLen ["self"] (defScope S_LTail) := ⟨rfl, rfl, rfl, by decide +kernel, rfl, by decide +kernel, by decide +kernel⟩
def spLTail (C : Addr) : Sp := fun vs H Q _ => ∃ a rs u, vs = [.ref a] ∧ LaidAt C H a rs u ∧ RulesOk rs ∧ u.length ≤ 1000 ∧ ∀ v H', Same H H' → TupI H' v (tl (wd rs) u) → Q v H'
theorem ok_LTail (D : DnM K f "tail" "Laid.tail" S_LTail) (L : LaidC K C) (C_widest : Cl P w K mg base 1 "widest" spWidest) (C_tail_of : Cl P w K mg base 1 "tail_of" spTail) : ClF CX0 P w K mg base 2 f (spLTail C) := by
  refine D.ok0 sc_LTail (fun vs H Q E h => ?_) (fun _ _ _ _ _ _ us hl => match us, hl with | [_], _ => rfl) (fun cdv A outer s H vs Q E hr h => ?_)
  · obtain ⟨a, rs, u, rfl, _⟩ := h; rfl
  · obtain ⟨a, rs, u, rfl, ⟨dx, rv, pw, ha, hR, hT⟩, ok, hl, k⟩ := h
    refine ⟨_, pss_one (ps_ret (pe_callC C_tail_of hr rfl (pa_cons (pe_callC C_widest hr rfl (pa_cons (pe_fld (pv 0) rfl) pa_nil)) (pa_cons (pe_fld (pv 0) rfl) pa_nil)))), ?_⟩
    exact ⟨_, rfl, a, C, dx, _, rv, rfl, ha, L.cls, L.na1, rfl, rv, rs, rfl, hR, ok, _, rfl, a, C, dx, _, pw, rfl, ha, L.cls, L.na2, rfl, pw, _, u, rfl, hT, hl, ok.wide.1, ok.wide.2, fun v H1 s1 h1 => k v H1 s1 h1⟩
/-! #### goes_on -/
abbrev S_LGoes : Stmt := methS S_Laid 8
theorem sc_LGoes : FnScope N_LLen ["self"] (defScope S_LGoes) := ⟨rfl, rfl, rfl, by decide +kernel, rfl, by decide +kernel, by decide +kernel⟩
def spLGoes (C : Addr) : Sp := fun vs H Q _ => ∃ a rs u, vs = [.ref a] ∧ LaidAt C H a rs u ∧ RulesOk rs ∧ Fine rs u ∧ u.length ≤ 1000 ∧ ∀ v H', Same H H' → RankV rs (tl (wd rs) u) v → Q v H'
theorem ok_LGoes (D : DnM K f "goes_on" "Laid.goes_on" S_LGoes) (L : LaidC K C) (C_most_on : Cl P w K mg base 4 "most_on" spMost) : ClF CX0 P w K mg base 5 f (spLGoes C) := by
  refine D.ok0 sc_LGoes (fun vs H Q E h => ?_) (fun _ _ _ _ _ _ us hl => match us, hl with | [_], _ => rfl) (fun cdv A outer s H vs Q E hr h => ?_)
  · obtain ⟨a, rs, u, rfl, _⟩ := h; rfl
  · obtain ⟨a, rs, u, rfl, ⟨dx, rv, pw, ha, hR, hT⟩, ok, fine, hl, k⟩ := h
    refine ⟨_, pss_one (ps_ret (pe_callC C_most_on hr rfl (pa_cons (pe_fld (pv 0) rfl) (pa_cons (pe_fld (pv 0) rfl) pa_nil)))), ?_⟩
    exact ⟨_, rfl, a, C, dx, _, rv, rfl, ha, L.cls, L.na1, rfl, _, rfl, a, C, dx, _, pw, rfl, ha, L.cls, L.na2, rfl, rv, pw, rs, u, rfl, hR, ok, hT, fine.tail ok, hl, fun v H1 s1 h1 => k v H1 s1 h1⟩
end
end An
-- imports: LB
/-! ### LC: can_be_laid, ==, lay, take -/
namespace An
open PySem PySem.Spec PyProof.Rows L2
/-- what may be laid behind u -/
def canLay (rs : List Rule) (t : Row) : Row := ([0, 1] : List Int).filter (freeP rs t)
section
variable {P : Program} {w : World} {K : PySem.W.Frag} {mg : Str → Option Value} {base : Heap} {C f : Addr}
abbrev S_LCan : Stmt := methS S_Laid 9
def N_LCan : List Str := ["self", "place", "there"]
theorem sc_LCan : FnScope N_LCan ["self"] (defScope S_LCan) := ⟨rfl, rfl, rfl, by decide +kernel, rfl, by decide +kernel, by decide +kernel⟩
def spLCan (C : Addr) : Sp := fun vs H Q _ => ∃ a rs u, vs = [.ref a] ∧ LaidAt C H a rs u ∧ RulesOk rs ∧ u.length ≤ 1000 ∧ ∀ p H', H p = none → Same H H' → H' p = some (.lst ((canLay rs (tl (wd rs) u)).map V.int)) → Q (.ref p) H'
theorem ok_LCan (D : DnM K f "can_be_laid" "Laid.can_be_laid" S_LCan) (L : LaidC K C) (bf : Bf mg) (CT : ClM CX0 P w K mg base C 2 "tail" (spLTail C)) (C_ways_on : Cl P w K mg base 2 "ways_on" spWays) : ClF CX0 P w K mg base 3 f (spLCan C) := by
  refine D.ok0 sc_LCan (fun vs H Q E h => ?_) (fun _ _ _ _ _ _ us hl => match us, hl with | [_], _ => rfl) (fun cdv A outer s H vs Q E hr h => ?_)
  · obtain ⟨a, rs, u, rfl, _⟩ := h; rfl
  · obtain ⟨a, rs, u, rfl, LA, ok, hl, k⟩ := h
    have nd := sc_LCan.nd
    refine ⟨_, (pss_one (ps_ret (pe_lc (own := [("place", 1), ("there", 2)]) rfl nd (pi_list (pe_callC C_ways_on hr rfl (pa_cons (pe_fld (pv 0) rfl) (pa_cons (pe_methC0 CT L.cls hr pass0 (pv 0)) pa_nil)))) (blkOk_by (own := [("place", 1), ("there", 2)]) (N := N_LCan) (sc := defScope S_LCan) (by decide +kernel)) (fun _ _ _ _ _ => (pg_tupK (K := K) (n := 2) rfl rfl (pgs_cons (pg_name (i := 1) nd rfl (Or.inl rfl) (Or.inr rfl)) (pgs_cons (pg_name (i := 2) nd rfl (Or.inl rfl) (Or.inr rfl)) pgs_nil)))) (fun _ _ _ _ _ => pts_nil) (fun _ _ _ _ _ => (pv 1))))), ?_⟩
    have LA0 := LA
    obtain ⟨dx, rv, pw, ha, hR, hT⟩ := LA
    refine ⟨_, rfl, a, C, dx, _, rv, rfl, ha, L.cls, L.na1, rfl, _, rfl, a, dx, _, rfl, ha, rfl, a, rs, u, rfl, LA0, ok, hl, fun v1 H1 s1 h1 => ?_⟩
    refine ⟨rv, v1, rs, tl (wd rs) u, rfl, RulesAt.mono (TS.of s1) hR, ok, h1, by unfold tl; rw [List.length_drop]; omega, fun p H4 xs hp s6 hp' pr => ?_⟩
    have s7 := s1.trans s6
    have wl : (waysOn rs (tl (wd rs) u)).length ≤ 2 := by unfold waysOn; rw [List.length_map]; exact List.length_filter_le _ _
    refine ⟨p, rfl, ⟨_, SqL.of hp'⟩, fun M hM => lc_go (walk_list (xs := xs)) (fun _ v (q : Int) => v = .int q) (fun i => ((waysOn rs (tl (wd rs) u)).take i).map fun e => e.1) hM rfl (fun z _ => by rw [List.length_map, List.length_take]; omega) (fun _ _ _ _ _ h => h) (fun _ _ _ _ _ _ h => h) (fun H' e => SqL.of (e _ _ hp')) ?_ ?_⟩
    · rintro i x H5 H6 NT NF hi sm ⟨rfl, hx⟩ nt nf
      obtain ⟨e, he, ⟨b, c, rfl, hb, hc⟩⟩ := Paired.get pr hx
      refine ⟨b, _, rfl, SqT.of (sm _ _ hb), rfl, _, _, rfl, _, _, rfl, rfl, rfl, ?_⟩
      refine tYes_ ⟨_, rfl, nt _ _ e.1 (Same.refl _) rfl ?_⟩
      show ((waysOn rs (tl (wd rs) u)).take (i + 1)).map (fun e => e.1) = _
      rw [List.take_add_one, he, List.map_append]; rfl
    · intro H5 ys sm hL5 py
      have nL : H M = none := by
        cases q : H M with
        | none => rfl
        | some o => rw [s7 _ _ q] at hM; cases hM
      refine k M H5 nL (s7.trans sm) ?_
      rw [Paired.len pr, List.take_of_length_le (Nat.le_refl _)] at py
      have ey := eq_of_ints py
      rw [hL5, ey]
      unfold waysOn canLay
      rw [List.map_map, List.map_map]
      rfl
/-! #### == -/
/-- what isinstance wants of the class -/
structure LaidI (K : PySem.W.Frag) (mg : Str → Option Value) (C : Addr) : Prop where
  mgc : mg "Laid" = some (.ref C)
  ha : PySem.W.findIn K (.ref C) "__class__" = some (some (.builtin "object.__class__"))
  hn : PySem.W.specialIn K (.builtin "object.__class__") "__get__" = some (some (.builtin "getset_descriptor.__get__"))
  ht : PySem.W.takesIn K (.builtin "object.__class__") = some true
  hm : PySem.W.mroIn K C (.type "object") = some true
  no : PySem.W.kitOne K (.type "tuple") (.ref C) = some false
  nf : PySem.W.notFirst K C (.type "tuple") = true
abbrev S_LEq : Stmt := methS S_Laid 2
def N_LEq : List Str := ["self", "other"]
theorem sc_LEq : FnScope N_LEq ["self", "other"] (defScope S_LEq) := ⟨rfl, rfl, rfl, by decide +kernel, rfl, by decide +kernel, by decide +kernel⟩
def spLEq (C : Addr) : Sp := fun vs H Q _ => ∃ a y rs u, vs = [.ref a, y] ∧ LaidAt C H a rs u ∧
  ((∃ b rs' u', y = .ref b ∧ LaidAt C H b rs' u' ∧ ∀ H', Same H H' → Q (.bl (decide (rs = rs') && decide (u = u'))) H') ∨ (∃ b xs, y = .ref b ∧ H b = some (.tup xs) ∧ Q (.bl false) H))
theorem ok_LEq (D : DnM K f "__eq__" "Laid.__eq__" S_LEq) (L : LaidC K C) (I : LaidI K mg C) (bf : Bf mg) : ClF CX0 P w K mg base 1 f (spLEq C) := by
  refine D.ok0 sc_LEq (fun vs H Q E h => ?_) (fun _ _ _ _ _ _ us hl => match us, hl with | [_, _], _ => rfl) (fun cdv A outer s H vs Q E hr h => ?_)
  · obtain ⟨a, y, rs, u, rfl, _⟩ := h; rfl
  · obtain ⟨a, y, rs, u, rfl, LA, h⟩ := h
    refine ⟨_, pss_one (ps_ret (pe_and (pe_callB call_isi rfl bf.isinstance bt_isinstance (pa_cons (pv 1) (pa_cons (pe_glob (v := .ref C) rfl I.mgc rfl) pa_nil))) (pe_one (pe_cmpR (op_eqD hr.units) (pe_tup (pa_cons (pe_fld (pv 0) rfl) (pa_cons (pe_fld (pv 0) rfl) pa_nil))) (pe_tup (pa_cons (pe_fld (pv 1) rfl) (pa_cons (pe_fld (pv 1) rfl) pa_nil))) (nomark _))))), ?_⟩
    rcases h with ⟨b, rs', u', rfl, LB, k⟩ | ⟨b, xs, rfl, hb, k⟩
    · obtain ⟨dx, rv, pw, ha, hR, hT⟩ := LA
      obtain ⟨dy, rv', pw', hb, hR', hT'⟩ := LB
      refine ⟨_, rfl, .ref b, .ref C, .ref C, .ref C, true, rfl, .own C, .base (.ins hb L.cls I.ha I.hn I.ht I.hm), by unfold PySem.W.kitOne; rw [if_pos (by simp)], ?_⟩
      refine ⟨_, rfl, iteT ?_⟩
      refine ⟨_, rfl, a, C, dx, _, rv, rfl, ha, L.cls, L.na1, rfl, _, rfl, a, C, dx, _, pw, rfl, ha, L.cls, L.na2, rfl, sz (by show 2 ≤ 100000; decide), fun p hp => ?_⟩
      have s1 := Same.new (o := .tup [rv, pw]) hp
      have hb1 := s1 _ _ hb
      refine ⟨_, rfl, b, C, dy, _, rv', rfl, hb1, L.cls, L.na1, rfl, _, rfl, b, C, dy, _, pw', rfl, hb1, L.cls, L.na2, rfl, sz (by show 2 ≤ 100000; decide), fun q hq => ?_⟩
      have s2 := Same.new (o := .tup [rv', pw']) hq
      have s12 := s1.trans s2
      refine ⟨laidD rs u, laidD rs' u', .tup (SqT.of (s2 _ _ upd_same)) (.cons (dp_rules (RulesAt.mono (TS.of s12) hR)) (.cons (dp_row (TupI.mono (TS.of s12) hT)) .nil)), .tup (SqT.of upd_same) (.cons (dp_rules (RulesAt.mono (TS.of s12) hR')) (.cons (dp_row (TupI.mono (TS.of s12) hT')) .nil)), laidD_shaped _ _, laidD_shaped _ _, ?_⟩
      rw [eqv_laid]
      exact k _ s12
    · refine ⟨_, rfl, .ref b, .ref C, .type "tuple", .ref C, false, rfl, .own C, .base (.tup hb), I.no, ?_⟩
      exact ⟨_, rfl, iteF k⟩
end
end An
-- imports: LC HandS.HeadHook1
/-! ### LD: lay, take -/
namespace An
open PySem PySem.Spec PyProof.Rows L2
/-- a class of refusals that is raised with a text -/
structure ExcR (K : PySem.W.Frag) (mg : Str → Option Value) (x : Str) (C : Addr) : Prop where
  q : PySem.W.excIn K C He.veBase "ValueError.__new__" = true
  kC : PySem.W.keepIn K (.ref C) = true
  sub : PySem.W.subIn K (.ref C) (.type "BaseException") = some true
  ty : PySem.W.typeIn K (.ref C) = some (.type "type")
  g : mg x = some (.ref C)
/-- Breaks: raised with a rule -/
structure BreaksR (P : Program) (w : World) (K : PySem.W.Frag) (mg : Str → Option Value) (base : Heap) (C : Addr) : Prop where
  T : OexC K C
  ini : ∃ fI, PySem.W.findIn K (.ref C) "__init__" = some (some (.ref fI)) ∧ PySem.W.typeIn K (.ref fI) = some (.type "function") ∧ ClF CX0 P w K mg base 1 fI (spBrInit C)
  g : mg "Breaks" = some (.ref C)
theorem from01 {x : V} (h : isFrom x 0 1 = true) : ∃ p : Int, x = .int p ∧ (p = 0 ∨ p = 1) := by
  cases x <;> first | (cases h; done) | skip
  rename_i p
  have h : (decide (0 ≤ p) && decide (p ≤ 1)) = true := h
  rw [Bool.and_eq_true, decide_eq_true_eq, decide_eq_true_eq] at h
  exact ⟨p, rfl, by omega⟩
section
variable {X : Cx} {C : Addr} {x m : Str} {j : Nat} {p p2 pos : Pos}
theorem pmk_r (R : ExcR X.K X.mg x C) (hg : Gl X x) (hdb : (x == ("__debug__" : Str)) = false := by decide) : L2N.PMk X (.Call (.Name x p) [.Constant (.str m) j p2] [] pos) (fun _ H Q => Q (.ref C) none H) :=
  L2N.pmk_own F.excBase_ValueError R.q R.g R.kC (raises_own R.sub R.ty) hg hdb
/-- Breaks(rule) -/
theorem pmk_br {e : Expr} {te : TE} (R : BreaksR X.prog X.w X.K X.mg X.base C) (hr : Room 2 X.A) (hg : Gl X "Breaks") (he : PE X e te)
    (h2 : starEach [e] X.env = (false, eval e X.env) :: starEach [] X.env := by rfl) :
    L2N.PMk X (.Call (.Name "Breaks" p) [e] [] pos) (tMkO C (spBrInit C) [] (tCons te tNil)) := by
  obtain ⟨fI, i1, i2, ⟨fd, ps, F1, b⟩⟩ := R.ini
  exact pmk_oexN R.T i1 i2 F1 hr b hg R.g (pa_cons he pa_nil (hs := h2)) (by decide) h2 rfl
/-- what is asked behind Breaks(v) -/
theorem br_read {v : V} {H1 : Hp} {Q : XK} (h : ∀ dx H', Same H1 H' → H' dx = some (.xd [("rule", v)]) → Q (.ref C) (some dx) H') :
    [v].length ≤ 1000 ∧ ∀ a, H1 a = none → spBrInit C (.ref a :: ([v] ++ [])) (upd H1 a (exo a C none))
      (fun v H2 => v = .non ∧ ∃ (d : Addr) (fs : List (Str × V)), H2 a = some (exo a C (some d)) ∧ H2 d = some (exd d fs) ∧ H1 d = none ∧ Q (.ref C) (some d) (upd (del H2 a) d (.xd fs))) (fun _ _ _ => False) := by
  refine ⟨by show 1 ≤ 1000; decide, fun a ha => ⟨a, v, rfl, upd_same, fun dx hd ne => ⟨rfl, dx, [("rule", v)], upd_same, ?_, ?_, ?_⟩⟩⟩
  · rw [upd_ne ne]; exact upd_same
  · rw [upd_ne ne] at hd; exact hd
  · have hd1 : H1 dx = none := by rw [upd_ne ne] at hd; exact hd
    refine h dx _ (fun b o e => ?_) upd_same
    have nb : b ≠ dx := ne_of_none e hd1
    have na : b ≠ a := ne_of_none e ha
    rw [upd_ne nb, del_ne na, upd_ne na, upd_ne nb, upd_ne na]
    exact e
end
section
variable {P : Program} {w : World} {K : PySem.W.Frag} {mg : Str → Option Value} {base : Heap} {C f : Addr} {cn : Str → Addr}
abbrev S_LLay : Stmt := methS S_Laid 4
def N_LLay : List Str := ["self", "place", "rule"]
theorem sc_LLay : FnScope N_LLay ["self", "place"] (defScope S_LLay) := ⟨rfl, rfl, rfl, by decide +kernel, rfl, by decide +kernel, by decide +kernel⟩
def spLLay (C : Addr) (cn : Str → Addr) : Sp := fun vs H Q E => ∃ a x t rs u, vs = [.ref a, x] ∧ LaidAt C H a rs u ∧ RulesOk rs ∧ u.length ≤ 120 ∧ Kd H x t ∧
  (isFrom x 0 1 = false → E (.ref (cn "NoPlace")) none H) ∧
  ∀ p, x = .int p → p = 0 ∨ p = 1 → match brokenBy rs (tl (wd rs) u) p with
    | some r => ∀ dd rv H', Same H H' → H' dd = some (.xd [("rule", rv)]) → RuleAt H' rv r → E (.ref (cn "Breaks")) (some dd) H'
    | none => (u.length = 120 → ∀ H', Same H H' → E (.ref (cn "Full")) none H') ∧ (u.length < 120 → ∀ H', Wr [a] H H' → LaidAt C H' a rs (u ++ [p]) → Q .non H')
theorem ok_LLay (D : DnM K f "lay" "Laid.lay" S_LLay) (L : LaidC K C) (bf : Bf mg) (c_MOST_PLACES : ∃ t, mg "MOST_PLACES" = some (.int 120 t)) (R1 : ExcR K mg "NoPlace" (cn "NoPlace")) (R2 : ExcR K mg "Full" (cn "Full")) (R3 : BreaksR P w K mg base (cn "Breaks"))
    (C_is_from : Cl P w K mg base 1 "is_from" spIsFrom) (C_broken_by : Cl P w K mg base 1 "broken_by" spBroken) (CT : ClM CX0 P w K mg base C 2 "tail" (spLTail C)) : ClF (L2N.CX P w) P w K mg base 3 f (spLLay C cn) := by
  refine D.ok sc_LLay (fun vs H Q E h => ?_) (fun _ _ _ _ _ _ us hl => match us, hl with | [_, _], _ => rfl) (fun cdv A outer s H vs Q E hr h => ?_)
  · obtain ⟨a, x, t, rs, u, rfl, _⟩ := h; rfl
  · obtain ⟨a, x, t, rs, u, rfl, LA, ok, hl, kd, kno, k⟩ := h
    have nd := sc_LLay.nd
    let Y : Cx := cxOf (L2N.CX P w) P w K mg base N_LLay "Laid.lay" (defScope S_LLay) f cdv A outer s H E
    have tk : L2N.Takes Y (fun cls d _ H => E cls d H) := L2N.takes_of rfl rfl rfl rfl
    refine ⟨_, (pss_cons (ps_if (pt_not (pt_val (pe_callC C_is_from (hr.mono (by decide)) rfl (pa_cons (pv 1) (pa_cons pe_int (pa_cons pe_int pa_nil)))))) (pss_one (L2N.ps_raise rfl tk (pmk_r R1 rfl))) pss_nil)
      (pss_cons (ps_set (i := 2) nd rfl (Or.inl rfl) (pe_callC C_broken_by (hr.mono (by decide)) rfl (pa_cons (pe_fld (pv 0) rfl) (pa_cons (pe_methC0 CT L.cls hr pass0 (pv 0)) (pa_cons (pv 1) pa_nil)))))
      (pss_cons (ps_if (pt_cmpR op_notN (pv 2) pe_non (nomark _)) (pss_one (L2N.ps_raise rfl tk (pmk_br R3 hr rfl (pv 2)))) pss_nil)
      (pss_cons (ps_if (pt_cmpR op_eq (pe_callB call_len_seq rfl bf.len bt_len (pa_cons (pe_fld (pv 0) rfl) pa_nil)) (pe_gint rfl c_MOST_PLACES) (nomark _)) (pss_one (L2N.ps_raise rfl tk (pmk_r R2 rfl))) pss_nil)
      (pss_one (ps_fldaug (pv 0) (pe_tup (pa_cons (pv 1) pa_nil)) iop_catA)))))), ?_⟩
    refine ⟨_, rfl, x, t, 0, 1, rfl, kd, _, rfl, ?_⟩
    cases hx : isFrom x 0 1 with
    | false => exact iteT (kno hx)
    | true =>
      refine iteF ?_
      obtain ⟨p, rfl, hp⟩ := from01 hx
      have k := k p rfl hp
      have LA0 := LA
      obtain ⟨dx, rv, pw, ha, hR, hT⟩ := LA
      refine ⟨_, rfl, a, C, dx, _, rv, rfl, ha, L.cls, L.na1, rfl, _, rfl, a, dx, _, rfl, ha, rfl, a, rs, u, rfl, LA0, ok, by omega, fun v1 H1 s1 h1 => ?_⟩
      refine ⟨_, rfl, rv, v1, rs, _, p, rfl, RulesAt.mono (TS.of s1) hR, ok, h1, fun v H2 s2 ov => ?_⟩
      have s12 := s1.trans s2
      refine ⟨_, rfl, rfl, _, rfl, ?_⟩
      rw [OptRule.isN ov]
      cases hb : brokenBy rs (tl (wd rs) u) p with
      | some r =>
        rw [hb] at k ov
        refine iteT ?_
        exact ⟨_, rfl, br_read fun dd H3 s3 h3 => k dd v H3 (s12.trans s3) h3 (TupI.mono (TS.of s3) ov)⟩
      | none =>
        rw [hb] at k
        refine iteF ?_
        obtain ⟨b, rfl, hb'⟩ := hT
        refine ⟨_, rfl, a, C, dx, _, .ref b, rfl, s12 _ _ ha, L.cls, L.na2, rfl, b, _, rfl, .inr (SqT.of (s12 _ _ hb')), rfl, _, rfl, ?_⟩
        rw [List.length_map]
        refine ite2 (fun h1 => ?_) (fun h1 => ?_)
        · exact k.1 (by simp at h1; omega) _ s12
        · have hlt : u.length < 120 := by
            have : ¬ (u.length = 120) := fun e => h1 (by rw [e]; rfl)
            omega
          refine ⟨_, rfl, a, C, dx, _, .ref b, rfl, s12 _ _ ha, L.cls, L.na2, rfl, ?_⟩
          refine ⟨_, rfl, sz (by show 1 ≤ 100000; decide), fun q hq => ?_⟩
          have sq := s12.trans (Same.new (o := .tup [.int p]) hq)
          refine cat_any (sq _ _ hb') upd_same (by rw [List.length_map, List.length_singleton]; omega) fun q2 H3 s3 h3 => ?_
          have h3 : H3 q2 = some (.tup ((u ++ [p]).map V.int)) := by rw [List.map_append]; exact h3
          have s4 := sq.trans s3
          refine ⟨dx, _, s4 _ _ ha, by show 2 < 1000; decide, ?_⟩
          rw [putF_3]
          have w3 : Wr [a] H (upd H3 a (.ins C dx [("rules", rv), ("places", .ref q2)])) := (Wr.of s4).trans (Wr.ins (s4 _ _ ha) List.mem_cons_self)
          have nq : q2 ≠ a := fun z => by
            have e := s4 _ _ ha
            rw [z, e] at h3; cases h3
          exact k.2 hlt _ w3 ⟨dx, rv, .ref q2, upd_same, RulesAt.mono w3.ts hR, ⟨q2, rfl, by rw [upd_ne nq]; exact h3⟩⟩
theorem cut_last (l : List V) : cutV l none (some (-1)) = l.dropLast := by
  unfold cutV
  have h1 : HT.sIx l.length 0 none = 0 := rfl
  have h2 : HT.sIx l.length l.length (some (-1)) = l.length - 1 := by
    unfold HT.sIx
    simp only
    split <;> omega
  rw [h1, h2, List.drop_zero, Nat.sub_zero, List.dropLast_eq_take]
abbrev S_LTake : Stmt := methS S_Laid 5
theorem sc_LTake : FnScope N_LLen ["self"] (defScope S_LTake) := ⟨rfl, rfl, rfl, by decide +kernel, rfl, by decide +kernel, by decide +kernel⟩
def spLTake (C : Addr) (cn : Str → Addr) : Sp := fun vs H Q E => ∃ a rs u, vs = [.ref a] ∧ LaidAt C H a rs u ∧
  (u = [] → ∀ H', Same H H' → E (.ref (cn "NoneLeft")) none H') ∧ (u ≠ [] → ∀ H', Wr [a] H H' → LaidAt C H' a rs u.dropLast → Q .non H')
theorem ok_LTake (D : DnM K f "take" "Laid.take" S_LTake) (L : LaidC K C) (R1 : ExcR K mg "NoneLeft" (cn "NoneLeft")) : ClF (L2N.CX P w) P w K mg base 1 f (spLTake C cn) := by
  refine D.ok sc_LTake (fun vs H Q E h => ?_) (fun _ _ _ _ _ _ us hl => match us, hl with | [_], _ => rfl) (fun cdv A outer s H vs Q E hr h => ?_)
  · obtain ⟨a, rs, u, rfl, _⟩ := h; rfl
  · obtain ⟨a, rs, u, rfl, ⟨dx, rv, pw, ha, hR, ⟨b, rfl, hb⟩⟩, k1, k2⟩ := h
    let Y : Cx := cxOf (L2N.CX P w) P w K mg base N_LLen "Laid.take" (defScope S_LTake) f cdv A outer s H E
    have tk : L2N.Takes Y (fun cls d _ H => E cls d H) := L2N.takes_of rfl rfl rfl rfl
    refine ⟨_, (pss_cons (ps_if (pt_cmpR (op_eqD hr.units) (pe_fld (pv 0) rfl) (pe_tup pa_nil) (nomark _)) (pss_one (L2N.ps_raise rfl tk (pmk_r R1 rfl))) pss_nil)
      (pss_one (ps_fld (pv 0) (pe_slice sl_tupA (pe_fld (pv 0) rfl) po_none (po_some (pe_un un_neg pe_int))) rfl))), ?_⟩
    refine ⟨_, rfl, a, C, dx, _, .ref b, rfl, ha, L.cls, L.na2, rfl, sz (by show 0 ≤ 100000; decide), fun p hp => ?_⟩
    have s1 := Same.new (o := .tup []) hp
    refine ⟨rowD u, rowD [], dp_row ⟨b, rfl, s1 _ _ hb⟩, dp_row ⟨p, rfl, upd_same⟩, rowD_shaped _, rowD_shaped _, _, rfl, ?_⟩
    rw [eqv_row]
    refine ite2 (fun h1 => ?_) (fun h1 => ?_)
    · exact k1 (of_decide_eq_true h1) _ s1
    · have hne : u ≠ [] := fun e => h1 (decide_eq_true e)
      refine ⟨_, rfl, a, C, dx, _, .ref b, rfl, s1 _ _ ha, L.cls, L.na2, rfl, ?_⟩
      refine ⟨_, rfl, _, rfl, sl_any (s1 _ _ hb) fun q H2 s2 hq => ?_⟩
      have hq : H2 q = some (.tup (u.dropLast.map V.int)) := by
        rw [hq, cut_last, List.map_dropLast]
      have s12 := s1.trans s2
      refine ⟨_, rfl, a, C, dx, _, rfl, s12 _ _ ha, L.cls, L.na2, by show 2 < 1000; decide, ?_⟩
      rw [putF_3]
      have w3 : Wr [a] H (upd H2 a (.ins C dx [("rules", rv), ("places", .ref q)])) := (Wr.of s12).trans (Wr.ins (s12 _ _ ha) List.mem_cons_self)
      have nq : q ≠ a := fun z => by
        have e := s12 _ _ ha
        rw [z, e] at hq; cases hq
      exact k2 hne _ w3 ⟨dx, rv, .ref q, upd_same, RulesAt.mono w3.ts hR, ⟨q, rfl, by rw [upd_ne nq]; exact hq⟩⟩
end
end An
-- imports: LD E1 E3 E4
/-! ### LE: deeds, what is due, _law_try by a lambda -/
namespace An
open PySem PySem.Spec PyProof.Rows L2 LamX
/-- all but what is written at as and the tables of code objects stays -/
structure WrN (as : List Addr) (H H' : Hp) : Prop where
  lt : LTS H H'
  sm : ∀ b o, b ∉ as → H b = some o → (∀ ps, o ≠ .tbl ps) → H' b = some o
theorem WrN.ts {as : List Addr} {H H' : Hp} (e : WrN as H H') : TS H H' := fun b xs h => e.lt b _ (.inr ⟨xs, rfl⟩) h
theorem WrN.of {as : List Addr} {H H' : Hp} (e : Wr as H H') : WrN as H H' := ⟨e.lt, fun b o n h _ => e.sm b o n h⟩
theorem WrN.same {as : List Addr} {H H' : Hp} (e : Same H H') : WrN as H H' := .of (Wr.of e)
theorem WrN.trans {as : List Addr} {H H1 H2 : Hp} (a : WrN as H H1) (b : WrN as H1 H2) : WrN as H H2 := ⟨a.lt.trans b.lt, fun c o n h t => b.sm c o n (a.sm c o n h t) t⟩
theorem WrN.mono {as bs : List Addr} {H H' : Hp} (e : WrN as H H') (h : ∀ a ∈ as, a ∈ bs) : WrN bs H H' := ⟨e.lt, fun b o n q t => e.sm b o (fun z => n (h b z)) q t⟩
theorem WrN.ext {as : List Addr} {H H' : Hp} (e : ExtN H H') : WrN as H H' := ⟨fun b o k h => e b o h (fun ps z => by rcases k with ⟨xs, k⟩ | ⟨xs, k⟩ <;> rw [k] at z <;> cases z), fun b o _ h t => e b o h t⟩
theorem LaidAt.farN {C : Addr} {as : List Addr} {H H' : Hp} {b : Addr} {rs : List Rule} {row : Row} (h : LaidAt C H b rs row) (n : b ∉ as) (wr : WrN as H H') : LaidAt C H' b rs row :=
  let ⟨dx, rv, pv, e, r, t⟩ := h; ⟨dx, rv, pv, wr.sm _ _ n e (fun ps z => nomatch z), RulesAt.mono wr.ts r, TupI.mono wr.ts t⟩
/-! #### deeds -/
inductive DeedV (H : Hp) : V → Prop
  | non : DeedV H .non
  | bl (b : Bool) : DeedV H (.bl b)
  | int (i : Int) : DeedV H (.int i)
  | str {z : Str} (ok : PyData.strOk z = true) : DeedV H (.str z)
  | row {a : Addr} {r : Row} (h : H a = some (.tup (r.map V.int))) : DeedV H (.ref a)
  | lst {a : Addr} {r : Row} (h : H a = some (.lst (r.map V.int))) : DeedV H (.ref a)
  | nest {a b : Addr} {r : Row} (h : H a = some (.tup [.ref b])) (hb : H b = some (.tup (r.map V.int))) : DeedV H (.ref a)
theorem DeedV.mono {H H' : Hp} {v : V} (e : LTS H H') (h : DeedV H v) : DeedV H' v := by
  cases h with
  | non => exact .non
  | bl b => exact .bl b
  | int i => exact .int i
  | str ok => exact .str ok
  | row h => exact .row (e _ _ (.inr ⟨_, rfl⟩) h)
  | lst h => exact .lst (e _ _ (.inl ⟨_, rfl⟩) h)
  | nest h hb => exact .nest (e _ _ (.inr ⟨_, rfl⟩) h) (e _ _ (.inr ⟨_, rfl⟩) hb)
theorem DeedV.kd {H : Hp} {v : V} (h : DeedV H v) : ∃ t, Kd H v t := by
  cases h with
  | non => exact ⟨_, .non⟩
  | bl b => exact ⟨_, .bl b⟩
  | int i => exact ⟨_, .int i⟩
  | str ok => exact ⟨_, .str _⟩
  | row h => exact ⟨_, .tup h⟩
  | lst h => exact ⟨_, .lst h⟩
  | nest h hb => exact ⟨_, .tup h⟩
theorem intsD_shaped (r : Row) : SeqAt.shaped (.list (r.map PyData.int)) = true := by
  show (PyData.canLay0 (.list (r.map PyData.int)) && decide (PyData.depth (.list (r.map PyData.int)) ≤ 64)) = true
  have h1 : PyData.canLay0 (.list (r.map PyData.int)) = true := by simp only [PyData.canLay0]; exact ints_lay r
  have h2 : PyData.depth (.list (r.map PyData.int)) ≤ 64 := by simp only [PyData.depth, ints_depth]; omega
  rw [h1, decide_eq_true h2]; rfl
theorem DeedV.dp {K : PySem.W.Frag} {H : Hp} {v : V} (h : DeedV H v) (z : Str) : ∃ d, Dp K H v d ∧ SeqAt.shaped d = true ∧ PyData.eqv d (.str z) = decide (v = .str z) := by
  cases h with
  | non => exact ⟨.none, .non, by decide +kernel, by simp [PyData.eqv]⟩
  | bl b => exact ⟨.bool b, .bl b, by cases b <;> decide +kernel, by simp [PyData.eqv]⟩
  | int i => exact ⟨.int i, .int i, by simp [SeqAt.shaped, PyData.canLay0, PyData.depth], by simp [PyData.eqv]⟩
  | @str y ok => exact ⟨.str y, .str y, by simp [SeqAt.shaped, PyData.canLay0, PyData.depth, ok], by
      by_cases h : y = z
      · simp [PyData.eqv, h]
      · simp [PyData.eqv, h]⟩
  | @row a r h => exact ⟨rowD r, .tup (SqT.of h) (dp_ints r), rowD_shaped r, by simp [rowD, PyData.eqv]⟩
  | @lst a r h => exact ⟨_, .lst (SqL.of h) (dp_ints r), intsD_shaped r, by simp [PyData.eqv]⟩
  | @nest a b r h hb => exact ⟨.tuple [rowD r], .tup (SqT.of h) (.cons (dp_row ⟨b, rfl, hb⟩) .nil), by
      simp [SeqAt.shaped, PyData.canLay0, PyData.canLayAll0, PyData.depth, PyData.depthAll, rowD_lay, rowD_depth], by simp [PyData.eqv]⟩
/-! #### what is due -/
inductive Due where
  | ok (u : Row)
  | ref (nm : Str)
  | brk (r : Rule)
def dueOf (rs : List Rule) (u : Row) (x : V) : Due :=
  if x = .str "take" then (if u = [] then .ref "NoneLeft" else .ok u.dropLast)
  else match x with
    | .int p => if p = 0 ∨ p = 1 then (match brokenBy rs (tl (wd rs) u) p with
        | some r => .brk r
        | none => if u.length = 120 then .ref "Full" else .ok (u ++ [p])) else .ref "NoPlace"
    | _ => .ref "NoPlace"
def DueV (H : Hp) (v : V) : Due → Prop
  | .ok _ => v = .str ""
  | .ref nm => v = .str (kinOf nm)
  | .brk r => ∃ p rv, v = .ref p ∧ H p = some (.lst [.str (kinOf "Breaks"), rv]) ∧ RuleAt H rv r
def Due.row (u : Row) : Due → Row
  | .ok u' => u'
  | _ => u
def dueD : Due → PyData
  | .ok _ => .str ""
  | .ref nm => .str (kinOf nm)
  | .brk r => .list [.str (kinOf "Breaks"), rowD (tri r)]
def Due.good : Due → Bool
  | .ok _ => true
  | _ => false
theorem DueV.mono {H H' : Hp} {v : V} {d : Due} (e : LTS H H') (h : DueV H v d) : DueV H' v d := by
  cases d with
  | ok u => exact h
  | ref nm => exact h
  | brk r => exact let ⟨p, rv, e1, e2, e3⟩ := h; ⟨p, rv, e1, e _ _ (.inl ⟨_, rfl⟩) e2, TupI.mono (fun b xs q => e b _ (.inr ⟨xs, rfl⟩) q) e3⟩
theorem DueV.dp {K : PySem.W.Frag} {H : Hp} {v : V} {d : Due} (h : DueV H v d) : Dp K H v (dueD d) := by
  cases d with
  | ok u => cases h; exact .str _
  | ref nm => cases h; exact .str _
  | brk r => obtain ⟨p, rv, rfl, e2, e3⟩ := h; exact .lst (SqL.of e2) (.cons (.str _) (.cons (dp_row e3) .nil))
def Due.wf : Due → Prop
  | .ref nm => nm ∈ raised ∧ nm ≠ "Breaks"
  | _ => True
theorem kin_ok {nm : Str} (h : nm ∈ raised) : PyData.strOk (kinOf nm) = true ∧ PyData.eqv (.str (kinOf nm)) (.str "") = false := by
  unfold raised at h
  simp only [List.mem_cons, List.not_mem_nil, or_false] at h
  rcases h with rfl | rfl | rfl | rfl <;> exact ⟨by decide +kernel, by decide +kernel⟩
theorem empty_ok : SeqAt.shaped (.str "") = true := by decide +kernel
theorem dueD_lay {d : Due} (h : d.wf) : (dueD d).canLay0 = true := by
  cases d with
  | ok u => show PyData.canLay0 (.str "") = true; decide +kernel
  | ref nm => simp [dueD, PyData.canLay0, (kin_ok h.1).1]
  | brk r => simp [dueD, PyData.canLay0, PyData.canLayAll0, rowD_lay, (kin_ok (nm := "Breaks") (by decide)).1]
theorem dueD_shaped {d : Due} (h : d.wf) : SeqAt.shaped (dueD d) = true := by
  show ((dueD d).canLay0 && decide ((dueD d).depth ≤ 64)) = true
  rw [dueD_lay h]
  cases d with
  | ok u => simp [dueD, PyData.depth]
  | ref nm => simp [dueD, PyData.depth]
  | brk r => simp [dueD, PyData.depth, PyData.depthAll, rowD_depth]
theorem dueD_refl {d : Due} (h : d.wf) : PyData.eqv (dueD d) (dueD d) = true := SeqAt.eqv_refl _ (dueD_lay h)
theorem dueOf_ref {rs : List Rule} {u : Row} {x : V} {nm : Str} (h : dueOf rs u x = .ref nm) : nm ∈ raised ∧ nm ≠ "Breaks" := by
  unfold dueOf at h
  split at h
  · split at h
    · cases h; exact ⟨by decide, by decide⟩
    · cases h
  · split at h
    · split at h
      · split at h
        · cases h
        · split at h
          · cases h; exact ⟨by decide, by decide⟩
          · cases h
      · cases h; exact ⟨by decide, by decide⟩
    · cases h; exact ⟨by decide, by decide⟩
theorem dueOf_wf {rs : List Rule} {u : Row} {x : V} : (dueOf rs u x).wf := by
  cases e : dueOf rs u x with
  | ok u => trivial
  | ref nm => exact dueOf_ref e
  | brk r => trivial
theorem dueD_good {d : Due} (h : d.wf) : PyData.eqv (dueD d) (.str "") = d.good := by
  cases d with
  | ok u => simp [dueD, PyData.eqv, Due.good]
  | ref nm => exact (kin_ok h.1).2
  | brk r => simp [dueD, PyData.eqv, Due.good]
end An
-- imports: LE HandS.HeadHook4
/-! ### LF: _law_do -/
namespace An
open PySem PySem.Spec PyProof.Rows L2 LamX
section
variable {P : Program} {w : World} {K : PySem.W.Frag} {mg : Str → Option Value} {base : Heap} {C : Addr} {cn : Str → Addr}
/-- what must be known of _law_try -/
structure TryC (P : Program) (w : World) (K : PySem.W.Frag) (mg : Str → Option Value) (base : Heap) (cn : Str → Addr) : Prop where
  dn : Dn K mg "_law_try" S__law_try
  eg : ExG K mg cn
  kin : ClX P w K mg base 1 "_law_kin" (spKin cn)
/-- a lambda of no parameter -/
def lamOf (e : Expr) : Arguments × Expr × Scope := match e with
  | .Lambda p b s _ => (p, b, s)
  | _ => (⟨[], [], none, [], [], none, []⟩, e, { kind := .function, names := [], isGenerator := false, isCoroutine := false })
/-- _law_try(lambda: ..) -/
theorem pe_try {X : Cx} {T : List (Addr × Str)} {c Pt : Addr} {k : Nat} {params : Arguments} {body : Expr} {scope : Scope} {t : XK → TE} {p lpos pos : Pos} (TC : TryC X.prog X.w X.K X.mg X.base cn) (hg : Gl X "_law_try") (h6 : 6 ≤ k + 1)
    (TB : TabB X.base X.mg c Pt) (hcode : X.env.code = .ref c) (hmT : (Pt, X.env.qual ++ "<lambda>") ∈ T) (hu : ∀ p ∈ T, p.1 = Pt → p.2 = X.env.qual ++ "<lambda>") (hr : Room (k + 2) X.A) (L : LamS X.env.scope scope) (hdef : defaultsOf params X.env = ([], []))
    (hbind : ∀ (q : Str) (cl : List (Str × Addr)) (pm cv ctv : Value), bindArgs (PySem.W.kla_fn "<lambda>" q params body scope cl pm cv ctv) ⟨[], []⟩ = pure [])
    (hbody : ∀ (A : Around) (outer : List Env) (s : Shared) (H : Hp) (E : XK) (f c' : Addr), Room k (A.deeper (lamEnv X scope s.heap.objs.size f c')) → PE (lamCxN X A outer s H E scope f c') body (t E)) :
    PE X (.Call (.Name "_law_try" p) [.Lambda params body scope lpos] [] pos) (tLam T (fun tl H Q => MonoT tl ∧ TTry cn tl H Q) t) := by
  obtain ⟨g, fd, F, m⟩ := TC.dn.ex
  have kp := F.kp
  have b := F.bindsN (ps := ["door"]) fun _ _ _ _ _ _ us hl => match us, hl with | [_], _ => rfl
  obtain ⟨oc, od, dV, kV, doc, pm, an, cdv, ct, osl, rfl, lk, hcd, _, _⟩ := F.ex
  exact pe_lamcallN (Ng := N__law_try) (a := "door") (k := k) hg m kp lk hcd b sc_law_try rfl (Or.inl rfl) (try_gives TC.eg TC.kin) h6 TB hcode hmT hu hr L hdef hbind hbody
def N__law_do : List Str := ["laid", "deed", "told"]
theorem sc_law_do : FnScope N__law_do ["laid", "deed"] (defScope S__law_do) := ⟨rfl, rfl, rfl, by decide +kernel, rfl, by decide +kernel, by decide +kernel⟩
theorem code_not {H : Hp} {a : Addr} {C dx c : Addr} {fs : List (Str × V)} {q : Str} (h : H a = some (.ins C dx fs)) : H a ≠ some (CodeO c q) := fun z => by
  rw [h] at z
  have z' : HO.ins C dx fs = HO.ext _ := Option.some.inj z
  cases z'
theorem code_notL {H : Hp} {a c : Addr} {xs : List V} {q : Str} (h : H a = some (.lst xs)) : H a ≠ some (CodeO c q) := fun z => by
  rw [h] at z
  have z' : HO.lst xs = HO.ext _ := Option.some.inj z
  cases z'
/-- the tables stay where a is neither a table nor a code object -/
theorem Tabs.x {T : List (Addr × Str)} {H H' : Hp} {a : Addr} (t : Tabs T H) (h1 : ∀ ps, H a ≠ some (.tbl ps)) (h2 : ∀ c q, H a ≠ some (CodeO c q)) (sm : SameX [a] H H') : Tabs T H' := fun p hp => by
  obtain ⟨ps, e, ok, f⟩ := t p hp
  have n1 : p.1 ≠ a := fun z => h1 ps (by rw [← z]; exact e)
  refine ⟨ps, sm _ _ (by simpa using n1) e, ok, fun pos cv hc => ?_⟩
  obtain ⟨c, e1, e2⟩ := f pos cv hc
  have n2 : c ≠ a := fun z => h2 c _ (by rw [← z]; exact e2)
  exact ⟨c, e1, sm _ _ (by simpa using n2) e2⟩
theorem Tabs.laid {T : List (Addr × Str)} {H H' : Hp} {a : Addr} {rs : List Rule} {u : Row} (t : Tabs T H) (h : LaidAt C H a rs u) (w : Wr [a] H H') : Tabs T H' :=
  let ⟨_, _, _, e, _⟩ := h
  Tabs.x t (fun ps z => by rw [e] at z; cases z) (fun c q => code_not e) w.sm
theorem Tabs.same {T : List (Addr × Str)} {H H' : Hp} (t : Tabs T H) (s : Same H H') : Tabs T H' := t.ext s
/-- a def whose code object is known -/
structure DnT (K : PySem.W.Frag) (mg : Str → Option Value) (x : Str) (st : Stmt) (c : Addr) : Prop where
  ex : ∃ f fd, FunD K x x (defArgs st) (defBody st) (defScope st) [] [] f fd ∧ mg x = some (.ref f) ∧ fd.code = .ref c
theorem DnT.ok {x : Str} {st : Stmt} {c : Addr} {N ps : List Str} {k : Nat} {sp : Sp} (D : DnT K mg x st c) (S : FnScope N ps (defScope st)) (len : ∀ vs H Q E, sp vs H Q E → vs.length = ps.length)
    (hb : ∀ (kV doc pm : Value) (an : Option Addr) (cdv ct : Value) (us : List Value), us.length = ps.length → bindArgs (PySem.W.fnOf x x (defArgs st) (defBody st) (defScope st) .none kV doc pm an cdv ct) ⟨us, []⟩ = pure (ps.zip us))
    (hbody : ∀ (f : Addr) (A : Around) (outer : List Env) (s : Shared) (H : Hp) (vs : List V) (Q : VK) (E : XK), Room k (A.deeper (envOfC x (defScope st) s.heap.objs.size f (.ref c))) → sp vs H Q E →
      ∃ t, PSs (cxOf CX0 P w K mg base N x (defScope st) f (.ref c) A outer s H E).nox (defBody st) t ∧ t { nx := fun _ H' => Q .non H', rt := Q } (start N vs) H) : Cl P w K mg base (k + 1) x sp := by
  obtain ⟨f, fd, F, m, hc⟩ := D.ex
  have kp := F.kp
  have b := F.bindsN hb
  obtain ⟨oc, od, dV, kV, doc, pm, an, cdv, ct, osl, rfl, lk, hcd, _, _⟩ := F.ex
  have hc : cdv = .ref c := hc
  subst hc
  exact ⟨f, _, ps, fn_of lk hcd S len (fun A outer s H vs Q E hr h => let ⟨t, h1, h2⟩ := hbody f A outer s H vs Q E hr h; ⟨t, h1.nox, h2⟩), m, kp, b⟩
def spDo (C : Addr) (T : List (Addr × Str)) : Sp := fun vs H Q _ => ∃ a x rs u, vs = [.ref a, x] ∧ LaidAt C H a rs u ∧ RulesOk rs ∧ u.length ≤ 120 ∧ DeedV H x ∧ Tabs T H ∧
  ∀ v H', WrN [a] H H' → Tabs T H' → LaidAt C H' a rs ((dueOf rs u x).row u) → DueV H' v (dueOf rs u x) → Q v H'
theorem told_no {d : Due} (h : d.good = false) : PyData.eqv (dueD d) (.tuple [.str "told", .none]) = false := by
  cases d with
  | ok u => cases h
  | ref nm => simp [dueD, PyData.eqv]
  | brk r => simp [dueD, PyData.eqv]
theorem told_shaped : SeqAt.shaped (.tuple [.str "told", .none]) = true := by decide +kernel
theorem told_yes : PyData.eqv (.tuple [.str "told", .none]) (.tuple [.str "told", .none]) = true := by decide +kernel
theorem mono_meth {C : Addr} {m : Str} {sp : Sp} {ta : TE} {t : TA} {σ : L2.St} (i : Nat) (h1 : ta = tVar i)
    (hsp : ∀ vs H (Q Q' : VK) (E E' : XK), (∀ c d H, E c d H → E' c d H) → (∀ v H, Q v H → Q' v H) → sp vs H Q E → sp vs H Q' E')
    (ht : ∀ H (Q Q' : List V → Hp → Prop), (∀ vs H, Q vs H → Q' vs H) → t σ H Q → t σ H Q') : MonoT (fun E H Q => tMeth C m sp [] E ta t σ H Q) := by
  subst h1
  intro E E' H Q Q' hE hQ h
  obtain ⟨x, hx, a, dx, fs, e1, e2, e3, h⟩ := h
  exact ⟨x, hx, a, dx, fs, e1, e2, e3, ht _ _ _ (fun vs H2 q => hsp _ _ _ _ _ _ hE hQ q) h⟩
theorem mono_take : ∀ vs H (Q Q' : VK) (E E' : XK), (∀ c d H, E c d H → E' c d H) → (∀ v H, Q v H → Q' v H) → spLTake C cn vs H Q E → spLTake C cn vs H Q' E' := by
  rintro vs H Q Q' E E' hE hQ ⟨a, rs, u, e, LA, k1, k2⟩
  exact ⟨a, rs, u, e, LA, fun h H' s => hE _ _ _ (k1 h H' s), fun h H' s l => hQ _ _ (k2 h H' s l)⟩
theorem mono_lay : ∀ vs H (Q Q' : VK) (E E' : XK), (∀ c d H, E c d H → E' c d H) → (∀ v H, Q v H → Q' v H) → spLLay C cn vs H Q E → spLLay C cn vs H Q' E' := by
  rintro vs H Q Q' E E' hE hQ ⟨a, x, t, rs, u, e, LA, ok, hl, kd, k1, k2⟩
  refine ⟨a, x, t, rs, u, e, LA, ok, hl, kd, fun h => hE _ _ _ (k1 h), fun p h h' => ?_⟩
  have k := k2 p h h'
  cases hb : brokenBy rs (tl (wd rs) u) p with
  | some r => rw [hb] at k; exact fun dd rv H' s h3 h4 => hE _ _ _ (k dd rv H' s h3 h4)
  | none => rw [hb] at k; exact ⟨fun h H' s => hE _ _ _ (k.1 h H' s), fun h H' s l => hQ _ _ (k.2 h H' s l)⟩
end
end An
-- imports: LF
/-! ### LG: _law_do's promise -/
namespace An
open PySem PySem.Spec PyProof.Rows L2 LamX
section
variable {P : Program} {w : World} {K : PySem.W.Frag} {mg : Str → Option Value} {base : Heap} {C : Addr} {cn : Str → Addr}
def qLam (x : Str) : Str := (envOfC x (defScope S__law_do) 0 0 .none).qual ++ "<lambda>"
theorem ok_law_do {c Pt : Addr} {T : List (Addr × Str)} (D : DnT K mg "_law_do" S__law_do c) (L : LaidC K C) (TC : TryC P w K mg base cn) (TB : TabB base mg c Pt) (hmT : (Pt, qLam "_law_do") ∈ T) (hu : ∀ p ∈ T, p.1 = Pt → p.2 = qLam "_law_do")
    (CTake : ClM (L2N.CX P w) P w K mg base C 1 "take" (spLTake C cn)) (CLay : ClM (L2N.CX P w) P w K mg base C 3 "lay" (spLLay C cn)) : Cl P w K mg base 8 "_law_do" (spDo C T) := by
  refine D.ok sc_law_do (fun vs H Q E h => ?_) (fun _ _ _ _ _ _ us hl => match us, hl with | [_, _], _ => rfl) (fun f A outer s H vs Q E hr h => ?_)
  · obtain ⟨a, x, rs, u, rfl, _⟩ := h; rfl
  · obtain ⟨a, x, rs, u, rfl, LA, ok, hl, dv, hT, k⟩ := h
    have nd := sc_law_do.nd
    let Y : Cx := (cxOf CX0 P w K mg base N__law_do "_law_do" (defScope S__law_do) f (.ref c) A outer s H E).nox
    refine ⟨_, (pss_cons (ps_if (pt_cmpR (op_eqD hr.units) (pv 1) pe_str (nomark _))
        (pss_one (ps_set (i := 2) nd rfl (Or.inl rfl) (pe_try (X := Y) (cn := cn) (k := 5) (T := T) (c := c) (Pt := Pt) TC rfl (by decide) TB rfl hmT hu hr (lamS_by (sc := defScope S__law_do) (by decide +kernel)) rfl (fun _ _ _ _ _ => rfl)
          (fun A2 outer2 s2 H2 E2 f2 c2 hr2 => pe_methC0 (X := lamCxN Y A2 outer2 s2 H2 E2 _ f2 c2) CTake L.cls (hr2.mono (by decide)) (L2N.passes_call (L2N.takes_of rfl rfl rfl rfl) (fun _ _ _ _ h => h)) (pv (X := lamCxN Y A2 outer2 s2 H2 E2 _ f2 c2) 0)))))
        (pss_one (ps_set (i := 2) nd rfl (Or.inl rfl) (pe_try (X := Y) (cn := cn) (k := 5) (T := T) (c := c) (Pt := Pt) TC rfl (by decide) TB rfl hmT hu hr (lamS_by (sc := defScope S__law_do) (by decide +kernel)) rfl (fun _ _ _ _ _ => rfl)
          (fun A2 outer2 s2 H2 E2 f2 c2 hr2 => pe_methC (X := lamCxN Y A2 outer2 s2 H2 E2 _ f2 c2) CLay L.cls (hr2.mono (by decide)) (L2N.passes_call (L2N.takes_of rfl rfl rfl rfl) (fun _ _ _ _ h => h)) (pv (X := lamCxN Y A2 outer2 s2 H2 E2 _ f2 c2) 0) (pa_cons (pv (X := lamCxN Y A2 outer2 s2 H2 E2 _ f2 c2) 1) pa_nil))))))
      (pss_one (ps_ret (pe_ifExp (pt_cmpR (op_eqD hr.units) (pv 2) (pe_tup (pa_cons pe_str (pa_cons pe_non pa_nil))) (nomark _)) pe_str (pv 2))))), ?_⟩
    have hwf : (dueOf rs u x).wf := dueOf_wf
    have fin : ∀ (told : V) (H2 : Hp), WrN [a] H H2 → Tabs T H2 → LaidAt C H2 a rs ((dueOf rs u x).row u) → (((dueOf rs u x).good = true ∧ ∃ p, told = .ref p ∧ H2 p = some (.tup [.str "told", .non])) ∨ ((dueOf rs u x).good = false ∧ DueV H2 told (dueOf rs u x))) →
        tRet (tIf (tTest (tOp (rEqD K) (tVar 2) (tTup (tCons (tC (.str "told")) (tCons (tC .non) tNil))))) (tC (.str "")) (tVar 2)) { nx := fun _ H' => Q .non H', rt := Q } [some (.ref a), some x, some told] H2 := by
      intro told H2 wr tb la h
      refine ⟨_, rfl, sz (by show 2 ≤ 100000; decide), fun q hq => ?_⟩
      have s1 := Same.new (o := .tup [.str "told", .non]) hq
      have dq : Dp K (upd H2 q (.tup [.str "told", .non])) (.ref q) (.tuple [.str "told", .none]) := .tup (SqT.of upd_same) (.cons (.str _) (.cons .non .nil))
      have kk := fun v => k v _ (wr.trans (WrN.same s1)) (An.Tabs.same tb s1) (la.mono s1)
      rcases h with ⟨hg, p, rfl, hp⟩ | ⟨hg, dv2⟩
      · refine ⟨.tuple [.str "told", .none], _, .tup (SqT.of (s1 _ _ hp)) (.cons (.str _) (.cons .non .nil)), dq, told_shaped, told_shaped, _, rfl, ?_⟩
        rw [told_yes]
        refine iteT (kk _ ?_)
        cases e : dueOf rs u x with
        | ok u' => rfl
        | ref nm => rw [e] at hg; cases hg
        | brk r => rw [e] at hg; cases hg
      · refine ⟨dueD (dueOf rs u x), _, DueV.dp (dv2.mono (LTS.of s1)), dq, dueD_shaped hwf, told_shaped, _, rfl, ?_⟩
        rw [told_no hg]
        exact iteF ⟨_, rfl, kk _ (dv2.mono (LTS.of s1))⟩
    obtain ⟨dd, hd, sd, he⟩ := dv.dp (K := K) "take"
    refine ⟨_, rfl, dd, .str "take", hd, .str _, sd, by decide +kernel, _, rfl, ?_⟩
    rw [he]
    refine ite2 (fun h1 => ?_) (fun h1 => ?_)
    · have hx : x = .str "take" := of_decide_eq_true h1
      have e : dueOf rs u x = if u = [] then .ref "NoneLeft" else .ok u.dropLast := by unfold dueOf; rw [if_pos hx]
      refine ⟨hT, fun H1 eN T1 => ⟨mono_meth 0 rfl mono_take (fun _ _ _ h q => h _ _ q), ?_⟩⟩
      have w1 : WrN [a] H H1 := WrN.ext eN
      have LA1 : LaidAt C H1 a rs u := LA.farN List.not_mem_nil (WrN.ext eN)
      obtain ⟨dx, rv, pw, ha, hR, hTT⟩ := id LA1
      refine ⟨_, rfl, a, dx, _, rfl, ha, rfl, a, rs, u, rfl, LA1, fun hu0 H2 s2 => ?_, fun hne H2 wr la p H3 s3 hp => ?_⟩
      · rw [if_pos hu0] at e
        refine ⟨"NoneLeft", by decide, rfl, .inr ⟨by decide, rfl, fun H3 s3 => ?_⟩⟩
        have s23 := s2.trans s3
        refine fin _ _ (w1.trans (WrN.same s23)) (An.Tabs.same T1 s23) ?_ (.inr ?_)
        · rw [e]; exact LA1.mono s23
        · rw [e]; exact ⟨rfl, rfl⟩
      · rw [if_neg hne] at e
        refine fin _ _ ((w1.trans (WrN.of wr)).trans (WrN.same s3)) (An.Tabs.same (An.Tabs.laid T1 LA1 wr) s3) ?_ (.inl ?_)
        · rw [e]; exact la.mono s3
        · rw [e]; exact ⟨rfl, p, rfl, hp⟩
    · have hx : ¬ x = .str "take" := fun z => h1 (decide_eq_true z)
      refine ⟨hT, fun H1 eN T1 => ⟨mono_meth 0 rfl mono_lay (fun _ _ _ h q => by obtain ⟨x, hx, q⟩ := q; exact ⟨x, hx, h _ _ q⟩), ?_⟩⟩
      have w1 : WrN [a] H H1 := WrN.ext eN
      have LA1 : LaidAt C H1 a rs u := LA.farN List.not_mem_nil (WrN.ext eN)
      have dv1 := dv.mono w1.lt
      obtain ⟨t, kd⟩ := dv1.kd
      obtain ⟨dx, rv, pw, ha, hR, hTT⟩ := id LA1
      refine ⟨_, rfl, a, dx, _, rfl, ha, rfl, _, rfl, a, x, t, rs, u, rfl, LA1, ok, hl, kd, fun hno => ?_, fun p hxp hp => ?_⟩
      · have e : dueOf rs u x = .ref "NoPlace" := by
          unfold dueOf
          rw [if_neg hx]
          cases x with
          | int p =>
            have hno : (decide (0 ≤ p) && decide (p ≤ 1)) = false := hno
            have : ¬ (p = 0 ∨ p = 1) := fun z => by rcases z with rfl | rfl <;> cases hno
            exact if_neg this
          | _ => rfl
        refine ⟨"NoPlace", by decide, rfl, .inr ⟨by decide, rfl, fun H3 s3 => ?_⟩⟩
        refine fin _ _ (w1.trans (WrN.same s3)) (An.Tabs.same T1 s3) ?_ (.inr ?_)
        · rw [e]; exact LA1.mono s3
        · rw [e]; exact ⟨rfl, rfl⟩
      · subst hxp
        have e : dueOf rs u (.int p) = match brokenBy rs (tl (wd rs) u) p with
            | some r => .brk r
            | none => if u.length = 120 then .ref "Full" else .ok (u ++ [p]) := by
          unfold dueOf
          rw [if_neg hx]
          exact if_pos hp
        cases hb : brokenBy rs (tl (wd rs) u) p with
        | some r =>
          rw [hb] at e
          have e : dueOf rs u (.int p) = .brk r := e
          intro dd' rv' H2 s2 h2 hr2
          refine ⟨"Breaks", by decide, rfl, .inl ⟨rfl, dd', _, rv', rfl, h2, rfl, fun q H3 s3 h3 => ?_⟩⟩
          have s23 := s2.trans s3
          refine fin _ _ (w1.trans (WrN.same s23)) (An.Tabs.same T1 s23) ?_ (.inr ?_)
          · rw [e]; exact LA1.mono s23
          · rw [e]; exact ⟨rfl, q, rv', rfl, h3, TupI.mono (TS.of s3) hr2⟩
        | none =>
          rw [hb] at e
          have e : dueOf rs u (.int p) = if u.length = 120 then .ref "Full" else .ok (u ++ [p]) := e
          refine ⟨fun h120 H2 s2 => ?_, fun hlt H2 wr la q H3 s3 hq => ?_⟩
          · rw [if_pos h120] at e
            refine ⟨"Full", by decide, rfl, .inr ⟨by decide, rfl, fun H3 s3 => ?_⟩⟩
            have s23 := s2.trans s3
            refine fin _ _ (w1.trans (WrN.same s23)) (An.Tabs.same T1 s23) ?_ (.inr ?_)
            · rw [e]; exact LA1.mono s23
            · rw [e]; exact ⟨rfl, rfl⟩
          · rw [if_neg (by omega)] at e
            refine fin _ _ ((w1.trans (WrN.of wr)).trans (WrN.same s3)) (An.Tabs.same (An.Tabs.laid T1 LA1 wr) s3) ?_ (.inl ?_)
            · rw [e]; exact la.mono s3
            · rw [e]; exact ⟨rfl, q, rfl, hq⟩
end
end An
-- imports: LG E2
/-! ### LH: _law_whole, _law_due, _law_odd -/
namespace An
open PySem PySem.Spec PyProof.Rows L2
theorem RankV.eq {rs : List Rule} {t : Row} {v w : V} (a : RankV rs t v) (b : RankV rs t w) : v = w := by
  rcases a with ⟨n, a1, _, rfl⟩ | ⟨a1, rfl⟩
  · rcases b with ⟨m, b1, _, rfl⟩ | ⟨b1, rfl⟩
    · rw [a1.uniq b1]
    · exact (a1.not_inf b1).elim
  · rcases b with ⟨m, b1, _, rfl⟩ | ⟨b1, rfl⟩
    · exact (b1.not_inf a1).elim
    · rfl
theorem RankV.flat {rs : List Rule} {t : Row} {v : V} (a : RankV rs t v) : Flat v := by
  rcases a with ⟨n, _, _, rfl⟩ | ⟨_, rfl⟩
  · exact .int _
  · exact .non
/-- one window: here and by the last places -/
theorem ok_bad {rs : List Rule} (ok : RulesOk rs) (u : Row) (p : Int) {r : Rule} (hr : r ∈ rs) : okRule (u ++ [p]) r = !bad (tl (wd rs) u) p r := by
  have w := ok.wide
  have ro := ok.one r hr
  have rw' := span_le ok hr
  have el : (tl (wd rs) u).length = u.length - (u.length + 1 - (wd rs).toNat) := by unfold tl; rw [List.length_drop]
  unfold okRule bad
  rw [List.length_append, List.length_singleton]
  by_cases c : r.1 ≤ (u.length : Int) + 1
  · have c2 : r.1 ≤ ((tl (wd rs) u).length : Int) + 1 := by rw [el]; omega
    have e : endSum (u ++ [p]) r.1 = cnt (tl (wd rs) u) p r.1 := by
      unfold endSum cnt
      rw [List.length_append, List.length_singleton, List.drop_append_of_le_length (by omega), List.sum_append]
      have : (tl (wd rs) u).drop ((tl (wd rs) u).length + 1 - r.1.toNat) = u.drop (u.length + 1 - r.1.toNat) := by
        rw [el]
        unfold tl
        rw [List.drop_drop]
        congr 1; omega
      rw [this]; simp
    rw [e, decide_eq_true c2, decide_eq_true (show r.1 ≤ ((u.length + 1 : Nat) : Int) by omega)]
    simp
  · have c2 : ¬ r.1 ≤ ((tl (wd rs) u).length : Int) + 1 := by rw [el]; omega
    rw [decide_eq_false c2, decide_eq_false (show ¬ r.1 ≤ ((u.length + 1 : Nat) : Int) by omega)]
    simp
theorem RulesOk.single {rs : List Rule} (ok : RulesOk rs) {r : Rule} (h : r ∈ rs) : RulesOk [r] :=
  ⟨by simp, by simp, fun z hz => by rw [List.mem_singleton.mp hz]; exact ok.one r h, List.pairwise_singleton _ _⟩
section
variable {P : Program} {w : World} {K : PySem.W.Frag} {mg : Str → Option Value} {base : Heap}
def N__law_whole : List Str := ["thing"]
theorem sc_law_whole : FnScope N__law_whole ["thing"] (defScope S__law_whole) := ⟨rfl, rfl, rfl, by decide +kernel, rfl, by decide +kernel, by decide +kernel⟩
def isInt (x : V) : Bool := match x with
  | .int _ => true
  | _ => false
def spWhole : Sp := fun vs H Q _ => ∃ x t, vs = [x] ∧ Kd H x t ∧ Q (.bl (isInt x)) H
theorem ok_law_whole (D : Dn K mg "_law_whole" S__law_whole) (bf : Bf mg) : Cl P w K mg base 1 "_law_whole" spWhole := by
  refine D.ok sc_law_whole (fun vs H Q E h => ?_) (fun _ _ _ _ _ _ us hl => match us, hl with | [_], _ => rfl) (fun f cdv A outer s H vs Q E hr h => ?_)
  · obtain ⟨x, t, rfl, _⟩ := h; rfl
  · obtain ⟨x, t, rfl, kd, k⟩ := h
    have nd := sc_law_whole.nd
    refine ⟨_, (pss_one (ps_ret (pe_and (pe_callB call_isi rfl bf.isinstance bt_isinstance (pa_cons (pv 0) (pa_cons (pe_bltn (v := .ty "int") rfl bf.int bt_int rfl) pa_nil))) (pe_one (pe_not (pe_callB call_isi rfl bf.isinstance bt_isinstance (pa_cons (pv 0) (pa_cons (pe_bltn (v := .ty "bool") rfl bf.bool bt_bool rfl) pa_nil)))))))), ?_⟩
    cases kd with
    | non => exact ⟨_, rfl, isi_of .non (b := false) (by decide +kernel) ⟨_, rfl, k⟩⟩
    | str z => exact ⟨_, rfl, isi_of (.str z) (b := false) (by decide +kernel) ⟨_, rfl, k⟩⟩
    | lst e => exact ⟨_, rfl, isi_of (.lst e) (b := false) (by decide +kernel) ⟨_, rfl, k⟩⟩
    | tup e => exact ⟨_, rfl, isi_of (.tup e) (b := false) (by decide +kernel) ⟨_, rfl, k⟩⟩
    | bl b => exact ⟨_, rfl, isi_of (.bl b) (b := true) (by decide +kernel) ⟨_, rfl, iteT ⟨_, rfl, isi_of (.bl b) (b := true) (by decide +kernel) ⟨_, rfl, k⟩⟩⟩⟩
    | int n => exact ⟨_, rfl, isi_of (.int n) (b := true) (by decide +kernel) ⟨_, rfl, iteT ⟨_, rfl, isi_of (.int n) (b := false) (by decide +kernel) ⟨_, rfl, k⟩⟩⟩⟩
/-! #### what is due -/
def N__law_due : List Str := ["rules", "row", "deed", "rule"]
theorem sc_law_due : FnScope N__law_due ["rules", "row", "deed"] (defScope S__law_due) := ⟨rfl, rfl, rfl, by decide +kernel, rfl, by decide +kernel, by decide +kernel⟩
def spDue : Sp := fun vs H Q _ => ∃ rv tv x rs u, vs = [rv, tv, x] ∧ RulesAt H rv rs ∧ RulesOk rs ∧ TupI H tv u ∧ u.length ≤ 120 ∧ DeedV H x ∧ ∀ v H', Same H H' → DueV H' v (dueOf rs u x) → Q v H'
def PvDue (rs : List Rule) (a c : Addr) (p : Int) (u : Row) (H : Hp) (i : Nat) (σ : L2.St) (H' : Hp) : Prop :=
  Same H H' ∧ (∃ x3, σ = [some (.ref a), some (.ref c), some (.int p), x3]) ∧ ∀ (j : Nat) (r : Rule), j < i → rs[j]? = some r → bad (tl (wd rs) u) p r = false
theorem ok_law_due (D : Dn K mg "_law_due" S__law_due) (bf : Bf mg) (C_law_whole : Cl P w K mg base 1 "_law_whole" spWhole) (C_law_fits : Cl P w K mg base 1 "_law_fits" spFits) : Cl P w K mg base 2 "_law_due" spDue := by
  refine D.ok sc_law_due (fun vs H Q E h => ?_) (fun _ _ _ _ _ _ us hl => match us, hl with | [_, _, _], _ => rfl) (fun f cdv A outer s H vs Q E hr h => ?_)
  · obtain ⟨rv, tv, x, rs, u, rfl, _⟩ := h; rfl
  · obtain ⟨rv, tv, x, rs, u, rfl, ⟨a, xs, rfl, ha, pr⟩, ok, ⟨c, rfl, hc⟩, hl, dv, k⟩ := h
    have nd := sc_law_due.nd
    have hr_law_whole := hr
    have hr_law_fits := hr
    refine ⟨_, (pss_cons (ps_if (pt_cmpR (op_eqD hr.units) (pv 2) pe_str (nomark _))
    (pss_one (ps_ret (pe_ifExp (pt_cmpR (op_eqD hr.units) (pv 1) (pe_tup pa_nil) (nomark _)) pe_str pe_str)))
    pss_nil)
    (pss_cons (ps_if (PW.pt (pw_or (pt_not (pt_val (pe_callC C_law_whole hr_law_whole rfl (pa_cons (pv 2) pa_nil)))) (pw_or1 (pt_cmpR op_notIn_seq (pv 2) (pe_tup (pa_cons pe_int (pa_cons pe_int pa_nil))) (by rfl)))))
    (pss_one (ps_ret pe_str))
    pss_nil)
    (pss_cons (ps_for PassesOwn.never rfl (pi_tup (pv 0)) (pg_name (i := 3) nd rfl (Or.inl rfl))
    (pss_one (ps_if (pt_not (pt_val (pe_callC C_law_fits hr_law_fits rfl (pa_cons (pe_tup (pa_cons (pv 3) pa_nil)) (pa_cons (pe_op op_catA (pv 1) (pe_tup (pa_cons (pv 2) pa_nil))) pa_nil)))))
    (pss_one (ps_ret (pe_lst (pa_cons pe_str (pa_cons (pv 3) pa_nil)))))
    pss_nil)))
    (pss_one (ps_ret (pe_ifExp (pt_cmpR op_eq (pe_callB call_len_seq rfl bf.len bt_len (pa_cons (pv 1) pa_nil)) pe_int (nomark _)) pe_str pe_str)))))), ?_⟩
    obtain ⟨dd, hd, sd, he⟩ := dv.dp (K := K) "take"
    refine ⟨_, rfl, dd, .str "take", hd, .str _, sd, by decide +kernel, _, rfl, ?_⟩
    rw [he]
    refine ite2 (fun h1 => ?_) (fun h1 => ?_)
    · have hx : x = .str "take" := of_decide_eq_true h1
      have e : dueOf rs u x = if u = [] then .ref "NoneLeft" else .ok u.dropLast := by unfold dueOf; rw [if_pos hx]
      refine ⟨_, rfl, sz (by show 0 ≤ 100000; decide), fun q hq => ?_⟩
      have s1 := Same.new (o := .tup []) hq
      refine ⟨rowD u, rowD [], dp_row ⟨c, rfl, s1 _ _ hc⟩, dp_row ⟨q, rfl, upd_same⟩, rowD_shaped _, rowD_shaped _, _, rfl, ?_⟩
      rw [eqv_row]
      refine ite2 (fun h2 => ?_) (fun h2 => ?_)
      · rw [if_pos (of_decide_eq_true h2)] at e
        exact k _ _ s1 (by rw [e]; show V.str _ = V.str _; congr 1)
      · rw [if_neg (fun z => h2 (decide_eq_true z))] at e
        exact k _ _ s1 (by rw [e]; rfl)
    · have hx : ¬ x = .str "take" := fun z => h1 (decide_eq_true z)
      obtain ⟨t, kd⟩ := dv.kd
      have noP : dueOf rs u x = .ref "NoPlace" → ∀ H', Same H H' → Q (.str "NoPlace+") H' := fun e H' s => k _ _ s (by rw [e]; show V.str _ = V.str _; congr 1)
      refine ⟨_, rfl, x, t, rfl, kd, _, rfl, ?_⟩
      cases x with
      | int p =>
        refine iteF ?_
        refine ⟨_, rfl, sz (by show 2 ≤ 100000; decide), fun q hq => ?_⟩
        have s1 := Same.new (o := .tup [.int 0, .int 1]) hq
        have hin : (!inV (.int p) [.int 0, .int 1]) = !decide (p = 0 ∨ p = 1) := by
          by_cases h0 : p = 0
          · subst h0; rfl
          · by_cases h1 : p = 1
            · subst h1; rfl
            · simp [inV, eqV, h0, h1]
              exact ⟨fun z => h0 z.symm, fun z => h1 z.symm⟩
        refine ⟨q, _, rfl, .inr (SqT.of upd_same), rfl, rfl, _, rfl, ?_⟩
        show if (!inV (.int p) [.int 0, .int 1]) = true then _ else _
        rw [hin]
        by_cases hp : p = 0 ∨ p = 1
        · rw [decide_eq_true hp]
          refine iteF ?_
          have e : dueOf rs u (.int p) = match brokenBy rs (tl (wd rs) u) p with
              | some r => .brk r
              | none => if u.length = 120 then .ref "Full" else .ok (u ++ [p]) := by
            unfold dueOf
            rw [if_neg hx]
            exact if_pos hp
          refine ⟨_, rfl, a, rfl, ⟨_, SqT.of (s1 _ _ ha)⟩, for_tup (xs := xs) (PvDue rs a c p u H) ⟨s1, ⟨none, rfl⟩, fun j r hj => absurd hj (Nat.not_lt_zero _)⟩ (fun i σ H' _ h => SqT.of (h.1 _ _ ha)) ?_ ?_⟩
          · rintro i x σ H' hi ⟨sm, ⟨x3, rfl⟩, bd⟩
            obtain ⟨r, hri, hRu⟩ := Paired.get pr hi
            have hrm := List.mem_of_getElem? hri
            refine ⟨_, rfl, sz (by show 1 ≤ 100000; decide), fun q1 hq1 => ⟨_, rfl, _, rfl, sz (by show 1 ≤ 100000; decide), fun q2 hq2 => ?_⟩⟩
            have sa := Same.new (o := .tup [x]) hq1
            have sb := Same.new (o := .tup [.int p]) hq2
            have sab := sm.trans (sa.trans sb)
            refine cat_any (sab _ _ hc) upd_same (by rw [List.length_map, List.length_singleton]; omega) fun q3 H3 s3 h3 => ?_
            have h3 : H3 q3 = some (.tup ((u ++ [p]).map V.int)) := by rw [List.map_append]; exact h3
            have s4 := sab.trans s3
            have hq1' : H3 q1 = some (.tup [x]) := s3 _ _ (sb _ _ upd_same)
            refine ⟨.ref q1, .ref q3, [r], u ++ [p], rfl, ⟨q1, [x], rfl, hq1', .cons (TupI.mono (TS.of s4) hRu) .nil⟩, ok.single hrm, ⟨q3, rfl, h3⟩, fun H4 s5 => ⟨_, rfl, ?_⟩⟩
            have ef : fits [r] (u ++ [p]) = !bad (tl (wd rs) u) p r := by
              show (okRule (u ++ [p]) r && true) = _
              rw [Bool.and_true, ok_bad ok u p hrm]
            rw [ef]
            show if (!(!bad (tl (wd rs) u) p r)) = true then _ else _
            rw [Bool.not_not]
            have s6 := s4.trans s5
            refine ite2 (fun hb => ?_) (fun hb => ?_)
            · have eb : brokenBy rs (tl (wd rs) u) p = some r := find_at hri hb bd
              rw [eb] at e
              refine ⟨_, rfl, sz (by show 2 ≤ 100000; decide), fun q4 hq4 => ?_⟩
              have s7 := Same.new (o := .lst [.str "Breaks+", x]) hq4
              refine k _ _ (s6.trans s7) ?_
              rw [e]
              refine ⟨q4, x, rfl, ?_, TupI.mono (TS.of (s6.trans s7)) hRu⟩
              rw [upd_same]
              have : kinOf "Breaks" = ("Breaks+" : Str) := by decide +kernel
              rw [this]
            · refine ⟨s6, ⟨_, rfl⟩, fun j r' hj hr' => ?_⟩
              by_cases ej : j = i
              · subst ej; rw [hri] at hr'; cases hr'; simpa using hb
              · exact bd j r' (by omega) hr'
          · rintro σ H' ⟨sm, ⟨x3, rfl⟩, bd⟩
            have eb : brokenBy rs (tl (wd rs) u) p = none := by
              unfold brokenBy
              rw [List.find?_eq_none]
              intro r hr
              obtain ⟨j, hj, rfl⟩ := List.getElem_of_mem hr
              have := bd j rs[j] (by rw [Paired.len pr]; exact hj) (List.getElem?_eq_getElem hj)
              simp [this]
            rw [eb] at e
            have e : dueOf rs u (.int p) = if u.length = 120 then .ref "Full" else .ok (u ++ [p]) := e
            refine ⟨_, rfl, c, _, rfl, .inr (SqT.of (sm _ _ hc)), rfl, _, rfl, ?_⟩
            rw [List.length_map]
            refine ite2 (fun h2 => ?_) (fun h2 => ?_)
            · have h120 : u.length = 120 := by simp at h2; omega
              rw [if_pos h120] at e
              exact k _ _ sm (by rw [e]; show V.str _ = V.str _; congr 1)
            · have h120 : ¬ u.length = 120 := fun z => h2 (by rw [z]; rfl)
              rw [if_neg h120] at e
              exact k _ _ sm (by rw [e]; rfl)
        · rw [decide_eq_false hp]
          exact iteT (noP (by unfold dueOf; rw [if_neg hx]; exact if_neg hp) _ s1)
      | _ => exact iteT (noP (by unfold dueOf; rw [if_neg hx]) _ (Same.refl _))
end
end An
-- imports: LH
/-! ### LI: _law_odd -/
namespace An
open PySem PySem.Spec PyProof.Rows L2
theorem DeedV.monoX {H H' : Hp} {v : V} {a : Addr} (e : SameX [a] H H') (t : TS H H') (n : v ≠ .ref a) (h : DeedV H v) : DeedV H' v := by
  cases h with
  | non => exact .non
  | bl b => exact .bl b
  | int i => exact .int i
  | str ok => exact .str ok
  | row h => exact .row (t _ _ h)
  | @lst b r h => exact .lst (e _ _ (by simpa using fun z : b = a => n (by rw [z])) h)
  | nest h hb => exact .nest (t _ _ h) (t _ _ hb)
section
variable {P : Program} {w : World} {K : PySem.W.Frag} {mg : Str → Option Value} {base : Heap}
def N__law_odd : List Str := ["deck", "some"]
theorem sc_law_odd : FnScope N__law_odd ["deck"] (defScope S__law_odd) := ⟨rfl, rfl, rfl, by decide +kernel, rfl, by decide +kernel, by decide +kernel⟩
def spOdd : Sp := fun vs H Q _ => ∃ (a : Addr) (N : Int), vs = [.ref a] ∧ N < 1000000000 ∧ DeckAt H a N ∧ ∀ x H', SameX [a] H H' → TS H H' → DeckAt H' a (N + 1) → DeedV H' x → x ≠ .ref a → Q x H'
theorem ok_law_odd (D : Dn K mg "_law_odd" S__law_odd) (C_law_one : Cl P w K mg base 2 "_law_one" spOne) : Cl P w K mg base 3 "_law_odd" spOdd := by
  refine D.ok sc_law_odd (fun vs H Q E h => ?_) (fun _ _ _ _ _ _ us hl => match us, hl with | [_], _ => rfl) (fun f cdv A outer s H vs Q E hr h => ?_)
  · obtain ⟨a, N, rfl, _⟩ := h; rfl
  · obtain ⟨a, N, rfl, hN, hd, k⟩ := h
    have nd := sc_law_odd.nd
    have hr_law_one := hr
    refine ⟨_, (pss_cons (ps_set (i := 1) nd rfl (Or.inl rfl) (pe_lst (pa_cons pe_non (pa_cons pe_bl (pa_cons pe_str (pa_cons pe_str (pa_cons (pe_tup pa_nil) (pa_cons (pe_lst pa_nil) (pa_cons (pe_tup (pa_cons (pe_tup pa_nil) pa_nil)) (pa_cons pe_int (pa_cons (pe_un un_neg pe_int) (pa_cons (pe_op op_pow pe_int pe_int) (pa_cons (pe_tup (pa_cons pe_int (pa_cons pe_int pa_nil))) (pa_cons (pe_tup (pa_cons (pe_tup (pa_cons pe_int (pa_cons pe_int (pa_cons pe_int pa_nil)))) pa_nil)) (pa_cons (pe_tup (pa_cons pe_int (pa_cons pe_int pa_nil))) (pa_cons (pe_lst (pa_cons pe_int (pa_cons pe_int pa_nil))) (pa_cons (pe_tup (pa_cons pe_int (pa_cons pe_int pa_nil))) pa_nil)))))))))))))))))
    (pss_one (ps_ret (pe_callC C_law_one hr_law_one rfl (pa_cons (pv 0) (pa_cons (pv 1) pa_nil)))))), ?_⟩
    refine ⟨sz (by show 0 ≤ 100000; decide), fun t1 h1 => ⟨sz (by show 0 ≤ 100000; decide), fun l1 h2 => ⟨sz (by show 0 ≤ 100000; decide), fun t2 h3 => ⟨sz (by show 1 ≤ 100000; decide), fun t3 h4 => ?_⟩⟩⟩⟩
    refine ⟨_, rfl, _, _, rfl, rfl, ⟨by decide, by decide, by decide⟩, sz (by show 2 ≤ 100000; decide), fun t4 h5 => ⟨sz (by show 3 ≤ 100000; decide), fun t5 h6 => ⟨sz (by show 1 ≤ 100000; decide), fun t6 h7 => ⟨sz (by show 2 ≤ 100000; decide), fun t7 h8 => ⟨sz (by show 2 ≤ 100000; decide), fun l2 h9 => ⟨sz (by show 2 ≤ 100000; decide), fun t8 h10 => ⟨sz (by show 15 ≤ 100000; decide), fun M hM => ?_⟩⟩⟩⟩⟩⟩⟩
    have s1 := Same.new (o := .tup []) h1
    have s2 := Same.new (o := .lst []) h2
    have s3 := Same.new (o := .tup []) h3
    have s4 := Same.new (o := .tup [.ref t2]) h4
    have s5 := Same.new (o := .tup [.int 1, .int 2]) h5
    have s6 := Same.new (o := .tup [.int 3, .int 1, .int 2]) h6
    have s7 := Same.new (o := .tup [.ref t5]) h7
    have s8 := Same.new (o := .tup [.int 0, .int 1]) h8
    have s9 := Same.new (o := .lst [.int 0, .int 1]) h9
    have s10 := Same.new (o := .tup [.int 2, .int 4]) h10
    have sM := Same.new (o := .lst [.non, .bl true, .str "", .str "a", .ref t1, .ref l1, .ref t3, .int 7, .int (-1), .int (10 ^ (30 : Int).toNat), .ref t4, .ref t6, .ref t7, .ref l2, .ref t8]) hM
    have z10 := s10.trans sM
    have z9 := s9.trans z10
    have z8 := s8.trans z9
    have z7 := s7.trans z8
    have z6 := s6.trans z7
    have z5 := s5.trans z6
    have z4 := s4.trans z5
    have z3 := s3.trans z4
    have z2 := s2.trans z3
    have z1 := s1.trans z2
    obtain ⟨d0, d1, d2, ha, hrest⟩ := hd
    have na : ∀ {G : Hp} {p : Addr}, Same H G → G p = none → V.ref p ≠ .ref a := fun {G p} s e z => by
      cases z
      rw [s _ _ ha] at e; cases e
    have y1 := s1
    have y2 := y1.trans s2
    have y3 := y2.trans s3
    have y4 := y3.trans s4
    have y5 := y4.trans s5
    have y6 := y5.trans s6
    have y7 := y6.trans s7
    have y8 := y7.trans s8
    have y9 := y8.trans s9
    have y10 := y9.trans s10
    have hdM := z1 _ _ ha
    refine ⟨_, rfl, _, rfl, a, M, _, N, rfl, fun z => na y10 hM (by rw [z]), upd_same, by simp, by show 15 < 1000; decide, by omega, ⟨d0, d1, d2, hdM, hrest⟩, fun x H' hx sx ts hd' => ?_⟩
    refine (fun key : DeedV _ x ∧ x ≠ .ref a => k x H' (fun b o n e => sx b o n (z1 _ _ e)) ((TS.of z1).trans ts) hd' (key.1.monoX sx ts key.2) key.2) ?_
    · simp only [List.mem_cons, List.not_mem_nil, or_false] at hx
      rcases hx with rfl | rfl | rfl | rfl | rfl | rfl | rfl | rfl | rfl | rfl | rfl | rfl | rfl | rfl | rfl
      · exact ⟨.non, fun z => nomatch z⟩
      · exact ⟨.bl true, fun z => nomatch z⟩
      · exact ⟨.str (by decide +kernel), fun z => nomatch z⟩
      · exact ⟨.str (by decide +kernel), fun z => nomatch z⟩
      · exact ⟨.row (r := []) (z2 _ _ upd_same), na (Same.refl H) h1⟩
      · exact ⟨.lst (r := []) (z3 _ _ upd_same), na y1 h2⟩
      · exact ⟨.nest (r := []) (z5 _ _ upd_same) (z4 _ _ upd_same), na y3 h4⟩
      · exact ⟨.int _, fun z => nomatch z⟩
      · exact ⟨.int _, fun z => nomatch z⟩
      · exact ⟨.int _, fun z => nomatch z⟩
      · exact ⟨.row (r := [1, 2]) (z6 _ _ upd_same), na y4 h5⟩
      · exact ⟨.nest (r := [3, 1, 2]) (z8 _ _ upd_same) (z7 _ _ upd_same), na y6 h7⟩
      · exact ⟨.row (r := [0, 1]) (z9 _ _ upd_same), na y7 h8⟩
      · exact ⟨.lst (r := [0, 1]) (z10 _ _ upd_same), na y8 h9⟩
      · exact ⟨.row (r := [2, 4]) (sM _ _ upd_same), na y9 h10⟩
end
end An
-- imports: LI
/-! ### LJ: _law_right -/
namespace An
open PySem PySem.Spec PyProof.Rows L2
/-- the class Laid, its methods' promises -/
structure LaidM (P : Program) (w : World) (K : PySem.W.Frag) (mg : Str → Option Value) (base : Heap) (C : Addr) : Prop where
  L : LaidC K C
  I : LaidI K mg C
  row : ClM CX0 P w K mg base C 1 "row" (spLRow C)
  marked : ClM CX0 P w K mg base C 1 "marked" (spLMarked C)
  len : ∃ f, ClF CX0 P w K mg base 1 f (spLLen C) ∧ PySem.W.findIn K (.ref C) "__len__" = some (some (.ref f)) ∧ PySem.W.isFn K (.ref f) = true
  can : ClM CX0 P w K mg base C 3 "can_be_laid" (spLCan C)
  goes : ClM CX0 P w K mg base C 5 "goes_on" (spLGoes C)
  eq : ∃ f, ClF CX0 P w K mg base 1 f (spLEq C) ∧ PySem.W.findIn K (.ref C) "__eq__" = some (some (.ref f)) ∧ PySem.W.isFn K (.ref f) = true
  ne : PySem.W.findIn K (.ref C) "__ne__" = some (some (.builtin "object.__ne__"))
  made : ∃ f, ClF CX0 P w K mg base 5 f (spLInit C) ∧ Mk K C f
theorem SameT.ints {H : Hp} (n : Nat) : ∀ r : Row, Paired (SameT (n + 1) H) (r.map V.int) (r.map V.int)
  | [] => .nil
  | x :: r => .cons (.inl ⟨rfl, .int x⟩) (SameT.ints n r)
section
variable {P : Program} {w : World} {K : PySem.W.Frag} {mg : Str → Option Value} {base : Heap} {C : Addr}
def N__law_right : List Str := ["laid", "rules", "row", "told", "place"]
theorem sc_law_right : FnScope N__law_right ["laid", "rules", "row"] (defScope S__law_right) := ⟨rfl, rfl, rfl, by decide +kernel, rfl, by decide +kernel, by decide +kernel⟩
def spRight (C : Addr) : Sp := fun vs H Q _ => ∃ a rv tv rs u, vs = [.ref a, rv, tv] ∧ LaidAt C H a rs u ∧ RulesAt H rv rs ∧ RulesOk rs ∧ TupI H tv u ∧ Fine rs u ∧ u.length ≤ 120 ∧ ∀ H', Same H H' → Q (.bl true) H'
theorem ok_law_right (D : Dn K mg "_law_right" S__law_right) (bf : Bf mg) (M : LaidM P w K mg base C) (C_law_same : Cl P w K mg base 4 "_law_same" (spSame 2)) (C_law_fits : Cl P w K mg base 1 "_law_fits" spFits) (C_goes_on : Cl P w K mg base 6 "goes_on" spGoes) :
    Cl P w K mg base 7 "_law_right" (spRight C) := by
  refine D.ok sc_law_right (fun vs H Q E h => ?_) (fun _ _ _ _ _ _ us hl => match us, hl with | [_, _, _], _ => rfl) (fun f cdv A outer s H vs Q E hr h => ?_)
  · obtain ⟨a, rv, tv, rs, u, rfl, _⟩ := h; rfl
  · obtain ⟨a, rv, tv, rs, u, rfl, LA, hR, ok, hT, fine, hl, k⟩ := h
    have nd := sc_law_right.nd
    have L := M.L
    have CRow := M.row
    have CMarked := M.marked
    have CCan := M.can
    have CGoes := M.goes
    obtain ⟨fL, ⟨fdL, psL, FLen, bLen⟩, hsLen, hfLen⟩ := M.len
    have hr_law_same := hr.mono (show 4 ≤ 6 by decide)
    have hr_row := hr.mono (show 1 ≤ 6 by decide)
    have hr_len := hr.mono (show 1 + 1 ≤ 6 by decide)
    have hr_can := hr.mono (show 3 ≤ 6 by decide)
    have hr_goes := hr.mono (show 5 ≤ 6 by decide)
    have hr_law_fits := hr.mono (show 1 ≤ 6 by decide)
    have hr_goes_on := hr
    refine ⟨_, (pss_cons (ps_if (pt_not (pt_val (pe_callC C_law_same hr_law_same rfl (pa_cons (pe_lst (pa_cons (pe_methC0 CRow L.cls hr_row pass0 (pv 0)) (pa_cons (pe_methC0 CMarked L.cls hr_row pass0 (pv 0)) (pa_cons (pe_callB (call_lenO FLen hsLen hfLen bLen hr_len) rfl bf.len bt_len (pa_cons (pv 0) pa_nil)) pa_nil)))) (pa_cons (pe_lst (pa_cons (pv 2) (pa_cons (pe_callB (cr_sumT rfl) rfl bf.sum bt_sum (pa_cons (pv 2) pa_nil)) (pa_cons (pe_callB call_len_seq rfl bf.len bt_len (pa_cons (pv 2) pa_nil)) pa_nil)))) pa_nil)))))
    (pss_one (ps_ret pe_bl))
    pss_nil)
    (pss_cons (ps_set (i := 3) nd rfl (Or.inl rfl) (pe_methC0 CCan L.cls hr_can pass0 (pv 0)))
    (pss_cons (ps_if (pt_not (pt_val (pe_callC C_law_same hr_law_same rfl (pa_cons (pv 3) (pa_cons (pe_lc (own := [("place", 4)]) rfl nd (pi_tup (pe_tup (pa_cons pe_int (pa_cons pe_int pa_nil)))) (blkOk_by (own := [("place", 4)]) (N := N__law_right) (sc := defScope S__law_right) (by decide +kernel)) (fun _ _ _ _ _ => (pg_name (i := 4) nd rfl (Or.inl rfl) (Or.inr rfl))) (fun _ _ _ _ _ => (pts_one (pt_val (pe_callC C_law_fits hr_law_fits rfl (pa_cons (pv 1) (pa_cons (pe_op (op_catK (K := K) rfl) (pv 2) (pe_tup (pa_cons (pv 4) pa_nil))) pa_nil)))))) (fun _ _ _ _ _ => (pv 4))) pa_nil)))))
    (pss_one (ps_ret pe_bl))
    pss_nil)
    (pss_cons (ps_expr (pe_bm PySem.F.plainAttrs_list PySem.F.slot_list_append PySem.F.type_list_append mt_append (pv 3) (pa_cons pe_int pa_nil)))
    (pss_one (ps_ret (pe_callC C_law_same hr_law_same rfl (pa_cons (pe_methC0 CGoes L.cls hr_goes pass0 (pv 0)) (pa_cons (pe_callC C_goes_on hr_goes_on rfl (pa_cons (pv 1) (pa_cons (pv 2) pa_nil))) pa_nil))))))))), ?_⟩
    obtain ⟨dx, rv0, pw, ha, hR0, hT0⟩ := id LA
    obtain ⟨c, rfl, hc⟩ := id hT
    refine ⟨_, rfl, a, dx, _, rfl, ha, rfl, a, rs, u, rfl, LA, fun v1 h1 => ?_⟩
    refine ⟨_, rfl, a, dx, _, rfl, ha, rfl, a, rs, u, rfl, LA, ?_⟩
    refine ⟨_, rfl, a, dx, _, rfl, ha, a, rs, u, rfl, LA, u.length, rfl, by omega, ?_⟩
    refine ⟨sz (by show 3 ≤ 100000; decide), fun l1 hl1 => ?_⟩
    have s1 := Same.new (o := .lst [v1, .int u.sum, .int u.length]) hl1
    refine ⟨_, rfl, _, rfl, c, u, rfl, SqT.of (s1 _ _ hc), _, rfl, c, _, rfl, .inr (SqT.of (s1 _ _ hc)), ?_⟩
    rw [List.length_map]
    refine ⟨sz (by show 3 ≤ 100000; decide), fun l2 hl2 => ?_⟩
    have s2 := Same.new (o := .lst [.ref c, .int u.sum, .int u.length]) hl2
    have s12 := s1.trans s2
    refine ⟨_, _, rfl, ?_, fun H3 s3 => ⟨_, rfl, iteF ?_⟩⟩
    · refine .inr ⟨l1, l2, _, _, rfl, rfl, .l (s2 _ _ upd_same) upd_same, by show 3 < 1000; decide, .cons ?_ (.cons (.inl ⟨rfl, .int _⟩) (.cons (.inl ⟨rfl, .int _⟩) .nil))⟩
      exact SameT.row (TupI.mono (TS.of s12) h1) (TupI.mono (TS.of s12) hT) (by omega)
    · have s123 := s12.trans s3
      refine ⟨_, rfl, a, dx, _, rfl, s123 _ _ ha, rfl, a, rs, u, rfl, LA.mono s123, ok, by omega, fun p H4 hp s4 h4 => ?_⟩
      have s34 := s123.trans s4
      refine ⟨_, rfl, sz (by show 2 ≤ 100000; decide), fun q hq => ?_⟩
      have s5 := Same.new (o := .tup [.int 0, .int 1]) hq
      have s35 := s34.trans s5
      refine ⟨q, rfl, ⟨_, SqT.of upd_same⟩, fun D0 hD0 => lc_go (walk_tup (xs := [.int 0, .int 1])) (fun _ v (q : Int) => v = .int q) (fun i => (([0, 1] : List Int).take i).filter fun p => fits rs (u ++ [p])) hD0 rfl (fun z _ => ?_) (fun _ _ _ _ _ h => h) (fun _ _ _ _ _ _ h => h) (fun H' e => SqT.of (e _ _ upd_same)) ?_ ?_⟩
      · refine Nat.lt_of_le_of_lt (List.length_filter_le _ _) ?_
        rw [List.length_take]
        show min z 2 < 100000
        omega
      · rintro i x H5 H6 NT NF hi sm ⟨rfl, hx⟩ nt nf
        obtain ⟨p', hp', rfl⟩ : ∃ p : Int, ([0, 1] : List Int)[i]? = some p ∧ x = .int p := by
          match i, hx with
          | 0, h => cases h; exact ⟨0, rfl, rfl⟩
          | 1, h => cases h; exact ⟨1, rfl, rfl⟩
        have ft := filter_take (fun p => fits rs (u ++ [p])) _ i p' hp'
        have s6 := s35.trans sm
        refine ⟨rfl, _, rfl, _, rfl, _, rfl, sz (by show 1 ≤ 100000; decide), fun q2 hq2 => ?_⟩
        have sb := Same.new (o := .tup [.int p']) hq2
        have s7 := s6.trans sb
        refine cat_any (s7 _ _ hc) upd_same (by rw [List.length_map, List.length_singleton]; omega) fun q3 H7 s8 h7 => ?_
        have h7 : H7 q3 = some (.tup ((u ++ [p']).map V.int)) := by rw [List.map_append]; exact h7
        refine ⟨rv, .ref q3, rs, u ++ [p'], rfl, RulesAt.mono (TS.of (s7.trans s8)) hR, ok, ⟨q3, rfl, h7⟩, fun H8 s9 => ⟨_, rfl, ?_⟩⟩
        have sN := (sb.trans s8).trans s9
        refine ite2 (fun c => ?_) (fun c => ?_)
        · rw [if_pos c] at ft
          exact ⟨_, rfl, nt _ _ p' sN rfl ft⟩
        · rw [if_neg c, List.append_nil] at ft
          exact nf _ sN ft
      · intro H5 ys sm hL5 py
        have ey := eq_of_ints py
        have ec : (([0, 1] : List Int).take 2).filter (fun p => fits rs (u ++ [p])) = canLay rs (tl (wd rs) u) := by
          unfold canLay
          congr 1
          funext p
          exact fits_snoc ok u p
        have hlc : (canLay rs (tl (wd rs) u)).length ≤ 2 := List.length_filter_le _ _
        have ey : ys = (canLay rs (tl (wd rs) u)).map V.int := by rw [ey, ← ec]; rfl
        have h45 := sm _ _ (s5 _ _ h4)
        refine ⟨.ref p, .ref D0, rfl, .inr ⟨p, D0, _, _, rfl, rfl, .l h45 hL5, by rw [List.length_map]; omega, by rw [ey]; exact SameT.ints 0 _⟩, fun H6 s6 => ⟨_, rfl, iteF ?_⟩⟩
        have h6 := s6 _ _ h45
        refine ⟨_, rfl, .inl ⟨rfl, _, SqL.of h6⟩, p, _, .int 2, rfl, rfl, h6, szl (by rw [List.length_map]; omega), ?_⟩
        have s36 := (s35.trans sm).trans s6
        have np : ∀ b o, H b = some o → b ≠ p := fun b o e z => by
          have := s123 _ _ e
          rw [z, hp] at this; cases this
        have sF : Same H (upd H6 p (.lst ((canLay rs (tl (wd rs) u)).map V.int ++ [.int 2]))) := fun b o e => by
          rw [upd_ne (np b o e)]; exact s36 _ _ e
        refine ⟨_, rfl, a, dx, _, rfl, sF _ _ ha, rfl, a, rs, u, rfl, LA.mono sF, ok, fine, by omega, fun v H8 s8 hv => ?_⟩
        have s9 := sF.trans s8
        refine ⟨_, rfl, _, rfl, rv, .ref c, rs, u, rfl, RulesAt.mono (TS.of s9) hR, ok, TupI.mono (TS.of s9) hT, fine, hl, fun v' H9 s10 hv' => ?_⟩
        exact ⟨v, v', rfl, .inl ⟨hv.eq hv', hv.flat⟩, fun H10 s11 => k _ ((s9.trans s10).trans s11)⟩
end
end An
-- imports: LJ B4
/-! ### LK0: plain facts for the law, making a Laid -/
namespace An
open PySem PySem.Spec PyProof.Rows L2 LamX
theorem dueOf_ok {rs : List Rule} {u u' : Row} {x : V} (h : dueOf rs u x = .ok u') :
    (x = .str "take" ∧ u ≠ [] ∧ u' = u.dropLast) ∨ (x ≠ .str "take" ∧ ∃ p : Int, x = .int p ∧ (p = 0 ∨ p = 1) ∧ brokenBy rs (tl (wd rs) u) p = none ∧ u.length ≠ 120 ∧ u' = u ++ [p]) := by
  unfold dueOf at h
  by_cases hx : x = .str "take"
  · rw [if_pos hx] at h
    by_cases hu : u = []
    · rw [if_pos hu] at h; cases h
    · rw [if_neg hu] at h
      have e := Due.ok.inj h
      exact .inl ⟨hx, hu, e.symm⟩
  · rw [if_neg hx] at h
    cases x with
    | int p =>
      have h : (if p = 0 ∨ p = 1 then (match brokenBy rs (tl (wd rs) u) p with
        | some r => Due.brk r
        | none => if u.length = 120 then .ref "Full" else .ok (u ++ [p])) else .ref "NoPlace") = .ok u' := h
      by_cases hp : p = 0 ∨ p = 1
      · rw [if_pos hp] at h
        cases hb : brokenBy rs (tl (wd rs) u) p with
        | some r => rw [hb] at h; cases h
        | none =>
          rw [hb] at h
          have h : (if u.length = 120 then Due.ref "Full" else .ok (u ++ [p])) = .ok u' := h
          by_cases hl : u.length = 120
          · rw [if_pos hl] at h; cases h
          · rw [if_neg hl] at h
            exact .inr ⟨hx, p, rfl, hp, hb, hl, (Due.ok.inj h).symm⟩
      · rw [if_neg hp] at h; cases h
    | _ => cases h
theorem Fine.drop {rs : List Rule} {u : Row} (f : Fine rs u) : Fine rs u.dropLast := by
  refine ⟨fun x hx => f.bits x (List.dropLast_subset _ hx), fun j hj => ?_⟩
  rw [List.length_dropLast] at hj
  have := f.fit j (by omega)
  rw [List.dropLast_eq_take, List.take_take, Nat.min_eq_left (by omega)]
  exact this
theorem due_fine {rs : List Rule} {u u' : Row} {x : V} (ok : RulesOk rs) (f : Fine rs u) (hl : u.length ≤ 120) (h : dueOf rs u x = .ok u') : Fine rs u' ∧ u'.length ≤ 120 ∧ u' ≠ u := by
  rcases dueOf_ok h with ⟨_, hu, rfl⟩ | ⟨_, p, _, hp, hb, hn, rfl⟩
  · refine ⟨f.drop, by rw [List.length_dropLast]; omega, fun e => ?_⟩
    have := congrArg List.length e
    rw [List.length_dropLast] at this
    have hp : 0 < u.length := List.length_pos_iff.mpr hu
    omega
  · refine ⟨f.snoc hp ?_, by rw [List.length_append, List.length_singleton]; omega, fun e => ?_⟩
    · rw [fits_snoc ok]; unfold freeP; rw [hb]; rfl
    · have := congrArg List.length e
      rw [List.length_append, List.length_singleton] at this
      omega
theorem due_keep {d : Due} {u : Row} (h : d.good = false) : d.row u = u := by
  cases d with
  | ok u' => cases h
  | ref nm => rfl
  | brk r => rfl
theorem due_good {d : Due} (h : d.good = true) : ∃ u', d = .ok u' := by
  cases d with
  | ok u' => exact ⟨u', rfl⟩
  | ref nm => cases h
  | brk r => cases h
/-! #### the long rows -/
def rsL : List Rule := [(2, 0, 2)]
def rsN : List Rule := [(2, 0, 1)]
def alt (i : Nat) : Row := (List.range i).map fun j => ((j % 2 : Nat) : Int)
theorem okL : RulesOk rsL := ⟨by decide, by decide, by decide, by decide⟩
theorem okN : RulesOk rsN := ⟨by decide, by decide, by decide, by decide⟩
theorem alt_succ (i : Nat) : alt (i + 1) = alt i ++ [((i % 2 : Nat) : Int)] := by
  unfold alt; rw [List.range_succ, List.map_append]; rfl
theorem alt_len (i : Nat) : (alt i).length = i := by unfold alt; simp
theorem freeL : ∀ i, i < 120 → brokenBy rsL (tl (wd rsL) (alt i)) ((i % 2 : Nat) : Int) = none := by decide +kernel
theorem freeN : ∀ i, i < 120 → brokenBy rsN (tl (wd rsN) (alt i)) ((i % 2 : Nat) : Int) = none := by decide +kernel
theorem endL : brokenBy rsL (tl (wd rsL) (alt 120)) 1 = none := by decide +kernel
theorem endN1 : brokenBy rsN (tl (wd rsN) (alt 120)) 1 = some (2, 0, 1) := by decide +kernel
theorem endN0 : brokenBy rsN (tl (wd rsN) (alt 120)) 0 = none := by decide +kernel
theorem canL : canLay rsL (tl (wd rsL) (alt 120)) = [0, 1] := by decide +kernel
theorem canN : canLay rsN (tl (wd rsN) (alt 120)) = [0] := by decide +kernel
theorem tlL : tl (wd rsL) (alt 120) = [1] := by decide +kernel
theorem fineL : Fine rsL (alt 120) := ⟨by decide +kernel, by rw [alt_len]; decide +kernel⟩
theorem ext_0 : ∀ n, ext rsL n [0] = true
  | 0 => rfl
  | n + 1 => by
    show (succs rsL [0]).any (ext rsL n) = true
    exact List.any_eq_true.mpr ⟨[0], by decide +kernel, ext_0 n⟩
theorem ext_1 : ∀ n, ext rsL n [1] = true
  | 0 => rfl
  | n + 1 => by
    show (succs rsL [1]).any (ext rsL n) = true
    exact List.any_eq_true.mpr ⟨[0], by decide +kernel, ext_0 n⟩
theorem goesL {v : V} (h : RankV rsL (tl (wd rsL) (alt 120)) v) : v = .non := by
  rw [tlL] at h
  rcases h with ⟨n, hn, _, _⟩ | ⟨_, e⟩
  · exact (hn.not_inf ext_1).elim
  · exact e
/-! #### making -/
section
variable {X : Cx} {C : Addr} {e : Expr} {te : TE} {x : Str} {p pos : Pos}
theorem pe_mkL (M : LaidM X.prog X.w X.K X.mg X.base C) (hr : Room 6 X.A) (hg : Gl X "Laid") (he : PE X e te)
    (h2 : starEach [e] X.env = (false, eval e X.env) :: starEach [] X.env := by rfl) :
    PE X (.Call (.Name "Laid" p) [e] [] pos) (tMake C (spLInit C) [] E0 (tCons te tNil)) := by
  obtain ⟨f, ⟨fd, ps, F, b⟩, Mk⟩ := M.made
  exact pe_make Mk F hr hg M.I.mgc b .nil pass0 (pa_cons he pa_nil (hs := h2)) (by decide) h2 rfl
theorem mk_read {H1 : Hp} {Q : VK} {rv : V} {rs : List Rule} (hR : RulesAt H1 rv rs) (ok : RulesOk rs) (h : ∀ a H2, H1 a = none → Same H1 H2 → LaidAt C H2 a rs [] → Q (.ref a) H2) :
    ∀ x dx, H1 x = none → H1 dx = none → dx ≠ x → spLInit C (.ref x :: ([rv] ++ [])) (upd (upd H1 dx (.own x)) x (.ins C dx [])) (fun v H2 => v = .non ∧ Q (.ref x) H2) E0 := by
  intro x dx hx hdx ne
  have s1 : Same H1 (upd H1 dx (.own x)) := Same.new hdx
  have hx1 : upd H1 dx (.own x) x = none := by rw [upd_ne (Ne.symm ne)]; exact hx
  have s2 := s1.trans (Same.new (o := .ins C dx []) hx1)
  refine ⟨x, dx, rv, rs, rfl, upd_same, RulesAt.mono (TS.of s2) hR, ok, fun H2 wr la => ⟨rfl, h x H2 hx (fun b o z => ?_) la⟩⟩
  have nb : b ≠ x := ne_of_none z hx
  exact wr.sm _ _ (by simpa using nb) (s2 _ _ z)
theorem mk_s {H1 : Hp} {x dx : Addr} (hx : H1 x = none) (hdx : H1 dx = none) (ne : dx ≠ x) : Same H1 (upd (upd H1 dx (.own x)) x (.ins C dx [])) := by
  have hx1 : upd H1 dx (.own x) x = none := by rw [upd_ne (Ne.symm ne)]; exact hx
  exact (Same.new hdx).trans (Same.new hx1)
theorem mk_same {H1 H2 : Hp} {x dx : Addr} (hx : H1 x = none) (hdx : H1 dx = none) (ne : dx ≠ x) (wr : Wr [x] (upd (upd H1 dx (.own x)) x (.ins C dx [])) H2) : Same H1 H2 := fun b o z =>
  wr.sm _ _ (by simpa using (ne_of_none z hx : b ≠ x)) (mk_s hx hdx ne _ _ z)
theorem mk_var {σ : L2.St} {i : Nat} {H1 : Hp} {Q : VK} {rv : V} {rs : List Rule} (hs : σ[i]? = some (some rv)) (hR : RulesAt H1 rv rs) (ok : RulesOk rs) (h : ∀ a H2, H1 a = none → Same H1 H2 → LaidAt C H2 a rs [] → Q (.ref a) H2) :
    tMake C (spLInit C) [] E0 (tCons (tVar i) tNil) σ H1 Q := ⟨rv, hs, mk_read hR ok h⟩
theorem mk_const {σ : L2.St} {H1 : Hp} {Q : VK} {i j k : Int} (ok : RulesOk [(i, j, k)]) (h : ∀ a H2, H1 a = none → Same H1 H2 → LaidAt C H2 a [(i, j, k)] [] → Q (.ref a) H2) :
    tMake C (spLInit C) [] E0 (tCons (tTup (tCons (tTup (tCons (tC (.int i)) (tCons (tC (.int j)) (tCons (tC (.int k)) tNil)))) tNil)) tNil) σ H1 Q := by
  refine ⟨sz (by show 3 ≤ 100000; decide), fun p hp => ⟨sz (by show 1 ≤ 100000; decide), fun q hq => ?_⟩⟩
  have s1 := Same.new (o := .tup [.int i, .int j, .int k]) hp
  have s2 := Same.new (o := .tup [.ref p]) hq
  have s12 := s1.trans s2
  have hR : RulesAt (upd (upd H1 p (.tup [.int i, .int j, .int k])) q (.tup [.ref p])) (.ref q) [(i, j, k)] := ⟨q, _, rfl, upd_same, .cons ⟨p, rfl, s2 _ _ upd_same⟩ .nil⟩
  refine mk_read hR ok fun a H2 na s la => h a H2 ?_ (s12.trans s) la
  cases e : H1 a with
  | none => rfl
  | some o => rw [s12 _ _ e] at na; cases na
theorem passN0 : Passes (L2N.CX X.prog X.w) X E0 := fun _ _ _ _ _ _ _ ⟨_, _, _, _, _, _, _, _, _, _, _, _, h⟩ => (show False from h).elim
end
end An
-- imports: LK0
/-! ### LK1: what stands while deeds are done -/
namespace An
open PySem PySem.Spec PyProof.Rows L2 LamX
theorem ExtN.wr {as : List Addr} {H1 H H' : Hp} (e : ExtN H1 H) (n : ∀ a ∈ as, H1 a = none) (w : ∀ b o, b ∉ as → H b = some o → (∀ ps, o ≠ .tbl ps) → H' b = some o) : ExtN H1 H' := fun b o h t =>
  w b o (fun m => by have := n b m; rw [this] at h; cases h) (e b o h t) t
structure LV (rv v : V) (p a b : Addr) (rs : List Rule) (C : Addr) (T : List (Addr × Str)) (H1 : Hp) (N : Int) (ua ub u : Row) (H' : Hp) : Prop where
  ext : ExtN H1 H'
  tab : Tabs T H'
  dk : DeckAt H' p N
  rr : RulesAt H' rv rs
  la : LaidAt C H' a rs ua
  lb : LaidAt C H' b rs ub
  row : TupI H' v u
  n1 : H1 p = none
  n2 : H1 a = none
  n3 : H1 b = none
  ne : a ≠ b
theorem LV.pa {rv v : V} {p a b : Addr} {rs : List Rule} {C : Addr} {T : List (Addr × Str)} {H1 H : Hp} {N : Int} {ua ub u : Row} (l : LV rv v p a b rs C T H1 N ua ub u H) : a ≠ p ∧ b ≠ p := by
  obtain ⟨d0, d1, d2, hd, _⟩ := l.dk
  obtain ⟨_, _, _, ha, _⟩ := l.la
  obtain ⟨_, _, _, hb, _⟩ := l.lb
  exact ⟨(fun z => by rw [z, hd] at ha; cases ha), (fun z => by rw [z, hd] at hb; cases hb)⟩
section
variable {rv v : V} {p a b : Addr} {rs : List Rule} {C : Addr} {T : List (Addr × Str)} {H1 H H' : Hp} {N N' : Int} {ua ub u : Row}
theorem DeckAt.lt (d : DeckAt H p N) (e : LTS H H') : DeckAt H' p N := let ⟨d0, d1, d2, hd, r⟩ := d; ⟨d0, d1, d2, e _ _ (.inl ⟨_, rfl⟩) hd, r⟩
theorem LV.same (l : LV rv v p a b rs C T H1 N ua ub u H) (s : Same H H') : LV rv v p a b rs C T H1 N ua ub u H' :=
  ⟨l.ext.trans (ExtN.of s), An.Tabs.same l.tab s, l.dk.lt (LTS.of s), RulesAt.mono (TS.of s) l.rr, l.la.mono s, l.lb.mono s, TupI.mono (TS.of s) l.row, l.n1, l.n2, l.n3, l.ne⟩
theorem LV.deck (l : LV rv v p a b rs C T H1 N ua ub u H) (s : SameX [p] H H') (t : TS H H') (d : DeckAt H' p N') : LV rv v p a b rs C T H1 N' ua ub u H' := by
  obtain ⟨h1, h2⟩ := l.pa
  obtain ⟨d0, d1, d2, hd, _⟩ := l.dk
  refine ⟨An.ExtN.wr l.ext (as := [p]) (by simpa using l.n1) (fun b o n h _ => s b o n h), An.Tabs.x l.tab (fun ps z => by rw [hd] at z; cases z) (fun c q => code_notL hd) s, d, RulesAt.mono t l.rr, ?_, ?_, TupI.mono t l.row, l.n1, l.n2, l.n3, l.ne⟩
  · obtain ⟨dx, r', q', e, e1, e2⟩ := l.la
    exact ⟨dx, r', q', s _ _ (by simpa using h1) e, RulesAt.mono t e1, TupI.mono t e2⟩
  · obtain ⟨dx, r', q', e, e1, e2⟩ := l.lb
    exact ⟨dx, r', q', s _ _ (by simpa using h2) e, RulesAt.mono t e1, TupI.mono t e2⟩
theorem LV.doA {ua' : Row} (l : LV rv v p a b rs C T H1 N ua ub u H) (w : WrN [a] H H') (t : Tabs T H') (la : LaidAt C H' a rs ua') : LV rv v p a b rs C T H1 N ua' ub u H' :=
  ⟨An.ExtN.wr l.ext (as := [a]) (by simpa using l.n2) w.sm, t, l.dk.lt w.lt, RulesAt.mono w.ts l.rr, la, l.lb.farN (by simpa using l.ne.symm) w, TupI.mono w.ts l.row, l.n1, l.n2, l.n3, l.ne⟩
theorem LV.doB {ub' : Row} (l : LV rv v p a b rs C T H1 N ua ub u H) (w : WrN [b] H H') (t : Tabs T H') (lb : LaidAt C H' b rs ub') : LV rv v p a b rs C T H1 N ua ub' u H' :=
  ⟨An.ExtN.wr l.ext (as := [b]) (by simpa using l.n3) w.sm, t, l.dk.lt w.lt, RulesAt.mono w.ts l.rr, l.la.farN (by simpa using l.ne) w, lb, TupI.mono w.ts l.row, l.n1, l.n2, l.n3, l.ne⟩
theorem LV.setRow {v' : V} {u' : Row} (l : LV rv v p a b rs C T H1 N ua ub u H) (h : TupI H v' u') : LV rv v' p a b rs C T H1 N ua ub u' H :=
  ⟨l.ext, l.tab, l.dk, l.rr, l.la, l.lb, h, l.n1, l.n2, l.n3, l.ne⟩
end
theorem ifx_join {c : Bool} {ta tb : TE} {σ : L2.St} {H : Hp} {Q : VK} (J : V → Hp → Prop) (hk : ∀ v H', J v H' → Q v H') (h1 : c = true → ∀ Q : VK, (∀ v H', J v H' → Q v H') → ta σ H Q) (h2 : c = false → ∀ Q : VK, (∀ v H', J v H' → Q v H') → tb σ H Q) : if c = true then ta σ H Q else tb σ H Q := by
  cases c with
  | true => exact iteT (h1 rfl Q hk)
  | false => exact iteF (h2 rfl Q hk)
theorem take_ok : SeqAt.shaped (.str "take") = true := by decide +kernel
section
variable {P : Program} {w : World} {K : PySem.W.Frag} {mg : Str → Option Value} {base : Heap}
theorem funT_ok {x : Str} {st : Stmt} {N ps : List Str} {k : Nat} {sp : Sp} {f c : Addr} {fd : FuncData} (F : FunD K x x (defArgs st) (defBody st) (defScope st) [] [] f fd) (hc : fd.code = .ref c) (S : FnScope N ps (defScope st)) (len : ∀ vs H Q E, sp vs H Q E → vs.length = ps.length)
    (hbody : ∀ (A : Around) (outer : List Env) (s : Shared) (H : Hp) (vs : List V) (Q : VK) (E : XK), Room k (A.deeper (envOfC x (defScope st) s.heap.objs.size f (.ref c))) → sp vs H Q E →
      ∃ t, PSs (cxOf CX0 P w K mg base N x (defScope st) f (.ref c) A outer s H E).nox (defBody st) t ∧ t { nx := fun _ H' => Q .non H', rt := Q } (start N vs) H) : FnOk P w K mg base CX0 (k + 1) f fd ps sp := by
  obtain ⟨oc, od, dV, kV, doc, pm, an, cdv, ct, osl, rfl, lk, hcd, _, _⟩ := F.ex
  have hc : cdv = .ref c := hc
  subst hc
  exact fn_of lk hcd S len fun A outer s H vs Q E hr h => let ⟨t, h1, h2⟩ := hbody A outer s H vs Q E hr h; ⟨t, h1.nox, h2⟩
end
end An
-- imports: LK1
/-! ### LK2: the long rows' steps -/
namespace An
open PySem PySem.Spec PyProof.Rows L2 LamX
section
variable {C : Addr} {cn : Str → Addr} {T : List (Addr × Str)}
theorem mkc {H1 : Hp} {i j k : Int} {p q : Addr} (hp : H1 p = none) (hq : upd H1 p (.tup [.int i, .int j, .int k]) q = none) :
    Same H1 (upd (upd H1 p (.tup [.int i, .int j, .int k])) q (.tup [.ref p])) ∧ RulesAt (upd (upd H1 p (.tup [.int i, .int j, .int k])) q (.tup [.ref p])) (.ref q) [(i, j, k)] := by
  have s1 := Same.new (o := .tup [.int i, .int j, .int k]) hp
  have s2 := Same.new (o := .tup [.ref p]) hq
  exact ⟨s1.trans s2, q, _, rfl, upd_same, .cons ⟨p, rfl, s2 _ _ upd_same⟩ .nil⟩
/-- one place more -/
theorem lay_read {H : Hp} {a : Addr} {rs : List Rule} {i : Nat} {Q : VK} (ok : RulesOk rs) (la : LaidAt C H a rs (alt i)) (hi : i < 120) (hf : brokenBy rs (tl (wd rs) (alt i)) ((i % 2 : Nat) : Int) = none)
    (h : ∀ H', Wr [a] H H' → LaidAt C H' a rs (alt (i + 1)) → Q .non H') : spLLay C cn [.ref a, .int ((0 + (i : Int)) % 2)] H Q E0 := by
  have e : (0 + (i : Int)) % 2 = ((i % 2 : Nat) : Int) := by omega
  rw [e]
  have h01 : ((i % 2 : Nat) : Int) = 0 ∨ ((i % 2 : Nat) : Int) = 1 := by omega
  refine ⟨a, _, _, rs, alt i, rfl, la, ok, by rw [alt_len]; omega, .int _, fun hn => ?_, fun p hp _ => ?_⟩
  · have : isFrom (.int ((i % 2 : Nat) : Int)) 0 1 = true := by rcases h01 with z | z <;> rw [z] <;> rfl
    rw [this] at hn; cases hn
  · cases hp
    rw [hf]
    refine ⟨fun z => by rw [alt_len] at z; omega, fun _ H' wr la' => h H' wr ?_⟩
    rw [alt_succ]; exact la'
/-- lay(p) of a full row, tried -/
theorem lam_read {H : Hp} {σ : L2.St} {a : Addr} {rs : List Rule} {u : Row} {i : Nat} {p : Int} {Q : VK} (hs : σ[i]? = some (some (.ref a))) (ok : RulesOk rs) (la : LaidAt C H a rs u) (hl : u.length = 120) (hp : p = 0 ∨ p = 1) (tb : Tabs T H)
    (h : ∀ v H', Tabs T H' → LaidAt C H' a rs u → DueV H' v (dueOf rs u (.int p)) → Q v H') :
    tLam T (fun tl H Q => MonoT tl ∧ TTry cn tl H Q) (fun E2 => tMeth C "lay" (spLLay C cn) [] E2 (tVar i) (tCons (tC (.int p)) tNil)) σ H Q := by
  refine ⟨tb, fun H1 eN T1 => ⟨mono_meth i rfl mono_lay (fun _ _ _ h q => h _ _ q), ?_⟩⟩
  have LA1 : LaidAt C H1 a rs u := la.farN List.not_mem_nil (WrN.ext eN)
  obtain ⟨dx, rv, pw, ha, hR, hTT⟩ := id LA1
  have e : dueOf rs u (.int p) = match brokenBy rs (tl (wd rs) u) p with
      | some r => .brk r
      | none => if u.length = 120 then .ref "Full" else .ok (u ++ [p]) := by
    unfold dueOf
    rw [if_neg (fun z => nomatch z)]
    exact if_pos hp
  refine ⟨_, hs, a, dx, _, rfl, ha, rfl, a, .int p, _, rs, u, rfl, LA1, ok, by omega, .int _, fun hn => ?_, fun p' hxp _ => ?_⟩
  · have : isFrom (.int p) 0 1 = true := by rcases hp with z | z <;> rw [z] <;> rfl
    rw [this] at hn; cases hn
  · cases hxp
    cases hb : brokenBy rs (tl (wd rs) u) p with
    | some r =>
      rw [hb] at e
      have e : dueOf rs u (.int p) = .brk r := e
      intro dd' rv' H2 s2 h2 hr2
      refine ⟨"Breaks", by decide, rfl, .inl ⟨rfl, dd', _, rv', rfl, h2, rfl, fun q H3 s3 h3 => ?_⟩⟩
      have s23 := s2.trans s3
      refine h _ _ (An.Tabs.same T1 s23) (LA1.mono s23) ?_
      rw [e]; exact ⟨q, rv', rfl, h3, TupI.mono (TS.of s3) hr2⟩
    | none =>
      rw [hb] at e
      have e : dueOf rs u (.int p) = if u.length = 120 then .ref "Full" else .ok (u ++ [p]) := e
      rw [if_pos hl] at e
      refine ⟨fun h120 H2 s2 => ?_, fun hlt => absurd hl (by omega)⟩
      refine ⟨"Full", by decide, rfl, .inr ⟨by decide, rfl, fun H3 s3 => ?_⟩⟩
      have s23 := s2.trans s3
      refine h _ _ (An.Tabs.same T1 s23) (LA1.mono s23) ?_
      rw [e]; exact rfl
end
theorem dueL : dueOf rsL (alt 120) (.int 1) = .ref "Full" := by
  unfold dueOf
  rw [if_neg (fun z => nomatch z)]
  show (if (1 : Int) = 0 ∨ (1 : Int) = 1 then (match brokenBy rsL (tl (wd rsL) (alt 120)) 1 with
        | some r => Due.brk r
        | none => if (alt 120).length = 120 then .ref "Full" else .ok (alt 120 ++ [1])) else .ref "NoPlace") = _
  rw [if_pos (by decide), endL]
  exact if_pos (alt_len 120)
theorem dueN1 : dueOf rsN (alt 120) (.int 1) = .brk (2, 0, 1) := by
  unfold dueOf
  rw [if_neg (fun z => nomatch z)]
  show (if (1 : Int) = 0 ∨ (1 : Int) = 1 then (match brokenBy rsN (tl (wd rsN) (alt 120)) 1 with
        | some r => Due.brk r
        | none => if (alt 120).length = 120 then .ref "Full" else .ok (alt 120 ++ [1])) else .ref "NoPlace") = _
  rw [if_pos (by decide), endN1]
theorem dueN0 : dueOf rsN (alt 120) (.int 0) = .ref "Full" := by
  unfold dueOf
  rw [if_neg (fun z => nomatch z)]
  show (if (0 : Int) = 0 ∨ (0 : Int) = 1 then (match brokenBy rsN (tl (wd rsN) (alt 120)) 0 with
        | some r => Due.brk r
        | none => if (alt 120).length = 120 then .ref "Full" else .ok (alt 120 ++ [0])) else .ref "NoPlace") = _
  rw [if_pos (by decide), endN0]
  exact if_pos (alt_len 120)
theorem full_eq : dueD (.ref "Full") = .str "Full+" := by show PyData.str _ = PyData.str _; congr 1
theorem brk_eq : dueD (.brk (2, 0, 1)) = .list [.str "Breaks+", rowD [2, 0, 1]] := by
  show PyData.list [.str (kinOf "Breaks"), rowD [2, 0, 1]] = _
  have : kinOf "Breaks" = ("Breaks+" : Str) := by decide +kernel
  rw [this]
theorem full_ok : SeqAt.shaped (.str "Full+") = true := by decide +kernel
theorem full_refl : PyData.eqv (.str "Full+") (.str "Full+") = true := by decide +kernel
theorem brk_ok : SeqAt.shaped (.list [.str "Breaks+", rowD [2, 0, 1]]) = true := by decide +kernel
theorem brk_refl : PyData.eqv (.list [.str "Breaks+", rowD [2, 0, 1]]) (.list [.str "Breaks+", rowD [2, 0, 1]]) = true := by decide +kernel
theorem l01_ok : SeqAt.shaped (.list [.int 0, .int 1]) = true := by decide +kernel
theorem l01_refl : PyData.eqv (.list [.int 0, .int 1]) (.list [.int 0, .int 1]) = true := by decide +kernel
theorem l0_ok : SeqAt.shaped (.list [.int 0]) = true := by decide +kernel
theorem l0_refl : PyData.eqv (.list [.int 0]) (.list [.int 0]) = true := by decide +kernel
end An
-- imports: LK2
/-! ### LK: the law -/
namespace An
open PySem PySem.Spec PyProof.Rows L2 LamX
section
variable {P : Program} {w : World} {K : PySem.W.Frag} {mg : Str → Option Value} {base : Heap} {C : Addr} {cn : Str → Addr}
def N_law : List Str := ["script", "cell", "deck", "rules", "laid", "other", "row", "turn", "deed", "due", "long_so", "narrow"]
theorem sc_law : FnScope N_law ["script"] (defScope S_law) := ⟨rfl, rfl, rfl, by decide +kernel, rfl, by decide +kernel, by decide +kernel⟩
def spLaw (K : PySem.W.Frag) (T : List (Addr × Str)) : Sp := fun vs H Q _ => ∃ (a : Addr) (ns : List Int), vs = [.ref a] ∧ SqL K H a (ns.map V.int) ∧ ns.length ≤ 63 ∧ Tabs T H ∧ ∀ H', Q (.bl true) H'
def PvCell (sv : V) (T : List (Addr × Str)) (H : Hp) (σ : L2.St) (H' : Hp) : Prop := ∃ x1 x2 x3 x4 x5 x6 x7 x8 x9 x10 x11, σ = [some sv, x1, x2, x3, x4, x5, x6, x7, x8, x9, x10, x11] ∧ ExtN H H' ∧ Tabs T H'
def PvTurn (sv cv rv : V) (p a b : Addr) (rs : List Rule) (C : Addr) (T : List (Addr × Str)) (H1 : Hp) (x10 x11 : Option V) (i : Nat) (σ : L2.St) (H' : Hp) : Prop :=
  ∃ v u x7 x8 x9, σ = [some sv, some cv, some (.ref p), some rv, some (.ref a), some (.ref b), some v, x7, x8, x9, x10, x11] ∧ LV rv v p a b rs C T H1 (51 + 2 * i) u u u H' ∧ Fine rs u ∧ u.length ≤ 120
def PvLay (sv : V) (C : Addr) (T : List (Addr × Str)) (a : Addr) (rs : List Rule) (j : Nat) (keep : Hp → Prop) (i : Nat) (σ : L2.St) (H' : Hp) : Prop :=
  ∃ x1 x2 x3 x4 x5 x6 x7 x8 x9 x10 x11, σ = [some sv, x1, x2, x3, x4, x5, x6, x7, x8, x9, x10, x11] ∧ σ[j]? = some (some (.ref a)) ∧ LaidAt C H' a rs (alt i) ∧ Tabs T H'
theorem ok_law {f0 : Addr} {fd0 : FuncData} {c Pt : Addr} {T : List (Addr × Str)} (F0 : FunD K "law" "law" (defArgs S_law) (defBody S_law) (defScope S_law) [] [] f0 fd0) (hc0 : fd0.code = .ref c) (TB : TabB base mg c Pt) (hmT : (Pt, qLam "law") ∈ T) (hu9 : ∀ p ∈ T, p.1 = Pt → p.2 = qLam "law")
    (bf : Bf mg) (M : LaidM P w K mg base C) (TC : TryC P w K mg base cn) (CLay : ClM (L2N.CX P w) P w K mg base C 3 "lay" (spLLay C cn)) (C_law_deck : Cl P w K mg base 1 "_law_deck" spDeck) (C_law_one : Cl P w K mg base 2 "_law_one" spOne)
    (C_law_rules : Cl P w K mg base 3 "_law_rules" spRulesL) (C_law_odd : Cl P w K mg base 3 "_law_odd" spOdd) (C_law_due : Cl P w K mg base 2 "_law_due" spDue) (C_law_do : Cl P w K mg base 8 "_law_do" (spDo C T)) (C_law_right : Cl P w K mg base 7 "_law_right" (spRight C)) :
    FnOk P w K mg base CX0 9 f0 fd0 ["script"] (spLaw K T) := by
  refine funT_ok F0 hc0 sc_law (fun vs H Q E h => ?_) (fun A outer s H vs Q E hr h => ?_)
  · obtain ⟨a, ns, rfl, _⟩ := h; rfl
  · obtain ⟨sa, ns, rfl, hS, hn, hT, k⟩ := h
    have nd := sc_law.nd
    have L := M.L
    have CCan := M.can
    have CGoes := M.goes
    obtain ⟨fQ, ⟨fdQ, psQ, FEq, bEq⟩, hsEq, hfEq⟩ := M.eq
    have hr_law_deck := hr.mono (show 1 ≤ 8 by decide)
    have hr_law_one := hr.mono (show 2 ≤ 8 by decide)
    have hr_law_rules := hr.mono (show 3 ≤ 8 by decide)
    have hr_law_odd := hr.mono (show 3 ≤ 8 by decide)
    have hr_law_due := hr.mono (show 2 ≤ 8 by decide)
    have hr_law_do := hr
    have hr_law_right := hr.mono (show 7 ≤ 8 by decide)
    have hr_mk := hr.mono (show 6 ≤ 8 by decide)
    have hr_eq := hr.mono (show 1 ≤ 8 by decide)
    have hr_ne := hr.mono (show 1 + 1 ≤ 8 by decide)
    have hr_lay := hr.mono (show 3 ≤ 8 by decide)
    have hr_try := hr.mono (show 5 + 2 ≤ 8 by decide)
    have hr_goes := hr.mono (show 5 ≤ 8 by decide)
    have hr_can := hr.mono (show 3 ≤ 8 by decide)
    let Y : Cx := (cxOf CX0 P w K mg base N_law "law" (defScope S_law) f0 (.ref c) A outer s H E).nox
    refine ⟨_, (pss_cons (ps_for PassesOwn.never rfl (pi_list (pe_slice sl_list (pe_op op_catS (pe_lst (pa_cons pe_int pa_nil)) (pv 0)) po_none (po_some pe_int))) (pg_name (i := 1) nd rfl (Or.inl rfl))
    (pss_cons (ps_set (i := 2) nd rfl (Or.inl rfl) (pe_callC C_law_deck hr_law_deck rfl (pa_cons (pv 1) (pa_cons pe_int pa_nil))))
    (pss_cons (ps_set (i := 3) nd rfl (Or.inl rfl) (pe_callC C_law_rules hr_law_rules rfl (pa_cons (pv 2) (pa_cons pe_int (pa_cons pe_int pa_nil)))))
    (pss_cons (ps_par3 (i := 4) (j := 5) (l := 6) rfl nd rfl rfl rfl (by decide) (by decide) (by decide) rfl rfl rfl (pa_cons (pe_mkL M hr_mk rfl (pv 3)) (pa_cons (pe_mkL M hr_mk rfl (pv 3)) (pa_cons (pe_tup pa_nil) pa_nil))) (by rfl))
    (pss_one (ps_for PassesOwn.never rfl (pi_range1 rfl bf.range (pa_cons pe_int pa_nil)) (pg_name (i := 7) nd rfl (Or.inl rfl))
    (pss_cons (ps_set (i := 8) nd rfl (Or.inl rfl) (pe_callC C_law_one hr_law_one rfl (pa_cons (pv 2) (pa_cons (pe_lst (pa_cons pe_int (pa_cons pe_int (pa_cons pe_int (pa_cons pe_int (pa_cons pe_int (pa_cons pe_int (pa_cons pe_str (pa_cons pe_non (pa_cons pe_bl (pa_cons pe_int (pa_cons (pe_callC C_law_odd hr_law_odd rfl (pa_cons (pv 2) pa_nil)) pa_nil)))))))))))) pa_nil))))
    (pss_cons (ps_set (i := 9) nd rfl (Or.inl rfl) (pe_callC C_law_due hr_law_due rfl (pa_cons (pv 3) (pa_cons (pv 6) (pa_cons (pv 8) pa_nil)))))
    (pss_cons (ps_if (pt_cmpR (op_neD hr.units) (pe_callC C_law_do hr_law_do rfl (pa_cons (pv 4) (pa_cons (pv 8) pa_nil))) (pv 9) (nomark _))
    (pss_one (ps_ret pe_bl))
    pss_nil)
    (pss_cons (ps_if (pt_cmpR (op_eqD hr.units) (pv 9) pe_str (nomark _))
    (pss_cons (ps_set (i := 6) nd rfl (Or.inl rfl) (pe_ifExp (pt_cmpR (op_eqD hr.units) (pv 8) pe_str (nomark _)) (pe_slice sl_tupA (pv 6) po_none (po_some (pe_un un_neg pe_int))) (pe_op op_catA (pv 6) (pe_tup (pa_cons (pv 8) pa_nil)))))
    (pss_cons (ps_if (pt_cmpR (op_eqO FEq hsEq hfEq bEq hr_eq) (pv 4) (pv 5) (nomark _))
    (pss_one (ps_ret pe_bl))
    pss_nil)
    (pss_one (ps_expr (pe_callC C_law_do hr_law_do rfl (pa_cons (pv 5) (pa_cons (pv 8) pa_nil)))))))
    pss_nil)
    (pss_one (ps_if (PW.pt (pw_or (pt_not (pt_cmpR (op_eqO FEq hsEq hfEq bEq hr_eq) (pv 4) (pv 5) (nomark _))) (pw_or (pt_cmpR (op_eqO FEq hsEq hfEq bEq hr_eq) (pv 4) (pv 6) (nomark _)) (pw_or1 (pt_not (pt_val (pe_callC C_law_right hr_law_right rfl (pa_cons (pv 4) (pa_cons (pv 3) (pa_cons (pv 6) pa_nil))))))))))
    (pss_one (ps_ret pe_bl))
    pss_nil))))))))))))
    (pss_cons (ps_set (i := 10) nd rfl (Or.inr rfl) (pe_mkL M hr_mk rfl (pe_tup (pa_cons (pe_tup (pa_cons pe_int (pa_cons pe_int (pa_cons pe_int pa_nil)))) pa_nil))))
    (pss_cons (ps_for PassesOwn.never rfl (pi_range1 rfl bf.range (pa_cons pe_int pa_nil)) (pg_name (i := 7) nd rfl (Or.inl rfl))
    (pss_one (ps_expr (pe_methC CLay L.cls hr_lay passN0 (pv 10) (pa_cons (pe_op op_mod (pv 7) pe_int) pa_nil)))))
    (pss_cons (ps_if (PW.pt (pw_or (pt_cmpR (op_neD hr.units) (pe_try (X := Y) (cn := cn) (k := 5) (T := T) (c := c) (Pt := Pt) TC rfl (by decide) TB rfl hmT hu9 hr_try (lamS_by (sc := defScope S_law) (by decide +kernel)) rfl (fun _ _ _ _ _ => rfl) (fun A2 outer2 s2 H2 E2 f2 c2 hr2 => pe_methC (X := lamCxN Y A2 outer2 s2 H2 E2 _ f2 c2) CLay L.cls (hr2.mono (by decide)) (L2N.passes_call (L2N.takes_of rfl rfl rfl rfl) (fun _ _ _ _ h => h)) (pv (X := lamCxN Y A2 outer2 s2 H2 E2 _ f2 c2) 10) (pa_cons pe_int pa_nil))) pe_str (nomark _)) (pw_or1 (pt_cmpR op_notN (pe_methC0 CGoes L.cls hr_goes pass0 (pv 10)) pe_non (nomark _)))))
    (pss_one (ps_ret pe_bl))
    pss_nil)
    (pss_cons (ps_if (pt_cmpR (op_neD hr.units) (pe_methC0 CCan L.cls hr_can pass0 (pv 10)) (pe_lst (pa_cons pe_int (pa_cons pe_int pa_nil))) (nomark _))
    (pss_one (ps_ret pe_bl))
    pss_nil)
    (pss_cons (ps_set (i := 11) nd rfl (Or.inr rfl) (pe_mkL M hr_mk rfl (pe_tup (pa_cons (pe_tup (pa_cons pe_int (pa_cons pe_int (pa_cons pe_int pa_nil)))) pa_nil))))
    (pss_cons (ps_for PassesOwn.never rfl (pi_range1 rfl bf.range (pa_cons pe_int pa_nil)) (pg_name (i := 7) nd rfl (Or.inl rfl))
    (pss_one (ps_expr (pe_methC CLay L.cls hr_lay passN0 (pv 11) (pa_cons (pe_op op_mod (pv 7) pe_int) pa_nil)))))
    (pss_cons (ps_if (pt_cmpR (op_neD hr.units) (pe_try (X := Y) (cn := cn) (k := 5) (T := T) (c := c) (Pt := Pt) TC rfl (by decide) TB rfl hmT hu9 hr_try (lamS_by (sc := defScope S_law) (by decide +kernel)) rfl (fun _ _ _ _ _ => rfl) (fun A2 outer2 s2 H2 E2 f2 c2 hr2 => pe_methC (X := lamCxN Y A2 outer2 s2 H2 E2 _ f2 c2) CLay L.cls (hr2.mono (by decide)) (L2N.passes_call (L2N.takes_of rfl rfl rfl rfl) (fun _ _ _ _ h => h)) (pv (X := lamCxN Y A2 outer2 s2 H2 E2 _ f2 c2) 11) (pa_cons pe_int pa_nil))) (pe_lst (pa_cons pe_str (pa_cons (pe_tup (pa_cons pe_int (pa_cons pe_int (pa_cons pe_int pa_nil)))) pa_nil))) (nomark _))
    (pss_one (ps_ret pe_bl))
    pss_nil)
    (pss_cons (ps_if (PW.pt (pw_or (pt_cmpR (op_neD hr.units) (pe_try (X := Y) (cn := cn) (k := 5) (T := T) (c := c) (Pt := Pt) TC rfl (by decide) TB rfl hmT hu9 hr_try (lamS_by (sc := defScope S_law) (by decide +kernel)) rfl (fun _ _ _ _ _ => rfl) (fun A2 outer2 s2 H2 E2 f2 c2 hr2 => pe_methC (X := lamCxN Y A2 outer2 s2 H2 E2 _ f2 c2) CLay L.cls (hr2.mono (by decide)) (L2N.passes_call (L2N.takes_of rfl rfl rfl rfl) (fun _ _ _ _ h => h)) (pv (X := lamCxN Y A2 outer2 s2 H2 E2 _ f2 c2) 11) (pa_cons pe_int pa_nil))) pe_str (nomark _)) (pw_or1 (pt_cmpR (op_neD hr.units) (pe_methC0 CCan L.cls hr_can pass0 (pv 11)) (pe_lst (pa_cons pe_int pa_nil)) (nomark _)))))
    (pss_one (ps_ret pe_bl))
    pss_nil)
    (pss_one (ps_ret (pe_cmpR (op_neO FEq hsEq M.ne M.I.hm hfEq bEq hr_ne) (pe_mkL M hr_mk rfl (pe_tup (pa_cons (pe_tup (pa_cons pe_int (pa_cons pe_int (pa_cons pe_int pa_nil)))) pa_nil))) (pe_mkL M hr_mk rfl (pe_tup (pa_cons (pe_tup (pa_cons pe_int (pa_cons pe_int (pa_cons pe_int pa_nil)))) pa_nil))) (nomark _))))))))))))), ?_⟩
    refine ⟨sz (by show 1 ≤ 100000; decide), fun c0 hc0 => ⟨_, rfl, c0, sa, [.int 0], ns.map V.int, rfl, rfl, SqL.of upd_same, SqL_same hS (Same.new hc0), sz (by rw [List.length_map, List.length_singleton]; omega), fun c1 hc1 => ?_⟩⟩
    refine ⟨_, rfl, sll_to (H := upd (upd H c0 (.lst [.int 0])) c1 (.lst ([.int 0] ++ ns.map V.int))) (j := 6) (SqL.of upd_same) fun L0 hL0 => ?_⟩
    have isI : ∀ x ∈ (([.int 0] : List V) ++ ns.map V.int).take 6, ∃ c : Int, x = .int c := fun x hx => by
      rcases List.mem_append.mp (List.mem_of_mem_take hx) with z | z
      · exact ⟨0, List.mem_singleton.mp z⟩
      · obtain ⟨c, _, e⟩ := List.mem_map.mp z; exact ⟨c, e.symm⟩
    generalize hxs : (([.int 0] : List V) ++ ns.map V.int).take 6 = xs at *
    have sG : Same H (upd (upd (upd H c0 (.lst [.int 0])) c1 (.lst ([.int 0] ++ ns.map V.int))) L0 (.lst xs)) := ((Same.new hc0).trans (Same.new hc1)).trans (Same.new hL0)
    generalize hG : upd (upd (upd H c0 (.lst [.int 0])) c1 (.lst ([.int 0] ++ ns.map V.int))) L0 (.lst xs) = G at *
    have gL : G L0 = some (.lst xs) := by rw [← hG]; exact upd_same
    have keepL : ∀ {H'}, ExtN G H' → SqL K H' L0 xs := fun e => SqL.of (e _ _ gL (fun ps z => nomatch z))
    refine ⟨L0, rfl, ⟨_, SqL.of gL⟩, for_list (xs := xs) (fun _ => PvCell (.ref sa) T G) ⟨_, _, _, _, _, _, _, _, _, _, _, rfl, ExtN.refl G, An.Tabs.same hT sG⟩ (fun i σ H' _ ⟨_, _, _, _, _, _, _, _, _, _, _, _, e, _⟩ => keepL e) ?_ ?_⟩
    · rintro i x σ H1 hi ⟨x1, x2, x3, x4, x5, x6, x7, x8, x9, x10, x11, rfl, eG, tG⟩
      obtain ⟨cc, rfl⟩ := isI x (List.mem_of_getElem? hi)
      refine ⟨_, rfl, cc, 11, rfl, by decide, fun p H2 s2 np hd => ?_⟩
      refine ⟨_, rfl, p, 6, 9, 11, rfl, by decide, by decide, by decide, by decide, by decide, hd, fun rv H3 rs sx3 ts3 hd3 hR ok _ _ => ?_⟩
      have e3 : ExtN H1 H3 := An.ExtN.wr (ExtN.of s2) (as := [p]) (by simpa using np) (fun b o n h _ => sx3 b o n h)
      obtain ⟨dd0, dd1, dd2, hdl, _⟩ := id hd
      have t3 : Tabs T H3 := An.Tabs.x (An.Tabs.same tG s2) (fun ps z => by rw [hdl] at z; cases z) (fun c q => code_notL hdl) sx3
      refine ⟨_, rfl, fun a dxa ha0 hda0 nea => ⟨a, dxa, rv, rs, rfl, upd_same, RulesAt.mono (TS.of (mk_s ha0 hda0 nea)) hR, ok, fun H4 wra la => ⟨rfl, ?_⟩⟩⟩
      have s4 := mk_same ha0 hda0 nea wra
      refine ⟨_, rfl, fun b dxb hb0 hdb0 neb => ⟨b, dxb, rv, rs, rfl, upd_same, RulesAt.mono (TS.of (s4.trans (mk_s hb0 hdb0 neb))) hR, ok, fun H5 wrb lb => ⟨rfl, ?_⟩⟩⟩
      have s5 := mk_same hb0 hdb0 neb wrb
      refine ⟨sz (by show 0 ≤ 100000; decide), fun q hq => ?_⟩
      have s6 := Same.new (o := .tup []) hq
      have g13 : ∀ {z : Addr}, H3 z = none → H1 z = none := fun {z} h => by
        by_cases e : z = p
        · rw [e]; exact np
        · cases e2 : H1 z with
          | none => rfl
          | some o => rw [sx3 _ _ (by simpa using e) (s2 _ _ e2)] at h; cases h
      have gS : ∀ {z : Addr} {A B : Hp}, Same A B → B z = none → A z = none := fun {z A B} s h => by
        cases e2 : A z with
        | none => rfl
        | some o => rw [s _ _ e2] at h; cases h
      have s56 := s5.trans s6
      have s46 := s4.trans s56
      have neab : a ≠ b := fun z => by
        obtain ⟨_, _, _, e, _⟩ := la
        rw [z, hb0] at e; cases e
      have lv : LV rv (.ref q) p a b rs C T H1 51 [] [] [] (upd H5 q (.tup [])) :=
        ⟨e3.trans (ExtN.of s46), An.Tabs.same t3 s46, hd3.lt (LTS.of s46), RulesAt.mono (TS.of s46) hR, la.mono s56, lb.mono s6, ⟨q, rfl, upd_same⟩, np, g13 ha0, g13 (gS s4 hb0), neab⟩
      refine ⟨_, _, _, rfl, ?_⟩
      dsimp only [List.set_cons_succ, List.set_cons_zero]
      refine ⟨(60 : Int), rfl, by decide, by decide, for_range (PvTurn (.ref sa) (.int cc) rv p a b rs C T H1 x10 x11) ⟨_, _, _, _, _, rfl, lv, .nil, by decide⟩ ?_ ?_⟩
      · rintro i σ H6 hi ⟨v, u, x7, x8, x9, rfl, lv, fine, hl⟩
        have hi60 : i < 60 := by omega
        refine ⟨_, rfl, _, rfl, p, _, rfl, by omega, lv.dk, fun xo H7 sx7 ts7 dk7 dvo no7 => ?_⟩
        have lv7 := lv.deck sx7 ts7 dk7
        refine ⟨sz (by show 11 ≤ 100000; decide), fun M0 hM0 => ?_⟩
        have s8 := Same.new (o := .lst [.int 0, .int 1, .int 0, .int 1, .int 0, .int 1, .str "take", .non, .bl true, .int 2, xo]) hM0
        have lv8 := lv7.same s8
        have nM : p ≠ M0 := fun z => by
          obtain ⟨_, _, _, e, _⟩ := lv7.dk
          rw [z, hM0] at e; cases e
        refine ⟨p, M0, _, _, rfl, nM, upd_same, by simp, by show 11 < 1000; decide, by omega, lv8.dk, fun x H9 hx sx9 ts9 dk9 => ?_⟩
        have lv9 := lv8.deck sx9 ts9 dk9
        have dv9 : DeedV H9 x := by
          simp only [List.mem_cons, List.not_mem_nil, or_false] at hx
          rcases hx with rfl | rfl | rfl | rfl | rfl | rfl | rfl | rfl | rfl | rfl | rfl
          · exact .int _
          · exact .int _
          · exact .int _
          · exact .int _
          · exact .int _
          · exact .int _
          · exact .str (by decide +kernel)
          · exact .non
          · exact .bl _
          · exact .int _
          · exact (dvo.mono (LTS.of s8)).monoX sx9 ts9 no7
        dsimp only [List.set_cons_succ, List.set_cons_zero]
        refine ⟨_, rfl, _, rfl, _, rfl, rv, v, x, rs, u, rfl, lv9.rr, ok, lv9.row, hl, dv9, fun d H10 s10 dd10 => ?_⟩
        have lv10 := lv9.same s10
        have dv10 := dv9.mono (LTS.of s10)
        dsimp only [List.set_cons_succ, List.set_cons_zero]
        have hwf : (dueOf rs u x).wf := dueOf_wf
        refine ⟨_, rfl, _, rfl, a, x, rs, u, rfl, lv10.la, ok, hl, dv10, lv10.tab, fun d2 H11 w11 t11 la11 dd11 => ?_⟩
        have lv11 := lv10.doA w11 t11 la11
        have dd11' := dd10.mono w11.lt
        have dv11 := dv10.mono w11.lt
        refine ⟨_, rfl, dueD (dueOf rs u x), dueD (dueOf rs u x), dd11.dp, dd11'.dp, dueD_shaped hwf, dueD_shaped hwf, _, rfl, ?_⟩
        rw [dueD_refl hwf]
        refine iteF ?_
        refine ⟨_, rfl, dueD (dueOf rs u x), .str "", dd11'.dp, .str _, dueD_shaped hwf, empty_ok, _, rfl, ?_⟩
        rw [dueD_good hwf]
        refine if_join (fun σ H' => ∃ v' u' y7 y8 y9, σ = [some (.ref sa), some (.int cc), some (.ref p), some rv, some (.ref a), some (.ref b), some v', y7, y8, y9, x10, x11] ∧ LV rv v' p a b rs C T H1 (51 + 2 * (i : Int) + 1 + 1) u' u' u' H' ∧ Fine rs u' ∧ u'.length ≤ 120) ?_ ?_ ?_
        · rintro σ H12 ⟨v', u', y7, y8, y9, rfl, lv12, fine', hl'⟩
          obtain ⟨dxa, _, _, haa, _⟩ := id lv12.la
          obtain ⟨dxb, _, _, hbb, _⟩ := id lv12.lb
          have hEq : (decide (rs = rs) && decide (u' = u')) = true := by simp
          refine ⟨_, rfl, _, rfl, a, dxa, _, rfl, haa, ⟨b, rfl, .inl ⟨_, _, hbb⟩⟩, a, .ref b, rs, u', rfl, lv12.la, .inl ⟨b, rs, u', rfl, lv12.lb, fun H13 s13 => ⟨_, rfl, _, rfl, ?_⟩⟩⟩
          rw [hEq]
          refine iteF ?_
          have lv13 := lv12.same s13
          obtain ⟨q, rfl, hq⟩ := id lv13.row
          refine ⟨_, rfl, _, rfl, a, dxa, _, rfl, s13 _ _ haa, ⟨q, rfl, .inr ⟨⟨_, SqT.of hq⟩, M.I.nf⟩⟩, a, .ref q, rs, u', rfl, lv13.la, .inr ⟨q, _, rfl, hq, _, rfl, _, rfl, ?_⟩⟩
          refine iteF ?_
          refine ⟨_, rfl, _, rfl, _, rfl, a, rv, .ref q, rs, u', rfl, lv13.la, lv13.rr, ok, lv13.row, fine', hl', fun H14 s14 => ⟨_, rfl, ?_⟩⟩
          refine iteF ?_
          refine ⟨_, _, _, _, _, rfl, ?_, fine', hl'⟩
          have e : (51 + 2 * ((i + 1 : Nat) : Int)) = 51 + 2 * (i : Int) + 1 + 1 := by omega
          rw [e]
          exact lv13.same s14
        · intro hg hM
          obtain ⟨u', eu⟩ := due_good hg
          obtain ⟨fine', hl', neu⟩ := due_fine ok fine hl eu
          obtain ⟨q, hqv, hq⟩ := id lv11.row
          subst hqv
          obtain ⟨dd, hd, sd, he⟩ := dv11.dp (K := K) "take"
          refine ⟨_, rfl, dd, .str "take", hd, .str _, sd, take_ok, _, rfl, ?_⟩
          rw [he]
          rw [eu] at lv11
          have lv11 : LV rv (.ref q) p a b rs C T H1 (51 + 2 * (i : Int) + 1 + 1) u' u u H11 := lv11
          refine ifx_join (fun v' H' => Same H11 H' ∧ TupI H' v' u') ?_ ?_ ?_
          · rintro v' H12 ⟨s12, r12⟩
            have lv12 := (lv11.same s12).setRow r12
            have dv12 := dv11.mono (LTS.of s12)
            dsimp only [List.set_cons_succ, List.set_cons_zero]
            obtain ⟨dxa, _, _, haa, _⟩ := id lv12.la
            obtain ⟨dxb, _, _, hbb, _⟩ := id lv12.lb
            have hEq : (decide (rs = rs) && decide (u' = u)) = false := by simp [neu]
            refine ⟨_, rfl, _, rfl, a, dxa, _, rfl, haa, ⟨b, rfl, .inl ⟨_, _, hbb⟩⟩, a, .ref b, rs, u', rfl, lv12.la, .inl ⟨b, rs, u, rfl, lv12.lb, fun H13 s13 => ⟨_, rfl, _, rfl, ?_⟩⟩⟩
            rw [hEq]
            refine iteF ?_
            have lv13 := lv12.same s13
            refine ⟨_, rfl, _, rfl, b, x, rs, u, rfl, lv13.lb, ok, hl, dv12.mono (LTS.of s13), lv13.tab, fun d3 H14 w14 t14 lb14 _ => ?_⟩
            rw [eu] at lb14
            exact hM _ _ ⟨_, _, _, _, _, rfl, lv13.doB w14 t14 lb14, fine', hl'⟩
          · intro ht Q' hQ
            have hx := of_decide_eq_true ht
            have e : u' = u.dropLast := by
              rcases dueOf_ok eu with ⟨_, _, e⟩ | ⟨n, _⟩
              · exact e
              · exact absurd hx n
            refine ⟨_, rfl, _, rfl, _, rfl, sl_any hq fun q2 H12 s12 h12 => hQ _ _ ⟨s12, q2, rfl, ?_⟩⟩
            rw [h12, cut_last, e, List.map_dropLast]
          · intro ht Q' hQ
            have hx := of_decide_eq_false ht
            obtain ⟨p', rfl, _, _, _, e⟩ : ∃ p' : Int, x = .int p' ∧ (p' = 0 ∨ p' = 1) ∧ brokenBy rs (tl (wd rs) u) p' = none ∧ u.length ≠ 120 ∧ u' = u ++ [p'] := by
              rcases dueOf_ok eu with ⟨h, _⟩ | ⟨_, p', h⟩
              · exact absurd h hx
              · exact ⟨p', h⟩
            refine ⟨_, rfl, _, rfl, sz (by show 1 ≤ 100000; decide), fun q1 hq1 => ?_⟩
            have s12 := Same.new (o := .tup [.int p']) hq1
            refine cat_any (s12 _ _ hq) upd_same (by rw [List.length_map, List.length_singleton]; omega) fun q2 H13 s13 h13 => hQ _ _ ⟨s12.trans s13, q2, rfl, ?_⟩
            rw [h13, e, List.map_append]; rfl
        · intro hg
          have ek := due_keep (u := u) (by simpa using hg : (dueOf rs u x).good = false)
          rw [ek] at lv11
          exact ⟨_, _, _, _, _, rfl, lv11, fine, hl⟩
      · rintro σ H6 ⟨v, u, x7, x8, x9, rfl, lv, fine, hl⟩
        exact ⟨_, _, _, _, _, _, _, _, _, _, _, rfl, LamX.ExtN.trans eG lv.ext, lv.tab⟩
    · rintro σ H1 ⟨x1, x2, x3, x4, x5, x6, x7, x8, x9, x10, x11, rfl, eG, tG⟩
      refine ⟨sz (by show 3 ≤ 100000; decide), fun p1 hp1 => ⟨sz (by show 1 ≤ 100000; decide), fun p2 hp2 => ?_⟩⟩
      obtain ⟨sa1, hRa⟩ := mkc hp1 hp2
      refine fun a dxa ha0 hda0 nea => ⟨a, dxa, .ref p2, rsL, rfl, upd_same, RulesAt.mono (TS.of (mk_s ha0 hda0 nea)) hRa, okL, fun H2 wra la => ⟨rfl, ?_⟩⟩
      have s2 := sa1.trans (mk_same ha0 hda0 nea wra)
      have t2 := An.Tabs.same tG s2
      dsimp only [List.set_cons_succ, List.set_cons_zero]
      refine ⟨(120 : Int), rfl, by decide, by decide, for_range (PvLay (.ref sa) C T a rsL 10 (fun _ => True)) ⟨_, _, _, _, _, _, _, _, _, _, _, rfl, rfl, la, t2⟩ ?_ ?_⟩
      · rintro i σ H3 hi ⟨y1, y2, y3, y4, y5, y6, y7, y8, y9, y10, y11, rfl, hj, la3, t3⟩
        have hi : i < 120 := by omega
        have hj : y10 = some (.ref a) := by
          have hj : some y10 = some (some (.ref a)) := hj
          exact Option.some.inj hj
        subst hj
        obtain ⟨dx, rv, pw, ha, hR, hTT⟩ := id la3
        refine ⟨_, rfl, a, dx, _, rfl, ha, rfl, _, rfl, _, _, rfl, rfl, (by show (0 : Int) < 2; decide), ?_⟩
        dsimp only [tNil, List.cons_append, List.nil_append]
        refine lay_read (cn := cn) (rs := rsL) (i := i) okL la3 hi (freeL i hi) fun H4 wr la4 => ?_
        exact ⟨_, _, _, _, _, _, _, _, _, _, _, rfl, rfl, la4, An.Tabs.laid t3 la3 wr⟩
      · rintro σ H3 ⟨y1, y2, y3, y4, y5, y6, y7, y8, y9, y10, y11, rfl, hj, la3, t3⟩
        have hj : y10 = some (.ref a) := by
          have hj : some y10 = some (some (.ref a)) := hj
          exact Option.some.inj hj
        subst hj
        have la3 : LaidAt C H3 a rsL (alt 120) := la3
        refine lam_read (i := 10) (by rfl) okL la3 (alt_len 120) (.inr rfl) t3 fun v H4 t4 la4 dv4 => ?_
        refine ⟨dueD (dueOf rsL (alt 120) (.int 1)), .str "Full+", dv4.dp, .str _, dueD_shaped dueOf_wf, full_ok, _, rfl, ?_⟩
        rw [dueL, full_eq, full_refl]
        refine iteF ?_
        obtain ⟨dx4, rv4, pw4, ha4, hR4, hTT4⟩ := id la4
        refine ⟨_, rfl, a, dx4, _, rfl, ha4, rfl, a, rsL, alt 120, rfl, la4, okL, fineL, by rw [alt_len]; decide, fun v5 H5 s5 hv5 => ⟨rfl, _, rfl, ?_⟩⟩
        rw [goesL hv5]
        refine iteF ?_
        have la5 := la4.mono s5
        have t5 := An.Tabs.same t4 s5
        refine ⟨_, rfl, a, dx4, _, rfl, s5 _ _ ha4, rfl, a, rsL, alt 120, rfl, la5, okL, by rw [alt_len]; decide, fun p6 H6 np6 s6 hp6 => ?_⟩
        rw [canL] at hp6
        refine ⟨sz (by show 2 ≤ 100000; decide), fun q6 hq6 => ?_⟩
        have s7 := Same.new (o := .lst [.int 0, .int 1]) hq6
        refine ⟨.list [.int 0, .int 1], .list [.int 0, .int 1], .lst (SqL.of (s7 _ _ hp6)) (.cons (.int 0) (.cons (.int 1) .nil)), .lst (SqL.of upd_same) (.cons (.int 0) (.cons (.int 1) .nil)), l01_ok, l01_ok, _, rfl, ?_⟩
        rw [l01_refl]
        refine iteF ?_
        have t7 := An.Tabs.same (An.Tabs.same t5 s6) s7
        refine ⟨sz (by show 3 ≤ 100000; decide), fun r1 hr1 => ⟨sz (by show 1 ≤ 100000; decide), fun r2 hr2 => ?_⟩⟩
        obtain ⟨sb1, hRb⟩ := mkc hr1 hr2
        refine fun b dxb hb0 hdb0 neb => ⟨b, dxb, .ref r2, rsN, rfl, upd_same, RulesAt.mono (TS.of (mk_s hb0 hdb0 neb)) hRb, okN, fun H8 wrb lb => ⟨rfl, ?_⟩⟩
        have s8 := sb1.trans (mk_same hb0 hdb0 neb wrb)
        have t8 := An.Tabs.same t7 s8
        dsimp only [List.set_cons_succ, List.set_cons_zero]
        refine ⟨(120 : Int), rfl, by decide, by decide, for_range (PvLay (.ref sa) C T b rsN 11 (fun _ => True)) ⟨_, _, _, _, _, _, _, _, _, _, _, rfl, rfl, lb, t8⟩ ?_ ?_⟩
        · rintro i σ H3 hi ⟨y1, y2, y3, y4, y5, y6, y7, y8, y9, y10, y11, rfl, hj, la3, t3⟩
          have hi : i < 120 := by omega
          have hj : y11 = some (.ref b) := by
            have hj : some y11 = some (some (.ref b)) := hj
            exact Option.some.inj hj
          subst hj
          obtain ⟨dx, rv, pw, ha, hR, hTT⟩ := id la3
          refine ⟨_, rfl, b, dx, _, rfl, ha, rfl, _, rfl, _, _, rfl, rfl, (by show (0 : Int) < 2; decide), ?_⟩
          dsimp only [tNil, List.cons_append, List.nil_append]
          refine lay_read (cn := cn) (rs := rsN) (i := i) okN la3 hi (freeN i hi) fun H4 wr la4 => ?_
          exact ⟨_, _, _, _, _, _, _, _, _, _, _, rfl, rfl, la4, An.Tabs.laid t3 la3 wr⟩
        · rintro σ H3 ⟨z1, z2, z3, z4, z5, z6, z7, z8, z9, z10, z11, rfl, hj, la3, t3⟩
          have hj : z11 = some (.ref b) := by
            have hj : some z11 = some (some (.ref b)) := hj
            exact Option.some.inj hj
          subst hj
          have la3 : LaidAt C H3 b rsN (alt 120) := la3
          refine lam_read (i := 11) (by rfl) okN la3 (alt_len 120) (.inr rfl) t3 fun v H4 t4 la4 dv4 => ?_
          refine ⟨sz (by show 3 ≤ 100000; decide), fun w1 hw1 => ⟨sz (by show 2 ≤ 100000; decide), fun w2 hw2 => ?_⟩⟩
          have s5 := Same.new (o := .tup [.int 2, .int 0, .int 1]) hw1
          have s6 := Same.new (o := .lst [.str "Breaks+", .ref w1]) hw2
          have s56 := s5.trans s6
          refine ⟨dueD (dueOf rsN (alt 120) (.int 1)), .list [.str "Breaks+", rowD [2, 0, 1]], (dv4.mono (LTS.of s56)).dp, .lst (SqL.of upd_same) (.cons (.str _) (.cons (dp_row ⟨w1, rfl, s6 _ _ upd_same⟩) .nil)), dueD_shaped dueOf_wf, brk_ok, _, rfl, ?_⟩
          rw [dueN1, brk_eq, brk_refl]
          refine iteF ?_
          refine lam_read (i := 11) (by rfl) okN (la4.mono s56) (alt_len 120) (.inl rfl) (An.Tabs.same t4 s56) fun v7 H7 t7' la7 dv7 => ?_
          refine ⟨dueD (dueOf rsN (alt 120) (.int 0)), .str "Full+", dv7.dp, .str _, dueD_shaped dueOf_wf, full_ok, _, rfl, ?_⟩
          rw [dueN0, full_eq, full_refl]
          refine iteF ?_
          obtain ⟨dx7, rv7, pw7, ha7, hR7, hTT7⟩ := id la7
          refine ⟨_, rfl, b, dx7, _, rfl, ha7, rfl, b, rsN, alt 120, rfl, la7, okN, by rw [alt_len]; decide, fun p8 H8' np8 s8' hp8 => ?_⟩
          rw [canN] at hp8
          refine ⟨sz (by show 1 ≤ 100000; decide), fun q9 hq9 => ?_⟩
          have s9 := Same.new (o := .lst [.int 0]) hq9
          refine ⟨.list [.int 0], .list [.int 0], .lst (SqL.of (s9 _ _ hp8)) (.cons (.int 0) .nil), .lst (SqL.of upd_same) (.cons (.int 0) .nil), l0_ok, l0_ok, _, rfl, ?_⟩
          rw [l0_refl]
          refine iteF ?_
          refine ⟨sz (by show 3 ≤ 100000; decide), fun u1 hu1 => ⟨sz (by show 1 ≤ 100000; decide), fun u2 hu2 => ?_⟩⟩
          obtain ⟨sc1, hRc⟩ := mkc hu1 hu2
          refine fun d dxd hd0 hdd0 ned => ⟨d, dxd, .ref u2, rsN, rfl, upd_same, RulesAt.mono (TS.of (mk_s hd0 hdd0 ned)) hRc, okN, fun Hd wrd ld => ⟨rfl, ?_⟩⟩
          refine ⟨sz (by show 3 ≤ 100000; decide), fun u3 hu3 => ⟨sz (by show 1 ≤ 100000; decide), fun u4 hu4 => ?_⟩⟩
          obtain ⟨sd1, hRd⟩ := mkc hu3 hu4
          refine fun e dxe he0 hde0 nee => ⟨e, dxe, .ref u4, rsL, rfl, upd_same, RulesAt.mono (TS.of (mk_s he0 hde0 nee)) hRd, okL, fun He wre le => ⟨rfl, ?_⟩⟩
          have sE := sd1.trans (mk_same he0 hde0 nee wre)
          have ld' := ld.mono sE
          obtain ⟨dxd', _, _, hdd, _⟩ := id ld'
          obtain ⟨dxe', _, _, hee, _⟩ := id le
          refine ⟨d, dxd', _, rfl, hdd, ⟨e, rfl, .inl ⟨_, _, hee⟩⟩, d, .ref e, rsN, [], rfl, ld', .inl ⟨e, rsL, [], rfl, le, fun H' _ => ⟨_, rfl, ?_⟩⟩⟩
          have hne : (decide (rsN = rsL) && decide (([] : Row) = [])) = false := by decide
          rw [hne]
          exact k _
end
end An
-- imports: LK HandS.Head0 HandS.Head1 HandS.Head2 HandS.HeadEnd HandS.HeadHook1 HandS.HeadHook2 HandS.HeadHook3 HandS.HeadHook4 HandS.HeadWalk HandS.EndTab HandS.NestedK
/-! ### HX: what the head's look must find of the classes -/
namespace An
open PySem PySem.Spec PyProof.Rows L2
def oexB (K : PySem.W.Frag) (C : Addr) : Bool := match K.lookup C with
  | some ⟨.type "type", _, .cls cd, sl⟩ => (match cd.mro, sl.toList with
    | .ref C' :: bm, [_, _, _, _, some (.builtin n), _] => C' == C && n == "ValueError.__new__" && !cd.hasDel && cd.hasDict && PySem.HandSPX.refsVE bm
    | _, _ => false)
  | _ => false
theorem oexB_ok {K : PySem.W.Frag} {C : Addr} (q : oexB K C = true) : ∃ nm q N bs bm sn sub ab col dd k0 k1 k2 k3 k5, K.lookup C = some (excClassObj nm q C N bs bm true sn sub ab col dd k0 k1 k2 k3 k5 "ValueError.__new__") ∧ PySem.HandSPX.refsVE bm = true := by
  unfold oexB at q
  split at q
  · rename_i dd cd sl ho
    split at q
    · rename_i C' bm k0 k1 k2 k3 n k5 hm hs
      simp only [Bool.and_eq_true, beq_iff_eq, Bool.not_eq_true'] at q
      obtain ⟨⟨⟨⟨rfl, rfl⟩, hdel⟩, hdi⟩, ht⟩ := q
      obtain ⟨nm, bs, mro, ns, qn, hd, sn, sub, ab, col, del⟩ := cd
      dsimp only at hm hdel hdi
      subst hm hdel hdi
      have hsl : sl = #[k0, k1, k2, k3, some (.builtin "ValueError.__new__"), k5] := by
        obtain ⟨l⟩ := sl
        simp only at hs
        rw [hs]
      subst hsl
      exact ⟨nm, qn, ns, bs, bm, sn, sub, ab, col, dd, k0, k1, k2, k3, k5, ho, ht⟩
    · cases q
  · cases q
def excCB (K : PySem.W.Frag) (D : Addr) : Bool := He.eqO (PySem.W.findIn K (.ref D) "__getattribute__") (some (some (.builtin "BaseException.__getattribute__"))) && (He.eqO (PySem.W.findIn K (.ref D) "__getattr__") (some none) && (decide (PySem.W.subIn K (.ref D) (.type "BaseException") = some true) && (PySem.W.hasDictIn K D &&
  (He.eqO (PySem.W.findIn K (.ref D) "__class__") (some (some (.builtin "object.__class__"))) && (He.eqO (PySem.W.specialIn K (.builtin "object.__class__") "__get__") (some (some (.builtin "getset_descriptor.__get__"))) && (decide (PySem.W.takesIn K (.builtin "object.__class__") = some true) && decide (PySem.W.mroIn K D (.type "object") = some true)))))))
theorem excCB_ok {K : PySem.W.Frag} {D : Addr} (h : excCB K D = true) : ExcC K D := by
  obtain ⟨h1, h⟩ := He.ba h
  obtain ⟨h2, h⟩ := He.ba h
  obtain ⟨h3, h⟩ := He.ba h
  obtain ⟨h4, h⟩ := He.ba h
  obtain ⟨h5, h⟩ := He.ba h
  obtain ⟨h6, h⟩ := He.ba h
  obtain ⟨h7, h8⟩ := He.ba h
  exact ⟨He.eqO_ok h1, He.eqO_ok h2, of_decide_eq_true h3, h4, He.eqO_ok h5, He.eqO_ok h6, of_decide_eq_true h7, of_decide_eq_true h8⟩
def laidB (K : PySem.W.Frag) (C : Addr) : Bool := He.eqO (PySem.W.findIn K (.ref C) "__class__") (some (some (.builtin "object.__class__"))) && (He.eqO (PySem.W.specialIn K (.builtin "object.__class__") "__get__") (some (some (.builtin "getset_descriptor.__get__"))) && (decide (PySem.W.takesIn K (.builtin "object.__class__") = some true) &&
  (decide (PySem.W.mroIn K C (.type "object") = some true) && (decide (PySem.W.kitOne K (.type "tuple") (.ref C) = some false) && (PySem.W.notFirst K C (.type "tuple") && He.eqO (PySem.W.findIn K (.ref C) "__ne__") (some (some (.builtin "object.__ne__"))))))))
theorem laidB_ok {K : PySem.W.Frag} {mg : Str → Option Value} {C : Addr} (g : mg "Laid" = some (.ref C)) (h : laidB K C = true) : LaidI K mg C ∧ PySem.W.findIn K (.ref C) "__ne__" = some (some (.builtin "object.__ne__")) := by
  obtain ⟨h1, h⟩ := He.ba h
  obtain ⟨h2, h⟩ := He.ba h
  obtain ⟨h3, h⟩ := He.ba h
  obtain ⟨h4, h⟩ := He.ba h
  obtain ⟨h5, h⟩ := He.ba h
  obtain ⟨h6, h7⟩ := He.ba h
  exact ⟨⟨g, He.eqO_ok h1, He.eqO_ok h2, of_decide_eq_true h3, of_decide_eq_true h4, of_decide_eq_true h5, h6⟩, He.eqO_ok h7⟩
def exK (K : PySem.W.Frag) : Bool := (raised.all fun d => excNames.all fun c => decide (PySem.W.kitOne K (.ref (He.ga K d)) (.ref (He.ga K c)) = some (decide (d = c)))) && ((raised.all fun d => decide (PySem.W.kitOne K (.ref (He.ga K d)) (.type "ValueError") = some true)) && ((raised.all fun d => excCB K (He.ga K d)) &&
  ((raised.all fun d => decide (PySem.W.exmOne K (.ref (He.ga K d)) (.ref (He.ga K "Breaks")) = some (decide (d = "Breaks")))) && ((raised.all fun d => decide (PySem.W.exmOne K (.ref (He.ga K d)) (.ref (He.ga K "SpanError")) = some true)) &&
  (xfB K (He.ga K "Breaks") && (oexB K (He.ga K "Breaks") && (He.eqO (PySem.W.findIn K (.ref (He.ga K "Breaks")) "__setattr__") (some (some (.builtin "object.__setattr__"))) && (decide (PySem.W.typeIn K (.ref (He.ga K "Breaks")) = some (.type "type")) && (PySem.W.keepIn K (.ref (He.ga K "Breaks")) &&
  (laidB K (He.ga K "Laid") && decide ((He.cT K ("_law_do", none)).2 ≠ (He.cT K ("law", none)).2)))))))))))
structure ExK (K : PySem.W.Frag) : Prop where
  kit : ∀ d ∈ raised, ∀ c ∈ excNames, PySem.W.kitOne K (.ref (He.ga K d)) (.ref (He.ga K c)) = some (decide (d = c))
  kitV : ∀ d ∈ raised, PySem.W.kitOne K (.ref (He.ga K d)) (.type "ValueError") = some true
  att : ∀ d ∈ raised, ExcC K (He.ga K d)
  exB : ∀ d ∈ raised, PySem.W.exmOne K (.ref (He.ga K d)) (.ref (He.ga K "Breaks")) = some (decide (d = "Breaks"))
  exS : ∀ d ∈ raised, PySem.W.exmOne K (.ref (He.ga K d)) (.ref (He.ga K "SpanError")) = some true
  xf : XfC K (He.ga K "Breaks")
  oex : OexC K (He.ga K "Breaks")
  laid : laidB K (He.ga K "Laid") = true
  apart : (He.cT K ("_law_do", none)).2 ≠ (He.cT K ("law", none)).2
theorem exK_ok {K : PySem.W.Frag} (h : exK K = true) : ExK K := by
  obtain ⟨h1, h⟩ := He.ba h
  obtain ⟨h2, h⟩ := He.ba h
  obtain ⟨h3, h⟩ := He.ba h
  obtain ⟨h4, h⟩ := He.ba h
  obtain ⟨h5, h⟩ := He.ba h
  obtain ⟨h6, h⟩ := He.ba h
  obtain ⟨h7, h⟩ := He.ba h
  obtain ⟨h8, h⟩ := He.ba h
  obtain ⟨h9, h⟩ := He.ba h
  obtain ⟨h10, h⟩ := He.ba h
  obtain ⟨h11, h12⟩ := He.ba h
  have X := xfB_ok h6
  exact ⟨fun d hd c hc => of_decide_eq_true (List.all_eq_true.mp (List.all_eq_true.mp h1 d hd) c hc), fun d hd => of_decide_eq_true (List.all_eq_true.mp h2 d hd), fun d hd => excCB_ok (List.all_eq_true.mp h3 d hd),
    fun d hd => of_decide_eq_true (List.all_eq_true.mp h4 d hd), fun d hd => of_decide_eq_true (List.all_eq_true.mp h5 d hd), X, ⟨oexB_ok h7, He.eqO_ok h8, X.exC, of_decide_eq_true h9, h10⟩, h11, of_decide_eq_true h12⟩
end An
namespace An
open PySem PySem.Spec PyProof.Rows L2 LamX
def d_is_from : He.DefD := ⟨("is_from", none), "is_from", "is_from", defArgs S_is_from, defBody S_is_from, defScope S_is_from, [], []⟩
def d_is_rule : He.DefD := ⟨("is_rule", none), "is_rule", "is_rule", defArgs S_is_rule, defBody S_is_rule, defScope S_is_rule, [], []⟩
def d_are_rules : He.DefD := ⟨("are_rules", none), "are_rules", "are_rules", defArgs S_are_rules, defBody S_are_rules, defScope S_are_rules, [], []⟩
def d_need_rules : He.DefD := ⟨("need_rules", none), "need_rules", "need_rules", defArgs S_need_rules, defBody S_need_rules, defScope S_need_rules, [], []⟩
def d_is_row : He.DefD := ⟨("is_row", none), "is_row", "is_row", defArgs S_is_row, defBody S_is_row, defScope S_is_row, [], []⟩
def d_widest : He.DefD := ⟨("widest", none), "widest", "widest", defArgs S_widest, defBody S_widest, defScope S_widest, [], []⟩
def d_broken_by : He.DefD := ⟨("broken_by", none), "broken_by", "broken_by", defArgs S_broken_by, defBody S_broken_by, defScope S_broken_by, [], []⟩
def d_next_tail : He.DefD := ⟨("next_tail", none), "next_tail", "next_tail", defArgs S_next_tail, defBody S_next_tail, defScope S_next_tail, [], []⟩
def d_tail_of : He.DefD := ⟨("tail_of", none), "tail_of", "tail_of", defArgs S_tail_of, defBody S_tail_of, defScope S_tail_of, [], []⟩
def d_keeping : He.DefD := ⟨("keeping", none), "keeping", "keeping", defArgs S_keeping, defBody S_keeping, defScope S_keeping, [], []⟩
def d_need_begun : He.DefD := ⟨("need_begun", none), "need_begun", "need_begun", defArgs S_need_begun, defBody S_need_begun, defScope S_need_begun, [], []⟩
def d_ways_on : He.DefD := ⟨("ways_on", none), "ways_on", "ways_on", defArgs S_ways_on, defBody S_ways_on, defScope S_ways_on, [], []⟩
def d_ranks_from : He.DefD := ⟨("ranks_from", none), "ranks_from", "ranks_from", defArgs S_ranks_from, defBody S_ranks_from, defScope S_ranks_from, [], []⟩
def d_most_on : He.DefD := ⟨("most_on", none), "most_on", "most_on", defArgs S_most_on, defBody S_most_on, defScope S_most_on, [], []⟩
def d_goes_on : He.DefD := ⟨("goes_on", none), "goes_on", "goes_on", defArgs S_goes_on, defBody S_goes_on, defScope S_goes_on, [], []⟩
def d__law_deck : He.DefD := ⟨("_law_deck", none), "_law_deck", "_law_deck", defArgs S__law_deck, defBody S__law_deck, defScope S__law_deck, [], []⟩
def d__law_pick : He.DefD := ⟨("_law_pick", none), "_law_pick", "_law_pick", defArgs S__law_pick, defBody S__law_pick, defScope S__law_pick, [], []⟩
def d__law_one : He.DefD := ⟨("_law_one", none), "_law_one", "_law_one", defArgs S__law_one, defBody S__law_one, defScope S__law_one, [], []⟩
def d__law_sort : He.DefD := ⟨("_law_sort", none), "_law_sort", "_law_sort", defArgs S__law_sort, defBody S__law_sort, defScope S__law_sort, [], []⟩
def d__law_same : He.DefD := ⟨("_law_same", none), "_law_same", "_law_same", defArgs S__law_same, defBody S__law_same, defScope S__law_same, [], []⟩
def d__law_rules : He.DefD := ⟨("_law_rules", none), "_law_rules", "_law_rules", defArgs S__law_rules, defBody S__law_rules, defScope S__law_rules, [], []⟩
def d__law_fits : He.DefD := ⟨("_law_fits", none), "_law_fits", "_law_fits", defArgs S__law_fits, defBody S__law_fits, defScope S__law_fits, [], []⟩
def d__law_whole : He.DefD := ⟨("_law_whole", none), "_law_whole", "_law_whole", defArgs S__law_whole, defBody S__law_whole, defScope S__law_whole, [], []⟩
def d__law_due : He.DefD := ⟨("_law_due", none), "_law_due", "_law_due", defArgs S__law_due, defBody S__law_due, defScope S__law_due, [], []⟩
def d__law_odd : He.DefD := ⟨("_law_odd", none), "_law_odd", "_law_odd", defArgs S__law_odd, defBody S__law_odd, defScope S__law_odd, [], []⟩
def d__law_kin : He.DefD := ⟨("_law_kin", none), "_law_kin", "_law_kin", defArgs S__law_kin, defBody S__law_kin, defScope S__law_kin, [], []⟩
def d__law_try : He.DefD := ⟨("_law_try", none), "_law_try", "_law_try", defArgs S__law_try, defBody S__law_try, defScope S__law_try, [], []⟩
def d__law_do : He.DefD := ⟨("_law_do", none), "_law_do", "_law_do", defArgs S__law_do, defBody S__law_do, defScope S__law_do, [], []⟩
def d__law_right : He.DefD := ⟨("_law_right", none), "_law_right", "_law_right", defArgs S__law_right, defBody S__law_right, defScope S__law_right, [], []⟩
def d_law : He.DefD := ⟨("law", none), "law", "law", defArgs S_law, defBody S_law, defScope S_law, [], []⟩
def d_Breaks___init__ : He.DefD := ⟨("Breaks", some "__init__"), "__init__", "Breaks.__init__", defArgs S_BrInit, defBody S_BrInit, defScope S_BrInit, [], []⟩
def d_Laid___init__ : He.DefD := ⟨("Laid", some "__init__"), "__init__", "Laid.__init__", defArgs S_LInit, defBody S_LInit, defScope S_LInit, [], []⟩
def d_Laid___len__ : He.DefD := ⟨("Laid", some "__len__"), "__len__", "Laid.__len__", defArgs S_LLen, defBody S_LLen, defScope S_LLen, [], []⟩
def d_Laid___eq__ : He.DefD := ⟨("Laid", some "__eq__"), "__eq__", "Laid.__eq__", defArgs S_LEq, defBody S_LEq, defScope S_LEq, [], []⟩
def d_Laid_tail : He.DefD := ⟨("Laid", some "tail"), "tail", "Laid.tail", defArgs S_LTail, defBody S_LTail, defScope S_LTail, [], []⟩
def d_Laid_lay : He.DefD := ⟨("Laid", some "lay"), "lay", "Laid.lay", defArgs S_LLay, defBody S_LLay, defScope S_LLay, [], []⟩
def d_Laid_take : He.DefD := ⟨("Laid", some "take"), "take", "Laid.take", defArgs S_LTake, defBody S_LTake, defScope S_LTake, [], []⟩
def d_Laid_row : He.DefD := ⟨("Laid", some "row"), "row", "Laid.row", defArgs S_LRow, defBody S_LRow, defScope S_LRow, [], []⟩
def d_Laid_marked : He.DefD := ⟨("Laid", some "marked"), "marked", "Laid.marked", defArgs S_LMarked, defBody S_LMarked, defScope S_LMarked, [], []⟩
def d_Laid_goes_on : He.DefD := ⟨("Laid", some "goes_on"), "goes_on", "Laid.goes_on", defArgs S_LGoes, defBody S_LGoes, defScope S_LGoes, [], []⟩
def d_Laid_can_be_laid : He.DefD := ⟨("Laid", some "can_be_laid"), "can_be_laid", "Laid.can_be_laid", defArgs S_LCan, defBody S_LCan, defScope S_LCan, [], []⟩
def fn1 : List He.DefD := [d_is_from, d_is_rule, d_are_rules, d_need_rules, d_is_row, d_widest, d_broken_by, d_next_tail, d_tail_of, d_keeping, d_need_begun, d_ways_on, d_ranks_from, d_most_on, d_goes_on, d__law_deck, d__law_pick, d__law_one, d__law_sort, d__law_same]
def fn2 : List He.DefD := [d__law_rules, d__law_fits, d__law_whole, d__law_due, d__law_odd, d__law_kin, d__law_try, d__law_do, d__law_right, d_law, d_Breaks___init__, d_Laid___init__, d_Laid___len__, d_Laid___eq__, d_Laid_tail, d_Laid_lay, d_Laid_take, d_Laid_row, d_Laid_marked, d_Laid_goes_on, d_Laid_can_be_laid]
def fn : List He.DefD := fn1 ++ fn2
def fa1 : List He.Fa := [.glo "is_from", .glo "is_rule", .glo "are_rules", .glo "need_rules", .glo "is_row", .glo "widest", .glo "broken_by", .glo "next_tail", .glo "tail_of", .glo "keeping", .glo "need_begun", .glo "ways_on", .glo "ranks_from", .glo "most_on", .glo "goes_on", .glo "_law_deck", .glo "_law_pick", .glo "_law_one", .glo "_law_sort", .glo "_law_same", .glo "_law_rules", .glo "_law_fits", .glo "_law_whole", .glo "_law_due", .glo "_law_odd", .glo "_law_kin", .glo "_law_try"]
def fa2 : List He.Fa := [.glo "_law_do", .glo "_law_right", .glo "law", .glo "Laid", .glo "NoRules", .glo "NoRow", .glo "NoTold", .glo "NoPart", .glo "NoNumber", .glo "NoPlace", .glo "Full", .glo "NoneLeft", .glo "Breaks", .glo "SpanError", .free "len", .free "sum", .free "max", .free "min", .free "range", .free "zip", .free "all", .free "isinstance", .free "tuple", .free "list", .free "int", .free "bool", .free "str"]
def fa3 : List He.Fa := [.free "sorted", .free "enumerate", .free "dict", .free "ValueError", .int "MOST_SPAN" 8, .int "MOST_RULES" 5, .int "MOST_PLACES" 120, .cls "Laid", .noat "Laid" "rules", .noat "Laid" "places", .mkr "Laid", .noat "Breaks" "rule", .meth "Breaks" "__init__", .meth "Laid" "__len__", .meth "Laid" "__eq__", .meth "Laid" "tail", .meth "Laid" "lay", .meth "Laid" "take", .meth "Laid" "row", .meth "Laid" "marked", .meth "Laid" "goes_on", .meth "Laid" "can_be_laid", .exc "NoPlace", .exc "Full", .exc "NoneLeft"]
def fa : List He.Fa := fa1 ++ (fa2 ++ fa3)
def loose1 : List Str := ["SpanError", "NoRules", "NoRow", "NoTold", "NoPart", "NoNumber", "NoPlace", "Full", "NoneLeft", "Breaks", "MOST_SPAN", "MOST_RULES", "MOST_PLACES", "is_from", "is_rule", "are_rules", "need_rules", "is_row", "widest", "broken_by", "next_tail"]
def loose2 : List Str := ["tail_of", "keeping", "need_begun", "ways_on", "ranks_from", "most_on", "goes_on", "Laid", "_law_deck", "_law_pick", "_law_whole", "_law_one", "_law_kin", "_law_try", "_law_sort", "_law_same", "_law_odd", "_law_rules", "_law_fits", "_law_due", "_law_do", "_law_right"]
def loose : List Str := loose1 ++ loose2
def tf : List He.Defn := [("_law_do", none), ("law", none)]
abbrev R : PySem.W.OpenRow := PySem.W.OpenLaw.row PySem.Challenge.rw_anyspan_k11_whole_laid_place_by_place
abbrev hk : PySem.W.Hook := He.hookX 4 fa fn [] tf exK
def ob (s : PySem.W.SharedT) : He.AlX := He.obsX 4 fa fn [] tf exK (HandSHeadRun.getT s)
theorem ob_eq (s : PySem.W.SharedT) : ob s = hk.obs s.abs := He.obsX_eq (HandSHeadRun.getT_eq s)
theorem run (w : World) : HandSHeadRun.RunEq R (PySem.W.view R.prog [48]) hk ob 9000 loose w := by
  intro os
  kernel_rfl
def lawT (K : PySem.W.Frag) : List (Addr × Str) := [((He.cT K ("_law_do", none)).2, qLam "_law_do"), ((He.cT K ("law", none)).2, qLam "law")]
theorem facts {P : Program} {w : World} {K : PySem.W.Frag} {h : Heap} {mg : Str → Option Value} {f : Addr} (X : K.In h) (G : h.Ns mainGlobals mg) (hfa : mg ("law" : Str) = some (.ref f)) (c : He.SaysD fa fn K) (ex : ExK K) :
    ∃ fd : FuncData, (∀ (s : Shared) (v : Value), BindsTo s fd ⟨[v], []⟩ [("script", v)]) ∧ ∀ base : Heap, K.In base → base.Ns mainGlobals mg → (∀ p ∈ tf, TabB base mg (He.cT K p).1 (He.cT K p).2) → FnOk P w K mg base CX0 9 f fd ["script"] (spLaw K (lawT K)) := by
  obtain ⟨fd_is_from, F_is_from⟩ := c.def_ 0 (d := d_is_from) rfl
  have D_is_from : Dn K mg "is_from" S_is_from := dn_of F_is_from (He.glo_ok X G (c.fact 0 (f := .glo "is_from") rfl))
  obtain ⟨fd_is_rule, F_is_rule⟩ := c.def_ 1 (d := d_is_rule) rfl
  have D_is_rule : Dn K mg "is_rule" S_is_rule := dn_of F_is_rule (He.glo_ok X G (c.fact 1 (f := .glo "is_rule") rfl))
  obtain ⟨fd_are_rules, F_are_rules⟩ := c.def_ 2 (d := d_are_rules) rfl
  have D_are_rules : Dn K mg "are_rules" S_are_rules := dn_of F_are_rules (He.glo_ok X G (c.fact 2 (f := .glo "are_rules") rfl))
  obtain ⟨fd_need_rules, F_need_rules⟩ := c.def_ 3 (d := d_need_rules) rfl
  have D_need_rules : Dn K mg "need_rules" S_need_rules := dn_of F_need_rules (He.glo_ok X G (c.fact 3 (f := .glo "need_rules") rfl))
  obtain ⟨fd_is_row, F_is_row⟩ := c.def_ 4 (d := d_is_row) rfl
  have D_is_row : Dn K mg "is_row" S_is_row := dn_of F_is_row (He.glo_ok X G (c.fact 4 (f := .glo "is_row") rfl))
  obtain ⟨fd_widest, F_widest⟩ := c.def_ 5 (d := d_widest) rfl
  have D_widest : Dn K mg "widest" S_widest := dn_of F_widest (He.glo_ok X G (c.fact 5 (f := .glo "widest") rfl))
  obtain ⟨fd_broken_by, F_broken_by⟩ := c.def_ 6 (d := d_broken_by) rfl
  have D_broken_by : Dn K mg "broken_by" S_broken_by := dn_of F_broken_by (He.glo_ok X G (c.fact 6 (f := .glo "broken_by") rfl))
  obtain ⟨fd_next_tail, F_next_tail⟩ := c.def_ 7 (d := d_next_tail) rfl
  have D_next_tail : Dn K mg "next_tail" S_next_tail := dn_of F_next_tail (He.glo_ok X G (c.fact 7 (f := .glo "next_tail") rfl))
  obtain ⟨fd_tail_of, F_tail_of⟩ := c.def_ 8 (d := d_tail_of) rfl
  have D_tail_of : Dn K mg "tail_of" S_tail_of := dn_of F_tail_of (He.glo_ok X G (c.fact 8 (f := .glo "tail_of") rfl))
  obtain ⟨fd_keeping, F_keeping⟩ := c.def_ 9 (d := d_keeping) rfl
  have D_keeping : Dn K mg "keeping" S_keeping := dn_of F_keeping (He.glo_ok X G (c.fact 9 (f := .glo "keeping") rfl))
  obtain ⟨fd_need_begun, F_need_begun⟩ := c.def_ 10 (d := d_need_begun) rfl
  have D_need_begun : Dn K mg "need_begun" S_need_begun := dn_of F_need_begun (He.glo_ok X G (c.fact 10 (f := .glo "need_begun") rfl))
  obtain ⟨fd_ways_on, F_ways_on⟩ := c.def_ 11 (d := d_ways_on) rfl
  have D_ways_on : Dn K mg "ways_on" S_ways_on := dn_of F_ways_on (He.glo_ok X G (c.fact 11 (f := .glo "ways_on") rfl))
  obtain ⟨fd_ranks_from, F_ranks_from⟩ := c.def_ 12 (d := d_ranks_from) rfl
  have D_ranks_from : Dn K mg "ranks_from" S_ranks_from := dn_of F_ranks_from (He.glo_ok X G (c.fact 12 (f := .glo "ranks_from") rfl))
  obtain ⟨fd_most_on, F_most_on⟩ := c.def_ 13 (d := d_most_on) rfl
  have D_most_on : Dn K mg "most_on" S_most_on := dn_of F_most_on (He.glo_ok X G (c.fact 13 (f := .glo "most_on") rfl))
  obtain ⟨fd_goes_on, F_goes_on⟩ := c.def_ 14 (d := d_goes_on) rfl
  have D_goes_on : Dn K mg "goes_on" S_goes_on := dn_of F_goes_on (He.glo_ok X G (c.fact 14 (f := .glo "goes_on") rfl))
  obtain ⟨fd__law_deck, F__law_deck⟩ := c.def_ 15 (d := d__law_deck) rfl
  have D__law_deck : Dn K mg "_law_deck" S__law_deck := dn_of F__law_deck (He.glo_ok X G (c.fact 15 (f := .glo "_law_deck") rfl))
  obtain ⟨fd__law_pick, F__law_pick⟩ := c.def_ 16 (d := d__law_pick) rfl
  have D__law_pick : Dn K mg "_law_pick" S__law_pick := dn_of F__law_pick (He.glo_ok X G (c.fact 16 (f := .glo "_law_pick") rfl))
  obtain ⟨fd__law_one, F__law_one⟩ := c.def_ 17 (d := d__law_one) rfl
  have D__law_one : Dn K mg "_law_one" S__law_one := dn_of F__law_one (He.glo_ok X G (c.fact 17 (f := .glo "_law_one") rfl))
  obtain ⟨fd__law_sort, F__law_sort⟩ := c.def_ 18 (d := d__law_sort) rfl
  have D__law_sort : Dn K mg "_law_sort" S__law_sort := dn_of F__law_sort (He.glo_ok X G (c.fact 18 (f := .glo "_law_sort") rfl))
  obtain ⟨fd__law_same, F__law_same⟩ := c.def_ 19 (d := d__law_same) rfl
  have D__law_same : Dn K mg "_law_same" S__law_same := dn_of F__law_same (He.glo_ok X G (c.fact 19 (f := .glo "_law_same") rfl))
  obtain ⟨fd__law_rules, F__law_rules⟩ := c.def_ 20 (d := d__law_rules) rfl
  have D__law_rules : Dn K mg "_law_rules" S__law_rules := dn_of F__law_rules (He.glo_ok X G (c.fact 20 (f := .glo "_law_rules") rfl))
  obtain ⟨fd__law_fits, F__law_fits⟩ := c.def_ 21 (d := d__law_fits) rfl
  have D__law_fits : Dn K mg "_law_fits" S__law_fits := dn_of F__law_fits (He.glo_ok X G (c.fact 21 (f := .glo "_law_fits") rfl))
  obtain ⟨fd__law_whole, F__law_whole⟩ := c.def_ 22 (d := d__law_whole) rfl
  have D__law_whole : Dn K mg "_law_whole" S__law_whole := dn_of F__law_whole (He.glo_ok X G (c.fact 22 (f := .glo "_law_whole") rfl))
  obtain ⟨fd__law_due, F__law_due⟩ := c.def_ 23 (d := d__law_due) rfl
  have D__law_due : Dn K mg "_law_due" S__law_due := dn_of F__law_due (He.glo_ok X G (c.fact 23 (f := .glo "_law_due") rfl))
  obtain ⟨fd__law_odd, F__law_odd⟩ := c.def_ 24 (d := d__law_odd) rfl
  have D__law_odd : Dn K mg "_law_odd" S__law_odd := dn_of F__law_odd (He.glo_ok X G (c.fact 24 (f := .glo "_law_odd") rfl))
  obtain ⟨fd__law_kin, F__law_kin⟩ := c.def_ 25 (d := d__law_kin) rfl
  have D__law_kin : Dn K mg "_law_kin" S__law_kin := dn_of F__law_kin (He.glo_ok X G (c.fact 25 (f := .glo "_law_kin") rfl))
  obtain ⟨fd__law_try, F__law_try⟩ := c.def_ 26 (d := d__law_try) rfl
  have D__law_try : Dn K mg "_law_try" S__law_try := dn_of F__law_try (He.glo_ok X G (c.fact 26 (f := .glo "_law_try") rfl))
  obtain ⟨fd__law_do, F__law_do⟩ := c.def_ 27 (d := d__law_do) rfl
  have D__law_do : Dn K mg "_law_do" S__law_do := dn_of F__law_do (He.glo_ok X G (c.fact 27 (f := .glo "_law_do") rfl))
  obtain ⟨fd__law_right, F__law_right⟩ := c.def_ 28 (d := d__law_right) rfl
  have D__law_right : Dn K mg "_law_right" S__law_right := dn_of F__law_right (He.glo_ok X G (c.fact 28 (f := .glo "_law_right") rfl))
  obtain ⟨fd, F⟩ := c.def_ 29 (d := d_law) rfl
  have e := hfa.symm.trans (He.glo_ok X G (c.fact 29 (f := .glo "law") rfl))
  cases e
  have b := FunD.bindsA (ps := ["script"]) F fun _ _ _ _ _ _ us hl => match us, hl with | [_], _ => rfl
  obtain ⟨fd_Breaks___init__, F_Breaks___init__⟩ := c.def_ 30 (d := d_Breaks___init__) rfl
  have M_Breaks___init__ : DnM K (He.ma K (He.ga K "Breaks") "__init__") "__init__" "Breaks.__init__" S_BrInit := ⟨_, F_Breaks___init__⟩
  obtain ⟨fd_Laid___init__, F_Laid___init__⟩ := c.def_ 31 (d := d_Laid___init__) rfl
  have M_Laid___init__ : DnM K (He.ma K (He.ga K "Laid") "__init__") "__init__" "Laid.__init__" S_LInit := ⟨_, F_Laid___init__⟩
  obtain ⟨fd_Laid___len__, F_Laid___len__⟩ := c.def_ 32 (d := d_Laid___len__) rfl
  have M_Laid___len__ : DnM K (He.ma K (He.ga K "Laid") "__len__") "__len__" "Laid.__len__" S_LLen := ⟨_, F_Laid___len__⟩
  obtain ⟨fd_Laid___eq__, F_Laid___eq__⟩ := c.def_ 33 (d := d_Laid___eq__) rfl
  have M_Laid___eq__ : DnM K (He.ma K (He.ga K "Laid") "__eq__") "__eq__" "Laid.__eq__" S_LEq := ⟨_, F_Laid___eq__⟩
  obtain ⟨fd_Laid_tail, F_Laid_tail⟩ := c.def_ 34 (d := d_Laid_tail) rfl
  have M_Laid_tail : DnM K (He.ma K (He.ga K "Laid") "tail") "tail" "Laid.tail" S_LTail := ⟨_, F_Laid_tail⟩
  obtain ⟨fd_Laid_lay, F_Laid_lay⟩ := c.def_ 35 (d := d_Laid_lay) rfl
  have M_Laid_lay : DnM K (He.ma K (He.ga K "Laid") "lay") "lay" "Laid.lay" S_LLay := ⟨_, F_Laid_lay⟩
  obtain ⟨fd_Laid_take, F_Laid_take⟩ := c.def_ 36 (d := d_Laid_take) rfl
  have M_Laid_take : DnM K (He.ma K (He.ga K "Laid") "take") "take" "Laid.take" S_LTake := ⟨_, F_Laid_take⟩
  obtain ⟨fd_Laid_row, F_Laid_row⟩ := c.def_ 37 (d := d_Laid_row) rfl
  have M_Laid_row : DnM K (He.ma K (He.ga K "Laid") "row") "row" "Laid.row" S_LRow := ⟨_, F_Laid_row⟩
  obtain ⟨fd_Laid_marked, F_Laid_marked⟩ := c.def_ 38 (d := d_Laid_marked) rfl
  have M_Laid_marked : DnM K (He.ma K (He.ga K "Laid") "marked") "marked" "Laid.marked" S_LMarked := ⟨_, F_Laid_marked⟩
  obtain ⟨fd_Laid_goes_on, F_Laid_goes_on⟩ := c.def_ 39 (d := d_Laid_goes_on) rfl
  have M_Laid_goes_on : DnM K (He.ma K (He.ga K "Laid") "goes_on") "goes_on" "Laid.goes_on" S_LGoes := ⟨_, F_Laid_goes_on⟩
  obtain ⟨fd_Laid_can_be_laid, F_Laid_can_be_laid⟩ := c.def_ 40 (d := d_Laid_can_be_laid) rfl
  have M_Laid_can_be_laid : DnM K (He.ma K (He.ga K "Laid") "can_be_laid") "can_be_laid" "Laid.can_be_laid" S_LCan := ⟨_, F_Laid_can_be_laid⟩
  have bf : Bf mg := ⟨He.free_ok X G (c.fact 41 (f := .free "len") rfl), He.free_ok X G (c.fact 42 (f := .free "sum") rfl), He.free_ok X G (c.fact 43 (f := .free "max") rfl), He.free_ok X G (c.fact 44 (f := .free "min") rfl), He.free_ok X G (c.fact 45 (f := .free "range") rfl), He.free_ok X G (c.fact 46 (f := .free "zip") rfl), He.free_ok X G (c.fact 47 (f := .free "all") rfl), He.free_ok X G (c.fact 48 (f := .free "isinstance") rfl), He.free_ok X G (c.fact 49 (f := .free "tuple") rfl), He.free_ok X G (c.fact 50 (f := .free "list") rfl), He.free_ok X G (c.fact 51 (f := .free "int") rfl), He.free_ok X G (c.fact 52 (f := .free "bool") rfl), He.free_ok X G (c.fact 53 (f := .free "str") rfl), He.free_ok X G (c.fact 54 (f := .free "sorted") rfl), He.free_ok X G (c.fact 55 (f := .free "enumerate") rfl), He.free_ok X G (c.fact 56 (f := .free "dict") rfl)⟩
  have c_MOST_SPAN := He.int_ok X G (c.fact 58 (f := .int "MOST_SPAN" 8) rfl)
  have c_MOST_RULES := He.int_ok X G (c.fact 59 (f := .int "MOST_RULES" 5) rfl)
  have c_MOST_PLACES := He.int_ok X G (c.fact 60 (f := .int "MOST_PLACES" 120) rfl)
  have g_Laid := He.glo_ok X G (c.fact 30 (f := .glo "Laid") rfl)
  have mgc : ∀ x ∈ excNames, mg x = some (.ref (He.ga K x)) := by
    intro x hx
    unfold excNames at hx
    simp only [List.mem_cons, List.not_mem_nil, or_false] at hx
    rcases hx with rfl | rfl | rfl | rfl | rfl | rfl | rfl | rfl | rfl
    · exact He.glo_ok X G (c.fact 31 (f := .glo "NoRules") rfl)
    · exact He.glo_ok X G (c.fact 32 (f := .glo "NoRow") rfl)
    · exact He.glo_ok X G (c.fact 33 (f := .glo "NoTold") rfl)
    · exact He.glo_ok X G (c.fact 34 (f := .glo "NoPart") rfl)
    · exact He.glo_ok X G (c.fact 35 (f := .glo "NoNumber") rfl)
    · exact He.glo_ok X G (c.fact 36 (f := .glo "NoPlace") rfl)
    · exact He.glo_ok X G (c.fact 37 (f := .glo "Full") rfl)
    · exact He.glo_ok X G (c.fact 38 (f := .glo "NoneLeft") rfl)
    · exact He.glo_ok X G (c.fact 39 (f := .glo "Breaks") rfl)
  have EF : ExF K mg (He.ga K) := ⟨mgc, ex.kit, ex.kitV, ex.att, He.free_ok X G (c.fact 57 (f := .free "ValueError") rfl)⟩
  have EG : ExG K mg (He.ga K) := ⟨EF, ex.exB, ex.exS, He.glo_ok X G (c.fact 40 (f := .glo "SpanError") rfl), ex.xf, He.noat_ok (c.fact 65 (f := .noat "Breaks" "rule") rfl)⟩
  have LC : LaidC K (He.ga K "Laid") := ⟨He.cls_ok (c.fact 61 (f := .cls "Laid") rfl), He.noat_ok (c.fact 62 (f := .noat "Laid" "rules") rfl), He.noat_ok (c.fact 63 (f := .noat "Laid" "places") rfl)⟩
  obtain ⟨LI, LNe⟩ := laidB_ok g_Laid ex.laid
  obtain ⟨r1_NoPlace, r2_NoPlace, r3_NoPlace, r4_NoPlace⟩ := He.exc_ok (c.fact 76 (f := .exc "NoPlace") rfl)
  have R_NoPlace : ExcR K mg "NoPlace" (He.ga K "NoPlace") := ⟨r1_NoPlace, r2_NoPlace, r3_NoPlace, r4_NoPlace, He.glo_ok X G (c.fact 36 (f := .glo "NoPlace") rfl)⟩
  obtain ⟨r1_Full, r2_Full, r3_Full, r4_Full⟩ := He.exc_ok (c.fact 77 (f := .exc "Full") rfl)
  have R_Full : ExcR K mg "Full" (He.ga K "Full") := ⟨r1_Full, r2_Full, r3_Full, r4_Full, He.glo_ok X G (c.fact 37 (f := .glo "Full") rfl)⟩
  obtain ⟨r1_NoneLeft, r2_NoneLeft, r3_NoneLeft, r4_NoneLeft⟩ := He.exc_ok (c.fact 78 (f := .exc "NoneLeft") rfl)
  have R_NoneLeft : ExcR K mg "NoneLeft" (He.ga K "NoneLeft") := ⟨r1_NoneLeft, r2_NoneLeft, r3_NoneLeft, r4_NoneLeft, He.glo_ok X G (c.fact 38 (f := .glo "NoneLeft") rfl)⟩
  have me_len := He.meth_ok (c.fact 67 (f := .meth "Laid" "__len__") rfl)
  have me_eq := He.meth_ok (c.fact 68 (f := .meth "Laid" "__eq__") rfl)
  have me_tail := He.meth_ok (c.fact 69 (f := .meth "Laid" "tail") rfl)
  have me_lay := He.meth_ok (c.fact 70 (f := .meth "Laid" "lay") rfl)
  have me_take := He.meth_ok (c.fact 71 (f := .meth "Laid" "take") rfl)
  have me_row := He.meth_ok (c.fact 72 (f := .meth "Laid" "row") rfl)
  have me_marked := He.meth_ok (c.fact 73 (f := .meth "Laid" "marked") rfl)
  have me_goes_on := He.meth_ok (c.fact 74 (f := .meth "Laid" "goes_on") rfl)
  have me_can_be_laid := He.meth_ok (c.fact 75 (f := .meth "Laid" "can_be_laid") rfl)
  have mk_Laid := He.mkr_ok (c.fact 64 (f := .mkr "Laid") rfl)
  have mi := He.meth_ok (c.fact 66 (f := .meth "Breaks" "__init__") rfl)
  refine ⟨fd, fun s v => b s [v] rfl, fun base _ _ hT => ?_⟩
  have C_is_from := (ok_is_from D_is_from bf : Cl P w K mg base _ "is_from" _)
  have C_is_rule := (ok_is_rule D_is_rule bf c_MOST_SPAN C_is_from : Cl P w K mg base _ "is_rule" _)
  have C_are_rules := (ok_are_rules D_are_rules bf c_MOST_RULES C_is_rule : Cl P w K mg base _ "are_rules" _)
  have C_need_rules := (ok_need_rules D_need_rules C_are_rules : Cl P w K mg base _ "need_rules" _)
  have C_is_row := (ok_is_row D_is_row bf c_MOST_PLACES C_is_from : Cl P w K mg base _ "is_row" _)
  have C_widest := (ok_widest D_widest : Cl P w K mg base _ "widest" _)
  have C_broken_by := (ok_broken_by D_broken_by bf : Cl P w K mg base _ "broken_by" _)
  have C_next_tail := (ok_next_tail D_next_tail bf : Cl P w K mg base _ "next_tail" _)
  have C_tail_of := (ok_tail_of D_tail_of bf : Cl P w K mg base _ "tail_of" _)
  have C_keeping := (ok_keeping D_keeping bf C_broken_by C_widest : Cl P w K mg base _ "keeping" _)
  have C_need_begun := (ok_need_begun D_need_begun C_need_rules C_is_row C_keeping : Cl P w K mg base _ "need_begun" _)
  have C_ways_on := (ok_ways_on D_ways_on bf C_broken_by C_next_tail C_widest : Cl P w K mg base _ "ways_on" _)
  have C_ranks_from := (ok_ranks_from D_ranks_from bf C_ways_on : Cl P w K mg base _ "ranks_from" _)
  have C_most_on := (ok_most_on D_most_on C_widest C_tail_of C_ranks_from : Cl P w K mg base _ "most_on" _)
  have C_goes_on := (ok_goes_on D_goes_on C_need_begun C_most_on : Cl P w K mg base _ "goes_on" _)
  have C_law_deck := (ok_law_deck D__law_deck : Cl P w K mg base _ "_law_deck" _)
  have C_law_pick := (ok_law_pick D__law_pick : Cl P w K mg base _ "_law_pick" _)
  have C_law_one := (ok_law_one D__law_one bf C_law_pick : Cl P w K mg base _ "_law_one" _)
  have C_law_sort := (ok_law_sort D__law_sort bf : Cl P w K mg base _ "_law_sort" _)
  have C_law_same := (ok_law_same D__law_same bf C_law_sort 2 : Cl P w K mg base _ "_law_same" _)
  have C_law_rules := (ok_law_rules D__law_rules bf C_law_pick C_law_one : Cl P w K mg base _ "_law_rules" _)
  have C_law_fits := (ok_law_fits D__law_fits bf : Cl P w K mg base _ "_law_fits" _)
  have C_law_whole := (ok_law_whole D__law_whole bf : Cl P w K mg base _ "_law_whole" _)
  have C_law_due := (ok_law_due D__law_due bf C_law_whole C_law_fits : Cl P w K mg base _ "_law_due" _)
  have C_law_odd := (ok_law_odd D__law_odd C_law_one : Cl P w K mg base _ "_law_odd" _)
  have kin : ClX P w K mg base 1 "_law_kin" (spKin (He.ga K)) := ok_law_kin D__law_kin bf EF
  have TC : TryC P w K mg base (He.ga K) := ⟨D__law_try, EG, kin⟩
  have m_tail : ClM CX0 P w K mg base (He.ga K "Laid") 2 "tail" (spLTail (He.ga K "Laid")) := ⟨_, ok_LTail M_Laid_tail LC C_widest C_tail_of, me_tail⟩
  have BR : BreaksR P w K mg base (He.ga K "Breaks") := ⟨ex.oex, ⟨_, mi.at_, beq_iff_eq.mp mi.fn, ok_BrInit M_Breaks___init__ ex.oex (He.noat_ok (c.fact 65 (f := .noat "Breaks" "rule") rfl))⟩, mgc "Breaks" (by decide)⟩
  have m_lay : ClM (L2N.CX P w) P w K mg base (He.ga K "Laid") 3 "lay" (spLLay (He.ga K "Laid") (He.ga K)) := ⟨_, ok_LLay M_Laid_lay LC bf c_MOST_PLACES R_NoPlace R_Full BR C_is_from C_broken_by m_tail, me_lay⟩
  have m_take : ClM (L2N.CX P w) P w K mg base (He.ga K "Laid") 1 "take" (spLTake (He.ga K "Laid") (He.ga K)) := ⟨_, ok_LTake M_Laid_take LC R_NoneLeft, me_take⟩
  have LM : LaidM P w K mg base (He.ga K "Laid") := ⟨LC, LI, ⟨_, ok_LRow M_Laid_row LC, me_row⟩, ⟨_, ok_LMarked M_Laid_marked LC bf, me_marked⟩, ⟨_, ok_LLen M_Laid___len__ LC bf, me_len.at_, me_len.fn⟩, ⟨_, ok_LCan M_Laid_can_be_laid LC bf m_tail C_ways_on, me_can_be_laid⟩, ⟨_, ok_LGoes M_Laid_goes_on LC C_most_on, me_goes_on⟩, ⟨_, ok_LEq M_Laid___eq__ LC LI bf, me_eq.at_, me_eq.fn⟩, LNe, ⟨_, ok_LInit M_Laid___init__ LC C_need_rules, mk_Laid⟩⟩
  have C_law_right := (ok_law_right D__law_right bf LM C_law_same C_law_fits C_goes_on : Cl P w K mg base _ "_law_right" _)
  have mem1 : ((He.cT K ("_law_do", none)).2, qLam "_law_do") ∈ lawT K := List.mem_cons_self
  have mem2 : ((He.cT K ("law", none)).2, qLam "law") ∈ lawT K := List.mem_cons_of_mem _ List.mem_cons_self
  have only : ∀ p ∈ lawT K, p = ((He.cT K ("_law_do", none)).2, qLam "_law_do") ∨ p = ((He.cT K ("law", none)).2, qLam "law") := fun p hp => by
    have hp : p ∈ [((He.cT K ("_law_do", none)).2, qLam "_law_do"), ((He.cT K ("law", none)).2, qLam "law")] := hp
    simpa only [List.mem_cons, List.not_mem_nil, or_false] using hp
  have code_of : ∀ {x : Str} {st : Stmt} {fd0 : FuncData}, FunD K x x (defArgs st) (defBody st) (defScope st) [] [] (He.ga K x) fd0 → fd0.code = .ref (He.cT K (x, none)).1 := fun {x st fd0} F0 => by
    obtain ⟨oc, od, dV, kV, doc, pm, an, cdv, ct, osl, rfl, lk, hcd, _, _⟩ := F0.ex
    obtain ⟨c1, rfl⟩ := He.codeIn_ref hcd
    have e1 : He.codeOf K (x, none) = c1 := He.codeOf_eq (p := (x, none)) lk rfl
    show Value.ref c1 = Value.ref (He.codeOf K (x, none))
    rw [e1]
  have DT : DnT K mg "_law_do" S__law_do (He.cT K ("_law_do", none)).1 := ⟨_, _, F__law_do, He.glo_ok X G (c.fact 27 (f := .glo "_law_do") rfl), code_of (x := "_law_do") (st := S__law_do) F__law_do⟩
  have C_law_do := (ok_law_do DT LC TC (hT ("_law_do", none) List.mem_cons_self) mem1 (fun p hp e => by
    rcases only p hp with rfl | rfl
    · rfl
    · exact absurd e.symm ex.apart) m_take m_lay : Cl P w K mg base _ "_law_do" _)
  exact ok_law F (code_of (x := "law") (st := S_law) F) (hT ("law", none) (List.mem_cons_of_mem _ List.mem_cons_self)) mem2 (fun p hp e => by
    rcases only p hp with rfl | rfl
    · exact absurd e ex.apart
    · rfl) bf LM TC m_lay C_law_deck C_law_one C_law_rules C_law_odd C_law_due C_law_do C_law_right
end An
open PySem PySem.W PySem.Calls PyProof.Rows
set_option maxHeartbeats 0 in
theorem PySem.Challenge.cw_anyspan_k11_whole_laid_place_by_place_holds : PySem.Challenge.rw_anyspan_k11_whole_laid_place_by_place.Holds := by
  w_on; o_law
  refine HandSHeadRun.head_any (r := OpenLaw.row PySem.Challenge.rw_anyspan_k11_whole_laid_place_by_place) (q := view (OpenLaw.row PySem.Challenge.rw_anyspan_k11_whole_laid_place_by_place).prog [48]) (H := An.hk) (ob := An.ob) (M := 9000) (loose := An.loose) (d := HandSHeadRun.topDef (OpenLaw.row PySem.Challenge.rw_anyspan_k11_whole_laid_place_by_place).prog 48) (kwd := []) An.ob_eq
    (by kernel_rfl) (fun s => by kernel_rfl) An.run (by kernel_rfl) (by kernel_rfl) (by kernel_rfl) (by rfl) (by first | assumption | decide +kernel) (by decide +kernel) ⟨rfl, rfl, rfl, rfl, rfl, by decide +kernel⟩ ?hw ?hc
  case hw => w_witness2
  case hc =>
    refine LamX.walk_ofTsE (l := PySem.Challenge.rw_anyspan_k11_whole_laid_place_by_place) (n := 63) (k := 9) (x := "script") (CX := fun _ => L2.CX0) rfl (by decide) (by kernel_rfl) ⟨rfl, by decide, by decide⟩ ?F (fun _ _ _ _ _ z => z)
    intro w mg fa h Y G hmg0
    obtain ⟨K, KX, c⟩ := Y
    have hmg : mg ("law" : PySem.Str) = some (.ref fa) := by
      have e : (HandSHeadRun.topDef (OpenLaw.row PySem.Challenge.rw_anyspan_k11_whole_laid_place_by_place).prog 48).name = ("law" : PySem.Str) := by kernel_rfl
      rw [← e]
      exact hmg0
    obtain ⟨fd, hb, hF⟩ := An.facts (P := (PySem.Challenge.rw_anyspan_k11_whole_laid_place_by_place).prog) (w := w) KX G hmg c.t.d (An.exK_ok c.more)
    refine ⟨K, KX, fd, An.tf.map (He.cT K), An.spLaw K (An.lawT K), ?_, ?_, ?_, hb, ?_, ?_⟩
    · intro p hp
      obtain ⟨q, hq, rfl⟩ := List.mem_map.mp hp
      exact c.empty q hq
    · intro p hp
      obtain ⟨q, hq, rfl⟩ := List.mem_map.mp hp
      exact c.out q hq
    · intro p hp
      obtain ⟨q, hq, rfl⟩ := List.mem_map.mp hp
      exact PySem.W.codeHd_of_K KX (c.hd q hq)
    · intro H a ns hl _ hH hS
      refine ⟨a, ns, rfl, hS, hl, fun p hp => ?_, fun _ => rfl⟩
      have hp : p ∈ [((He.cT K ("_law_do", none)).2, An.qLam "_law_do"), ((He.cT K ("law", none)).2, An.qLam "law")] := hp
      simp only [List.mem_cons, List.not_mem_nil, or_false] at hp
      rcases hp with rfl | rfl
      · exact LamX.TabS.nil (hH (He.cT K ("_law_do", none)) (List.mem_map.mpr ⟨("_law_do", none), List.mem_cons_self, rfl⟩))
      · exact LamX.TabS.nil (hH (He.cT K ("law", none)) (List.mem_map.mpr ⟨("law", none), List.mem_cons_of_mem _ List.mem_cons_self, rfl⟩))
    · intro base hK hG hT
      exact hF base hK hG fun p hp => hT _ (List.mem_map.mpr ⟨p, hp, rfl⟩)
